import PyProof.Rows.All
import Wide.All
import OpenK.AllK
import Wide.FinOn
import HandS.Small
import HandS.Conv
import HandS.ForMost
import HandS.ForExc
import HandS.Flow
import HandS.Property
import HandS.SortInts
import HandS.TupMul
import HandS.MakeKw
import HandS.TupAny
import HandS.Wide
import HandS.SetFor
import HandS.Zip
import HandS.IsInst
import HandS.Style
import HandS.Deep
import HandS.More
import HandS.Strs
import HandS.TryOnly
import HandS.Text
import HandS.FStr
import HandS.TupLe
import HandS.Lambda
import HandS.Defaults
import HandS.ExcInit
import HandS.ExcField
import HandS.ExcIs
import KE.KTupSum
import KE.KSortTupAny
import KE.GoesMore
import KE.GoesEnum
import KE.KCallOwn
import HandS.DictComp
import PyProof.DictUpdate
import KE.KDictZip
import KE.KDictList
import HandS.TryMany
import HandS.ExcOwn
import OpenK.KMore
import KE.KNestM
import HandS.EndBits
import HandS.EndTab
import PyProof.StrLawsTight
import PyProof.Rows.StrItems
import PyProof.Rows.StrFirst2
import PyProof.ReprLen
import PySem.Challenge.RW_tellerhabits_k04_whole_sayings_of_cases
set_option Elab.async false
set_option compiler.extract_closed false
set_option linter.all false
set_option maxRecDepth 100000
namespace Th
open PySem PySem.Spec PyProof.Rows L2
/-- a value: tuples, lists that nobody changes and objects that nobody changes by content; a list that is changed by its place in the store -/
inductive D where
  | non | bl (b : Bool) | int (i : Int) | str (x : Str)
  | tup (xs : List D) | lst (xs : List D) | frz (xs : List D) | obj (c : Nat) (fs : List D) | loc (n : Nat) | dic (n : Nat)
  deriving Inhabited
inductive Ob where
  | lst (xs : List D) | dct (kvs : List (Int × D))
  deriving Inhabited
abbrev Store := List Ob
inductive Bop where | add | sub | mul | fdiv | mod | pow
  deriving DecidableEq
inductive Cop where | eq | ne | lt | le | gt | ge | isN | notN | in_ | notIn
  deriving DecidableEq
inductive Bi where | len | abs | sum | all | any | max | min | max2 | min2 | sorted | tuple | list | int | divmod | repr | str
  deriving DecidableEq
inductive Ty where | ty (n : String) | cls (c : Nat)
  deriving DecidableEq
mutual
inductive Ex where
  | non | bl (b : Bool) | int (i : Int) | str (x : Str)
  | v (i : Nat) | g (x : Nat)
  | bin (m : Bool) (o : Bop) (a b : Ex)
  | neg (a : Ex) | not (a : Ex) | and (es : List Ex) | or (es : List Ex)
  | cmp (o : Cop) (a b : Ex) | chain (o o' : Cop) (a b c : Ex)
  | ite (t : Te) (a b : Ex)
  | idx (a i : Ex) | slc (m : Bool) (a : Ex) (lo hi : List Ex)
  | tup (es : List Ex) | lst (m : Bool) (es : List Ex)
  | cB (m : Bool) (f : Bi) (es : List Ex)
  | trg1 (l m : Bool) (a : Ex) | trg2 (l m : Bool) (a b : Ex)
  | isi (ts : List Ty) (e : Ex)
  | cF (f : Nat) (es : List Ex)
  | cK (f : Nat) (ks : List Nat) (es : List Ex)
  | lam (g : Nat) (e : Ex)
  | mk (c : Nat) (es : List Ex)
  | mth (m : Nat) (o : Ex) (es : List Ex)
  | app (o e : Ex) | popA (o i : Ex) | idxA (o x : Ex) | cntA (o x : Ex)
  | dnew | dget (o k : Ex) | dupd (o a : Ex) | dcom (kx vx : Ex) (tg : Tg) (it : It) (own : List Nat)
  | stp (m : Bool) (a : Ex) (lo : List Ex) (st : Ex)
  | srS (m : Bool) (a : Ex) | spl (l m : Bool) (fl : List Bool) (es : List Ex)
  | atr (f : Nat) (o : Ex) | sX (m : Nat) (a : Ex) | join (a b : Ex) | spt (m : Bool) (a b : Ex) | fst (a : Ex) (x : Str) (b : Ex)
  | fld (f : Nat)
  | fmI (x : Str) (a : Ex) (y : Str) | dlit (k v : Int) | lnO (w m : Nat) (a : Ex) | oeqV (ng : Bool) (m : Nat) (a b : Ex) | mthK (m g : Nat) (p0 : Str) (o : Ex) (perm : List Nat) (es : List Ex)
  | cS (c m g : Nat) (es : List Ex) | kget (x : Nat) (tb : List (Str × Int)) (k d : Ex) | dzip (a b : Ex) | dgd (o k d : Ex) | dval (m : Bool) (o : Ex)
  | comp (m : Bool) (elt : Ex) (tg : Tg) (it : It) (ifs : List Te) (own : List Nat)
inductive Te where
  | of (e : Ex) | cmp (o : Cop) (a b : Ex) | chain (o o' : Cop) (a b c : Ex) | not (t : Te) | and (ts : List Te) | or (ts : List Te)
  | dinT (neg : Bool) (k o : Ex) | oeq (ng : Bool) (m : Nat) (a b : Ex)
inductive It where
  | of (e : Ex) | rng1 (a : Ex) | rng2 (a b : Ex) | enm (e : Ex) | zip (a b : Ex) | sgn (e : Ex)
inductive Tg where
  | nm (i : Nat) | tup (ts : List Tg) | sub (o i : Ex)
end
inductive Sm where
  | asg (t : Tg) (e : Ex) | par (is : List Nat) (es : List Ex) | aug (i : Nat) (o : Bop) (e : Ex)
  | augX (o i : Ex) (b : Bop) (e : Ex)
  | fset (f : Nat) (e : Ex) | expr (e : Ex) | ret (e : Ex) | retN
  | ifs (c : Te) (a b : List Sm) | fors (t : Tg) (it : It) (body : List Sm) | whiles (c : Te) (body : List Sm)
  | brk | cont | pass | dead | raise (c : Nat) | raiseV (c : Nat) (e : Ex) | tryD (body : List Sm)
/-- what an except clause answers -/
inductive HxP where
  | str (x : Str) | rep (f : Nat) | isA (c h : Nat)
/-- .. with the error in a slot: a row of such parts -/
inductive Hx where
  | bl (b : Bool) | str (x : Str) | row (i : Nat) (ps : List HxP)
/-- a def that is handed a lambda: kind 0: it is called; 1: what it answers is returned; 2: .. is kept in a slot. Clauses; what is returned at last -/
structure Tk where
  ns : Nat
  kind : Nat
  slot : Nat
  hs : List (Nat × Hx)
  fin : List Ex
structure Fn where
  np : Nat
  ns : Nat
  body : List Sm
structure Cl where
  init : Nat
  flds : List Nat
  meths : List (Nat × Nat)
  props : List (Nat × Nat)
/-- a program: its functions, classes, constants, names by number -/
structure Pr where
  fn : Nat → Option Fn
  cl : Nat → Option Cl
  con : Nat → Option D
  nm : Nat → Str
  tk : Nat → Option Tk
  sub : Nat → Nat → Option Bool
  xf : Nat → Option Nat
structure Exn where
  c : Nat
  fs : List D
inductive Out (α : Type) where
  | ok (a : α) (S : Store) | exc (x : Exn) (S : Store) | bad
structure Fr where
  ρ : List (Option D)
  φ : List (Nat × D)
inductive SO where
  | nx (f : Fr) (S : Store) | rt (d : D) (S : Store) | bk (f : Fr) (S : Store) | ct (f : Fr) (S : Store) | ex (x : Exn) (f : Fr) (S : Store) | bad
def Out.bind {α β : Type} (o : Out α) (k : α → Store → Out β) : Out β := match o with
  | .ok a S => k a S
  | .exc x S => .exc x S
  | .bad => .bad
def Out.of {α : Type} (o : Option α) (S : Store) : Out α := match o with
  | some a => .ok a S
  | none => .bad
/-- no exception is let -/
def Out.calm {α : Type} : Out α → Out α
  | .ok a S => .ok a S
  | _ => .bad
structure Orc where
  fn : Nat → List D → Store → Out D
  make : Nat → List D → Store → Out D
  prop : Nat → List D → Store → Out D
  str : Nat → List D → Store → Out D
  take : Nat → Ex → Fr → Store → Out D
def lstAt (S : Store) : D → Option (List D)
  | .lst xs => some xs
  | .loc n => match S[n]? with
    | some (.lst xs) => some xs
    | _ => none
  | _ => none
def seqAt (S : Store) : D → Option (List D)
  | .lst xs => some xs
  | .frz xs => some xs
  | .loc n => match S[n]? with
    | some (.lst xs) => some xs
    | _ => none
  | _ => none
def seqOf (S : Store) : D → Option (List D)
  | .tup xs => some xs
  | d => seqAt S d
def intOf : D → Option Int
  | .int i => some i
  | _ => none
def blOf : D → Option Bool
  | .bl b => some b
  | _ => none
def intsOf (xs : List D) : Option (List Int) := xs.mapM intOf
def blsOf (xs : List D) : Option (List Bool) := xs.mapM blOf
def fresh (m : Bool) (d : D) (S : Store) : Out D := match m, d with
  | true, .lst xs => .ok (.loc S.length) (S ++ [.lst xs])
  | true, _ => .bad
  | false, d => .ok d S
def truth (S : Store) : D → Option Bool
  | .non => some false
  | .bl b => some b
  | .int i => some (i != 0)
  | .str x => if Str.length x ≤ sizeLine then some ((Str.length x : Int) != 0) else none
  | d => (seqOf S d).map fun xs => !xs.isEmpty
mutual
def toP (h : Nat → Option PyData) : D → Option PyData
  | .non => some .none
  | .bl b => some (.bool b)
  | .int i => some (.int i)
  | .str x => some (.str x)
  | .tup xs => (toPs h xs).map .tuple
  | .lst xs => (toPs h xs).map .list
  | .frz xs => (toPs h xs).map .list
  | .obj _ _ => none
  | .loc n => h n
  | .dic _ => none
def toPs (h : Nat → Option PyData) : List D → Option (List PyData)
  | [] => some []
  | d :: ds => match toP h d, toPs h ds with
    | some p, some ps => some (p :: ps)
    | _, _ => none
end
def locP (S : Store) : Nat → Nat → Option PyData
  | 0, _ => none
  | k + 1, n => match S[n]? with
    | some (.lst xs) => (toPs (locP S k) xs).map .list
    | _ => none
/-- as plain data, lists of the store three deep -/
def pd (S : Store) (d : D) : Option PyData := match toP (locP S 3) d with
  | some p => if SeqAt.shaped p = true then some p else none
  | none => none
/-- what repr tells -/
def shownD (S : Store) : D → Option Str
  | .dic n => match S[n]? with
    | some (.dct []) => some "{}"
    | _ => none
  | d => match pd S d with
    | some p => if p.showable = true ∧ p.shown.length ≤ sizeLine then some p.shown else none
    | none => none
/-- is a text of one sign in a text -/
def signIn (c z : Str) : Option Bool := match c.cps.toList with
  | [k] => some (decide (k ∈ z.cps.toList))
  | _ => none
def cop (S : Store) (o : Cop) (x y : D) : Option Bool := match o, x, y with
  | .lt, .int i, .int j => some (decide (i < j))
  | .le, .int i, .int j => some (decide (i ≤ j))
  | .gt, .int i, .int j => some (decide (j < i))
  | .ge, .int i, .int j => some (decide (j ≤ i))
  | .isN, .non, .non => some true
  | .isN, _, .non => some false
  | .notN, .non, .non => some false
  | .notN, _, .non => some true
  | .isN, .bl a, .bl b => some (decide (a = b))
  | .notN, .bl a, .bl b => some (!decide (a = b))
  | .eq, x, y => match pd S x, pd S y with
    | some p, some q => some (p.eqv q)
    | _, _ => none
  | .ne, x, y => match pd S x, pd S y with
    | some p, some q => some (!p.eqv q)
    | _, _ => none
  | .in_, .str c, .str z => signIn c z
  | .notIn, .str c, .str z => (signIn c z).map fun b => !b
  | .in_, x, y => match pd S x, pd S y with
    | some p, some (.list q) => some (q.any fun z => z.eqv p)
    | some p, some (.tuple q) => some (q.any fun z => z.eqv p)
    | _, _ => none
  | .notIn, x, y => match pd S x, pd S y with
    | some p, some (.list q) => some (!q.any fun z => z.eqv p)
    | some p, some (.tuple q) => some (!q.any fun z => z.eqv p)
    | _, _ => none
  | _, _, _ => none
def bop (S : Store) (o : Bop) (x y : D) : Option D := match o, x, y with
  | .add, .int i, .int j => some (.int (i + j))
  | .sub, .int i, .int j => some (.int (i - j))
  | .mul, .int i, .int j => if i.natAbs.log2 + j.natAbs.log2 < 100000000 then some (.int (i * j)) else none
  | .fdiv, .int i, .int j => if 0 < j ∧ j.natAbs.log2 < 9000 then some (.int (i / j)) else none
  | .mod, .int i, .int j => if 0 < j then some (.int (i % j)) else none
  | .pow, .int i, .int j => if 0 ≤ j ∧ j ≤ 1000000 ∧ i.natAbs < 2 ^ 64 then some (.int (i ^ j.toNat)) else none
  | .add, .tup xs, .tup ys => if xs.length + ys.length ≤ sizeLine then some (.tup (xs ++ ys)) else none
  | .add, .str a, .str b => if a.length + b.length ≤ sizeLine then some (.str (a ++ b)) else none
  | .add, x, y => match lstAt S x, lstAt S y with
    | some xs, some ys => if xs.length + ys.length ≤ sizeLine then some (.lst (xs ++ ys)) else none
    | _, _ => none
  | .mul, .tup xs, .int k => if k = 1 then some (.tup xs) else if xs.length ≠ 0 ∧ (2 ≤ k ∨ k = 0) ∧ k ≤ 1000 ∧ xs.length ≤ 1000 then some (.tup (List.replicate k.toNat xs).flatten) else none
  | .mul, x, .int k => match lstAt S x with
    | some xs => if -(2 ^ 63) ≤ k ∧ k < 2 ^ 63 ∧ xs.length * k.toNat ≤ sizeLine then some (.lst (List.replicate k.toNat xs).flatten) else none
    | none => none
  | _, _, _ => none
def tyN (S : Store) : D → Option Ty
  | .non => some (.ty "NoneType")
  | .bl _ => some (.ty "bool")
  | .int _ => some (.ty "int")
  | .str _ => some (.ty "str")
  | .tup _ => some (.ty "tuple")
  | .lst _ => some (.ty "list")
  | .frz _ => some (.ty "list")
  | .obj c _ => some (.cls c)
  | .loc n => match S[n]? with
    | some (.lst _) => some (.ty "list")
    | _ => none
  | .dic n => match S[n]? with
    | some (.dct _) => some (.ty "dict")
    | _ => none
/-- isinstance by types: the built-in ones that are asked for, own classes by name -/
def isTy : Ty → Ty → Option Bool
  | .ty a, .ty b => if b ∈ ["int", "bool", "str", "tuple", "list", "dict"] then some (a == b || (a == "bool" && b == "int")) else none
  | .ty _, .cls _ => some false
  | .cls _, .ty b => if b ∈ ["int", "bool", "str", "tuple", "list", "dict"] then some false else none
  | .cls a, .cls b => some (a == b)
def isTys (t : Ty) : List Ty → Option Bool
  | [] => some false
  | c :: cs => match isTy t c, isTys t cs with
    | some a, some b => some (a || b)
    | _, _ => none
def maxI : List Int → Int
  | [] => 0
  | x :: xs => xs.foldl (fun m y => if y > m then y else m) x
def minI : List Int → Int
  | [] => 0
  | x :: xs => xs.foldl (fun m y => if y < m then y else m) x
def insI (x : Int) : List Int → List Int
  | [] => [x]
  | y :: ys => if x ≤ y then x :: y :: ys else y :: insI x ys
def sortI : List Int → List Int
  | [] => []
  | x :: xs => insI x (sortI xs)
/-- a row of numbers that is not empty -/
def rowOf : D → Option (List Int)
  | .tup xs => match intsOf xs with
    | some (n :: ns) => some (n :: ns)
    | _ => none
  | _ => none
/-- rows of numbers in their order -/
def ltL : List Int → List Int → Bool
  | [], [] => false
  | [], _ :: _ => true
  | _ :: _, [] => false
  | x :: xs, y :: ys => decide (x < y) || (!decide (y < x) && ltL xs ys)
def insL (x : List Int) : List (List Int) → List (List Int)
  | [] => [x]
  | y :: ys => if ltL y x = true then y :: insL x ys else x :: y :: ys
def sortL : List (List Int) → List (List Int)
  | [] => []
  | x :: xs => insL x (sortL xs)
def bi (S : Store) : Bi → List D → Option D
  | .len, [.str x] => if Str.length x ≤ sizeLine then some (.int (Str.length x)) else none
  | .len, [d] => (seqOf S d).map fun xs => .int xs.length
  | .abs, [.int i] => some (.int (if i < 0 then -i else i))
  | .sum, [d] => match seqOf S d with
    | some xs => (intsOf xs).map fun ns => .int ns.sum
    | none => none
  | .all, [d] => match seqAt S d with
    | some xs => (blsOf xs).map fun bs => .bl (bs.all id)
    | none => none
  | .any, [d] => match seqAt S d with
    | some xs => (blsOf xs).map fun bs => .bl (bs.any id)
    | none => none
  | .max, [d] => match seqAt S d with
    | some xs => match intsOf xs with
      | some (n :: ns) => some (.int (maxI (n :: ns)))
      | _ => none
    | none => none
  | .min, [d] => match seqAt S d with
    | some xs => match intsOf xs with
      | some (n :: ns) => some (.int (minI (n :: ns)))
      | _ => none
    | none => none
  | .max2, [.int i, .int j] => some (.int (if j > i then j else i))
  | .min2, [.int i, .int j] => some (.int (if j < i then j else i))
  | .sorted, [d] => match seqOf S d with
    | some xs => match intsOf xs with
      | some ns => some (.lst ((sortI ns).map .int))
      | none => (xs.mapM rowOf).map fun ts => .lst ((sortL ts).map fun t => .tup (t.map .int))
    | none => none
  | .tuple, [d] => (seqOf S d).map .tup
  | .list, [d] => (seqOf S d).map .lst
  | .int, [.int i] => some (.int i)
  | .int, [.bl b] => some (.int (if b then 1 else 0))
  | .int, [.str s] => if s.length ≤ 640 then (PySem.intText? s).map .int else none
  | .repr, [d] => (shownD S d).map .str
  | .divmod, [.int i, .int j] => if 0 < j ∧ j < 1073741824 then some (.tup [.int (i / j), .int (i % j)]) else none
  | _, _ => none
def strOf : D → Option Str
  | .str x => some x
  | _ => none
def joinO (S : Store) (a : Str) (y : D) : Option D := match seqOf S y with
  | some xs => match xs.mapM strOf with
    | some ys => if (ys.map (·.length)).sum + ys.length * a.length ≤ 16777216 then some (.str (Txt.join a ys)) else none
    | none => none
  | none => none
def splO (s : Str) (y : D) : Option D := match y with
  | .str t => if (t.length == 0) = false ∧ s.length + 2 ≤ sizeLine then some (.lst ((Txt.split s t).map .str)) else none
  | _ => none
def fstO (a t : Str) (y : D) : Option D := match y with
  | .str b => if b.length ≤ sizeLine ∧ (Str.empty ++ a ++ t ++ b).length ≤ sizeLine then some (.str (Str.empty ++ a ++ t ++ b)) else none
  | _ => none
def fmO (x y : Str) (d : D) : Option D := match d with
  | .int i => if i.natAbs.log2 < 1920 ∧ (Str.empty ++ x).length ≤ sizeLine ∧ (Str.empty ++ x ++ ((toString i : String) : Str)).length ≤ sizeLine ∧ (Str.empty ++ x ++ ((toString i : String) : Str) ++ y).length ≤ sizeLine then some (.str (Str.empty ++ x ++ ((toString i : String) : Str) ++ y)) else none
  | _ => none
/-- the numbers a .. b - 1; a new list or tuple of values -/
def rgI (a b : Int) : Option (List D) := if -(2 ^ 62) ≤ a ∧ a < 2 ^ 62 ∧ -(2 ^ 62) ≤ b ∧ b < 2 ^ 62 ∧ (b - a).toNat ≤ 2 ^ 24 then some (((List.range (b - a).toNat).map fun (i : Nat) => a + (i : Int)).map D.int) else none
def rgO (l m : Bool) (xs : List D) (S : Store) : Out D := if l = true then fresh m (.lst xs) S else fresh false (.tup xs) S
def itemAt (S : Store) (x i : D) : Option D := match i with
  | .int k => match seqOf S x with
    | some xs => atI xs k
    | none => match x with
      | .str s => if s.length ≤ sizeLine then (atI s.cps.toList k).map fun c => .str ⟨#[c]⟩ else none
      | _ => none
  | _ => none
def cutD (xs : List D) (lo hi : Option Int) : List D := (xs.drop (HT.sIx xs.length 0 lo)).take (HT.sIx xs.length xs.length hi - HT.sIx xs.length 0 lo)
def sliceOf (S : Store) (x : D) (lo hi : Option Int) : Option D := match x with
  | .tup xs => some (.tup (cutD xs lo hi))
  | d => (seqAt S d).map fun xs => .lst (cutD xs lo hi)
/-- xs.append(y) -/
def push (S : Store) (n : Nat) (y : D) : Option Store := match S[n]? with
  | some (.lst xs) => if xs.length < sizeLine then some (S.set n (.lst (xs ++ [y]))) else none
  | _ => none
/-- xs.pop(i) -/
def popO (S : Store) (n : Nat) (i : D) : Out D := match i with
  | .int k => match S[n]? with
    | some (.lst xs) => match ixN xs.length k with
      | some j => match xs[j]? with
        | some y => if -(2 ^ 63) ≤ k ∧ k < 2 ^ 63 then .ok y (S.set n (.lst (xs.eraseIdx j))) else .bad
        | none => .bad
      | none => .bad
    | _ => .bad
  | _ => .bad
/-- xs.index(i), of numbers, one of them -/
def posI (k : Int) : List Int → Option Nat
  | [] => none
  | x :: xs => if x = k then some 0 else (posI k xs).map (· + 1)
def idxO (S : Store) (x y : D) : Option D := match seqAt S x, y with
  | some xs, .int k => match intsOf xs with
    | some ns => (posI k ns).map fun (j : Nat) => D.int j
    | none => none
  | _, _ => none
/-- xs.count(i), of numbers -/
def cntO (S : Store) (x y : D) : Option D := match seqAt S x, y with
  | some xs, .int k => match intsOf xs with
    | some ns => some (.int (ns.count k : Nat))
    | none => none
  | _, _ => none
/-- each once -/
def dedI : List Int → List Int
  | [] => []
  | x :: xs => if x ∈ dedI xs then dedI xs else x :: dedI xs
/-- sorted(set(x)), of a tuple of numbers -/
def srSO (x : D) : Option D := match x with
  | .tup xs => match intsOf xs with
    | some ns => if ns.length < 60 then some (.lst ((sortI (dedI ns)).map .int)) else none
    | none => none
  | _ => none
/-- what an element of a display gives: itself, or the items of a tuple or a list -/
def splI (S : Store) (b : Bool) (x : D) : Option (List D) := match b with
  | true => seqOf S x
  | false => some [x]
/-- xs[lo::st] -/
def pickL {α : Type} (xs : List α) (lo : Option Int) (st : Int) : List α := (sliceRange (sliceBounds lo none (some st) xs.length).1 (sliceBounds lo none (some st) xs.length).2.1 (sliceBounds lo none (some st) xs.length).2.2).filterMap (xs[·]?)
def stepOf (S : Store) (x : D) (lo : Option Int) (st : Int) : Option D := match x with
  | .tup xs => if lo = none ∧ st = -1 then some (.tup xs.reverse) else none
  | x => if st = 0 then none else (seqAt S x).map fun xs => .lst (pickL xs lo st)
/-- xs[i] = y -/
def getI (kvs : List (Int × D)) (k : Int) : Option D := match kvs with
  | [] => none
  | p :: r => if p.1 = k then some p.2 else getI r k
def putI (kvs : List (Int × D)) (k : Int) (d : D) : List (Int × D) := if (getI kvs k).isSome = true then kvs.map (fun p => if p.1 = k then (p.1, d) else p) else kvs ++ [(k, d)]
def dctAt (S : Store) : D → Option (List (Int × D))
  | .dic n => match S[n]? with
    | some (.dct kvs) => some kvs
    | _ => none
  | _ => none
/-- pairs of a comprehension, put in one by one -/
def kvStep (kvs : List (Int × D)) (d : D) : List (Int × D) := match d with
  | .tup [.int k, v] => putI kvs k v
  | _ => kvs
def kvsOf (ds : List D) : List (Int × D) := ds.foldl kvStep []
def pairO (k v : D) (S : Store) : Out (Option D) := match k with
  | .int i => .ok (some (.tup [.int i, v])) S
  | _ => .bad
def updI (a b : List (Int × D)) : List (Int × D) := b.foldl (fun acc p => putI acc p.1 p.2) a
def updO (S : Store) (x y : D) : Option Store := match x, y with
  | .dic n, .dic m => if n = m then none else match S[n]?, S[m]? with
    | some (.dct a), some (.dct b) => if a.length + b.length ≤ 100000 then some (S.set n (.dct (updI a b))) else none
    | _, _ => none
  | _, _ => none
/-- what a written table holds at a text, else z -/
def kgetD (tb : List (Str × Int)) (s : Str) (z : D) : D := match tb with
  | [] => z
  | p :: r => if p.1 = s then .int p.2 else kgetD r s z
/-- two rows of equal places as a dict -/
def zipO (S : Store) (x y : D) : Option (List (Int × D)) := match seqAt S x, seqAt S y with
  | some xs, some ys => match intsOf xs with
    | some ns => if ns.length ≤ 100000 then some (updI [] (ns.zip ys)) else none
    | none => none
  | _, _ => none
def store (S : Store) (x i y : D) : Option Store := match x, i with
  | .dic n, .int k => match S[n]? with
    | some (.dct kvs) => if kvs.length < 100000 then some (S.set n (.dct (putI kvs k y))) else none
    | _ => none
  | .loc n, .int k => match S[n]? with
    | some (.lst xs) => match ixN xs.length k with
      | some j => some (S.set n (.lst (xs.set j y)))
      | none => none
    | _ => none
  | _, _ => none
/-- the number at a list's place -/
def numAt (S : Store) (x i : D) : Option Int := match x, i with
  | .loc n, .int k => match S[n]? with
    | some (.lst xs) => if 0 ≤ k ∧ k < 1000000 then match xs[k.toNat]? with
      | some (.int a) => some a
      | _ => none
      else none
    | _ => none
  | _, _ => none
def augI (b : Bop) (a : Int) (y : D) : Option D := match b, y with
  | .add, .int c => some (.int (a + c))
  | .sub, .int c => some (.int (a - c))
  | _, _ => none
def getV (f : Fr) (i : Nat) : Option D := match f.ρ[i]? with
  | some o => o
  | none => none
def setV (f : Fr) (i : Nat) (d : D) : Fr := ⟨f.ρ.set i (some d), f.φ⟩
def wipeV (f : Fr) : List Nat → Fr
  | [] => f
  | i :: is => ⟨(wipeV f is).ρ.set i none, f.φ⟩
def fldOf (P : Pr) (f : Nat) : D → Option D
  | .obj c ds => match P.cl c with
    | some k => (k.flds.zip ds).lookup f
    | none => none
  | _ => none
/-- a source that is walked stays as it is -/
structure Src where
  items : List D
  held : List (Nat × List D)
  seq : Bool
def Src.still (s : List (Nat × List D)) (S : Store) : Prop := ∀ p ∈ s, S[p.1]? = some (.lst p.2)
def srcOf (S : Store) : D → Option Src
  | .tup xs => some ⟨xs, [], true⟩
  | .lst xs => some ⟨xs, [], false⟩
  | .frz xs => some ⟨xs, [], false⟩
  | .loc n => match S[n]? with
    | some (.lst xs) => some ⟨xs, [(n, xs)], false⟩
    | _ => none
  | _ => none
def signsO (y : D) : Option Src := match y with
  | .str s => some ⟨s.cps.toList.map fun c => .str ⟨#[c]⟩, [], true⟩
  | _ => none
def rngD (lo hi : Int) : Option Src := if -(2 ^ 62) ≤ lo ∧ lo < 2 ^ 62 ∧ -(2 ^ 62) ≤ hi ∧ hi < 2 ^ 62 then some ⟨(List.range (hi - lo).toNat).map fun (i : Nat) => D.int (lo + (i : Int)), [], true⟩ else none
section
variable (P : Pr) (C : Orc)
open Classical in
/-- a comprehension's turns -/
noncomputable def compL (held : List (Nat × List D)) (turn : D → Store → Out (Option D)) : List D → List D → Store → Out (List D)
  | [], acc, S => if Src.still held S then .ok acc S else .bad
  | x :: xs, acc, S => if Src.still held S then
      match turn x S with
      | .ok (some y) S1 => if acc.length < sizeLine then compL held turn xs (acc ++ [y]) S1 else .bad
      | .ok none S1 => compL held turn xs acc S1
      | _ => .bad
    else .bad
/-- what an own == may be handed: an object of the class, or a value of a built-in type -/
def eqArg (S : Store) (c : Nat) (y : D) : Bool := match tyN S y with
  | some (.cls c') => decide (c' = c)
  | some (.ty n) => decide (n ∈ ["NoneType", "bool", "int", "str", "tuple", "list", "dict"])
  | none => false
/-- == and != by an own __eq__ -/
noncomputable def oeqO (ng : Bool) (m : Nat) (x y : D) (S : Store) : Out Bool := match x with
  | .obj c ds => match P.cl c with
    | some k => match k.meths.lookup m with
      | some g => if eqArg S c y = true then (C.str g [.obj c ds, y] S).calm.bind fun z S2 => match z with
          | .bl r => .ok (if ng = true then !r else r) S2
          | _ => .bad
        else .bad
      | none => .bad
    | none => .bad
  | _ => .bad
/-- len, repr, bool by an own def -/
def dunO (w : Nat) (y : D) (S : Store) : Out D := match w, y with
  | 0, .int n => if 0 ≤ n ∧ n < 2 ^ 62 then .ok (.int n) S else .bad
  | 1, .str t => .ok (.str t) S
  | 2, .int n => if 0 ≤ n ∧ n < 2 ^ 62 then .ok (.bl (n != 0)) S else .bad
  | _, _ => .bad
mutual
noncomputable def ev : Ex → Fr → Store → Out D
  | .non, _, S => .ok .non S
  | .bl b, _, S => .ok (.bl b) S
  | .int i, _, S => .ok (.int i) S
  | .str x, _, S => .ok (.str x) S
  | .v i, f, S => Out.of (getV f i) S
  | .g x, _, S => Out.of (P.con x) S
  | .bin m o a b, f, S => (ev a f S).bind fun x S1 => (ev b f S1).bind fun y S2 => (Out.of (bop S2 o x y) S2).bind fun z S3 => fresh m z S3
  | .neg a, f, S => (ev a f S).bind fun x S1 => match x with
    | .int i => .ok (.int (-i)) S1
    | _ => .bad
  | .not a, f, S => (ev a f S).bind fun x S1 => (Out.of (truth S1 x) S1).bind fun b S2 => .ok (.bl (!b)) S2
  | .and es, f, S => evAnd es f S
  | .or es, f, S => evOr es f S
  | .cmp o a b, f, S => (ev a f S).bind fun x S1 => (ev b f S1).bind fun y S2 => (Out.of (cop S2 o x y) S2).bind fun z S3 => .ok (.bl z) S3
  | .chain o o' a b c, f, S => (ev a f S).bind fun x S1 => (ev b f S1).bind fun y S2 => (Out.of (cop S2 o x y) S2).bind fun z S3 =>
      match z with
      | true => (ev c f S3).bind fun w S4 => (Out.of (cop S4 o' y w) S4).bind fun z' S5 => .ok (.bl z') S5
      | false => .ok (.bl false) S3
  | .ite t a b, f, S => (evT t f S).bind fun c S1 => match c with
    | true => ev a f S1
    | false => ev b f S1
  | .idx a i, f, S => (ev a f S).bind fun x S1 => (ev i f S1).bind fun k S2 => Out.of (itemAt S2 x k) S2
  | .slc m a lo hi, f, S => (ev a f S).bind fun x S1 => (evPart lo f S1).bind fun l S2 => (evPart hi f S2).bind fun h S3 => (Out.of (sliceOf S3 x l h) S3).bind fun z S4 => fresh m z S4
  | .tup es, f, S => (evs es f S).bind fun ds S1 => if ds.length ≤ sizeLine then .ok (.tup ds) S1 else .bad
  | .lst m es, f, S => (evs es f S).bind fun ds S1 => if ds.length ≤ sizeLine then fresh m (.lst ds) S1 else .bad
  | .cB m b es, f, S => (evs es f S).bind fun ds S1 => (Out.of (bi S1 b ds) S1).bind fun z S2 => fresh m z S2
  | .trg1 l m a, f, S => (ev a f S).bind fun x S1 => match x with
    | .int n => (Out.of (rgI 0 n) S1).bind fun xs S2 => rgO l m xs S2
    | _ => .bad
  | .trg2 l m a b, f, S => (ev a f S).bind fun x S1 => (ev b f S1).bind fun y S2 => match x, y with
    | .int i, .int j => (Out.of (rgI i j) S2).bind fun xs S3 => rgO l m xs S3
    | _, _ => .bad
  | .isi ts e, f, S => (ev e f S).bind fun x S1 => match tyN S1 x with
    | some t => (Out.of (isTys t ts) S1).bind fun b S2 => .ok (.bl b) S2
    | none => .bad
  | .cF g es, f, S => (evs es f S).bind fun ds S1 => C.fn g ds S1
  | .cK g ks es, f, S => (evs es f S).bind fun ds S1 => C.fn g (ks.map fun k => ds.getD k .non) S1
  | .lam g e, f, S => C.take g e f S
  | .mk c es, f, S => (evs es f S).bind fun ds S1 => C.make c ds S1
  | .mth m o es, f, S => (ev o f S).bind fun x S1 => match x with
    | .obj c fs => match P.cl c with
      | some k => match k.meths.lookup m with
        | some g => (evs es f S1).bind fun ds S2 => C.fn g (.obj c fs :: ds) S2
        | none => .bad
      | none => .bad
    | _ => .bad
  | .app o e, f, S => (ev o f S).bind fun x S1 => match x with
    | .loc n => (ev e f S1).bind fun y S2 => match push S2 n y with
      | some S3 => .ok .non S3
      | none => .bad
    | _ => .bad
  | .popA o i, f, S => (ev o f S).bind fun x S1 => match x with
    | .loc n => (ev i f S1).bind fun y S2 => popO S2 n y
    | _ => .bad
  | .idxA o a, f, S => (ev o f S).bind fun x S1 => match seqAt S1 x with
    | some _ => (ev a f S1).bind fun y S2 => Out.of (idxO S2 x y) S2
    | none => .bad
  | .cntA o a, f, S => (ev o f S).bind fun x S1 => match seqAt S1 x with
    | some _ => (ev a f S1).bind fun y S2 => Out.of (cntO S2 x y) S2
    | none => .bad
  | .dnew, f, S => .ok (.dic S.length) (S ++ [.dct []])
  | .dget o k, f, S => (ev o f S).bind fun x S1 => (ev k f S1).bind fun y S2 => match dctAt S2 x, y with
    | some kvs, .int i => Out.of (getI kvs i) S2
    | _, _ => .bad
  | .dupd o a, f, S => (ev o f S).bind fun x S1 => match dctAt S1 x with
    | some _ => (ev a f S1).bind fun y S2 => match updO S2 x y with
      | some S3 => .ok .non S3
      | none => .bad
    | none => .bad
  | .dcom kx vx tg it own, f, S => (evIt it f S).bind fun s S1 =>
      (compL s.held (fun x S2 => (evTg tg x (wipeV f own) S2).bind fun f1 S3 => (ev kx f1 S3).bind fun k S4 => (ev vx f1 S4).bind fun v S5 => pairO k v S5) s.items [] S1).bind fun ds S2 => .ok (.dic S2.length) (S2 ++ [.dct (kvsOf ds)])
  | .stp m a lo st, f, S => (ev a f S).bind fun x S1 => (evPart lo f S1).bind fun l S2 => (ev st f S2).bind fun k S3 => match k with
    | .int c => (Out.of (stepOf S3 x l c) S3).bind fun z S4 => fresh m z S4
    | _ => .bad
  | .srS m a, f, S => (ev a f S).bind fun x S1 => (Out.of (srSO x) S1).bind fun z S2 => fresh m z S2
  | .spl l m fl es, f, S => (evSp es fl f S).bind fun ds S1 => if ds.length ≤ sizeLine then rgO l m ds S1 else .bad
  | .atr a o, f, S => (ev o f S).bind fun x S1 => match x with
    | .obj c fs => match P.cl c with
      | some k => match k.props.lookup a with
        | some g => (C.prop g [.obj c fs] S1).calm
        | none => Out.of (fldOf P a (.obj c fs)) S1
      | none => .bad
    | _ => .bad
  | .sX m a, f, S => (ev a f S).bind fun x S1 => match x with
    | .int i => if i.natAbs.log2 < 1920 then .ok (.str (toString i)) S1 else .bad
    | .obj c fs => match P.cl c with
      | some k => match k.meths.lookup m with
        | some g => (C.str g [.obj c fs] S1).calm.bind fun y S2 => match y with
          | .str t => .ok (.str t) S2
          | _ => .bad
        | none => .bad
      | none => .bad
    | _ => .bad
  | .join a b, f, S => (ev a f S).bind fun x S1 => match x with
    | .str s => (ev b f S1).bind fun y S2 => Out.of (joinO S2 s y) S2
    | _ => .bad
  | .spt m a b, f, S => (ev a f S).bind fun x S1 => match x with
    | .str s => (ev b f S1).bind fun y S2 => (Out.of (splO s y) S2).bind fun z S3 => fresh m z S3
    | _ => .bad
  | .fst a t b, f, S => (ev a f S).bind fun x S1 => match x with
    | .str s => if s.length ≤ sizeLine ∧ (Str.empty ++ s).length ≤ sizeLine ∧ (Str.empty ++ s ++ t).length ≤ sizeLine then (ev b f S1).bind fun y S2 => Out.of (fstO s t y) S2 else .bad
    | _ => .bad
  | .fld a, f, S => Out.of (f.φ.lookup a) S
  | .fmI x a y, f, S => if (Str.empty ++ x).length ≤ sizeLine then (ev a f S).bind fun d S1 => Out.of (fmO x y d) S1 else .bad
  | .dlit k v, _, S => .ok (.dic S.length) (S ++ [.dct [(k, .int v)]])
  | .lnO w m a, f, S => (ev a f S).bind fun x S1 => match x with
    | .obj c fs => match P.cl c with
      | some k => match k.meths.lookup m with
        | some g => (C.str g [.obj c fs] S1).calm.bind fun y S2 => dunO w y S2
        | none => .bad
      | none => .bad
    | _ => .bad
  | .oeqV ng m a b, f, S => (ev a f S).bind fun x S1 => (ev b f S1).bind fun y S2 => (oeqO P C ng m x y S2).bind fun r S3 => .ok (.bl r) S3
  | .mthK m g _ o perm es, f, S => (ev o f S).bind fun x S1 => match x with
    | .obj c ds => match P.cl c with
      | some k => if k.meths.lookup m = some g then (evs es f S1).bind fun es' S2 => C.fn g (.obj c ds :: perm.map fun k => es'.getD k .non) S2 else .bad
      | none => .bad
    | _ => .bad
  | .cS _ _ g es, f, S => (evs es f S).bind fun ds S1 => C.fn g ds S1
  | .kget _ tb k d, f, S => (ev k f S).bind fun y S1 => (ev d f S1).bind fun z S2 => match y with
    | .str s => .ok (kgetD tb s z) S2
    | _ => .bad
  | .dzip a b, f, S => (ev a f S).bind fun x S1 => (ev b f S1).bind fun y S2 => (Out.of (zipO S2 x y) S2).bind fun kvs S3 => .ok (.dic S3.length) (S3 ++ [.dct kvs])
  | .dgd o k d, f, S => (ev o f S).bind fun x S1 => match dctAt S1 x with
    | some _ => (ev k f S1).bind fun y S2 => (ev d f S2).bind fun z S3 => match dctAt S3 x, y with
      | some kvs, .int i => .ok ((getI kvs i).getD z) S3
      | _, _ => .bad
    | none => .bad
  | .dval m o, f, S => (ev o f S).bind fun x S1 => match dctAt S1 x with
    | some kvs => fresh m (.lst (kvs.map (·.2))) S1
    | none => .bad
  | .comp m elt tg it ifs own, f, S => (evIt it f S).bind fun s S1 =>
      (compL s.held (fun x S2 => (evTg tg x (wipeV f own) S2).bind fun f1 S3 => (evTs ifs f1 S3).bind fun b S4 =>
        match b with
        | true => (ev elt f1 S4).bind fun y S5 => .ok (some y) S5
        | false => .ok none S4) s.items [] S1).bind fun ds S2 => fresh m (.lst ds) S2
termination_by structural x => x
noncomputable def evT : Te → Fr → Store → Out Bool
  | .of e, f, S => (ev e f S).bind fun x S1 => Out.of (truth S1 x) S1
  | .cmp o a b, f, S => (ev a f S).bind fun x S1 => (ev b f S1).bind fun y S2 => Out.of (cop S2 o x y) S2
  | .chain o o' a b c, f, S => (ev a f S).bind fun x S1 => (ev b f S1).bind fun y S2 => (Out.of (cop S2 o x y) S2).bind fun z S3 =>
      match z with
      | true => (ev c f S3).bind fun w S4 => Out.of (cop S4 o' y w) S4
      | false => .ok false S3
  | .dinT neg k o, f, S => (ev k f S).bind fun y S1 => (ev o f S1).bind fun x S2 => match dctAt S2 x, y with
    | some kvs, .int i => .ok (if neg = true then !(getI kvs i).isSome else (getI kvs i).isSome) S2
    | _, _ => .bad
  | .oeq ng m a b, f, S => (ev a f S).bind fun x S1 => (ev b f S1).bind fun y S2 => oeqO P C ng m x y S2
  | .not a, f, S => (evT a f S).bind fun b S1 => .ok (!b) S1
  | .and es, f, S => evAll es f S
  | .or es, f, S => evAny es f S
termination_by structural x => x
noncomputable def evs : List Ex → Fr → Store → Out (List D)
  | [], _, S => .ok [] S
  | e :: es, f, S => (ev e f S).bind fun x S1 => (evs es f S1).bind fun xs S2 => .ok (x :: xs) S2
termination_by structural x => x
noncomputable def evSp : List Ex → List Bool → Fr → Store → Out (List D)
  | [], _, _, S => .ok [] S
  | e :: es, fl, f, S => match fl with
    | b :: fl => (ev e f S).bind fun x S1 => (Out.of (splI S1 b x) S1).bind fun xs S2 => (evSp es fl f S2).bind fun ys S3 => .ok (xs ++ ys) S3
    | [] => .bad
termination_by structural x => x
noncomputable def evPart : List Ex → Fr → Store → Out (Option Int)
  | [], _, S => .ok none S
  | e :: _, f, S => (ev e f S).bind fun x S1 => match x with
    | .int i => .ok (some i) S1
    | _ => .bad
termination_by structural x => x
noncomputable def evAll : List Te → Fr → Store → Out Bool
  | [], _, _ => .bad
  | e :: es, f, S => (evT e f S).bind fun b S1 => match b with
    | true => if es.isEmpty = true then .ok true S1 else evAll es f S1
    | false => .ok false S1
termination_by structural x => x
noncomputable def evAny : List Te → Fr → Store → Out Bool
  | [], _, _ => .bad
  | e :: es, f, S => (evT e f S).bind fun b S1 => match b with
    | false => if es.isEmpty = true then .ok false S1 else evAny es f S1
    | true => .ok true S1
termination_by structural x => x
noncomputable def evAnd : List Ex → Fr → Store → Out D
  | [], _, _ => .bad
  | e :: es, f, S => (ev e f S).bind fun x S1 => if es.isEmpty = true then .ok x S1 else match x with
      | .bl true => evAnd es f S1
      | .bl false => .ok (.bl false) S1
      | _ => .bad
termination_by structural x => x
noncomputable def evOr : List Ex → Fr → Store → Out D
  | [], _, _ => .bad
  | e :: es, f, S => (ev e f S).bind fun x S1 => if es.isEmpty = true then .ok x S1 else match x with
      | .bl false => evOr es f S1
      | .bl true => .ok (.bl true) S1
      | _ => .bad
termination_by structural x => x
noncomputable def evTs : List Te → Fr → Store → Out Bool
  | [], _, S => .ok true S
  | e :: _, f, S => evT e f S
termination_by structural x => x
noncomputable def evIt : It → Fr → Store → Out Src
  | .of e, f, S => (ev e f S).bind fun x S1 => Out.of (srcOf S1 x) S1
  | .rng1 a, f, S => (ev a f S).bind fun x S1 => match x with
    | .int n => Out.of (rngD 0 n) S1
    | _ => .bad
  | .rng2 a b, f, S => (ev a f S).bind fun x S1 => (ev b f S1).bind fun y S2 => match x, y with
    | .int i, .int j => Out.of (rngD i j) S2
    | _, _ => .bad
  | .enm e, f, S => (ev e f S).bind fun x S1 => (Out.of (srcOf S1 x) S1).bind fun s S2 => .ok ⟨s.items.mapIdx fun (i : Nat) d => D.tup [.int i, d], s.held, true⟩ S2
  | .sgn e, f, S => (ev e f S).bind fun x S1 => Out.of (signsO x) S1
  | .zip a b, f, S => (ev a f S).bind fun x S1 => (ev b f S1).bind fun y S2 => (Out.of (srcOf S2 x) S2).bind fun s S3 => (Out.of (srcOf S3 y) S3).bind fun t S4 =>
      .ok ⟨List.zipWith (fun d e => D.tup [d, e]) s.items t.items, s.held ++ t.held, true⟩ S4
termination_by structural x => x
noncomputable def evTg : Tg → D → Fr → Store → Out Fr
  | .nm i, d, f, S => .ok (setV f i d) S
  | .tup ts, d, f, S => match d with
    | .tup ds => if ds.length = ts.length then evTgs ts ds f S else .bad
    | .lst ds => if ds.length = ts.length then evTgs ts ds f S else .bad
    | _ => .bad
  | .sub o i, d, f, S => (ev o f S).bind fun x S1 => (ev i f S1).bind fun k S2 => match store S2 x k d with
    | some S3 => .ok f S3
    | none => .bad
termination_by structural x => x
noncomputable def evTgs : List Tg → List D → Fr → Store → Out Fr
  | [], _, f, S => .ok f S
  | t :: ts, ds, f, S => match ds with
    | [] => .bad
    | d :: ds => (evTg t d f S).bind fun f1 S1 => evTgs ts ds f1 S1
termination_by structural x => x
end
end
end Th
namespace Th
open PySem PySem.Spec PyProof.Rows L2
/-- one turn of a while: it goes on, or it ends -/
def turnW {α : Type} (c : Fr → Store → Out Bool) (b : Fr → Store → SO) (go : Fr → Store → α) (fin : SO → α) (f : Fr) (S : Store) : α := match c f S with
  | .ok true S1 => match b f S1 with
    | .nx f' S' => go f' S'
    | .ct f' S' => go f' S'
    | .bk f' S' => fin (.nx f' S')
    | .rt d S' => fin (.rt d S')
    | .ex x f' S' => fin (.ex x f' S')
    | .bad => fin .bad
  | .ok false S1 => fin (.nx f S1)
  | .exc x S1 => fin (.ex x f S1)
  | .bad => fin .bad
/-- a while, k turns at most -/
def whK (c : Fr → Store → Out Bool) (b : Fr → Store → SO) : Nat → Fr → Store → Option SO
  | 0, _, _ => none
  | k + 1, f, S => turnW c b (whK c b k) some f S
open Classical in
noncomputable def whl (c : Fr → Store → Out Bool) (b : Fr → Store → SO) (f : Fr) (S : Store) : SO :=
  if h : ∃ k r, whK c b k f S = some r then Classical.choose (Classical.choose_spec h) else .bad
theorem whl_ex {c : Fr → Store → Out Bool} {b : Fr → Store → SO} {f : Fr} {S : Store} (h : whl c b f S ≠ .bad) : ∃ k, whK c b k f S = some (whl c b f S) := by
  unfold whl at h ⊢
  by_cases hx : ∃ k r, whK c b k f S = some r
  · rw [dif_pos hx]
    exact ⟨_, Classical.choose_spec (Classical.choose_spec hx)⟩
  · rw [dif_neg hx] at h
    exact absurd rfl h
open Classical in
/-- a for's turns -/
noncomputable def forL (held : List (Nat × List D)) (tg : D → Fr → Store → Out Fr) (body : Fr → Store → SO) : List D → Fr → Store → SO
  | [], f, S => if Src.still held S then .nx f S else .bad
  | x :: xs, f, S => if Src.still held S then
      match tg x f S with
      | .ok f1 S1 => match body f1 S1 with
        | .nx f2 S2 => forL held tg body xs f2 S2
        | .ct f2 S2 => forL held tg body xs f2 S2
        | .bk f2 S2 => .nx f2 S2
        | r => r
      | _ => .bad
    else .bad
def setVs (f : Fr) : List Nat → List D → Fr
  | i :: is, d :: ds => setVs (setV f i d) is ds
  | _, _ => f
def putN (a : Nat) (d : D) : List (Nat × D) → List (Nat × D)
  | [] => [(a, d)]
  | (b, e) :: r => if b = a then (b, d) :: r else (b, e) :: putN a d r
def Out.so {α : Type} (o : Out α) (f : Fr) (k : α → Store → SO) : SO := match o with
  | .ok d S => k d S
  | .exc x S => .ex x f S
  | .bad => .bad
/-- no exception is let -/
def SO.still : SO → SO
  | .ex _ _ _ => .bad
  | r => r
section
variable (P : Pr) (C : Orc)
mutual
noncomputable def ex : Sm → Fr → Store → SO
  | .asg t e, f, S => (ev P C e f S).so f fun d S1 => match evTg P C t d f S1 with
    | .ok f1 S2 => .nx f1 S2
    | .exc x S2 => .bad
    | .bad => .bad
  | .par is es, f, S => (evs P C es f S).so f fun ds S1 => if ds.length = is.length then .nx (setVs f is ds) S1 else .bad
  | .aug i o e, f, S => match getV f i with
    | some x => (ev P C e f S).so f fun y S1 => match o, x, y with
      | .add, .int a, .int b => .nx (setV f i (.int (a + b))) S1
      | .sub, .int a, .int b => .nx (setV f i (.int (a - b))) S1
      | _, _, _ => .bad
    | none => .bad
  | .augX o i b e, f, S => (ev P C o f S).so f fun x S1 => (ev P C i f S1).so f fun k S2 => match numAt S2 x k with
    | some a => (ev P C e f S2).so f fun y S3 => match (augI b a y).bind fun z => store S3 x k z with
      | some S4 => .nx f S4
      | none => .bad
    | none => .bad
  | .fset a e, f, S => (ev P C e f S).so f fun d S1 => if f.φ.length < 900 then .nx ⟨f.ρ, putN a d f.φ⟩ S1 else .bad
  | .expr e, f, S => (ev P C e f S).so f fun _ S1 => .nx f S1
  | .ret e, f, S => (ev P C e f S).so f fun d S1 => .rt d S1
  | .retN, _, S => .rt .non S
  | .ifs c a b, f, S => (evT P C c f S).so f fun t S1 => match t with
    | true => exs a f S1
    | false => exs b f S1
  | .fors t it body, f, S => (evIt P C it f S).so f fun s S1 => forL s.held (fun d f1 S2 => evTg P C t d f1 S2) (fun f1 S2 => exs body f1 S2) s.items f S1
  | .whiles c body, f, S => whl (fun f1 S1 => evT P C c f1 S1) (fun f1 S1 => exs body f1 S1) f S
  | .brk, f, S => .bk f S
  | .cont, f, S => .ct f S
  | .pass, f, S => .nx f S
  | .dead, _, _ => .bad
  | .raise c, f, S => match P.xf c with
    | none => .ex ⟨c, []⟩ f S
    | some _ => .bad
  | .raiseV c e, f, S => match P.xf c with
    | some _ => (ev P C e f S).so f fun d S1 => .ex ⟨c, [d]⟩ f S1
    | none => .bad
  | .tryD body, f, S => (exs body f S).still
noncomputable def exs : List Sm → Fr → Store → SO
  | [], f, S => .nx f S
  | s :: ss, f, S => match ex s f S with
    | .nx f1 S1 => exs ss f1 S1
    | r => r
end
end
/-- a function's body from its arguments -/
noncomputable def runF (P : Pr) (C : Orc) (F : Fn) (ds : List D) (S : Store) : Out D :=
  if ds.length = F.np then
    match exs P C F.body ⟨ds.map some ++ List.replicate (F.ns - ds.length) none, []⟩ S with
    | .nx _ S1 => .ok .non S1
    | .rt d S1 => .ok d S1
    | .ex x _ S1 => .exc x S1
    | _ => .bad
  else .bad
/-- a new object that nobody changes later -/
noncomputable def runI (P : Pr) (C : Orc) (c : Nat) (k : Cl) (F : Fn) (ds : List D) (S : Store) : Out D :=
  if ds.length + 1 = F.np then
    match exs P C F.body ⟨none :: ds.map some ++ List.replicate (F.ns - (ds.length + 1)) none, []⟩ S with
    | .nx f S1 => if f.φ.map (·.1) = k.flds then .ok (.obj c (f.φ.map (·.2))) S1 else .bad
    | .ex x _ S1 => .exc x S1
    | _ => .bad
  else .bad
noncomputable def callF (P : Pr) (C : Orc) (g : Nat) (ds : List D) (S : Store) : Out D := match P.fn g with
  | some F => runF P C F ds S
  | none => .bad
noncomputable def callI (P : Pr) (C : Orc) (c : Nat) (ds : List D) (S : Store) : Out D := match P.cl c with
  | some k => match P.fn k.init with
    | some F => runI P C c k F ds S
    | none => .bad
  | none => .bad
def orc0 : Orc := ⟨fun _ _ _ => .bad, fun _ _ _ => .bad, fun _ _ _ => .bad, fun _ _ _ => .bad, fun _ _ _ _ => .bad⟩
/-- no lambda is made -/
def Orc.noT (C : Orc) : Orc := ⟨C.fn, C.make, C.prop, C.str, fun _ _ _ _ => .bad⟩
/-- a part of what a clause answers: a text, repr of the error's field, whether the error is of one class and not of another one -/
def hxP (P : Pr) (x : Exn) (S : Store) : HxP → Option D
  | .str y => some (.str y)
  | .rep f => match x.fs with
    | [d] => if P.xf x.c = some f then (shownD S d).map .str else none
    | _ => none
  | .isA c h => match P.sub x.c c, P.sub x.c h with
    | some a, some b => some (.bl (a && !b))
    | _, _ => none
def hxPs (P : Pr) (x : Exn) (S : Store) : List HxP → Option (List D)
  | [] => some []
  | p :: ps => match hxP P x S p, hxPs P x S ps with
    | some d, some ds => some (d :: ds)
    | _, _ => none
def hxO (P : Pr) (x : Exn) (S : Store) : Hx → Out D
  | .bl b => .ok (.bl b) S
  | .str y => .ok (.str y) S
  | .row _ ps => match hxPs P x S ps with
    | some ds => .ok (.lst ds) S
    | none => .bad
/-- the clauses -/
def tkH (P : Pr) : List (Nat × Hx) → Exn → Store → Out D
  | [], _, _ => .bad
  | (h, v) :: r, x, S => match P.sub x.c h with
    | some true => hxO P x S v
    | some false => tkH P r x S
    | none => .bad
noncomputable def tkF (P : Pr) (C : Orc) (T : Tk) (ρ : List (Option D)) (S : Store) : Out D := match T.fin with
  | [e] => (ev P C e ⟨ρ, []⟩ S).calm
  | _ => .bad
noncomputable def tkO (P : Pr) (C : Orc) (T : Tk) : Out D → Out D
  | .ok d S1 => match T.kind with
    | 0 => tkF P C T (List.replicate T.ns none) S1
    | 1 => .ok d S1
    | _ => tkF P C T ((List.replicate T.ns none).set T.slot (some d)) S1
  | .exc x S1 => tkH P T.hs x S1
  | .bad => .bad
theorem tkO_0 {P : Pr} {C : Orc} {T : Tk} (h : T.kind = 0) (d : D) (S1 : Store) : tkO P C T (.ok d S1) = tkF P C T (List.replicate T.ns none) S1 := by
  simp only [tkO, h]
theorem tkO_1 {P : Pr} {C : Orc} {T : Tk} (h : T.kind = 1) (d : D) (S1 : Store) : tkO P C T (.ok d S1) = .ok d S1 := by
  simp only [tkO, h]
theorem tkO_2 {P : Pr} {C : Orc} {T : Tk} (h : T.kind = 2) (d : D) (S1 : Store) : tkO P C T (.ok d S1) = tkF P C T ((List.replicate T.ns none).set T.slot (some d)) S1 := by
  simp only [tkO, h]
/-- a def that is handed a lambda: act is the lambda -/
noncomputable def callT (P : Pr) (C : Orc) (act : Store → Out D) (g : Nat) (S : Store) : Out D := match P.tk g with
  | none => .bad
  | some T => tkO P C T (act S)
/-- calls, d deep: a function runs over one level less, an object is made and a property is read over two less -/
noncomputable def orc (P : Pr) : Nat → Orc
  | 0 => orc0
  | 1 => ⟨callF P orc0, fun _ _ _ => .bad, fun _ _ _ => .bad, fun _ _ _ => .bad, fun _ _ _ _ => .bad⟩
  | d + 2 => ⟨callF P (orc P (d + 1)), callI P (orc P d), callF P (orc P d), (orc P d).fn, fun g e f S => callT P (orc P d).noT (fun S' => ev P (orc P d).noT e f S') g S⟩
end Th
namespace Th
open PySem PySem.Spec PyProof.Rows L2
/-- where the classes stand -/
structure Chk where
  has : Nat → Bool
  fl : Nat → Bool
  top : Nat → Bool
  hasC : Nat → Bool
  kw : Nat → List Nat → List Str → Bool
  hasT : Nat → Bool
  hasX : Nat → Bool
  lamN : List Str
  sm : Nat → Nat → Nat → Bool
  dk : Nat → List (Str × Int) → Bool
structure Lnk extends Chk where
  ca : Nat → Addr
  fa : Nat → Addr
  fd : Nat → FuncData
  pn : Nat → List Str
  T : List (Addr × Str)
  lamC : Addr
  lamP : Addr
def KT (K : PySem.W.Frag) (a : Addr) (xs : List V) : Prop :=
  ∃ (o : Obj) (its : Array Value) (n : Nat), K.lookup a = some o ∧ o.cls = .type "tuple" ∧ o.data = .seq its n ∧ its.size ≤ sizeLine ∧ Vals xs its.toList
def KL (K : PySem.W.Frag) (a : Addr) (xs : List V) : Prop :=
  ∃ (o : Obj) (its : Array Value) (n : Nat), K.lookup a = some o ∧ o.cls = .type "list" ∧ o.dict = none ∧ o.data = .seq its n ∧ its.size ≤ sizeLine ∧ Vals xs its.toList
/-- what the program means here: names, the written part, what is set apart -/
structure Wd where
  P : Pr
  K : PySem.W.Frag
  lk : Lnk
  Z : Addr → Prop
mutual
inductive VR (W : Wd) (μ : List Addr) (H : Hp) : D → V → Prop where
  | non : VR W μ H .non .non
  | bl (b : Bool) : VR W μ H (.bl b) (.bl b)
  | int (i : Int) : VR W μ H (.int i) (.int i)
  | str (x : Str) : VR W μ H (.str x) (.str x)
  | tup {a : Addr} {ds : List D} {vs : List V} (h : Rd H a (.tup vs)) (n : a ∉ μ) (z : ¬ W.Z a) (r : VRs W μ H ds vs) : VR W μ H (.tup ds) (.ref a)
  | tupK {a : Addr} {ds : List D} {vs : List V} (h : KT W.K a vs) (r : VRs W μ H ds vs) : VR W μ H (.tup ds) (.ref a)
  | lst {a : Addr} {ds : List D} {vs : List V} (h : H a = some (.lst vs)) (n : a ∉ μ) (z : ¬ W.Z a) (r : VRs W μ H ds vs) : VR W μ H (.lst ds) (.ref a)
  | frz {a : Addr} {ds : List D} {vs : List V} (h : Rd H a (.lst vs)) (n : a ∉ μ) (z : ¬ W.Z a) (r : VRs W μ H ds vs) : VR W μ H (.frz ds) (.ref a)
  | frzK {a : Addr} {ds : List D} {vs : List V} (h : KL W.K a vs) (r : VRs W μ H ds vs) : VR W μ H (.frz ds) (.ref a)
  | obj {a dx : Addr} {c : Nat} {ds : List D} {fs : List (Str × V)} {k : Cl} (h : H a = some (.ins (W.lk.ca c) dx fs)) (n : a ∉ μ) (z : ¬ W.Z a) (hk : W.P.cl c = some k) (hc : W.lk.hasC c = true)
      (hf : fs.map (·.1) = k.flds.map W.P.nm) (r : VRs W μ H ds (fs.map (·.2))) : VR W μ H (.obj c ds) (.ref a)
  | loc {a : Addr} {n : Nat} (h : μ[n]? = some a) (k : ∃ vs, H a = some (.lst vs)) : VR W μ H (.loc n) (.ref a)
  | dic {a : Addr} {n : Nat} (h : μ[n]? = some a) (k : ∃ us, H a = some (.dK us)) : VR W μ H (.dic n) (.ref a)
inductive VRs (W : Wd) (μ : List Addr) (H : Hp) : List D → List V → Prop where
  | nil : VRs W μ H [] []
  | cons {d : D} {v : V} {ds : List D} {vs : List V} (h : VR W μ H d v) (r : VRs W μ H ds vs) : VRs W μ H (d :: ds) (v :: vs)
end
/-- a list stays a list, a dict a dict -/
structure Kin (H H' : Hp) : Prop where
  l : ∀ a vs, H a = some (.lst vs) → ∃ vs', H' a = some (.lst vs')
  d : ∀ a us, H a = some (.dK us) → ∃ us', H' a = some (.dK us')
theorem Kin.refl {H : Hp} : Kin H H := ⟨fun _ vs h => ⟨vs, h⟩, fun _ us h => ⟨us, h⟩⟩
theorem Kin.trans {H H1 H2 : Hp} (a : Kin H H1) (b : Kin H1 H2) : Kin H H2 := ⟨fun c vs h => by
  obtain ⟨vs', h'⟩ := a.l c vs h
  exact b.l c vs' h', fun c us h => by
  obtain ⟨us', h'⟩ := a.d c us h
  exact b.d c us' h'⟩
theorem Kin.new {H : Hp} {p : Addr} {o : HO} (hp : H p = none) : Kin H (upd H p o) := ⟨fun c vs h => ⟨vs, by rw [upd_ne (ne_of_none h hp)]; exact h⟩, fun c us h => ⟨us, by rw [upd_ne (ne_of_none h hp)]; exact h⟩⟩
theorem Kin.lst {H : Hp} {a : Addr} {xs ys : List V} (h : H a = some (.lst xs)) : Kin H (upd H a (.lst ys)) := ⟨fun c vs hc => by
  by_cases e : c = a
  · subst e; exact ⟨ys, upd_same⟩
  · exact ⟨vs, by rw [upd_ne e]; exact hc⟩, fun c us hc => by
  by_cases e : c = a
  · subst e; rw [h] at hc; cases hc
  · exact ⟨us, by rw [upd_ne e]; exact hc⟩⟩
theorem Kin.dct {H : Hp} {a : Addr} {xs ys : List (Key × V)} (h : H a = some (.dK xs)) : Kin H (upd H a (.dK ys)) := ⟨fun c vs hc => by
  by_cases e : c = a
  · subst e; rw [h] at hc; cases hc
  · exact ⟨vs, by rw [upd_ne e]; exact hc⟩, fun c us hc => by
  by_cases e : c = a
  · subst e; exact ⟨ys, upd_same⟩
  · exact ⟨us, by rw [upd_ne e]; exact hc⟩⟩
theorem Kin.ins {H : Hp} {a C dx : Addr} {xs : List (Str × V)} {o : HO} (h : H a = some (.ins C dx xs)) : Kin H (upd H a o) := ⟨fun c vs hc => ⟨vs, by
  rw [upd_ne fun e => by rw [e, h] at hc; cases hc]; exact hc⟩, fun c us hc => ⟨us, by
  rw [upd_ne fun e => by rw [e, h] at hc; cases hc]; exact hc⟩⟩
/-- no code object's table -/
def Nt (o : HO) : Prop := ∀ ps, o ≠ .tbl ps
theorem Nt.lst {xs : List V} : Nt (.lst xs) := fun _ h => nomatch h
theorem Nt.tup {xs : List V} : Nt (.tup xs) := fun _ h => nomatch h
theorem Nt.dK {xs : List (Key × V)} : Nt (.dK xs) := fun _ h => nomatch h
theorem Nt.ins {C dx : Addr} {xs : List (Str × V)} : Nt (.ins C dx xs) := fun _ h => nomatch h
theorem Nt.frz {o : Obj} {u : HO} : Nt (.frz o u) := fun _ h => nomatch h
theorem Nt.own {x : Addr} : Nt (.own x) := fun _ h => nomatch h
theorem Nt.xd {fs : List (Str × V)} : Nt (.xd fs) := fun _ h => nomatch h
/-- what is not written: tables and code objects stay -/
theorem tabs_upd {T : List (Addr × Str)} {H : Hp} {a : Addr} {o0 o : HO} (t : LamX.Tabs T H) (h : H a = some o0) (n1 : Nt o0) (n2 : ∀ q, o0 ≠ LamX.CodeO a q) : LamX.Tabs T (upd H a o) := fun p hp => by
  obtain ⟨ps, h1, h2, h3⟩ := t p hp
  refine ⟨ps, by rw [upd_ne fun z => n1 ps (by rw [z, h] at h1; exact Option.some.inj h1)]; exact h1, h2, fun pos cv hc => ?_⟩
  obtain ⟨c, e1, e2⟩ := h3 pos cv hc
  refine ⟨c, e1, ?_⟩
  by_cases z : c = a
  · subst z
    rw [h] at e2
    exact absurd (Option.some.inj e2) (n2 _)
  · rw [upd_ne z]; exact e2
theorem tabs_lst {T : List (Addr × Str)} {H : Hp} {a : Addr} {xs : List V} {o : HO} (t : LamX.Tabs T H) (h : H a = some (.lst xs)) : LamX.Tabs T (upd H a o) := tabs_upd t h .lst fun _ z => by
  unfold LamX.CodeO at z
  cases z
theorem tabs_dK {T : List (Addr × Str)} {H : Hp} {a : Addr} {xs : List (Key × V)} {o : HO} (t : LamX.Tabs T H) (h : H a = some (.dK xs)) : LamX.Tabs T (upd H a o) := tabs_upd t h .dK fun _ z => by
  unfold LamX.CodeO at z
  cases z
theorem tabs_ins {T : List (Addr × Str)} {H : Hp} {a C dx : Addr} {xs : List (Str × V)} {o : HO} (t : LamX.Tabs T H) (h : H a = some (.ins C dx xs)) : LamX.Tabs T (upd H a o) := tabs_upd t h .ins fun _ z => by
  unfold LamX.CodeO at z
  cases z
theorem tabs_new {T : List (Addr × Str)} {H : Hp} {p : Addr} {o : HO} (t : LamX.Tabs T H) (h : H p = none) : LamX.Tabs T (upd H p o) := t.ext fun b u e => by rw [upd_ne (ne_of_none e h)]; exact e
/-- a step of the heap: what is no place of the store stays as it is -/
structure Ext (μ : List Addr) (H : Hp) (μ' : List Addr) (H' : Hp) : Prop where
  pre : ∃ t, μ' = μ ++ t
  keep : ∀ a o, H a = some o → a ∉ μ → Nt o → H' a = some o ∧ a ∉ μ'
  kin : Kin H H'
/-- .. but for what is set apart -/
structure ExtZ (Z : Addr → Prop) (μ : List Addr) (H : Hp) (μ' : List Addr) (H' : Hp) : Prop where
  pre : ∃ t, μ' = μ ++ t
  keep : ∀ a o, H a = some o → a ∉ μ → ¬ Z a → Nt o → H' a = some o ∧ a ∉ μ'
  kin : Kin H H'
theorem Ext.refl {μ : List Addr} {H : Hp} : Ext μ H μ H := ⟨⟨[], by simp⟩, fun _ _ h n _ => ⟨h, n⟩, .refl⟩
theorem Ext.trans {μ μ1 μ2 : List Addr} {H H1 H2 : Hp} (a : Ext μ H μ1 H1) (b : Ext μ1 H1 μ2 H2) : Ext μ H μ2 H2 := by
  obtain ⟨t1, e1⟩ := a.pre
  obtain ⟨t2, e2⟩ := b.pre
  refine ⟨⟨t1 ++ t2, by rw [e2, e1, List.append_assoc]⟩, fun c o h n t => ?_, a.kin.trans b.kin⟩
  obtain ⟨h1, n1⟩ := a.keep c o h n t
  exact b.keep c o h1 n1 t
theorem Ext.z {Z : Addr → Prop} {μ μ1 : List Addr} {H H1 : Hp} (a : Ext μ H μ1 H1) : ExtZ Z μ H μ1 H1 := ⟨a.pre, fun c o h n _ t => a.keep c o h n t, a.kin⟩
theorem ExtZ.refl {Z : Addr → Prop} {μ : List Addr} {H : Hp} : ExtZ Z μ H μ H := Ext.refl.z
theorem ExtZ.trans {Z : Addr → Prop} {μ μ1 μ2 : List Addr} {H H1 H2 : Hp} (a : ExtZ Z μ H μ1 H1) (b : ExtZ Z μ1 H1 μ2 H2) : ExtZ Z μ H μ2 H2 := by
  obtain ⟨t1, e1⟩ := a.pre
  obtain ⟨t2, e2⟩ := b.pre
  refine ⟨⟨t1 ++ t2, by rw [e2, e1, List.append_assoc]⟩, fun c o h n z t => ?_, a.kin.trans b.kin⟩
  obtain ⟨h1, n1⟩ := a.keep c o h n z t
  exact b.keep c o h1 n1 z t
theorem ExtZ.mono {Z Z' : Addr → Prop} {μ μ1 : List Addr} {H H1 : Hp} (a : ExtZ Z μ H μ1 H1) (h : ∀ b, Z b → Z' b) : ExtZ Z' μ H μ1 H1 := ⟨a.pre, fun c o e n z t => a.keep c o e n (fun q => z (h c q)) t, a.kin⟩
theorem Rd.ext {H H' : Hp} {a : Addr} {u : HO} (r : Rd H a u) (k : ∀ o, H a = some o → H' a = some o) : Rd H' a u := by
  rcases r with r | ⟨o, r⟩
  · exact .inl (k _ r)
  · exact .inr ⟨o, k _ r⟩
theorem Rd.ext2 {Z : Addr → Prop} {μ μ' : List Addr} {H H' : Hp} {a : Addr} {u : HO} (r : Rd H a u) (n : a ∉ μ) (z : ¬ Z a) (e : ExtZ Z μ H μ' H') (t : Nt u) : Rd H' a u ∧ a ∉ μ' := by
  rcases r with r | ⟨o, r⟩
  · obtain ⟨h1, h2⟩ := e.keep a _ r n z t
    exact ⟨.inl h1, h2⟩
  · obtain ⟨h1, h2⟩ := e.keep a _ r n z .frz
    exact ⟨.inr ⟨o, h1⟩, h2⟩
section
variable {W : Wd} {μ μ' : List Addr} {H H' : Hp}
mutual
theorem VR.ext (e : ExtZ W.Z μ H μ' H') : ∀ {d : D} {v : V}, VR W μ H d v → VR W μ' H' d v
  | _, _, .non => .non
  | _, _, .bl b => .bl b
  | _, _, .int i => .int i
  | _, _, .str x => .str x
  | _, _, .tup h n z r => .tup (Rd.ext2 h n z e .tup).1 (Rd.ext2 h n z e .tup).2 z (VRs.ext e r)
  | _, _, .tupK h r => .tupK h (VRs.ext e r)
  | _, _, .lst h n z r => .lst (e.keep _ _ h n z .lst).1 (e.keep _ _ h n z .lst).2 z (VRs.ext e r)
  | _, _, .frz h n z r => .frz (Rd.ext2 h n z e .lst).1 (Rd.ext2 h n z e .lst).2 z (VRs.ext e r)
  | _, _, .frzK h r => .frzK h (VRs.ext e r)
  | _, _, .obj h n z hk hc hf r => .obj (e.keep _ _ h n z .ins).1 (e.keep _ _ h n z .ins).2 z hk hc hf (VRs.ext e r)
  | _, _, .loc h k => .loc (by
      obtain ⟨t, et⟩ := e.pre
      rw [et]
      obtain ⟨hl, q⟩ := List.getElem?_eq_some_iff.mp h
      rw [List.getElem?_append_left hl]
      exact h) (by
      obtain ⟨vs, q⟩ := k
      exact e.kin.l _ vs q)
  | _, _, .dic h k => .dic (by
      obtain ⟨t, et⟩ := e.pre
      rw [et]
      obtain ⟨hl, q⟩ := List.getElem?_eq_some_iff.mp h
      rw [List.getElem?_append_left hl]
      exact h) (by
      obtain ⟨us, q⟩ := k
      exact e.kin.d _ us q)
theorem VRs.ext (e : ExtZ W.Z μ H μ' H') : ∀ {ds : List D} {vs : List V}, VRs W μ H ds vs → VRs W μ' H' ds vs
  | _, _, .nil => .nil
  | _, _, .cons h r => .cons (VR.ext e h) (VRs.ext e r)
end
/-- less set apart -/
def Wd.z (W : Wd) (Z : Addr → Prop) : Wd := { W with Z := Z }
mutual
theorem VR.weak {Z : Addr → Prop} (q : ∀ b, Z b → W.Z b) : ∀ {d : D} {v : V}, VR W μ H d v → VR (W.z Z) μ H d v
  | _, _, .non => .non
  | _, _, .bl b => .bl b
  | _, _, .int i => .int i
  | _, _, .str x => .str x
  | _, _, .tup h n z r => .tup h n (fun y => z (q _ y)) (VRs.weak q r)
  | _, _, .tupK h r => .tupK h (VRs.weak q r)
  | _, _, .lst h n z r => .lst h n (fun y => z (q _ y)) (VRs.weak q r)
  | _, _, .frz h n z r => .frz h n (fun y => z (q _ y)) (VRs.weak q r)
  | _, _, .frzK h r => .frzK h (VRs.weak q r)
  | _, _, .obj h n z hk hc hf r => .obj h n (fun y => z (q _ y)) hk hc hf (VRs.weak q r)
  | _, _, .loc h k => .loc h k
  | _, _, .dic h k => .dic h k
theorem VRs.weak {Z : Addr → Prop} (q : ∀ b, Z b → W.Z b) : ∀ {ds : List D} {vs : List V}, VRs W μ H ds vs → VRs (W.z Z) μ H ds vs
  | _, _, .nil => .nil
  | _, _, .cons h r => .cons (VR.weak q h) (VRs.weak q r)
end
mutual
theorem VR.more {p : Addr} (hp : H p = none) : ∀ {d : D} {v : V}, VR W μ H d v → VR (W.z fun b => W.Z b ∨ b = p) μ H d v
  | _, _, .non => .non
  | _, _, .bl b => .bl b
  | _, _, .int i => .int i
  | _, _, .str x => .str x
  | _, _, .tup h n z r => .tup h n (by
      rintro (y | rfl)
      · exact z y
      · rcases h with h | ⟨_, h⟩ <;> (rw [hp] at h; cases h)) (VRs.more hp r)
  | _, _, .tupK h r => .tupK h (VRs.more hp r)
  | _, _, .lst h n z r => .lst h n (by
      rintro (y | rfl)
      · exact z y
      · rw [hp] at h; cases h) (VRs.more hp r)
  | _, _, .frz h n z r => .frz h n (by
      rintro (y | rfl)
      · exact z y
      · rcases h with h | ⟨_, h⟩ <;> (rw [hp] at h; cases h)) (VRs.more hp r)
  | _, _, .frzK h r => .frzK h (VRs.more hp r)
  | _, _, .obj h n z hk hc hf r => .obj h n (by
      rintro (y | rfl)
      · exact z y
      · rw [hp] at h; cases h) hk hc hf (VRs.more hp r)
  | _, _, .loc h k => .loc h k
  | _, _, .dic h k => .dic h k
theorem VRs.more {p : Addr} (hp : H p = none) : ∀ {ds : List D} {vs : List V}, VRs W μ H ds vs → VRs (W.z fun b => W.Z b ∨ b = p) μ H ds vs
  | _, _, .nil => .nil
  | _, _, .cons h r => .cons (VR.more hp h) (VRs.more hp r)
end
theorem VRs.len : ∀ {ds : List D} {vs : List V}, VRs W μ H ds vs → ds.length = vs.length
  | _, _, .nil => rfl
  | _, _, .cons _ r => by simp [VRs.len r]
theorem VRs.erase : ∀ {ds : List D} {vs : List V}, VRs W μ H ds vs → ∀ j : Nat, VRs W μ H (ds.eraseIdx j) (vs.eraseIdx j)
  | _, _, .nil, _ => .nil
  | _, _, .cons _ r, 0 => r
  | _, _, .cons h r, j + 1 => .cons h (VRs.erase r j)
theorem VRs.app : ∀ {ds es : List D} {vs ws : List V}, VRs W μ H ds vs → VRs W μ H es ws → VRs W μ H (ds ++ es) (vs ++ ws)
  | _, _, _, _, .nil, s => s
  | _, _, _, _, .cons h r, s => .cons h (VRs.app r s)
theorem VRs.get : ∀ {ds : List D} {vs : List V}, VRs W μ H ds vs → ∀ {i : Nat} {d : D}, ds[i]? = some d → ∃ v, vs[i]? = some v ∧ VR W μ H d v
  | _, _, .nil, i, d, h => by simp at h
  | _, _, .cons h r, 0, d, e => by simp at e; subst e; exact ⟨_, rfl, h⟩
  | _, _, .cons h r, i + 1, d, e => by
    obtain ⟨v, h1, h2⟩ := VRs.get r (i := i) (d := d) (by simpa using e)
    exact ⟨v, by simpa using h1, h2⟩
theorem VRs.take : ∀ {ds : List D} {vs : List V} (n : Nat), VRs W μ H ds vs → VRs W μ H (ds.take n) (vs.take n)
  | _, _, 0, _ => .nil
  | _, _, _ + 1, .nil => .nil
  | _, _, n + 1, .cons h r => .cons h (VRs.take n r)
theorem VRs.drop : ∀ {ds : List D} {vs : List V} (n : Nat), VRs W μ H ds vs → VRs W μ H (ds.drop n) (vs.drop n)
  | _, _, 0, r => r
  | _, _, _ + 1, .nil => .nil
  | _, _, n + 1, .cons _ r => VRs.drop n r
theorem VRs.set {d : D} {v : V} (h : VR W μ H d v) : ∀ {ds : List D} {vs : List V} (i : Nat), VRs W μ H ds vs → VRs W μ H (ds.set i d) (vs.set i v)
  | _, _, _, .nil => .nil
  | _, _, 0, .cons _ r => .cons h r
  | _, _, i + 1, .cons q r => .cons q (VRs.set h i r)
theorem VRs.rep {ds : List D} {vs : List V} (r : VRs W μ H ds vs) : ∀ n : Nat, VRs W μ H (List.replicate n ds).flatten (List.replicate n vs).flatten
  | 0 => .nil
  | n + 1 => by
    rw [List.replicate_succ, List.replicate_succ, List.flatten_cons, List.flatten_cons]
    exact r.app (VRs.rep r n)
theorem VRs.ints : ∀ {ds : List D} {vs : List V} {ns : List Int}, VRs W μ H ds vs → intsOf ds = some ns → vs = ns.map V.int
  | _, _, ns, .nil, e => by
    have : ns = [] := by simpa [intsOf] using e.symm
    subst this; rfl
  | d :: ds, _, ns, .cons h r, e => by
    have e' : (intOf d).bind (fun i => (intsOf ds).bind fun is => some (i :: is)) = some ns := by
      simpa [intsOf, List.mapM_cons] using e
    cases hd : intOf d with
    | none => rw [hd] at e'; cases e'
    | some i =>
      rw [hd] at e'
      cases hr : intsOf ds with
      | none => rw [hr] at e'; cases e'
      | some is =>
        rw [hr] at e'
        have e3 : i :: is = ns := Option.some.inj e'
        subst e3
        cases h <;> first | cases hd | skip
        rw [VRs.ints r hr]
        rfl
theorem VRs.bls : ∀ {ds : List D} {vs : List V} {ns : List Bool}, VRs W μ H ds vs → blsOf ds = some ns → vs = ns.map V.bl
  | _, _, ns, .nil, e => by
    have : ns = [] := by simpa [blsOf] using e.symm
    subst this; rfl
  | d :: ds, _, ns, .cons h r, e => by
    have e' : (blOf d).bind (fun i => (blsOf ds).bind fun is => some (i :: is)) = some ns := by
      simpa [blsOf, List.mapM_cons] using e
    cases hd : blOf d with
    | none => rw [hd] at e'; cases e'
    | some i =>
      rw [hd] at e'
      cases hr : blsOf ds with
      | none => rw [hr] at e'; cases e'
      | some is =>
        rw [hr] at e'
        have e3 : i :: is = ns := Option.some.inj e'
        subst e3
        cases h <;> first | cases hd | skip
        rw [VRs.bls r hr]
        rfl
theorem VRs.ofInts : ∀ {ns : List Int}, VRs W μ H (ns.map .int) (ns.map V.int)
  | [] => .nil
  | n :: ns => .cons (.int n) VRs.ofInts
inductive ObR (W : Wd) (μ : List Addr) (H : Hp) : Ob → Addr → Prop where
  | lst {a : Addr} {ds : List D} {vs : List V} (h : H a = some (.lst vs)) (r : VRs W μ H ds vs) : ObR W μ H (.lst ds) a
  | dct {a : Addr} {kvs : List (Int × D)} {us : List (Key × V)} (h : H a = some (.dK us)) (hk : us.map (·.1) = kvs.map fun p => .inl p.1) (r : VRs W μ H (kvs.map (·.2)) (us.map (·.2))) : ObR W μ H (.dct kvs) a
theorem ObR.move {μ' : List Addr} {H' : Hp} {o : Ob} {a : Addr} (q : ObR W μ H o a) (e : ExtZ W.Z μ H μ' H') (hm : H' a = H a) : ObR W μ' H' o a := by
  cases q with
  | lst h r => exact .lst (by rw [hm]; exact h) (r.ext e)
  | dct h hk r => exact .dct (by rw [hm]; exact h) hk (r.ext e)
structure SR (W : Wd) (μ : List Addr) (S : Store) (H : Hp) : Prop where
  len : μ.length = S.length
  nd : μ.Nodup
  at_ : ∀ (n : Nat) (o : Ob) (a : Addr), S[n]? = some o → μ[n]? = some a → ObR W μ H o a
  zz : ∀ b, W.Z b → ∃ o, H b = some o ∧ Nt o
  zm : ∀ b, W.Z b → b ∉ μ
  tb : LamX.Tabs W.lk.T H
theorem ObR.inv {o : Ob} {a : Addr} (q : ObR W μ H o a) : ∃ u, H a = some u := by
  cases q with
  | lst h r => exact ⟨_, h⟩
  | dct h hk r => exact ⟨_, h⟩
theorem SR.mem {S : Store} (R : SR W μ S H) {a : Addr} (h : a ∈ μ) : ∃ u, H a = some u := by
  obtain ⟨n, hn, e⟩ := List.mem_iff_getElem.mp h
  have hn2 : n < S.length := by rw [← R.len]; exact hn
  exact (R.at_ n S[n] a (List.getElem?_eq_getElem hn2) (by rw [List.getElem?_eq_getElem hn, e])).inv
theorem SR.free {S : Store} (R : SR W μ S H) {p : Addr} (hp : H p = none) : p ∉ μ := fun h => by
  obtain ⟨vs, q⟩ := R.mem h
  rw [hp] at q; cases q
theorem SR.freeZ {S : Store} (R : SR W μ S H) {p : Addr} (hp : H p = none) : ¬ W.Z p := fun h => by
  obtain ⟨o, ho, _⟩ := R.zz p h
  rw [hp] at ho
  cases ho
/-- something new that is no place of the store -/
theorem ext_new {p : Addr} {o : HO} (hp : H p = none) : Ext μ H μ (upd H p o) :=
  ⟨⟨[], by simp⟩, fun a u h n _ => ⟨by rw [upd_ne (ne_of_none h hp)]; exact h, n⟩, .new hp⟩
theorem SR.zz_new {S : Store} {p b : Addr} {o : HO} (R : SR W μ S H) (hp : H p = none) (hb : W.Z b) : ∃ u, upd H p o b = some u ∧ Nt u := by
  obtain ⟨u, hu, nt⟩ := R.zz b hb
  exact ⟨u, by rw [upd_ne (ne_of_none hu hp)]; exact hu, nt⟩
theorem SR.step {S : Store} (R : SR W μ S H) (e : ExtZ W.Z μ H μ H') (hm : ∀ a ∈ μ, H' a = H a) (hz : ∀ b, W.Z b → ∃ o, H' b = some o ∧ Nt o) (ht : LamX.Tabs W.lk.T H') : SR W μ S H' := by
  exact ⟨R.len, R.nd, fun n o a h1 h2 => (R.at_ n o a h1 h2).move e (hm a (List.mem_of_getElem? h2)), hz, R.zm, ht⟩
theorem SR.new {S : Store} {p : Addr} {o : HO} (R : SR W μ S H) (hp : H p = none) : SR W μ S (upd H p o) :=
  R.step (ext_new hp).z (fun a h => by
    obtain ⟨vs, q⟩ := R.mem h
    exact upd_ne (ne_of_none q hp)) (fun b hb => R.zz_new hp hb) (tabs_new R.tb hp)
theorem ext_alloc {p : Addr} {o : HO} (hp : H p = none) : Ext μ H (μ ++ [p]) (upd H p o) :=
  ⟨⟨[p], rfl⟩, fun a u h n _ => ⟨by rw [upd_ne (ne_of_none h hp)]; exact h, by
    simp only [List.mem_append, List.mem_singleton, not_or]
    exact ⟨n, ne_of_none h hp⟩⟩, .new hp⟩
theorem SR.alloc {S : Store} {p : Addr} {ds : List D} {vs : List V} (R : SR W μ S H) (hp : H p = none) (r : VRs W μ H ds vs) : SR W (μ ++ [p]) (S ++ [.lst ds]) (upd H p (.lst vs)) := by
  have e := (ext_alloc (μ := μ) (o := .lst vs) hp)
  refine ⟨by simp [R.len], ?_, fun n o a h1 h2 => ?_, fun b hb => ?_, fun b hb => ?_, tabs_new R.tb hp⟩
  · rw [List.nodup_append]
    refine ⟨R.nd, by simp, fun a ha b hb => ?_⟩
    have : b = p := by simpa using hb
    subst this
    exact fun q => R.free hp (q ▸ ha)
  · by_cases hn : n < S.length
    · rw [List.getElem?_append_left hn] at h1
      rw [List.getElem?_append_left (by rw [R.len]; exact hn)] at h2
      obtain ⟨u, hu⟩ := R.mem (List.mem_of_getElem? h2)
      exact (R.at_ n o a h1 h2).move e.z (upd_ne (ne_of_none hu hp))
    · have hn' : n = S.length := by
        have := (List.getElem?_eq_some_iff.mp h1).1
        simp at this
        omega
      subst hn'
      rw [List.getElem?_append_right (Nat.le_refl _)] at h1
      rw [List.getElem?_append_right (by rw [R.len]; exact Nat.le_refl _)] at h2
      simp [R.len] at h1 h2
      subst h1 h2
      exact .lst upd_same (r.ext e.z)
  · exact R.zz_new hp hb
  · simp only [List.mem_append, List.mem_singleton, not_or]
    exact ⟨R.zm b hb, fun q => R.freeZ hp (q ▸ hb)⟩
theorem SR.allocD {S : Store} {p : Addr} (R : SR W μ S H) (hp : H p = none) : SR W (μ ++ [p]) (S ++ [.dct []]) (upd H p (.dK [])) := by
  have e := (ext_alloc (μ := μ) (o := .dK []) hp)
  refine ⟨by simp [R.len], ?_, fun n o a h1 h2 => ?_, fun b hb => ?_, fun b hb => ?_, tabs_new R.tb hp⟩
  · rw [List.nodup_append]
    refine ⟨R.nd, by simp, fun a ha b hb => ?_⟩
    have : b = p := by simpa using hb
    subst this
    exact fun q => R.free hp (q ▸ ha)
  · by_cases hn : n < S.length
    · rw [List.getElem?_append_left hn] at h1
      rw [List.getElem?_append_left (by rw [R.len]; exact hn)] at h2
      obtain ⟨u, hu⟩ := R.mem (List.mem_of_getElem? h2)
      exact (R.at_ n o a h1 h2).move e.z (upd_ne (ne_of_none hu hp))
    · have hn' : n = S.length := by
        have := (List.getElem?_eq_some_iff.mp h1).1
        simp at this
        omega
      subst hn'
      rw [List.getElem?_append_right (Nat.le_refl _)] at h1
      rw [List.getElem?_append_right (by rw [R.len]; exact Nat.le_refl _)] at h2
      simp [R.len] at h1 h2
      subst h1 h2
      exact .dct upd_same rfl .nil
  · exact R.zz_new hp hb
  · simp only [List.mem_append, List.mem_singleton, not_or]
    exact ⟨R.zm b hb, fun q => R.freeZ hp (q ▸ hb)⟩
theorem SR.lamN {S : Store} (R : SR W μ S H) (e : LamX.ExtN H H') (t : LamX.Tabs W.lk.T H') : SR W μ S H' ∧ Ext μ H μ H' := by
  have kin : Kin H H' := ⟨fun a vs h => ⟨vs, e a _ h Nt.lst⟩, fun a us h => ⟨us, e a _ h Nt.dK⟩⟩
  have x : Ext μ H μ H' := ⟨⟨[], by simp⟩, fun a o h n nt => ⟨e a o h nt, n⟩, kin⟩
  refine ⟨R.step x.z (fun a ha => ?_) (fun b hb => ?_) t, x⟩
  · obtain ⟨n, hn, ea⟩ := List.mem_iff_getElem.mp ha
    have hn2 : n < S.length := by rw [← R.len]; exact hn
    have q := R.at_ n S[n] a (List.getElem?_eq_getElem hn2) (by rw [List.getElem?_eq_getElem hn, ea])
    generalize S[n] = ob at q
    cases q with
    | lst h r => rw [h]; exact e a _ h Nt.lst
    | dct h hk r => rw [h]; exact e a _ h Nt.dK
  · obtain ⟨u, hu, nt⟩ := R.zz b hb
    exact ⟨u, e b u hu nt, nt⟩
theorem ext_write {a : Addr} {xs ys : List V} (h : a ∈ μ) (hl : H a = some (.lst xs)) : Ext μ H μ (upd H a (.lst ys)) :=
  ⟨⟨[], by simp⟩, fun b u e n _ => ⟨by rw [upd_ne (fun q => n (by rw [q]; exact h))]; exact e, n⟩, .lst hl⟩
theorem ext_writeD {a : Addr} {xs ys : List (Key × V)} (h : a ∈ μ) (hl : H a = some (.dK xs)) : Ext μ H μ (upd H a (.dK ys)) :=
  ⟨⟨[], by simp⟩, fun b u e n _ => ⟨by rw [upd_ne (fun q => n (by rw [q]; exact h))]; exact e, n⟩, .dct hl⟩
theorem SR.put {S : Store} {n : Nat} {a : Addr} {o : HO} {ob : Ob} (R : SR W μ S H) (hn : μ[n]? = some a) (e : Ext μ H μ (upd H a o)) (q : ObR W μ (upd H a o) ob a) : SR W μ (S.set n ob) (upd H a o) := by
  have hn2 : n < S.length := by rw [← R.len]; exact (List.getElem?_eq_some_iff.mp hn).1
  have ht : LamX.Tabs W.lk.T (upd H a o) := by
    have q0 := R.at_ n _ a (List.getElem?_eq_getElem hn2) hn
    generalize S[n] = ob0 at q0
    cases q0 with
    | lst h r => exact tabs_lst R.tb h
    | dct h hk r => exact tabs_dK R.tb h
  refine ⟨by simp [R.len], R.nd, fun m o b h1 h2 => ?_, fun b hb => ?_, R.zm, ht⟩
  · by_cases hm : m = n
    · subst hm
      rw [hn] at h2; cases h2
      have hl : m < S.length := by
        have := (List.getElem?_eq_some_iff.mp hn).1
        rw [R.len] at this; exact this
      rw [List.getElem?_set_self hl] at h1; cases h1
      exact q
    · rw [List.getElem?_set_ne (Ne.symm hm)] at h1
      refine (R.at_ m o b h1 h2).move e.z (upd_ne fun z => ?_)
      subst z
      obtain ⟨l1, e1⟩ := List.getElem?_eq_some_iff.mp hn
      obtain ⟨l2, e2⟩ := List.getElem?_eq_some_iff.mp h2
      exact hm ((List.getElem_inj R.nd).mp (e2.trans e1.symm))
  · obtain ⟨u, hu, nt⟩ := R.zz b hb
    exact ⟨u, by rw [upd_ne fun z => R.zm b hb (by rw [z]; exact List.mem_of_getElem? hn)]; exact hu, nt⟩
theorem SR.write {S : Store} {n : Nat} {a : Addr} {ds : List D} {xs vs : List V} (R : SR W μ S H) (hn : μ[n]? = some a) (hl : H a = some (.lst xs)) (r : VRs W μ H ds vs) : SR W μ (S.set n (.lst ds)) (upd H a (.lst vs)) := by
  have e := ext_write (ys := vs) (List.mem_of_getElem? hn) hl
  exact R.put hn e (.lst upd_same (r.ext e.z))
theorem SR.list {S : Store} (R : SR W μ S H) {n : Nat} {xs : List D} (h : S[n]? = some (.lst xs)) : ∃ a vs, μ[n]? = some a ∧ H a = some (.lst vs) ∧ VRs W μ H xs vs := by
  have hl : n < μ.length := by rw [R.len]; exact (List.getElem?_eq_some_iff.mp h).1
  have q := R.at_ n _ μ[n] h (List.getElem?_eq_getElem hl)
  cases q with
  | lst e r => exact ⟨_, _, List.getElem?_eq_getElem hl, e, r⟩
theorem SR.dict {S : Store} (R : SR W μ S H) {n : Nat} {kvs : List (Int × D)} (h : S[n]? = some (.dct kvs)) : ∃ a us, μ[n]? = some a ∧ H a = some (.dK us) ∧ us.map (·.1) = kvs.map (fun p => .inl p.1) ∧ VRs W μ H (kvs.map (·.2)) (us.map (·.2)) := by
  have hl : n < μ.length := by rw [R.len]; exact (List.getElem?_eq_some_iff.mp h).1
  have q := R.at_ n _ μ[n] h (List.getElem?_eq_getElem hl)
  cases q with
  | dct e hk r => exact ⟨_, _, List.getElem?_eq_getElem hl, e, hk, r⟩
theorem VR.dct {S : Store} (R : SR W μ S H) {d : D} {v : V} {kvs : List (Int × D)} (r : VR W μ H d v) (h : dctAt S d = some kvs) : ∃ n a us, d = .dic n ∧ v = .ref a ∧ μ[n]? = some a ∧ S[n]? = some (.dct kvs) ∧ H a = some (.dK us) ∧ us.map (·.1) = kvs.map (fun p => .inl p.1) ∧ VRs W μ H (kvs.map (·.2)) (us.map (·.2)) := by
  cases r with
  | @dic a n e _ =>
    simp only [dctAt] at h
    split at h
    · next ks q =>
      have : ks = kvs := Option.some.inj h
      subst this
      obtain ⟨a', us, e1, e2, e3, e4⟩ := R.dict q
      rw [e] at e1; cases e1
      exact ⟨n, a, us, rfl, rfl, e, q, e2, e3, e4⟩
    · cases h
  | _ => simp [dctAt] at h
theorem dr_get : ∀ {kvs : List (Int × D)} {us : List (Key × V)}, us.map (·.1) = kvs.map (fun p => .inl p.1) → VRs W μ H (kvs.map (·.2)) (us.map (·.2)) → ∀ k : Int, (∀ d, getI kvs k = some d → ∃ v, valV us (.inl k) = some v ∧ VR W μ H d v) ∧ (getI kvs k = none → valV us (.inl k) = none)
  | [], us, hk, r, k => by
    cases us with
    | nil => exact ⟨fun d h => (by cases h), fun _ => rfl⟩
    | cons q us => simp at hk
  | p :: kvs, us, hk, r, k => by
    cases us with
    | nil => simp at hk
    | cons q us =>
      simp only [List.map_cons, List.cons.injEq] at hk
      rw [List.map_cons, List.map_cons] at r
      cases r with
      | cons h r =>
        obtain ⟨i1, i2⟩ := dr_get hk.2 r k
        by_cases e : p.1 = k
        · refine ⟨fun d hd => ?_, fun hn => ?_⟩
          · unfold getI at hd
            rw [if_pos e] at hd
            cases hd
            exact ⟨q.2, valV_pos (by rw [hk.1, e]), h⟩
          · unfold getI at hn
            rw [if_pos e] at hn
            cases hn
        · have ne : ¬ q.1 = .inl k := fun z => e (by rw [hk.1] at z; cases z; rfl)
          refine ⟨fun d hd => ?_, fun hn => ?_⟩
          · unfold getI at hd
            rw [if_neg e] at hd
            obtain ⟨v, h1, h2⟩ := i1 d hd
            exact ⟨v, by rw [valV_neg ne]; exact h1, h2⟩
          · unfold getI at hn
            rw [if_neg e] at hn
            rw [valV_neg ne]
            exact i2 hn
theorem dr_map {d : D} {v : V} (hv : VR W μ H d v) (k : Int) : ∀ {kvs : List (Int × D)} {us : List (Key × V)}, us.map (·.1) = kvs.map (fun p => .inl p.1) → VRs W μ H (kvs.map (·.2)) (us.map (·.2)) →
    (us.map fun kv => if kv.1 = .inl k then (kv.1, v) else kv).map (·.1) = (kvs.map fun p => if p.1 = k then (p.1, d) else p).map (fun p => (.inl p.1 : Key)) ∧ VRs W μ H ((kvs.map fun p => if p.1 = k then (p.1, d) else p).map (·.2)) ((us.map fun kv => if kv.1 = .inl k then (kv.1, v) else kv).map (·.2))
  | [], us, hk, r => by
    cases us with
    | nil => exact ⟨rfl, .nil⟩
    | cons q us => simp at hk
  | p :: kvs, us, hk, r => by
    cases us with
    | nil => simp at hk
    | cons q us =>
      simp only [List.map_cons, List.cons.injEq] at hk
      rw [List.map_cons, List.map_cons] at r
      cases r with
      | cons h r =>
        obtain ⟨i1, i2⟩ := dr_map hv k hk.2 r
        by_cases e : p.1 = k
        · have eq : q.1 = .inl k := by rw [hk.1, e]
          simp only [List.map_cons, if_pos e, if_pos eq, List.cons.injEq]
          exact ⟨⟨hk.1, i1⟩, .cons hv i2⟩
        · have ne : ¬ q.1 = .inl k := fun z => e (by rw [hk.1] at z; cases z; rfl)
          simp only [List.map_cons, if_neg e, if_neg ne, List.cons.injEq]
          exact ⟨⟨hk.1, i1⟩, .cons h i2⟩
theorem dr_put {d : D} {v : V} (hv : VR W μ H d v) (k : Int) {kvs : List (Int × D)} {us : List (Key × V)} (hk : us.map (·.1) = kvs.map (fun p => .inl p.1)) (r : VRs W μ H (kvs.map (·.2)) (us.map (·.2))) :
    (putK us (.inl k) v).map (·.1) = (putI kvs k d).map (fun p => (.inl p.1 : Key)) ∧ VRs W μ H ((putI kvs k d).map (·.2)) ((putK us (.inl k) v).map (·.2)) := by
  obtain ⟨g1, g2⟩ := dr_get hk r k
  unfold putK putI
  rw [valV_any]
  cases hg : getI kvs k with
  | none =>
    rw [g2 hg, if_neg (by simp), if_neg (by simp)]
    refine ⟨by rw [List.map_append, List.map_append, hk]; rfl, ?_⟩
    rw [List.map_append, List.map_append]
    exact r.app (.cons hv .nil)
  | some e =>
    obtain ⟨w, hw, _⟩ := g1 e hg
    rw [hw, if_pos (by simp), if_pos (by simp)]
    exact dr_map hv k hk r
/-- what is a list is read as one -/
theorem VR.lstL {S : Store} (R : SR W μ S H) {d : D} {v : V} {xs : List D} (r : VR W μ H d v) (h : lstAt S d = some xs) : ∃ a vs, v = .ref a ∧ H a = some (.lst vs) ∧ VRs W μ H xs vs := by
  cases r with
  | lst h1 n z r =>
    have : _ = xs := Option.some.inj h
    subst this
    exact ⟨_, _, rfl, h1, r⟩
  | @loc a n e _ =>
    simp only [lstAt] at h
    split at h
    · next ys q =>
      have : ys = xs := Option.some.inj h
      subst this
      obtain ⟨a', vs, e1, e2, r⟩ := R.list q
      rw [e] at e1; cases e1
      exact ⟨_, _, rfl, e2, r⟩
    · cases h
  | _ => simp [lstAt] at h
theorem VR.seqL {S : Store} (R : SR W μ S H) {d : D} {v : V} {xs : List D} (r : VR W μ H d v) (h : seqAt S d = some xs) : ∃ a vs, v = .ref a ∧ SqL W.K H a vs ∧ VRs W μ H xs vs := by
  cases r with
  | lst h1 n z r =>
    have : _ = xs := Option.some.inj h
    subst this
    exact ⟨_, _, rfl, .inl (.inl h1), r⟩
  | frz h1 n z r =>
    have : _ = xs := Option.some.inj h
    subst this
    exact ⟨_, _, rfl, .inl h1, r⟩
  | frzK h1 r =>
    have : _ = xs := Option.some.inj h
    subst this
    exact ⟨_, _, rfl, .inr h1, r⟩
  | @loc a n e _ =>
    simp only [seqAt] at h
    split at h
    · next ys q =>
      have : ys = xs := Option.some.inj h
      subst this
      obtain ⟨a', vs, e1, e2, r⟩ := R.list q
      rw [e] at e1; cases e1
      exact ⟨_, _, rfl, .inl (.inl e2), r⟩
    · cases h
  | _ => simp [seqAt] at h
theorem VR.seqT {xs : List D} {v : V} (r : VR W μ H (.tup xs) v) : ∃ a vs, v = .ref a ∧ SqT W.K H a vs ∧ VRs W μ H xs vs := by
  cases r with
  | tup h1 n z r => exact ⟨_, _, rfl, .inl h1, r⟩
  | tupK h1 r => exact ⟨_, _, rfl, .inr h1, r⟩
theorem VR.seq {S : Store} (R : SR W μ S H) {d : D} {v : V} {xs : List D} (r : VR W μ H d v) (h : seqOf S d = some xs) : ∃ a vs, v = .ref a ∧ (SqL W.K H a vs ∨ SqT W.K H a vs) ∧ VRs W μ H xs vs := by
  unfold seqOf at h
  split at h
  · next ys =>
    have : ys = xs := Option.some.inj h
    subst this
    obtain ⟨a, vs, e, q, r⟩ := r.seqT
    exact ⟨a, vs, e, .inr q, r⟩
  · obtain ⟨a, vs, e, q, r⟩ := r.seqL R h
    exact ⟨a, vs, e, .inl q, r⟩
end
section
variable {W : Wd} {μ : List Addr} {H : Hp} {S : Store} {L : Addr}
/-- a new list set apart -/
theorem SR.more {o : HO} (R : SR W μ S H) (hp : H L = none) (nt : Nt o) : SR (W.z fun b => W.Z b ∨ b = L) μ S (upd H L o) := by
  refine ⟨R.len, R.nd, fun n ob a h1 h2 => ?_, fun b hb => ?_, fun b hb => ?_, tabs_new R.tb hp⟩
  · have q := R.at_ n ob a h1 h2
    cases q with
    | lst h r =>
      refine .lst ?_ (VRs.ext (W := W.z fun b => W.Z b ∨ b = L) (ext_new hp).z (r.more hp))
      rw [upd_ne (ne_of_none h hp)]; exact h
    | dct h hk r =>
      refine .dct ?_ hk (VRs.ext (W := W.z fun b => W.Z b ∨ b = L) (ext_new hp).z (r.more hp))
      rw [upd_ne (ne_of_none h hp)]; exact h
  · rcases hb with hb | hb
    · exact R.zz_new hp hb
    · subst hb; exact ⟨o, upd_same, nt⟩
  · rcases hb with hb | hb
    · exact R.zm b hb
    · subst hb; exact R.free hp
end
end Th
namespace Th
open PySem PySem.Spec PyProof.Rows L2
section
variable {X : Cx} {σ : L2.St} {H : Hp}
def U (X : Cx) (e : Expr) : TE := fun σ H Q => ∀ (pins : List (Addr × Obj)) (s : Shared), L2.Inv X pins σ H s → wpAny (model X.prog X.w) X.A (eval e X.env) (EP X pins σ Q) X.xe s
def UT (X : Cx) (e : Expr) : TT := fun σ H Q => ∀ (pins : List (Addr × Obj)) (s : Shared), L2.Inv X pins σ H s → wpAny (model X.prog X.w) X.A (isTrue e X.env (eval e X.env)) (TP X pins σ Q) X.xe s
def UW (X : Cx) (e : Expr) : TT := fun σ H Q => ∀ (whole : Sem Value) (pins : List (Addr × Obj)) (s : Shared), L2.Inv X pins σ H s → wpAny (model X.prog X.w) X.A (isTrue e X.env whole) (TP X pins σ Q) X.xe s
def UA (X : Cx) (es : List Expr) : TA := fun σ H Q => ∀ (pos : Pos) (pins : List (Addr × Obj)) (s : Shared), L2.Inv X pins σ H s → wpAny (model X.prog X.w) X.A (spliced (backTo pos (starEach es X.env))) (AP X pins σ Q) X.xe s
def UO (X : Cx) (e : Option Expr) : TO := fun σ H Q => ∀ (pins : List (Addr × Obj)) (s : Shared), L2.Inv X pins σ H s → wpAny (model X.prog X.w) X.A (evalPart e X.env) (fun u s' => ∃ o H', L2.Inv X pins σ H' s' ∧ IsPart u o ∧ Q o H') X.xe s
def UI (X : Cx) (tg e : Expr) : TI := fun σ H R => ∀ (pins : List (Addr × Obj)) (s : Shared), L2.Inv X pins σ H s → wpAny (model X.prog X.w) X.A (eval e X.env) (fun v s1 => wpAny (model X.prog X.w) X.A (pyIter v) (PIE X pins σ tg R) X.xe s1) X.xe s
def UG (X : Cx) (tg : Expr) : TG := fun v σ H Q => ∀ (pins : List (Addr × Obj)) (s : Shared) (u : Value), L2.Inv X pins σ H s → RelV v u → wpAny (model X.prog X.w) X.A (assign tg X.env u) (fun _ s' => ∃ σ' H', L2.Inv X pins σ' H' s' ∧ Q σ' H') X.xe s
def US (X : Cx) (st : Stmt) : TS := fun D σ H => ∀ (pins : List (Addr × Obj)) (s : Shared), L2.Inv X pins σ H s → wpAny (model X.prog X.w) X.A (exec st X.env) (SP X pins D) X.xe s
def USs (X : Cx) (st : List Stmt) : TS := fun D σ H => ∀ (pins : List (Addr × Obj)) (s : Shared), L2.Inv X pins σ H s → wpAny (model X.prog X.w) X.A (execs st X.env) (SP X pins D) X.xe s
def UK (X : Cx) (kws : List Keyword) : TA := fun σ H Q => ∀ (pos : Pos) (pins : List (Addr × Obj)) (s : Shared), L2.Inv X pins σ H s → wpAny (model X.prog X.w) X.A (evalAll ((backToKw pos (keywordEach kws X.env)).map (·.2))) (AP X pins σ Q) X.xe s
theorem U.pe (e : Expr) : PE X e (U X e) := ⟨fun pins s σ H Q I h => h pins s I⟩
theorem UT.pt (e : Expr) : PT X e (UT X e) := ⟨fun pins s σ H Q I h => h pins s I⟩
theorem UW.pw (e : Expr) : PW X e (UW X e) := ⟨fun w pins s σ H Q I h => h w pins s I⟩
theorem UA.pa (es : List Expr) : PA X es (UA X es) := ⟨fun pos pins s σ H Q I h => h pos pins s I⟩
theorem UO.po (e : Option Expr) : PO X e (UO X e) := ⟨fun pins s σ H Q I h => h pins s I⟩
theorem UI.pi (tg e : Expr) : PI X tg e (UI X tg e) := ⟨fun pins s σ H Q I h => h pins s I⟩
theorem UG.pg (tg : Expr) : PG X tg (UG X tg) := ⟨fun pins s σ H v u Q I r h => h pins s u I r⟩
theorem US.ps (st : Stmt) : PS X st (US X st) := ⟨fun pins s σ H D I h => h pins s I⟩
theorem USs.pss (st : List Stmt) : PSs X st (USs X st) := ⟨fun pins s σ H D I h => h pins s I⟩
theorem U.of {e : Expr} {t : TE} {Q : VK} (h : PE X e t) (q : t σ H Q) : U X e σ H Q := fun pins s I => h.run pins s σ H Q I q
theorem UT.of {e : Expr} {t : TT} {Q : Bool → Hp → Prop} (h : PT X e t) (q : t σ H Q) : UT X e σ H Q := fun pins s I => h.run pins s σ H Q I q
theorem UW.of {e : Expr} {t : TT} {Q : Bool → Hp → Prop} (h : PW X e t) (q : t σ H Q) : UW X e σ H Q := fun w pins s I => h.run w pins s σ H Q I q
theorem UA.of {es : List Expr} {t : TA} {Q : List V → Hp → Prop} (h : PA X es t) (q : t σ H Q) : UA X es σ H Q := fun pos pins s I => h.run pos pins s σ H Q I q
theorem UO.of {e : Option Expr} {t : TO} {Q : Option Int → Hp → Prop} (h : PO X e t) (q : t σ H Q) : UO X e σ H Q := fun pins s I => h.run pins s σ H Q I q
theorem UI.of {tg e : Expr} {t : TI} {Q : L2.It → Hp → Prop} (h : PI X tg e t) (q : t σ H Q) : UI X tg e σ H Q := fun pins s I => h.run pins s σ H Q I q
theorem UG.of {tg : Expr} {t : TG} {v : V} {Q : L2.St → Hp → Prop} (h : PG X tg t) (q : t v σ H Q) : UG X tg v σ H Q := fun pins s u I r => h.run pins s σ H v u Q I r q
theorem US.of {st : Stmt} {t : TS} {D : Ends} (h : PS X st t) (q : t D σ H) : US X st D σ H := fun pins s I => h.run pins s σ H D I q
theorem USs.of {st : List Stmt} {t : TS} {D : Ends} (h : PSs X st t) (q : t D σ H) : USs X st D σ H := fun pins s I => h.run pins s σ H D I q
theorem U.mono {e : Expr} {Q Q' : VK} (h : U X e σ H Q) (q : ∀ v H', Q v H' → Q' v H') : U X e σ H Q' := fun pins s I => thn (h pins s I) fun _ _ ⟨v, H', I', r, z⟩ => ⟨v, H', I', r, q v H' z⟩
end
def K1 {α : Type} (r : Out α) (ok : α → Store → Prop) (ex : Exn → Store → Prop) : Prop := match r with
  | .ok a S => ok a S
  | .exc x S => ex x S
  | .bad => False
theorem K1.bnd {α β : Type} {r : Out α} {k : α → Store → Out β} {ok : β → Store → Prop} {ex : Exn → Store → Prop} (h : K1 (r.bind k) ok ex) : K1 r (fun a S => K1 (k a S) ok ex) ex := by
  cases r with
  | ok a S => exact h
  | exc x S => exact h
  | bad => exact h
theorem K1.imp {α : Type} {r : Out α} {ok ok' : α → Store → Prop} {ex ex' : Exn → Store → Prop} (h : K1 r ok ex) (a : ∀ d S, ok d S → ok' d S) (b : ∀ x S, ex x S → ex' x S) : K1 r ok' ex' := by
  cases r with
  | ok d S => exact a _ _ h
  | exc x S => exact b _ _ h
  | bad => exact h
theorem K1.off {α : Type} {o : Option α} {S : Store} {ok : α → Store → Prop} {ex : Exn → Store → Prop} (h : K1 (Out.of o S) ok ex) : ∃ a, o = some a ∧ ok a S := by
  cases o with
  | none => exact h.elim
  | some a => exact ⟨a, rfl, h⟩
/-- an exception as it flies -/
def XR (W : Wd) (μ : List Addr) (H : Hp) (x : Exn) (cls : Value) (d : Option Addr) : Prop :=
  cls = .ref (W.lk.ca x.c) ∧ match d with
    | none => x.fs = []
    | some dd => ∃ (n : Nat) (e : D) (v : V), W.P.xf x.c = some n ∧ x.fs = [e] ∧ H dd = some (.xd [(W.P.nm n, v)]) ∧ dd ∉ μ ∧ ¬ W.Z dd ∧ VR W μ H e v
def XW (W : Wd) (X : Cx) (μ : List Addr) (H : Hp) (σ : L2.St) (x : Exn) (S : Store) : Prop :=
  ∃ Wx : WX, Takes X Wx ∧ ∀ μ' H' cls dd, SR W μ' S H' → Ext μ H μ' H' → XR W μ' H' x cls dd → Wx cls dd σ H'
theorem XW.later {W : Wd} {X : Cx} {μ μ1 : List Addr} {H H1 : Hp} {σ : L2.St} {x : Exn} {S : Store} (h : XW W X μ H σ x S) (e : Ext μ H μ1 H1) : XW W X μ1 H1 σ x S := by
  obtain ⟨Wx, tk, q⟩ := h
  exact ⟨Wx, tk, fun μ' H' cls dd R E r => q μ' H' cls dd R (e.trans E) r⟩
def OkP (W : Wd) (μ : List Addr) (H : Hp) (Q : VK) (d : D) (S : Store) : Prop := ∀ μ' H' v, SR W μ' S H' → Ext μ H μ' H' → VR W μ' H' d v → Q v H'
/-- the object that is being made: where, its dict, its class -/
structure Own where
  a : Addr
  dx : Addr
  c : Nat
structure FR (W : Wd) (me : Option Own) (μ : List Addr) (H : Hp) (f : Fr) (σ : L2.St) : Prop where
  len : σ.length = f.ρ.length
  at_ : ∀ (i : Nat) (d : D), f.ρ[i]? = some (some d) → ∃ v, σ[i]? = some (some v) ∧ VR W μ H d v
  own : match me with
    | none => f.φ = []
    | some o => W.Z o.a ∧ σ[0]? = some (some (.ref o.a)) ∧ f.ρ[0]? = some none ∧ (∃ fs : List (Str × V), H o.a = some (.ins (W.lk.ca o.c) o.dx fs) ∧ fs.map (·.1) = f.φ.map (fun p => W.P.nm p.1) ∧ VRs W μ H (f.φ.map (·.2)) (fs.map (·.2))) ∧ (W.lk.hasC o.c = true ∧ ∃ kl, W.P.cl o.c = some kl) ∧ ∀ b ∈ f.φ.map (·.1), W.lk.fl b = true
theorem FR.ext {W : Wd} {me : Option Own} {μ μ' : List Addr} {H H' : Hp} {f : Fr} {σ : L2.St} (r : FR W me μ H f σ) (e : Ext μ H μ' H') (hz : ∀ b, W.Z b → b ∉ μ) : FR W me μ' H' f σ := by
  refine ⟨r.len, fun i d h => ?_, ?_⟩
  · obtain ⟨v, h1, h2⟩ := r.at_ i d h
    exact ⟨v, h1, h2.ext e.z⟩
  · have q := r.own
    cases me with
    | none => exact q
    | some o =>
      obtain ⟨z, h0, hr, ⟨fs, h1, h2, h3⟩, h4⟩ := q
      exact ⟨z, h0, hr, ⟨fs, (e.keep _ _ h1 (hz _ z) .ins).1, h2, h3.ext e.z⟩, h4⟩
def visB (sc : Scope) (x : Str) : Bool := match sc.names.lookup x with
  | some .local => true
  | some .cell => true
  | some .free => true
  | _ => false
def locB (sc : Scope) (x : Str) : Bool := match sc.names.lookup x with
  | some .local => true
  | _ => false
def glB (sc : Scope) (x : Str) : Bool := match sc.names.lookup x with
  | some .globalImplicit => true
  | _ => false
def plainN (x : Str) : Bool := !(x == ("__debug__" : Str)) && !(x == ("__classdict__" : Str)) && !(x == ("__name__" : Str))
def opB : Bop → Operator → Bool
  | .add, .Add => true
  | .sub, .Sub => true
  | .mul, .Mult => true
  | .fdiv, .FloorDiv => true
  | .mod, .Mod => true
  | .pow, .Pow => true
  | _, _ => false
def copB : Cop → CmpOp → Bool
  | .eq, .Eq => true
  | .ne, .NotEq => true
  | .lt, .Lt => true
  | .le, .LtE => true
  | .gt, .Gt => true
  | .ge, .GtE => true
  | .isN, .Is => true
  | .notN, .IsNot => true
  | .in_, .In => true
  | .notIn, .NotIn => true
  | _, _ => false
/-- a test that is looked at by its value -/
def plainT : Expr → Bool
  | .BoolOp .. => false
  | .UnaryOp .Not _ _ => false
  | .Compare .. => false
  | .IfExp .. => false
  | _ => true
def isNone : Expr → Bool
  | .Constant .none _ _ => true
  | _ => false
def isTF : Expr → Bool
  | .Constant (.bool _) _ _ => true
  | _ => false
def biN : Bi → Str
  | .len => "len" | .abs => "abs" | .sum => "sum" | .all => "all" | .any => "any" | .max => "max" | .min => "min" | .max2 => "max" | .min2 => "min"
  | .sorted => "sorted" | .tuple => "tuple" | .list => "list" | .int => "int" | .divmod => "divmod" | .repr => "repr" | .str => "str"
/-- the built-in names that the text may use -/
def bltNames : List Str := ["len", "abs", "sum", "all", "any", "max", "min", "sorted", "tuple", "list", "int", "divmod", "repr", "str", "isinstance", "range", "enumerate", "zip", "bool", "dict", "set"]
def tyB (P : Pr) (lk : Chk) (sc : Scope) : Ty → Expr → Bool
  | .ty n, .Name x _ => glB sc x && plainN x && (n ∈ ["int", "bool", "str", "tuple", "list", "dict"]) && x == Str.ofString n
  | .cls c, .Name x _ => glB sc x && plainN x && lk.hasC c && P.nm c == x
  | _, _ => false
def tysB (P : Pr) (lk : Chk) (sc : Scope) : List Ty → List Expr → Bool
  | [], [] => true
  | t :: ts, e :: es => tyB P lk sc t e && tysB P lk sc ts es
  | _, _ => false
def ownB (N : List Str) (names : List (Str × NameKind)) (own : List Nat) : List (Str × Nat) := own.map fun i => (N.getD i "", i)
/-- a name that a block shares -/
def cellIn (fs : Option Scope) (x : Str) : Bool := match fs with
  | none => true
  | some scope => scope.names.lookup x == some .cell
def asBl : Expr → Option Bool
  | .Constant (.bool b) _ _ => some b
  | _ => none
def asInt : Expr → Option Int
  | .Constant (.int b) _ _ => some b
  | _ => none
def asStr : Expr → Option Str
  | .Constant (.str b) _ _ => some b
  | _ => none
def asName : Expr → Option Str
  | .Name x _ => some x
  | _ => none
def asBin : Expr → Option (Expr × Operator × Expr)
  | .BinOp l o r _ => some (l, o, r)
  | _ => none
def asUn : Expr → Option (UnaryOp × Expr)
  | .UnaryOp o l _ => some (o, l)
  | _ => none
def asBoo : Expr → Option (BoolOp × List Expr)
  | .BoolOp o l _ => some (o, l)
  | _ => none
def asCmp : Expr → Option (Expr × CmpOp × Expr)
  | .Compare l [o] [r] _ => some (l, o, r)
  | _ => none
def asChain : Expr → Option (Expr × CmpOp × CmpOp × Expr × Expr)
  | .Compare l [o, o'] [r, r'] _ => some (l, o, o', r, r')
  | _ => none
def asIf : Expr → Option (Expr × Expr × Expr)
  | .IfExp t a b _ => some (t, a, b)
  | _ => none
def isDct0 : Expr → Bool
  | .Dict [] [] _ => true
  | _ => false
theorem isDct0_eq {e : Expr} (h : isDct0 e = true) : ∃ p, e = .Dict [] [] p := by
  unfold isDct0 at h
  split at h
  · exact ⟨_, rfl⟩
  · cases h
/-- {k: v} -/
def asDct1 : Expr → Option (Expr × Expr)
  | .Dict [some k] [v] _ => some (k, v)
  | _ => none
theorem asDct1_eq {e k v : Expr} (h : asDct1 e = some (k, v)) : ∃ p, e = .Dict [some k] [v] p := by
  unfold asDct1 at h
  split at h
  · cases h; exact ⟨_, rfl⟩
  · cases h
/-- o.m(k = .., ..), on one line -/
def asMethK : Expr → Option (Expr × Str × List Keyword)
  | .Call (.Attribute o m p) [] ks q => if (p.endLine == q.line) = true then some (o, m, ks) else none
  | _ => none
theorem asMethK_eq {e o : Expr} {m : Str} {ks : List Keyword} (h : asMethK e = some (o, m, ks)) : ∃ p q, e = .Call (.Attribute o m p) [] ks q ∧ (p.endLine == q.line) = true := by
  unfold asMethK at h
  split at h
  · split at h
    · next c => cases h; exact ⟨_, _, rfl, c⟩
    · cases h
  · cases h
/-- which built-in asks which def -/
def dunB (w : Nat) (x nm : Str) : Bool := match w with
  | 0 => x == ("len" : Str) && nm == ("__len__" : Str)
  | 1 => x == ("repr" : Str) && nm == ("__repr__" : Str)
  | 2 => x == ("bool" : Str) && nm == ("__len__" : Str)
  | _ => false
def asDc : Expr → Option (Expr × Expr × Expr × Expr × Scope)
  | .DictComp k v [⟨t, i, [], 0⟩] scope _ => some (k, v, t, i, scope)
  | _ => none
theorem asDc_eq {e : Expr} {k v t i : Expr} {sc : Scope} (h : asDc e = some (k, v, t, i, sc)) : ∃ p, e = .DictComp k v [⟨t, i, [], 0⟩] sc p := by
  unfold asDc at h
  split at h
  · cases h; exact ⟨_, rfl⟩
  · cases h
def asStp : Expr → Option (Option Expr × Expr)
  | .Slice a none (some b) _ => some (a, b)
  | _ => none
theorem asStp_eq {e : Expr} {a : Option Expr} {b : Expr} (h : asStp e = some (a, b)) : ∃ p, e = .Slice a none (some b) p := by
  unfold asStp at h
  split at h
  · cases h; exact ⟨_, rfl⟩
  · cases h
def asSub : Expr → Option (Expr × Expr)
  | .Subscript a b _ => some (a, b)
  | _ => none
def asSlc : Expr → Option (Option Expr × Option Expr)
  | .Slice a b none _ => some (a, b)
  | _ => none
def asTup : Expr → Option (List Expr)
  | .Tuple es _ _ => some es
  | _ => none
def asLst : Expr → Option (List Expr)
  | .List es _ => some es
  | _ => none
def asStar : Expr → Option Expr
  | .Starred v _ => some v
  | _ => none
/-- f(..), the arguments by position -/
def asCall : Expr → Option (Str × List Expr)
  | .Call (.Name x _) es [] _ => some (x, es)
  | _ => none
/-- f(k = ..) -/
def asKall : Expr → Option (Str × List Keyword)
  | .Call (.Name x _) [] ks _ => some (x, ks)
  | _ => none
/-- o.m(..), on one line -/
def asMeth : Expr → Option (Expr × Str × List Expr)
  | .Call (.Attribute o m p) es [] q => if (p.endLine == q.line) = true then some (o, m, es) else none
  | _ => none
def asAtt : Expr → Option (Expr × Str)
  | .Attribute o m _ => some (o, m)
  | _ => none
/-- f"{l}t{r}" -/
def asFst : Expr → Option (Expr × Str × Expr)
  | .JoinedStr [.FormattedValue l (-1) none _, .Constant (.str t) _ _, .FormattedValue r (-1) none _] _ => some (l, t, r)
  | _ => none
theorem asFst_eq {e l r : Expr} {t : Str} (h : asFst e = some (l, t, r)) : ∃ p1 p2 p3 j p, e = .JoinedStr [.FormattedValue l (-1) none p1, .Constant (.str t) j p2, .FormattedValue r (-1) none p3] p := by
  unfold asFst at h
  split at h
  · cases h; exact ⟨_, _, _, _, _, rfl⟩
  · cases h
def asFm : Expr → Option (Str × Expr × Str)
  | .JoinedStr [.Constant (.str x) _ _, .FormattedValue a (-1) none _, .Constant (.str y) _ _] _ => some (x, a, y)
  | _ => none
theorem asFm_eq {e a : Expr} {x y : Str} (h : asFm e = some (x, a, y)) : ∃ j1 p1 p2 j3 p3 p, e = .JoinedStr [.Constant (.str x) j1 p1, .FormattedValue a (-1) none p2, .Constant (.str y) j3 p3] p := by
  unfold asFm at h
  split at h
  · cases h; exact ⟨_, _, _, _, _, _, rfl⟩
  · cases h
/-- f(lambda: e) -/
def asLam : Expr → Option (Str × Arguments × Expr × Scope)
  | .Call (.Name x _) [.Lambda ps b sc _] [] _ => some (x, ps, b, sc)
  | _ => none
theorem asLam_eq {e : Expr} {x : Str} {ps : Arguments} {b : Expr} {sc : Scope} (h : asLam e = some (x, ps, b, sc)) : ∃ p lp q, e = .Call (.Name x p) [.Lambda ps b sc lp] [] q := by
  unfold asLam at h
  split at h
  · cases h; exact ⟨_, _, _, rfl⟩
  · cases h
def noPar : Arguments → Bool
  | ⟨[], [], none, [], [], none, []⟩ => true
  | _ => false
theorem noPar_eq {p : Arguments} (h : noPar p = true) : p = ⟨[], [], none, [], [], none, []⟩ := by
  unfold noPar at h
  split at h
  · rfl
  · cases h
def asComp : Expr → Option (Expr × Expr × Expr × List Expr × Scope)
  | .ListComp l [⟨t, i, cs, 0⟩] scope _ => some (l, t, i, cs, scope)
  | _ => none
def asKw : Keyword → Option (Str × Expr)
  | ⟨some a, e, _⟩ => some (a, e)
  | _ => none
/-- an attribute's base that is read as it stands -/
def plainA : Expr → Bool
  | .Call _ [] _ _ => false
  | _ => true
def cmpOk (o : Cop) (op : CmpOp) (r : Expr) : Bool := copB o op && (!(o == .isN || o == .notN) || isNone r || isTF r)
mutual
/-- the names that a target sets -/
def tgIx : Tg → List Nat
  | .nm i => [i]
  | .tup ts => tgIxs ts
  | .sub _ _ => []
def tgIxs : List Tg → List Nat
  | [] => []
  | t :: ts => tgIx t ++ tgIxs ts
end
section
variable (P : Pr) (lk : Chk) (N : List Str) (ini : Bool)
mutual
def okE (sc : Scope) : Ex → Expr → Bool
  | .non, e => isNone e
  | .bl b, e => asBl e == some b
  | .int i, e => asInt e == some i
  | .str x, e => asStr e == some x
  | .v i, e => match asName e with
    | some x => decide (N[i]? = some x) && visB sc x && plainN x
    | none => false
  | .g k, e => match asName e with
    | some x => P.nm k == x && glB sc x && plainN x
    | none => false
  | .bin _ o a b, e => match asBin e with
    | some (l, op, r) => opB o op && okE sc a l && okE sc b r
    | none => false
  | .neg a, e => match asUn e with
    | some (.USub, l) => okE sc a l
    | _ => false
  | .not a, e => match asUn e with
    | some (.Not, l) => okE sc a l
    | _ => false
  | .and es, e => match asBoo e with
    | some (.And, vs) => okEs sc es vs && !es.isEmpty
    | _ => false
  | .or es, e => match asBoo e with
    | some (.Or, vs) => okEs sc es vs && !es.isEmpty
    | _ => false
  | .cmp o a b, e => match asCmp e with
    | some (l, op, r) => cmpOk o op r && okE sc a l && okE sc b r
    | none => false
  | .chain o o' a b c, e => match asChain e with
    | some (l, op, op', r, r') => cmpOk o op r && cmpOk o' op' r' && okE sc a l && okE sc b r && okE sc c r'
    | none => false
  | .ite t a b, e => match asIf e with
    | some (c, l, r) => okTe sc t c && okE sc a l && okE sc b r
    | none => false
  | .idx a i, e => match asSub e with
    | some (l, j) => okE sc a l && okE sc i j
    | none => false
  | .slc _ a lo hi, e => match asSub e with
    | some (l, j) => match asSlc j with
      | some (lo', hi') => okE sc a l && okO sc lo lo' && okO sc hi hi'
      | none => false
    | none => false
  | .tup es, e => match asTup e with
    | some vs => okEs sc es vs
    | none => false
  | .lst _ es, e => match asLst e with
    | some vs => okEs sc es vs
    | none => false
  | .cB _ f es, e => match asCall e with
    | some (x, vs) => biN f == x && glB sc x && okEs sc es vs && !es.isEmpty
    | none => false
  | .trg1 l _ a, e => match asCall e with
    | some (x, [r]) => x == (if l = true then ("list" : Str) else ("tuple" : Str)) && glB sc x && (match asCall r with
      | some (y, [v]) => y == ("range" : Str) && glB sc y && okE sc a v
      | _ => false)
    | _ => false
  | .trg2 l _ a b, e => match asCall e with
    | some (x, [r]) => x == (if l = true then ("list" : Str) else ("tuple" : Str)) && glB sc x && (match asCall r with
      | some (y, [v, w]) => y == ("range" : Str) && glB sc y && okE sc a v && okE sc b w
      | _ => false)
    | _ => false
  | .isi ts a, e => match asCall e with
    | some (x, [l, t]) => x == ("isinstance" : Str) && glB sc x && okE sc a l && decide (ts.length < 100) && (match ts with
      | [t1] => tyB P lk sc t1 t
      | ts => match asTup t with
        | some es => tysB P lk sc ts es
        | none => false)
    | _ => false
  | .cF g es, e => match asCall e with
    | some (x, vs) => P.nm g == x && glB sc x && plainN x && (lk.has g && lk.top g) && okEs sc es vs
    | none => false
  | .cK g ks es, e => match asKall e with
    | some (x, kws) => P.nm g == x && glB sc x && plainN x && (lk.has g && lk.top g) && okK sc es kws && lk.kw g ks (kws.filterMap (·.arg)) && !es.isEmpty
    | none => false
  | .lam g a, e => match asLam e with
    | some (x, ps, b, scope) => !ini && decide (N = lk.lamN) && lk.hasT g && P.nm g == x && glB sc x && plainN x && noPar ps && LamX.lamSB sc scope && okE scope a b
    | none => false
  | .mk c es, e => match asCall e with
    | some (x, vs) => P.nm c == x && glB sc x && plainN x && lk.hasC c && okEs sc es vs && !es.isEmpty
    | none => false
  | .mth m o es, e => match asMeth e with
    | some (l, a, vs) => P.nm m == a && okE sc o l && okEs sc es vs && plainA l && decide (vs.length < 20)
    | none => false
  | .app o a, e => match asMeth e with
    | some (l, m, [r]) => m == ("append" : Str) && okE sc o l && okE sc a r && plainA l
    | _ => false
  | .popA o a, e => match asMeth e with
    | some (l, m, [r]) => m == ("pop" : Str) && okE sc o l && okE sc a r && plainA l
    | _ => false
  | .idxA o a, e => match asMeth e with
    | some (l, m, [r]) => m == ("index" : Str) && okE sc o l && okE sc a r && plainA l
    | _ => false
  | .cntA o a, e => match asMeth e with
    | some (l, m, [r]) => m == ("count" : Str) && okE sc o l && okE sc a r && plainA l
    | _ => false
  | .dnew, e => isDct0 e
  | .dget o k, e => match asSub e with
    | some (l, r) => okE sc o l && okE sc k r
    | none => false
  | .dupd o a, e => match asMeth e with
    | some (l, m, [r]) => m == ("update" : Str) && okE sc o l && okE sc a r && plainA l
    | _ => false
  | .dcom kx vx tg it own, e => match asDc e with
    | some (k, v, t, i, scope) => okI sc it i t && blkC N sc scope (ownB N scope.names own) && okT (some scope) (relS scope sc) tg t && okE (relS scope sc) kx k && okE (relS scope sc) vx v && !(ini && own.contains 0) && (tgIx tg).all (fun i => own.contains i)
    | none => false
  | .stp _ a lo st, e => match asSub e with
    | some (l, j) => match asStp j with
      | some (lo', st') => okE sc a l && okO sc lo lo' && okE sc st st'
      | none => false
    | none => false
  | .srS _ a, e => match asCall e with
    | some (x, [r]) => x == ("sorted" : Str) && glB sc x && (match asCall r with
      | some (y, [v]) => y == ("set" : Str) && glB sc y && okE sc a v
      | _ => false)
    | _ => false
  | .spl l _ fl es, e => match (if l = true then asLst e else asTup e) with
    | some vs => okSp sc es fl vs
    | none => false
  | .atr f o, e => match asAtt e with
    | some (l, a) => P.nm f == a && okE sc o l && plainA l
    | none => false
  | .sX m a, e => match asCall e with
    | some (x, [r]) => x == ("str" : Str) && glB sc x && okE sc a r && P.nm m == ("__str__" : Str)
    | _ => false
  | .join a b, e => match asMeth e with
    | some (l, m, [r]) => m == ("join" : Str) && okE sc a l && okE sc b r && plainA l
    | _ => false
  | .spt _ a b, e => match asMeth e with
    | some (l, m, [r]) => m == ("split" : Str) && okE sc a l && okE sc b r && plainA l
    | _ => false
  | .cS c m g es, e => match asMeth e with
    | some (l, a, vs) => (match asName l with
      | some x => P.nm c == x && glB sc x && plainN x
      | none => false) && P.nm m == a && (lk.has g && lk.sm c m g) && okEs sc es vs && !es.isEmpty && plainA l && decide (vs.length < 20)
    | none => false
  | .kget x tb k d, e => match asMeth e with
    | some (l, a, [r, r']) => (match asName l with
      | some y => P.nm x == y && glB sc y && plainN y
      | none => false) && a == ("get" : Str) && lk.dk x tb && okE sc k r && okE sc d r' && plainA l
    | _ => false
  | .dzip a b, e => match asCall e with
    | some (x, [r]) => x == ("dict" : Str) && glB sc x && (match asCall r with
      | some (y, [v, w]) => y == ("zip" : Str) && glB sc y && okE sc a v && okE sc b w
      | _ => false)
    | _ => false
  | .dgd o k d, e => match asMeth e with
    | some (l, m, [r, r']) => m == ("get" : Str) && okE sc o l && okE sc k r && okE sc d r' && plainA l
    | _ => false
  | .dval _ o, e => match asCall e with
    | some (x, [r]) => x == ("list" : Str) && glB sc x && (match asMeth r with
      | some (l, m, []) => m == ("values" : Str) && okE sc o l && plainA l
      | _ => false)
    | _ => false
  | .fst a t b, e => match asFst e with
    | some (l, u, r) => u == t && okE sc a l && okE sc b r
    | none => false
  | .fmI x a y, e => match asFm e with
    | some (u, l, w) => u == x && w == y && okE sc a l
    | none => false
  | .dlit k v, e => match asDct1 e with
    | some (a, b) => asInt a == some k && asInt b == some v
    | none => false
  | .lnO w m a, e => match asCall e with
    | some (x, [r]) => dunB w x (P.nm m) && glB sc x && okE sc a r
    | _ => false
  | .oeqV ng m a b, e => match asCmp e with
    | some (l, op, r) => (if ng = true then op == .NotEq else op == .Eq) && okE sc a l && okE sc b r && P.nm m == ("__eq__" : Str)
    | none => false
  | .mthK m g p0 o perm es, e => match asMethK e with
    | some (l, a, kws) => P.nm m == a && okE sc o l && okK sc es kws && plainA l && decide (kws.length < 20) && lk.kw g (0 :: perm.map (· + 1)) (p0 :: kws.filterMap (·.arg)) && lk.has g
    | none => false
  | .fld f, e => match asAtt e with
    | some (l, a) => match asName l with
      | some x => ini && P.nm f == a && decide (N[0]? = some x) && visB sc x && plainN x && lk.fl f
      | none => false
    | none => false
  | .comp _ elt tg it ifs own, e => match asComp e with
    | some (l, t, i, cs, scope) => okI sc it i t && blkC N sc scope (ownB N scope.names own) && okT (some scope) (relS scope sc) tg t && okTes (relS scope sc) ifs cs && decide (ifs.length ≤ 1) && okE (relS scope sc) elt l && !(ini && own.contains 0) && (tgIx tg).all (fun i => own.contains i)
    | none => false
def okTe (sc : Scope) : Te → Expr → Bool
  | .of x, e => okE sc x e && plainT e
  | .cmp o a b, e => match asCmp e with
    | some (l, op, r) => cmpOk o op r && okE sc a l && okE sc b r
    | none => false
  | .chain o o' a b c, e => match asChain e with
    | some (l, op, op', r, r') => cmpOk o op r && cmpOk o' op' r' && okE sc a l && okE sc b r && okE sc c r'
    | none => false
  | .dinT neg k o, e => match asCmp e with
    | some (l, op, r) => (if neg = true then op == .NotIn else op == .In) && okE sc k l && okE sc o r
    | none => false
  | .oeq ng m a b, e => match asCmp e with
    | some (l, op, r) => (if ng = true then op == .NotEq else op == .Eq) && okE sc a l && okE sc b r && P.nm m == ("__eq__" : Str)
    | none => false
  | .not t, e => match asUn e with
    | some (.Not, l) => okTe sc t l
    | _ => false
  | .and ts, e => match asBoo e with
    | some (.And, vs) => okTes sc ts vs && !ts.isEmpty
    | _ => false
  | .or ts, e => match asBoo e with
    | some (.Or, vs) => okTes sc ts vs && !ts.isEmpty
    | _ => false
def okTes (sc : Scope) : List Te → List Expr → Bool
  | [], es => es.isEmpty
  | x :: xs, es => match es with
    | [] => false
    | e :: es => okTe sc x e && okTes sc xs es
def okEs (sc : Scope) : List Ex → List Expr → Bool
  | [], es => es.isEmpty
  | x :: xs, es => match es with
    | [] => false
    | e :: es => okE sc x e && okEs sc xs es
def okSp (sc : Scope) : List Ex → List Bool → List Expr → Bool
  | [], fl, es => fl.isEmpty && es.isEmpty
  | x :: xs, fl, es => match fl, es with
    | b :: fl, e :: es => (if b = true then (match asStar e with | some v => okE sc x v | none => false) else okE sc x e) && okSp sc xs fl es
    | _, _ => false
def okO (sc : Scope) : List Ex → Option Expr → Bool
  | [], e => e.isNone
  | x :: _, e => match e with
    | some e => okE sc x e
    | none => false
def okK (sc : Scope) : List Ex → List Keyword → Bool
  | [], ks => ks.isEmpty
  | x :: xs, ks => match ks with
    | [] => false
    | k :: ks => match asKw k with
      | some (_, e) => okE sc x e && okK sc xs ks
      | none => false
def okI (sc : Scope) : It → Expr → Expr → Bool
  | .of x, e, _ => okE sc x e
  | .sgn x, e, _ => okE sc x e
  | .rng1 a, e, _ => match asCall e with
    | some (x, [l]) => x == ("range" : Str) && glB sc x && okE sc a l
    | _ => false
  | .rng2 a b, e, _ => match asCall e with
    | some (x, [l, r]) => x == ("range" : Str) && glB sc x && okE sc a l && okE sc b r
    | _ => false
  | .enm a, e, t => match asCall e with
    | some (x, [l]) => (asTup t).isSome && x == ("enumerate" : Str) && glB sc x && okE sc a l
    | _ => false
  | .zip a b, e, t => match asCall e with
    | some (x, [l, r]) => (asTup t).isSome && x == ("zip" : Str) && glB sc x && okE sc a l && okE sc b r
    | _ => false
def okT (fs : Option Scope) (sc : Scope) : Tg → Expr → Bool
  | .nm i, e => match asName e with
    | some x => decide (N[i]? = some x) && (locB sc x || (match sc.names.lookup x with | some .cell => true | _ => false) && cellIn fs x) && !(ini && i == 0)
    | none => false
  | .tup ts, e => match asTup e with
    | some es => okTs fs sc ts es
    | none => false
  | .sub o i, e => match asSub e with
    | some (l, j) => okE sc o l && okE sc i j
    | none => false
def okTs (fs : Option Scope) (sc : Scope) : List Tg → List Expr → Bool
  | [], es => es.isEmpty
  | t :: ts, es => match es with
    | [] => false
    | e :: es => okT fs sc t e && okTs fs sc ts es
end
end
def isAct (N : List Str) : Expr → Bool
  | .Call (.Name x _) [] [] _ => decide (N[0]? = some x)
  | _ => false
theorem isAct_eq {N : List Str} {e : Expr} (h : isAct N e = true) : ∃ x p q, e = .Call (.Name x p) [] [] q ∧ N[0]? = some x := by
  unfold isAct at h
  split at h
  · exact ⟨_, _, _, rfl, of_decide_eq_true h⟩
  · cases h
def okHx : Hx → Expr → Bool
  | .bl b, e => asBl e == some b
  | .str x, e => asStr e == some x
  | .row _ _, _ => false
/-- a part of a named clause's answer, n the error's name -/
def okHxP (P : Pr) (lk : Chk) (sc : Scope) (n : Str) : HxP → Expr → Bool
  | .str y, e => asStr e == some y
  | .rep f, e => match e with
    | .Call (.Name r _) [.Attribute (.Name n' _) fn _] [] _ => r == "repr" && n' == n && fn == P.nm f && glB sc "repr"
    | _ => false
  | .isA c h, e => match e with
    | .BoolOp .And [.Call (.Name r1 _) [.Name n1 _, .Name c1 _] [] _, .UnaryOp .Not (.Call (.Name r2 _) [.Name n2 _, .Name c2 _] [] _) _] _ =>
      r1 == "isinstance" && r2 == "isinstance" && n1 == n && n2 == n && c1 == P.nm c && c2 == P.nm h && glB sc "isinstance" && glB sc c1 && glB sc c2 && plainN c1 && plainN c2 && lk.hasX c && lk.hasX h
    | _ => false
def okHxPs (P : Pr) (lk : Chk) (sc : Scope) (n : Str) : List HxP → List Expr → Bool
  | [], es => es.isEmpty
  | p :: ps, es => match es with
    | [] => false
    | e :: es => okHxP P lk sc n p e && okHxPs P lk sc n ps es
def okHd (P : Pr) (lk : Chk) (N : List Str) (sc : Scope) (h : Nat) (v : Hx) : ExceptHandler → Bool
  | .ExceptHandler (some (.Name x _)) none [.Return (some e) _] _ => P.nm h == x && glB sc x && plainN x && lk.hasX h && okHx v e
  | .ExceptHandler (some (.Name x _)) (some n) [.Return (some (.List es _)) _] _ => P.nm h == x && glB sc x && plainN x && lk.hasX h && (match v with
    | .row i ps => decide (N[i]? = some n) && locB sc n && plainN n && decide (ps.length ≤ 8) && okHxPs P lk sc n ps es
    | _ => false)
  | _ => false
theorem okHd_eq {P : Pr} {lk : Chk} {N : List Str} {sc : Scope} {h : Nat} {v : Hx} {hd : ExceptHandler} (q : okHd P lk N sc h v hd = true) :
    (∃ x p e p2 p3, hd = .ExceptHandler (some (.Name x p)) none [.Return (some e) p2] p3 ∧ P.nm h = x ∧ glB sc x = true ∧ plainN x = true ∧ lk.hasX h = true ∧ okHx v e = true) ∨
    ∃ x p n es p1 p2 p3 i ps, hd = .ExceptHandler (some (.Name x p)) (some n) [.Return (some (.List es p1)) p2] p3 ∧ v = .row i ps ∧ P.nm h = x ∧ glB sc x = true ∧ plainN x = true ∧ lk.hasX h = true ∧ N[i]? = some n ∧ locB sc n = true ∧ plainN n = true ∧ ps.length ≤ 8 ∧ okHxPs P lk sc n ps es = true := by
  unfold okHd at q
  split at q
  · simp only [Bool.and_eq_true, beq_iff_eq] at q
    exact .inl ⟨_, _, _, _, _, rfl, q.1.1.1.1, q.1.1.1.2, q.1.1.2, q.1.2, q.2⟩
  · simp only [Bool.and_eq_true, beq_iff_eq] at q
    obtain ⟨⟨⟨⟨q1, q2⟩, q3⟩, q4⟩, q5⟩ := q
    split at q5
    · simp only [Bool.and_eq_true, decide_eq_true_eq] at q5
      exact .inr ⟨_, _, _, _, _, _, _, _, _, rfl, rfl, q1, q2, q3, q4, q5.1.1.1.1, q5.1.1.1.2, q5.1.1.2, q5.1.2, q5.2⟩
    · cases q5
  · cases q
def okHds (P : Pr) (lk : Chk) (N : List Str) (sc : Scope) : List (Nat × Hx) → List ExceptHandler → Bool
  | [], hs => hs.isEmpty
  | (h, v) :: r, hs => match hs with
    | [] => false
    | hd :: hs => okHd P lk N sc h v hd && okHds P lk N sc r hs
/-- try: one row / except ..: -/
def asTry : List Stmt → Option (Stmt × List ExceptHandler × List Stmt)
  | .Try [b] hds [] [] _ :: rest => some (b, hds, rest)
  | _ => none
theorem asTry_eq {l : List Stmt} {b : Stmt} {hds : List ExceptHandler} {rest : List Stmt} (h : asTry l = some (b, hds, rest)) : ∃ p, l = .Try [b] hds [] [] p :: rest := by
  unfold asTry at h
  split at h
  · cases h; exact ⟨_, rfl⟩
  · cases h
def okActS (N : List Str) (sc : Scope) (kind slot : Nat) : Stmt → Bool
  | .Expr e _ => kind == 0 && isAct N e
  | .Return (some e) _ => kind == 1 && isAct N e
  | .Assign [.Name y _] e _ => kind == 2 && isAct N e && decide (N[slot]? = some y) && locB sc y && slot != 0
  | _ => false
def okFin (P : Pr) (lk : Chk) (N : List Str) (sc : Scope) (kind : Nat) : List Ex → List Stmt → Bool
  | [e], [.Return (some x) _] => okE P lk N false sc e x && kind != 1
  | [], [] => kind == 1
  | _, _ => false
def okTk (P : Pr) (lk : Chk) (N : List Str) (sc : Scope) (T : Tk) (body : List Stmt) : Bool := match asTry body with
  | some (b, hds, rest) => okHds P lk N sc T.hs hds && !T.hs.isEmpty && okActS N sc T.kind T.slot b && okFin P lk N sc T.kind T.fin rest
  | none => false
end Th
namespace Th
open PySem PySem.Spec PyProof.Rows L2
structure RoomG (k : Nat) (A : Around) : Prop where
  r : Room k A
  g : A.guards = some []
theorem RoomG.mono {j k : Nat} {A : Around} (h : RoomG k A) (l : j ≤ k) : RoomG j A := ⟨h.r.mono l, h.g⟩
theorem RoomG.deeper {k : Nat} {A : Around} (h : RoomG (k + 1) A) (env : Env) : RoomG k (A.deeper env) := ⟨h.r.deeper env, h.g⟩
theorem RoomG.in1 {k : Nat} {A : Around} (h : RoomG (k + 1) A) : RoomG k A.in1 := ⟨h.r.in1, h.g⟩
theorem RoomG.make {k : Nat} {A : Around} (h : RoomG (k + 1) A) (c : Addr) (us : List Value) : RoomG k (A.under (.builtin "type.__call__" ⟨.ref c :: us, []⟩)) := by
  refine ⟨h.r.make c us [], ?_⟩
  have := h.g
  simp [Around.under, Code.guards, Code.isGuard, guardIds, pushGuards, this]
/-- as FnOk, where nothing is being shown -/
structure FnG (P : Program) (w : World) (K : PySem.W.Frag) (mg : Str → Option Value) (base : Heap) (k : Nat) (f : Addr) (fd : FuncData) (ps : List Str) (sp : Sp) : Prop where
  len : ∀ vs H Q E, sp vs H Q E → vs.length = ps.length
  go : ∀ (A : Around) (out : List Env) (s : Shared) (H : Hp) (ar : Args) (us : List Value) (vs : List V) (Q : VK) (E : XK), RoomG k A → Env0 P w K mg base A out s H → BindsTo s fd ar (ps.zip us) → Vals vs us → sp vs H Q E →
    codeAny (model P w) A (.call (.ref f) ar) (CR (L2.CX P w) out P w H s Q E) s
theorem FnG.imp {P : Program} {w : World} {K : PySem.W.Frag} {mg : Str → Option Value} {base : Heap} {k : Nat} {f : Addr} {fd : FuncData} {ps : List Str} {sp sp' : Sp} (F : FnG P w K mg base k f fd ps sp) (h : ∀ vs H Q E, sp' vs H Q E → sp vs H Q E) : FnG P w K mg base k f fd ps sp' :=
  ⟨fun vs H Q E q => F.len vs H Q E (h _ _ _ _ q), fun A out s H ar us vs Q E a1 a2 a3 a4 a5 => F.go A out s H ar us vs Q E a1 a2 a3 a4 (h _ _ _ _ a5)⟩
section
variable {P : Program} {w : World} {K : PySem.W.Frag} {mg : Str → Option Value} {base : Heap}
theorem fun_okG {x qual : Str} {st : Stmt} {f : Addr} {fd : FuncData} {N ps : List Str} {k : Nat} {sp : Sp} (F : Fun K x qual st f fd) (S : FnScope N ps (defScope st)) (hlen : ∀ vs H Q E, sp vs H Q E → vs.length = ps.length)
    (body : ∀ (cv : Value), fd.code = cv → ∀ (A : Around) (out : List Env) (s : Shared) (H : Hp) (vs : List V) (Q : VK) (E : XK), RoomG k (A.deeper (envOfC qual (defScope st) s.heap.objs.size f cv)) → sp vs H Q E →
      ∃ t, PSs (cxOf (L2.CX P w) P w K mg base N qual (defScope st) f cv A out s H E) (defBody st) t ∧ t { nx := fun _ H' => Q .non H', rt := Q } (L2.start N vs) H) : FnG P w K mg base (k + 1) f fd ps sp := by
  obtain ⟨oc, od, kV, doc, pm, an, cv, ct, osl, rfl, lk, hcode⟩ := F.ex
  refine ⟨hlen, fun A out s H ar us vs Q E room e0 hbind hv hsp => ?_⟩
  have nlen := hlen _ _ _ _ hsp
  have kin : K.In s.heap := e0.mod.kin.keeps fun b o e => (e0.bs b o e).1
  have noLim : s.heap.NoLimit := e0.mod.nolimit.keeps fun b o e => (e0.bs b o e).1
  have kinds : ∀ y ∈ ps.zip us, (defScope st).names.lookup y.1 = some .local ∨ ((defScope st).names.lookup y.1 = some .cell ∧ ((cellsFrom (s.heap.objs.size + 1) (defScope st).names []).lookup y.1).isSome = true) := by
    rintro ⟨n, v⟩ hy
    have hn : n ∈ ps := (List.of_mem_zip hy).1
    cases S.par n hn with
    | inl q => exact .inl q
    | inr q => exact .inr ⟨q, PySem.W.cellsFrom_some _ _ _ (.inl q)⟩
  refine codeAny_call_function room.r.depth (kin _ _ lk) rfl S.co S.gen rfl (PySem.W.codeRec_of kin hcode) (hbind _ _ _ _ ?_)
  refine wpAny_newFunctionEnv_cells S.kind kinds fun env henv s1 hin => ?_
  subst henv
  refine ⟨noLim.keeps hin.toInCall.keep, codeAny_func ?_⟩
  obtain ⟨t, pss, ht⟩ := body cv rfl A out s H vs Q E (room.deeper _) hsp
  have J0 := inv_start (CX := L2.CX P w) (E := E) S room.r.hd e0 nlen hv hin
  refine wpAny_mono (pss.run [] s1 (L2.start N vs) H _ J0 ht) (fun fl s' out => ?_) fun e s' z => z
  cases fl with
  | next =>
    obtain ⟨_, H', J, q⟩ := out
    exact ⟨V.non, H', J.os, J.bare, J.base, J.hok, rfl, q⟩
  | ret u =>
    obtain ⟨v, _, H', J, rv, q⟩ := out
    exact ⟨v, H', J.os, J.bare, J.base, J.hok, rv, q⟩
  | brk => exact out.elim fun _ z => z.elim fun _ z => z.2.elim
  | cont => exact out.elim fun _ z => z.elim fun _ z => z.2.elim
section
variable {X : Cx} {pins : List (Addr × Obj)} {σ : L2.St} {H : Hp} {s : Shared} {Q : VK} {f a dx Ca p : Addr} {fd : FuncData} {ps : List Str} {k : Nat} {sp : Sp} {us : List Value} {vs : List V} {E : XK}
theorem run_fnG (F : FnG X.prog X.w X.K X.mg X.base k f fd ps sp) (hr : RoomG k X.A) (hb : Binds X.K fd ps []) (hx : PassesAt (L2.CX X.prog X.w) X σ E) (I : L2.Inv X pins σ H s) (rv : Vals vs us) (hs : sp vs H Q E) :
    wpAny (model X.prog X.w) X.A (call (.ref f) us) (EP X pins σ Q) X.xe s := by
  have n1 : us.length = ps.length := rv.length.symm.trans (F.len _ _ _ _ hs)
  have hb2 := hb s us I.kIn (by simpa using n1)
  rw [List.append_nil] at hb2
  refine wpAny_call (codeAny_mono (F.go X.A X.stack s H ⟨us, []⟩ us vs Q E hr I.env0 hb2 rv hs) fun r s' out => ?_)
  cases r with
  | error e => exact hx pins H s e s' I out
  | ok fl => cases fl <;> first | exact I.after out | exact False.elim out
/-- a property is read -/
theorem prop_readG {b : Bool} {nm : Str} {fs : List (Str × V)} {E' : Value → Shared → Prop} (I : L2.Inv X pins σ H s) (hi : H a = some (.ins Ca dx fs)) (hc : Cls X.K Ca) (hp : PropOf X.K Ca nm p f) (F : FnG X.prog X.w X.K X.mg X.base k f fd ps sp)
    (hr : RoomG (k + 1) X.A) (hb : Binds X.K fd ps []) (hs : sp [.ref a] H Q (fun _ _ _ => False)) : wpAny (model X.prog X.w) X.A (getAttr (.ref a) nm b) (EP X pins σ Q) E' s := by
  obtain ⟨mA, O, _⟩ := ins_get I.hok hi
  obtain ⟨od, J, _⟩ := O.look
  obtain ⟨more, hrec⟩ := hp.rec_
  have I1 := I.tok (s.toks + 1)
  have n1 : ([Value.ref a] ++ []).length = ps.length := (F.len _ _ _ _ hs)
  have hcls : (PySem.W.clsIn X.K Ca).isSome = true := by
    obtain ⟨cd, e, _⟩ := PySem.W.any_some hc.hd
    simp [e]
  have hb2 := hb { s with toks := s.toks + 1 } [.ref a] I1.kIn n1
  have pg := PySem.W.plainGet_of (hc.get nm)
  refine PySem.W.get_bind I.kIn J pg.1 (PySem.W.findObj_data hcls hp.at_ hp.get hp.tak) pg.2 (wpAny_call (PySem.W.prop_get (s := { s with toks := s.toks + 1 }) I.kIn hrec ?_))
  refine codeAny_mono (F.go X.A.in1 X.stack { s with toks := s.toks + 1 } H ⟨[.ref a], []⟩ _ [.ref a] Q (fun _ _ _ => False) hr.in1 I1.env0.in1 hb2 (.cons rfl .nil) hs) fun r s' out => ?_
  cases r with
  | error er =>
    obtain ⟨_, _, _, _, _, _, _, _, _, _, _, _, z⟩ := out
    exact z.elim
  | ok fl =>
    cases fl <;> first | exact False.elim out | skip
    obtain ⟨v, H', I3, rv, q⟩ := I1.after out
    show wpAny _ _ (handedOut _) _ _ _
    rw [PySem.W.handedOut_of (handed_of rv)]
    exact wpAny_pure ⟨v, H', I3, rv, q⟩
end
end
end Th
namespace Th
open PySem PySem.Spec PyProof.Rows L2
/-- what a call promises -/
def SpOk (W : Wd) (fn : List D → Store → Out D) : Sp := fun vs H Q E => ∃ (Z : Addr → Prop) (μ : List Addr) (S : Store) (ds : List D), SR (W.z Z) μ S H ∧ VRs (W.z Z) μ H ds vs ∧
  K1 (fn ds S) (OkP (W.z Z) μ H Q) (fun x S' => ∀ μ' H' cls dd, SR (W.z Z) μ' S' H' → Ext μ H μ' H' → XR (W.z Z) μ' H' x cls dd → E cls dd H')
/-- .. an __init__ -/
def SpIn (W : Wd) (c : Nat) (fn : List D → Store → Out D) : Sp := fun vs H Q E => ∃ (Z : Addr → Prop) (μ : List Addr) (S : Store) (ds : List D) (a dx : Addr) (ws : List V), vs = .ref a :: ws ∧ H a = some (.ins (W.lk.ca c) dx []) ∧ a ∉ μ ∧ ¬ Z a ∧
  SR (W.z fun b => Z b ∨ b = a) μ S H ∧ VRs (W.z fun b => Z b ∨ b = a) μ H ds ws ∧
  K1 (fn ds S) (fun d S' => ∀ μ' H', SR (W.z Z) μ' S' H' → ExtZ (· = a) μ H μ' H' → a ∉ μ' → VR (W.z Z) μ' H' d (.ref a) → Q .non H')
    (fun x S' => ∀ μ' H' cls dd, SR (W.z Z) μ' S' H' → ExtZ (· = a) μ H μ' H' → XR (W.z Z) μ' H' x cls dd → E cls dd H')
def tyVal (lk : Lnk) : Ty → Value
  | .ty n => .type n
  | .cls c => .ref (lk.ca c)
def tyV2 (lk : Lnk) : Ty → V
  | .ty n => .ty n
  | .cls c => .ref (lk.ca c)
def tyHas (lk : Chk) : Ty → Bool
  | .ty n => n ∈ ["NoneType", "int", "bool", "str", "tuple", "list", "dict"]
  | .cls c => lk.hasC c
/-- a class of exceptions without an __init__ of its own -/
def XCls (K : PySem.W.Frag) (C : Addr) : Prop := ∃ (B newId initId : String) (bm : List Value), ExcBaseFacts B newId initId bm ∧ PySem.W.excIn K C bm newId = true ∧ PySem.W.keepIn K (.ref C) = true ∧ PySem.W.subIn K (.ref C) (.type "BaseException") = some true ∧ PySem.W.typeIn K (.ref C) = some (.type "type")
/-- self.f = given -/
def asKeep : List Stmt → Option (Str × Str × Str)
  | [.Assign [.Attribute (.Name s _) f _] (.Name g _) _] => some (s, f, g)
  | _ => none
theorem asKeep_eq {l : List Stmt} {s f g : Str} (h : asKeep l = some (s, f, g)) : ∃ p1 p2 p3 p4, l = [.Assign [.Attribute (.Name s p1) f p2] (.Name g p3) p4] := by
  unfold asKeep at h
  split at h
  · cases h; exact ⟨_, _, _, _, rfl⟩
  · cases h
/-- an exception's class with an own __init__ over a base that takes what it is given -/
structure OexG (K : PySem.W.Frag) (C : Addr) : Prop where
  cls : ∃ (B newId initId : String) (bmB : List Value), ∃ nm q N bs bm sn sub ab col dd k0 k1 k2 k3 k5, ExcBaseFacts B newId initId bmB ∧ K.lookup C = some (excClassObj nm q C N bs bm true sn sub ab col dd k0 k1 k2 k3 k5 newId) ∧
    (∀ self, PySem.refuseLoop self "__setattr__" (.ref C :: bm) = pure ()) ∧ (∀ X : String, bm.contains (.type X) = bmB.contains (.type X)) ∧ bmB.contains (.type "object") = true
  sa : PySem.W.findIn K (.ref C) "__setattr__" = some (some (.builtin "object.__setattr__"))
  exC : PySem.W.subIn K (.ref C) (.type "BaseException") = some true
  tyC : PySem.W.typeIn K (.ref C) = some (.type "type")
  kC : PySem.W.keepIn K (.ref C) = true
/-- a class of exceptions whose __init__ keeps its argument under f -/
structure XVal (K : PySem.W.Frag) (C : Addr) (f : Str) : Prop where
  T : OexG K C
  no : PySem.W.findIn K (.ref C) f = some none
  xf : XfC K C
  fn : ∃ (fI : Addr) (fd : FuncData) (x qual : Str) (st : Stmt) (N : List Str) (p0 p1 : Str), PySem.W.findIn K (.ref C) "__init__" = some (some (.ref fI)) ∧ PySem.W.typeIn K (.ref fI) = some (.type "function") ∧ Fun K x qual st fI fd ∧ FnScope N [p0, p1] (defScope st) ∧ Binds K fd [p0, p1] [] ∧ asKeep (defBody st) = some (p0, f, p1) ∧ plainN p0 = true ∧ plainN p1 = true
/-- an expression is kept wherever there is room -/
def Kept (W : Wd) (C' : Orc) (X : Cx) (k : Nat) (e : Ex) (f : Fr) : Prop := ∀ (X' : Cx), X'.prog = X.prog → X'.w = X.w → X'.mg = X.mg → X'.base = X.base → X'.K = W.K → X'.calm = true → X'.N.Nodup → RoomG k X'.A →
  ∀ (Z : Addr → Prop) (e0 : Expr) (Sx : Store) (σ : L2.St) (H : Hp) (μ : List Addr) (Q : VK), okE W.P W.lk.toChk X'.N false X'.env.scope e e0 = true → SR (W.z Z) μ Sx H → FR (W.z Z) none μ H f σ → K1 (ev W.P C' e f Sx) (OkP (W.z Z) μ H Q) (XW (W.z Z) X' μ H σ) → U X' e0 σ H Q
/-- a def that is handed a lambda -/
def TkOk (W : Wd) (mg : Str → Option Value) (g : Nat) (T : Tk) : Prop := ∃ (fa : Addr) (fd : FuncData) (st : Stmt) (N : List Str) (a : Str), mg (W.P.nm g) = some (.ref fa) ∧ PySem.W.keepIn W.K (.ref fa) = true ∧ Fun W.K (W.P.nm g) (W.P.nm g) st fa fd ∧ Binds W.K fd [a] [] ∧ FnScope N [a] (defScope st) ∧
  plainN (W.P.nm g) = true ∧ plainN a = true ∧ T.ns = N.length ∧ okTk W.P W.lk.toChk N (defScope st) T (defBody st) = true
/-- what c is to h, as an except clause and as isinstance ask it -/
def XSub (W : Wd) (c h : Nat) (b : Bool) : Prop := W.lk.hasX c = true ∧ PySem.W.exmOne W.K (.ref (W.lk.ca c)) (.ref (W.lk.ca h)) = some b ∧ PySem.W.kitOne W.K (.ref (W.lk.ca c)) (.ref (W.lk.ca h)) = some b
/-- C.m is a staticmethod, its def at g -/
structure SMet (K : PySem.W.Frag) (C : Addr) (m : Str) (g : Addr) : Prop where
  ex : ∃ (mc : Value) (p : Addr) (rest : List Value), PySem.W.readsIn K C mc = true ∧ PySem.W.specialIn K (.ref C) "__getattribute__" = some (some (.builtin "type.__getattribute__")) ∧
    PySem.W.findCls K (.ref C) mc m = some (.get (.builtin "staticmethod.__get__") (.ref p) .none (.ref C)) ∧ PySem.W.recIn K p "staticmethod" = some (.ref g :: rest)
  kp : PySem.W.keepIn K (.ref g) = true
/-- a written dict of texts and numbers -/
def entD (e : DictEntry) : Option (Str × Int × Int) := match e.key, e.val with
  | .str x _, .int i _ => some (x, e.hash, i)
  | _, _ => none
def KTb (K : PySem.W.Frag) (pr : Params) (a : Addr) (tb : List (Str × Int)) : Prop := ∃ es n, K.lookup a = some ⟨.type "dict", none, .dict es n, #[]⟩ ∧ (a == sysModules) = false ∧ es.toList.map entD = tb.map fun p => some (p.1, PyData.keyHash pr p.1, p.2)
/-- the facts that stand around a body -/
structure Cxt (W : Wd) (C : Orc) (X : Cx) : Prop where
  calm : X.calm = true
  nd : X.N.Nodup
  kk : X.K = W.K
  blt : ∀ x ∈ bltNames, X.mg x = none
  room : RoomG 2 X.A
  bind : ∀ g, W.lk.has g = true → Binds W.K (W.lk.fd g) (W.lk.pn g) []
  gm : ∀ g, W.lk.top g = true → X.mg (W.P.nm g) = some (.ref (W.lk.fa g)) ∧ PySem.W.keepIn W.K (.ref (W.lk.fa g)) = true
  gc : ∀ c, W.lk.hasC c = true → X.mg (W.P.nm c) = some (.ref (W.lk.ca c)) ∧ PySem.W.keepIn W.K (.ref (W.lk.ca c)) = true
  fns : ∀ g, W.lk.has g = true → (∃ ds S, C.fn g ds S ≠ .bad) → ∃ k, RoomG k X.A ∧ FnG X.prog X.w X.K X.mg X.base k (W.lk.fa g) (W.lk.fd g) (W.lk.pn g) (SpOk W (C.fn g))
  cls : ∀ (c : Nat) (kl : Cl), W.lk.hasC c = true → W.P.cl c = some kl → Cls W.K (W.lk.ca c) ∧ (∀ m g, kl.meths.lookup m = some g → W.lk.has g = true ∧ Meth W.K (W.lk.ca c) (W.P.nm m) (W.lk.fa g) ∧ W.P.nm m ∉ kl.flds.map W.P.nm) ∧
    (∀ a g, kl.props.lookup a = some g → W.lk.has g = true ∧ ∃ p, PropOf W.K (W.lk.ca c) (W.P.nm a) p (W.lk.fa g)) ∧ (∀ a, a ∈ kl.flds → NoAttr W.K (W.lk.ca c) (W.P.nm a)) ∧ (kl.flds.map W.P.nm).Nodup ∧ kl.flds.length < 900
  mks : ∀ c, W.lk.hasC c = true → (∃ ds S, C.make c ds S ≠ .bad) → ∃ k kl, W.P.cl c = some kl ∧ RoomG (k + 1) X.A ∧ Mk W.K (W.lk.ca c) (W.lk.fa kl.init) ∧ Binds W.K (W.lk.fd kl.init) (W.lk.pn kl.init) [] ∧
    FnG X.prog X.w X.K X.mg X.base k (W.lk.fa kl.init) (W.lk.fd kl.init) (W.lk.pn kl.init) (SpIn W c (C.make c))
  prs : ∀ g, W.lk.has g = true → (∃ ds S, C.prop g ds S ≠ .bad) → ∃ k, RoomG (k + 1) X.A ∧ FnG X.prog X.w X.K X.mg X.base k (W.lk.fa g) (W.lk.fd g) (W.lk.pn g) (SpOk W (C.prop g))
  sts : ∀ g, W.lk.has g = true → (∃ ds S, C.str g ds S ≠ .bad) → ∃ k, RoomG (k + 2) X.A ∧ FnG X.prog X.w X.K X.mg X.base k (W.lk.fa g) (W.lk.fd g) (W.lk.pn g) (SpOk W (C.str g))
  isc : ∀ c, W.lk.hasC c = true → PySem.W.findIn W.K (.ref (W.lk.ca c)) "__class__" = some (some (.builtin "object.__class__")) ∧ PySem.W.specialIn W.K (.builtin "object.__class__") "__get__" = some (some (.builtin "getset_descriptor.__get__")) ∧
    PySem.W.takesIn W.K (.builtin "object.__class__") = some true ∧ PySem.W.mroIn W.K (W.lk.ca c) (.type "object") = some true ∧ PySem.W.findIn W.K (.ref (W.lk.ca c)) "__ne__" = some (some (.builtin "object.__ne__")) ∧ PySem.W.findIn W.K (.ref (W.lk.ca c)) "__bool__" = some none
  kwb : ∀ g perm ks, W.lk.has g = true → W.lk.kw g perm ks = true → KBn W.K (W.lk.fd g) (W.lk.pn g) 0 ks (fun _ ws => perm.map fun k => ws.getD k .none) (fun _ zs => perm.map fun k => zs.getD k .non) ∧ ks.length = perm.length ∧ (∀ k ∈ perm, k < ks.length) ∧ ∀ (p0 : Str) (perm1 : List Nat) (ks1 : List Str), perm = 0 :: perm1.map (· + 1) → ks = p0 :: ks1 → KBn W.K (W.lk.fd g) (W.lk.pn g) 1 ks1 (fun us ws => us ++ perm1.map fun k => ws.getD k .none) (fun vs zs => vs ++ perm1.map fun k => zs.getD k .non)
  flj : ∀ a b, W.lk.fl a = true → W.lk.fl b = true → W.P.nm a = W.P.nm b → a = b
  fln : ∀ c a, W.lk.hasC c = true → W.lk.fl a = true → NoAttr W.K (W.lk.ca c) (W.P.nm a)
  kit : ∀ t1 t2 b, tyHas W.lk.toChk t1 = true → tyHas W.lk.toChk t2 = true → isTy t1 t2 = some b → PySem.W.kitOne W.K (tyVal W.lk t1) (tyVal W.lk t2) = some b
  con : ∀ (x : Nat) (d : D), W.P.con x = some d → ∃ (u : Value) (v : V), X.mg (W.P.nm x) = some u ∧ RelV v u ∧ ∀ Z μ H, VR (W.z Z) μ H d v
  exn : ∀ c, W.lk.hasX c = true → X.mg (W.P.nm c) = some (.ref (W.lk.ca c)) ∧ (W.P.xf c = none → XCls W.K (W.lk.ca c)) ∧ (∀ n, W.P.xf c = some n → XVal W.K (W.lk.ca c) (W.P.nm n)) ∧ ExcC W.K (W.lk.ca c)
  sub : ∀ c h b, W.P.sub c h = some b → XSub W c h b
  tks : (∃ g e f S, C.take g e f S ≠ .bad) → ∀ g T, W.lk.hasT g = true → W.P.tk g = some T → TkOk W X.mg g T
  lam : (∃ g e f S, C.take g e f S ≠ .bad) → X.N = W.lk.lamN → X.env.code = .ref W.lk.lamC ∧ LamX.TabB X.base X.mg W.lk.lamC W.lk.lamP ∧ (W.lk.lamP, X.env.qual ++ "<lambda>") ∈ W.lk.T ∧ ∀ p ∈ W.lk.T, p.1 = W.lk.lamP → p.2 = X.env.qual ++ "<lambda>"
  tak : ∀ g e f S, C.take g e f S ≠ .bad → ∃ (C' : Orc) (k : Nat), 2 ≤ k ∧ RoomG (k + 2) X.A ∧ C.take g e f S = callT W.P C' (fun S' => ev W.P C' e f S') g S ∧ Kept W C' X k e f ∧ ∀ T, W.P.tk g = some T → ∀ e ∈ T.fin, ∀ f, Kept W C' X k e f
  sms : ∀ c m g, W.lk.sm c m g = true → X.mg (W.P.nm c) = some (.ref (W.lk.ca c)) ∧ SMet W.K (W.lk.ca c) (W.P.nm m) (W.lk.fa g)
  dks : ∀ x tb, W.lk.dk x tb = true → ∃ a, X.mg (W.P.nm x) = some (.ref a) ∧ KTb W.K X.w.params a tb
theorem K1.later {α : Type} {W : Wd} {X : Cx} {μ μ1 : List Addr} {H H1 : Hp} {σ : L2.St} {r : Out D} {Q : VK} (E : Ext μ H μ1 H1) (h : K1 r (OkP W μ H Q) (XW W X μ H σ)) : K1 r (OkP W μ1 H1 Q) (XW W X μ1 H1 σ) :=
  h.imp (fun d S q μ' H' v R e V => q μ' H' v R (E.trans e) V) fun x S q => q.later E
theorem OkP.now {W : Wd} {μ : List Addr} {H : Hp} {Q : VK} {d : D} {S : Store} {v : V} (h : OkP W μ H Q d S) (R : SR W μ S H) (V : VR W μ H d v) : Q v H := h μ H v R Ext.refl V
/-- an expression is kept -/
def SE (C : Orc) (x : Ex) : Prop := ∀ (W : Wd) (X : Cx) (ini : Bool) (me : Option Own) (e : Expr) (f : Fr) (S : Store) (σ : L2.St) (H : Hp) (μ : List Addr) (Q : VK), Cxt W C X → okE W.P W.lk.toChk X.N ini X.env.scope x e = true → ini = me.isSome →
  SR W μ S H → FR W me μ H f σ → K1 (ev W.P C x f S) (OkP W μ H Q) (XW W X μ H σ) → U X e σ H Q
/-- a test is kept -/
def STt (C : Orc) (x : Te) : Prop := ∀ (W : Wd) (X : Cx) (ini : Bool) (me : Option Own) (e : Expr) (f : Fr) (S : Store) (σ : L2.St) (H : Hp) (μ : List Addr) (Q : Bool → Hp → Prop), Cxt W C X → okTe W.P W.lk.toChk X.N ini X.env.scope x e = true → ini = me.isSome →
  SR W μ S H → FR W me μ H f σ → K1 (evT W.P C x f S) (fun b S' => ∀ μ' H', SR W μ' S' H' → Ext μ H μ' H' → Q b H') (XW W X μ H σ) → UT X e σ H Q
/-- the step into a part: its value is known, the rest goes on from there -/
theorem SE.use {C : Orc} {x : Ex} (ih : SE C x) {W : Wd} {X : Cx} {ini : Bool} {me : Option Own} {e : Expr} {f : Fr} {S : Store} {σ : L2.St} {H H0 : Hp} {μ μ0 : List Addr} {β : Type} {k : D → Store → Out β} {ok : β → Store → Prop} {Q1 : VK} (cx : Cxt W C X) (h : okE W.P W.lk.toChk X.N ini X.env.scope x e = true) (hi : ini = me.isSome)
    (E0 : Ext μ0 H0 μ H) (R : SR W μ S H) (F : FR W me μ H f σ) (hk : K1 ((ev W.P C x f S).bind k) ok (XW W X μ0 H0 σ))
    (next : ∀ d S1 μ1 H1 v, Ext μ0 H0 μ1 H1 → Ext μ H μ1 H1 → SR W μ1 S1 H1 → VR W μ1 H1 d v → FR W me μ1 H1 f σ → K1 (k d S1) ok (XW W X μ0 H0 σ) → Q1 v H1) : U X e σ H Q1 :=
  ih W X ini me e f S σ H μ Q1 cx h hi R F (hk.bnd.imp (fun d S1 q μ1 H1 v R1 E1 V1 => next d S1 μ1 H1 v (E0.trans E1) E1 R1 V1 (F.ext E1 R.zm) q) fun _ _ q => q.later E0)
theorem STt.use {C : Orc} {x : Te} (ih : STt C x) {W : Wd} {X : Cx} {ini : Bool} {me : Option Own} {e : Expr} {f : Fr} {S : Store} {σ : L2.St} {H H0 : Hp} {μ μ0 : List Addr} {β : Type} {k : Bool → Store → Out β} {ok : β → Store → Prop} {Q1 : Bool → Hp → Prop} (cx : Cxt W C X) (h : okTe W.P W.lk.toChk X.N ini X.env.scope x e = true) (hi : ini = me.isSome)
    (E0 : Ext μ0 H0 μ H) (R : SR W μ S H) (F : FR W me μ H f σ) (hk : K1 ((evT W.P C x f S).bind k) ok (XW W X μ0 H0 σ))
    (next : ∀ b S1 μ1 H1, Ext μ0 H0 μ1 H1 → Ext μ H μ1 H1 → SR W μ1 S1 H1 → FR W me μ1 H1 f σ → K1 (k b S1) ok (XW W X μ0 H0 σ) → Q1 b H1) : UT X e σ H Q1 :=
  ih W X ini me e f S σ H μ Q1 cx h hi R F (hk.bnd.imp (fun b S1 q μ1 H1 R1 E1 => next b S1 μ1 H1 (E0.trans E1) E1 R1 (F.ext E1 R.zm) q) fun _ _ q => q.later E0)
theorem asBl_eq {e : Expr} {b : Bool} (h : asBl e = some b) : ∃ j p, e = .Constant (.bool b) j p := by
  unfold asBl at h
  split at h
  · cases h; exact ⟨_, _, rfl⟩
  · cases h
theorem asInt_eq {e : Expr} {b : Int} (h : asInt e = some b) : ∃ j p, e = .Constant (.int b) j p := by
  unfold asInt at h
  split at h
  · cases h; exact ⟨_, _, rfl⟩
  · cases h
theorem asStr_eq {e : Expr} {b : Str} (h : asStr e = some b) : ∃ j p, e = .Constant (.str b) j p := by
  unfold asStr at h
  split at h
  · cases h; exact ⟨_, _, rfl⟩
  · cases h
theorem asName_eq {e : Expr} {x : Str} (h : asName e = some x) : ∃ p, e = .Name x p := by
  unfold asName at h
  split at h
  · cases h; exact ⟨_, rfl⟩
  · cases h
theorem asBin_eq {e : Expr} {l r : Expr} {o : Operator} (h : asBin e = some (l, o, r)) : ∃ p, e = .BinOp l o r p := by
  unfold asBin at h
  split at h
  · cases h; exact ⟨_, rfl⟩
  · cases h
theorem asUn_eq {e : Expr} {l : Expr} {o : UnaryOp} (h : asUn e = some (o, l)) : ∃ p, e = .UnaryOp o l p := by
  unfold asUn at h
  split at h
  · cases h; exact ⟨_, rfl⟩
  · cases h
theorem asBoo_eq {e : Expr} {l : List Expr} {o : BoolOp} (h : asBoo e = some (o, l)) : ∃ p, e = .BoolOp o l p := by
  unfold asBoo at h
  split at h
  · cases h; exact ⟨_, rfl⟩
  · cases h
theorem asCmp_eq {e : Expr} {l r : Expr} {o : CmpOp} (h : asCmp e = some (l, o, r)) : ∃ p, e = .Compare l [o] [r] p := by
  unfold asCmp at h
  split at h
  · cases h; exact ⟨_, rfl⟩
  · cases h
theorem asChain_eq {e : Expr} {l r r' : Expr} {o o' : CmpOp} (h : asChain e = some (l, o, o', r, r')) : ∃ p, e = .Compare l [o, o'] [r, r'] p := by
  unfold asChain at h
  split at h
  · cases h; exact ⟨_, rfl⟩
  · cases h
theorem asIf_eq {e : Expr} {t a b : Expr} (h : asIf e = some (t, a, b)) : ∃ p, e = .IfExp t a b p := by
  unfold asIf at h
  split at h
  · cases h; exact ⟨_, rfl⟩
  · cases h
theorem asSub_eq {e : Expr} {a b : Expr} (h : asSub e = some (a, b)) : ∃ p, e = .Subscript a b p := by
  unfold asSub at h
  split at h
  · cases h; exact ⟨_, rfl⟩
  · cases h
theorem asSlc_eq {e : Expr} {a b : Option Expr} (h : asSlc e = some (a, b)) : ∃ p, e = .Slice a b none p := by
  unfold asSlc at h
  split at h
  · cases h; exact ⟨_, rfl⟩
  · cases h
theorem asTup_eq {e : Expr} {es : List Expr} (h : asTup e = some es) : ∃ k p, e = .Tuple es k p := by
  unfold asTup at h
  split at h
  · cases h; exact ⟨_, _, rfl⟩
  · cases h
theorem asLst_eq {e : Expr} {es : List Expr} (h : asLst e = some es) : ∃ p, e = .List es p := by
  unfold asLst at h
  split at h
  · cases h; exact ⟨_, rfl⟩
  · cases h
theorem asCall_eq {e : Expr} {x : Str} {es : List Expr} (h : asCall e = some (x, es)) : ∃ p q, e = .Call (.Name x p) es [] q := by
  unfold asCall at h
  split at h
  · cases h; exact ⟨_, _, rfl⟩
  · cases h
theorem asKall_eq {e : Expr} {x : Str} {ks : List Keyword} (h : asKall e = some (x, ks)) : ∃ p q, e = .Call (.Name x p) [] ks q := by
  unfold asKall at h
  split at h
  · cases h; exact ⟨_, _, rfl⟩
  · cases h
theorem asMeth_eq {e : Expr} {o : Expr} {m : Str} {es : List Expr} (h : asMeth e = some (o, m, es)) : ∃ p q, e = .Call (.Attribute o m p) es [] q ∧ (p.endLine == q.line) = true := by
  unfold asMeth at h
  split at h
  · split at h
    · next hq => cases h; exact ⟨_, _, rfl, hq⟩
    · cases h
  · cases h
theorem asAtt_eq {e : Expr} {o : Expr} {m : Str} (h : asAtt e = some (o, m)) : ∃ p, e = .Attribute o m p := by
  unfold asAtt at h
  split at h
  · cases h; exact ⟨_, rfl⟩
  · cases h
theorem asComp_eq {e : Expr} {l t i : Expr} {cs : List Expr} {sc : Scope} (h : asComp e = some (l, t, i, cs, sc)) : ∃ p, e = .ListComp l [⟨t, i, cs, 0⟩] sc p := by
  unfold asComp at h
  split at h
  · cases h; exact ⟨_, rfl⟩
  · cases h
theorem isNone_eq {e : Expr} (h : isNone e = true) : ∃ j p, e = .Constant .none j p := by
  unfold isNone at h
  split at h
  · exact ⟨_, _, rfl⟩
  · cases h
theorem asKw_eq {k : Keyword} {a : Str} {e : Expr} (h : asKw k = some (a, e)) : ∃ p, k = ⟨some a, e, p⟩ := by
  unfold asKw at h
  split at h
  · cases h; exact ⟨_, rfl⟩
  · cases h
section
variable {P : Pr} {lk : Chk} {N : List Str} {ini : Bool} {sc : Scope}
theorem okE_starred (x : Ex) (v : Expr) (p : Pos) : okE P lk N ini sc x (.Starred v p) = false := by cases x <;> first | rfl | (next l _ _ _ => cases l <;> rfl)
theorem okE_slice (x : Ex) (a b c : Option Expr) (p : Pos) : okE P lk N ini sc x (.Slice a b c p) = false := by cases x <;> first | rfl | (next l _ _ _ => cases l <;> rfl)
theorem okE_set (x : Ex) (a : List Expr) (b : Nat) (p : Pos) : okE P lk N ini sc x (.Set a b p) = false := by cases x <;> first | rfl | (next l _ _ _ => cases l <;> rfl)
theorem ok_star {x : Ex} {e : Expr} (h : okE P lk N ini sc x e = true) (es : List Expr) (env : Env) : starEach (e :: es) env = (false, eval e env) :: starEach es env := by
  cases e <;> first | rfl | (rw [okE_starred] at h; cases h)
theorem ok_plainIx {x : Ex} {e : Expr} (h : okE P lk N ini sc x e = true) : PlainIx e := by
  cases e <;> first | exact fun _ _ => rfl | (rw [okE_slice] at h; cases h)
theorem ok_mark {x : Ex} {e : Expr} {op : CmpOp} (h : okE P lk N ini sc x e = true) : behindInMarks op e = false := by
  cases e <;> first | rfl | (rw [okE_set] at h; cases h)
theorem ok_fold {x : Ex} {e : Expr} {env : Env} (h : okE P lk N ini sc x e = true) (v : Value) : foldedSetIterable e env v = pure v := by
  cases e <;> first | rfl | (rw [okE_set] at h; cases h)
theorem oks_star : ∀ {xs : List Ex} {es : List Expr}, okEs P lk N ini sc xs es = true → ∀ (env : Env) (pos : Pos), (backTo pos (starEach es env)).any (·.1) = false
  | [], es, h, env, pos => by
    cases es with
    | nil => rfl
    | cons e es => simp [okEs] at h
  | x :: xs, [], h, env, pos => by simp [okEs] at h
  | x :: xs, e :: es, h, env, pos => by
    simp only [okEs, Bool.and_eq_true] at h
    rw [ok_star h.1]
    simpa [backTo] using oks_star h.2 env pos
theorem oks_none : ∀ {xs : List Ex} {es : List Expr}, okEs P lk N ini sc xs es = true → ∀ (env : Env) (pos : Pos), (backTo pos (starEach es env)).all (fun x => !x.1) = true
  | [], es, h, env, pos => by
    cases es with
    | nil => rfl
    | cons e es => simp [okEs] at h
  | x :: xs, [], h, env, pos => by simp [okEs] at h
  | x :: xs, e :: es, h, env, pos => by
    simp only [okEs, Bool.and_eq_true] at h
    rw [ok_star h.1]
    simpa [backTo] using oks_none h.2 env pos
theorem glB_gl {X : Cx} {x : Str} (h : glB X.env.scope x = true) : Gl X x := by
  unfold glB at h
  split at h
  · next e => exact e
  · cases h
theorem visB_vis {x : Str} (h : visB sc x = true) : Vis sc x := by
  unfold visB at h
  split at h
  · next e => exact .inl e
  · next e => exact .inr (.inl e)
  · next e => exact .inr (.inr e)
  · cases h
theorem plainN_1 {x : Str} (h : plainN x = true) : (x == ("__debug__" : Str)) = false := by
  simp only [plainN, Bool.and_eq_true, Bool.not_eq_true'] at h; exact h.1.1
theorem plainN_2 {x : Str} (h : plainN x = true) : (x == ("__classdict__" : Str)) = false := by
  simp only [plainN, Bool.and_eq_true, Bool.not_eq_true'] at h; exact h.1.2
theorem plainA_base {e : Expr} (h : plainA e = true) (f : Str) (env : Env) (w : Sem Value) : attributeBase e f env w = w := by
  cases e with
  | Call g as kw p =>
    cases as with
    | nil => simp [plainA] at h
    | cons a r => cases g <;> rfl
  | _ => rfl
end
section
variable {C : Orc}
theorem se_non : SE C .non := by
  intro W X ini me e f S σ H μ Q cx h hi R F hk
  rw [okE] at h
  obtain ⟨j, p, rfl⟩ := isNone_eq h
  exact U.of pe_non (OkP.now hk R .non)
theorem se_bl {b : Bool} : SE C (.bl b) := by
  intro W X ini me e f S σ H μ Q cx h hi R F hk
  rw [okE] at h
  obtain ⟨j, p, rfl⟩ := asBl_eq (beq_iff_eq.mp h)
  exact U.of pe_bl (OkP.now hk R (.bl b))
theorem se_int {i : Int} : SE C (.int i) := by
  intro W X ini me e f S σ H μ Q cx h hi R F hk
  rw [okE] at h
  obtain ⟨j, p, rfl⟩ := asInt_eq (beq_iff_eq.mp h)
  exact U.of pe_int (OkP.now hk R (.int i))
theorem se_str {x : Str} : SE C (.str x) := by
  intro W X ini me e f S σ H μ Q cx h hi R F hk
  rw [okE] at h
  obtain ⟨j, p, rfl⟩ := asStr_eq (beq_iff_eq.mp h)
  exact U.of pe_str (OkP.now hk R (.str x))
theorem se_v {i : Nat} : SE C (.v i) := by
  intro W X ini me e f S σ H μ Q cx h hi R F hk
  rw [okE] at h
  split at h
  · next x hx =>
    obtain ⟨p, rfl⟩ := asName_eq hx
    simp only [Bool.and_eq_true, decide_eq_true_eq] at h
    obtain ⟨⟨h1, h2⟩, h3⟩ := h
    rw [ev] at hk
    obtain ⟨d, e1, q⟩ := K1.off hk
    have e2 : f.ρ[i]? = some (some d) := by
      unfold getV at e1
      split at e1
      · next o e => rw [e, e1]
      · cases e1
    obtain ⟨v, s1, V1⟩ := F.at_ i d e2
    exact U.of (pe_var h1 (visB_vis h2) (plainN_1 h3) (plainN_2 h3)) ⟨v, s1, OkP.now q R V1⟩
  · cases h
theorem se_g {k : Nat} : SE C (.g k) := by
  intro W X ini me e f S σ H μ Q cx h hi R F hk
  rw [okE] at h
  split at h
  · next x hx =>
    obtain ⟨p, rfl⟩ := asName_eq hx
    simp only [Bool.and_eq_true, beq_iff_eq] at h
    obtain ⟨⟨h1, h2⟩, h3⟩ := h
    rw [ev] at hk
    obtain ⟨d, e1, q⟩ := K1.off hk
    obtain ⟨u, v, m1, r1, V1⟩ := cx.con k d e1
    subst h1
    exact U.of (pe_glob (glB_gl h2) m1 r1 (plainN_1 h3)) (OkP.now q R (V1 W.Z μ H))
  · cases h
theorem fresh_lst {W : Wd} {X : Cx} {μ μ0 : List Addr} {H H0 : Hp} {σ : L2.St} {Q : VK} {m : Bool} {ds : List D} {vs : List V} {S : Store} (E : Ext μ0 H0 μ H) (R : SR W μ S H) (r : VRs W μ H ds vs) (h : K1 (fresh m (.lst ds) S) (OkP W μ0 H0 Q) (XW W X μ0 H0 σ)) :
    ∀ p, H p = none → Q (.ref p) (upd H p (.lst vs)) := fun p hp => by
  cases m with
  | true =>
    have q : OkP W μ0 H0 Q (.loc S.length) (S ++ [.lst ds]) := h
    refine q (μ ++ [p]) _ _ (R.alloc hp r) (E.trans (ext_alloc hp)) (.loc ?_ ⟨_, upd_same⟩)
    rw [List.getElem?_append_right (by rw [R.len]; exact Nat.le_refl _), R.len]
    simp
  | false =>
    have q : OkP W μ0 H0 Q (.lst ds) S := h
    refine q μ _ _ (R.new hp) (E.trans (ext_new hp)) (.lst upd_same (R.free hp) (R.freeZ hp) (r.ext (ext_new hp).z))
theorem fresh_tup {W : Wd} {X : Cx} {μ μ0 : List Addr} {H H0 : Hp} {σ : L2.St} {Q : VK} {m : Bool} {ds : List D} {vs : List V} {S : Store} (E : Ext μ0 H0 μ H) (R : SR W μ S H) (r : VRs W μ H ds vs) (h : K1 (fresh m (.tup ds) S) (OkP W μ0 H0 Q) (XW W X μ0 H0 σ)) :
    ∀ p, H p = none → Q (.ref p) (upd H p (.tup vs)) := fun p hp => by
  cases m with
  | true => exact h.elim
  | false =>
    have q : OkP W μ0 H0 Q (.tup ds) S := h
    exact q μ _ _ (R.new hp) (E.trans (ext_new hp)) (.tup (.inl upd_same) (R.free hp) (R.freeZ hp) (r.ext (ext_new hp).z))
/-- .. a value that was there -/
theorem fresh_old {W : Wd} {X : Cx} {μ μ0 : List Addr} {H H0 : Hp} {σ : L2.St} {Q : VK} {m : Bool} {d : D} {v : V} {S : Store} (E : Ext μ0 H0 μ H) (R : SR W μ S H) (r : VR W μ H d v) (hd : ∀ xs, d ≠ .lst xs) (h : K1 (fresh m d S) (OkP W μ0 H0 Q) (XW W X μ0 H0 σ)) : Q v H := by
  cases m with
  | true =>
    cases d <;> first | exact h.elim | exact absurd rfl (hd _)
  | false =>
    have q : OkP W μ0 H0 Q d S := h
    exact q μ H v R E r
/-- the best of an operator -/
def BO (X : Cx) (g : Value → Value → Sem Value) : R2 := fun x y H Q => ∀ (pins : List (Addr × Obj)) (s : Shared) (σ : L2.St) (v u : Value), L2.Inv X pins σ H s → RelV x v → RelV y u → wpAny (model X.prog X.w) X.A (g v u) (EP X pins σ Q) X.xe s
theorem BO.op (X : Cx) (g : Value → Value → Sem Value) : OpR X g (BO X g) := fun pins s σ H x y v u Q I r1 r2 h => h pins s σ v u I r1 r2
theorem BO.of {X : Cx} {g : Value → Value → Sem Value} {r : R2} (h : OpR X g r) {x y : V} {H : Hp} {Q : VK} (q : r x y H Q) : BO X g x y H Q := fun pins s σ v u I r1 r2 => h pins s σ H x y v u Q I r1 r2 q
def opT : Bop → Operator
  | .add => .Add | .sub => .Sub | .mul => .Mult | .fdiv => .FloorDiv | .mod => .Mod | .pow => .Pow
theorem op_of_ok {o : Bop} {op : Operator} (h : opB o op = true) : op = opT o := by
  cases o <;> cases op <;> first | rfl | (simp [opB] at h)
end
end Th
namespace Th
open PySem PySem.Spec PyProof.Rows L2
theorem tuple_mul1 (l : Addr) (items : Array Value) (n : Nat) (dd : Option Addr) (sl : Array (Option Value)) (u : Tok) :
    Meets (Builtin.«tuple.__mul__» ⟨[.ref l, .int 1 u], []⟩) (fun _ R s => s.heap.get? l = some { cls := .type "tuple", dict := dd, data := .seq items n, slots := sl } ∧ R (.ok (.ret (Value.ref l))) s) :=
  .of_wp fun prog w A R s h => by
    obtain ⟨hp, g, d, tk, os⟩ := s
    obtain ⟨hl, h⟩ := h
    have f1 := AutoSeq1.idx_int
    wp_walk using wpAny_loadPart' hl
    exact ⟨_, rfl, h⟩
theorem op_repT1 {X : Cx} : OpR X (binaryOp .Mult) (fun x y H Q => ∃ l xs, x = V.ref l ∧ y = V.int 1 ∧ SqT X.K H l xs ∧ Q (.ref l) H) := by
  intro pins s σ H x y v u Q I rx ry h
  obtain ⟨l, xs, rfl, rfl, hT, q⟩ := h
  cases rx
  obtain ⟨t, rfl⟩ := ry
  obtain ⟨its, r, ⟨⟨cls, dd, data, sl⟩, ho, hc, n, hd⟩, hs⟩ := I.tuple hT
  simp only at hc hd
  subst hc hd
  exact wpAny_binaryOp_repeat_ref (T := "tuple") (U := "int") (by decide) ⟨_, ho, rfl⟩ (fun s' => typeIs_int s' 1 t) noFill_tuple_mul F.fills_int_mul F.slot_int_rmul repeat_tuple F.slot_int_index.lookup
    (call_meets F.slot_int_rmul (typeIs_int s 1 t) F.entry_int_rmul (F.args_int_rmul_2 _ _) (int_rmul_tuple 1 t l its.toArray n dd sl)
      ⟨ho, rfl, ⟨_, ho, rfl⟩, call_meets F.slot_tuple_mul ⟨_, ho, rfl⟩ F.entry_tuple_mul (F.args_tuple_mul_2 _ _) (tuple_mul1 l its.toArray n dd sl t) ⟨ho, ⟨.ref l, H, I, rfl, q⟩⟩⟩)
theorem tuple_mul0 (l : Addr) (items : Array Value) (n : Nat) (dd : Option Addr) (sl : Array (Option Value)) (u : Tok) (c1 : items.isEmpty = false) :
    Meets (Builtin.«tuple.__mul__» ⟨[.ref l, .int 0 u], []⟩) (fun _ R s => s.heap.get? l = some { cls := .type "tuple", dict := dd, data := .seq items n, slots := sl } ∧
      R (.ok (.ret (Value.ref s.heap.objs.size))) { s with heap := s.heap.push { cls := Value.type "tuple", data := Data.seq #[] }, toks := s.toks }) :=
  .of_wp fun prog w A R s h => by
    obtain ⟨hp, g, d, tk, os⟩ := s
    obtain ⟨hl, h⟩ := h
    have f1 := AutoSeq1.idx_int
    wp_walk using wpAny_loadPart' hl
    repeat (first
      | (refine wpAny_ite_false (decide_eq_false (by rw [c1]; exact Bool.false_ne_true)) ?_; wp_walk using wpAny_loadPart' hl))
    exact ⟨_, rfl, h⟩
theorem op_repT0 {X : Cx} : OpR X (binaryOp .Mult) (fun x y H Q => ∃ l xs, x = V.ref l ∧ y = V.int 0 ∧ SqT X.K H l xs ∧ xs ≠ [] ∧ ∀ p, H p = none → Q (.ref p) (upd H p (.tup []))) := by
  intro pins s σ H x y v u Q I rx ry h
  obtain ⟨l, xs, rfl, rfl, hT, hne, q⟩ := h
  cases rx
  obtain ⟨t, rfl⟩ := ry
  obtain ⟨its, r, ⟨⟨cls, dd, data, sl⟩, ho, hc, n, hd⟩, hs⟩ := I.tuple hT
  simp only at hc hd
  subst hc hd
  have hle : its.length = xs.length := r.length.symm
  have hn : its ≠ [] := fun e => hne (by
    rw [e] at hle
    exact List.eq_nil_of_length_eq_zero hle.symm)
  have hi : its.toArray.isEmpty = false := by
    cases its with
    | nil => exact absurd rfl hn
    | cons a b => rfl
  refine wpAny_binaryOp_repeat_ref (T := "tuple") (U := "int") (by decide) ⟨_, ho, rfl⟩ (fun s' => typeIs_int s' 0 t) noFill_tuple_mul F.fills_int_mul F.slot_int_rmul repeat_tuple F.slot_int_index.lookup
    (call_meets F.slot_int_rmul (typeIs_int s 0 t) F.entry_int_rmul (F.args_int_rmul_2 _ _) (int_rmul_tuple 0 t l its.toArray n dd sl)
      ⟨ho, rfl, ⟨_, ho, rfl⟩, call_meets F.slot_tuple_mul ⟨_, ho, rfl⟩ F.entry_tuple_mul (F.args_tuple_mul_2 _ _) (tuple_mul0 l its.toArray n dd sl t hi) ⟨ho, ?_⟩⟩)
  refine ⟨.ref s.heap.objs.size, _, I.laid (t' := s.toks) (o := .tup []) (fun b ob q => Heap.get?_push_of_some _ q) (Nat.le_refl _) ?_, rfl, q _ (I.hok.fresh (Nat.le_refl _))⟩
  exact ⟨by rw [sizeLine_eq]; decide, [], .nil, IsTup.new _ _⟩
end Th
namespace Th
open PySem PySem.Spec PyProof.Rows L2
section
variable {W : Wd} {C : Orc} {X : Cx} {μ μ0 : List Addr} {H H0 : Hp} {σ : L2.St} {S : Store} {Q : VK} {m : Bool}
theorem Cxt.roomU (cx : Cxt W C X) : X.A.units + 64 < cLine := cx.room.r.units
/-- t * k of any form: not of HandS.TupMul's alone -/
def CMulX (i j : Int) : Prop := i.natAbs.log2 + j.natAbs.log2 < 100000000
theorem mulX_fits {i j : Int} (h : CMulX i j) : IntMulOk i j := by
  have b : ∀ x : Int, Builtin.Int.intBits x ≤ x.natAbs.log2 + 1 := by
    intro x
    unfold Builtin.Int.intBits
    split <;> omega
  have hi := b i
  have hj := b j
  have hs : i.natAbs.log2 + j.natAbs.log2 < 100000000 := h
  have line : bitsLine = 134217728 := by decide
  intro z
  have z2 := (Bool.and_eq_true_iff.mp z).2
  unfold Builtin.Int.intTooBig at z2
  have z3 := of_decide_eq_true z2
  rw [line] at z3
  omega
theorem op_mulX {X : Cx} : OpR X (binaryOp .Mult) (rI CMulX fun i j => .int (i * j)) := opI fun _ _ _ _ _ _ _ hc q => mul_int q (mulX_fits hc)
theorem bop_ok {o : Bop} {op : Operator} {x y z : D} {v u : V} (cx : Cxt W C X) (ho : opB o op = true) (E : Ext μ0 H0 μ H) (R : SR W μ S H) (Vx : VR W μ H x v) (Vy : VR W μ H y u) (e : bop S o x y = some z)
    (hk : K1 (fresh m z S) (OkP W μ0 H0 Q) (XW W X μ0 H0 σ)) : BO X (binaryOp op) v u H Q := by
  have hop := op_of_ok ho
  subst hop
  have kx : X.K = W.K := cx.kk
  have ni : ∀ (i : Int) xs, D.int i ≠ D.lst xs := fun _ _ z => by cases z
  unfold bop at e
  split at e
  · cases e; cases Vx; cases Vy
    exact BO.of op_add ⟨_, _, rfl, rfl, fresh_old E R (.int _) (ni _) hk⟩
  · cases e; cases Vx; cases Vy
    exact BO.of op_sub ⟨_, _, rfl, rfl, fresh_old E R (.int _) (ni _) hk⟩
  · split at e
    · next c => cases e; cases Vx; cases Vy; exact BO.of op_mulX ⟨_, _, rfl, rfl, c, fresh_old E R (.int _) (ni _) hk⟩
    · cases e
  · split at e
    · next c => cases e; cases Vx; cases Vy; exact BO.of op_fdivW ⟨_, _, rfl, rfl, c, fresh_old E R (.int _) (ni _) hk⟩
    · cases e
  · split at e
    · next c => cases e; cases Vx; cases Vy; exact BO.of op_mod ⟨_, _, rfl, rfl, c, fresh_old E R (.int _) (ni _) hk⟩
    · cases e
  · split at e
    · next c => cases e; cases Vx; cases Vy; exact BO.of op_pow ⟨_, _, rfl, rfl, c, fresh_old E R (.int _) (ni _) hk⟩
    · cases e
  · next xs ys =>
    split at e
    · next c =>
      cases e
      obtain ⟨a, vs, rfl, hx, rx⟩ := Vx.seqT
      obtain ⟨b, ws, rfl, hy, ry⟩ := Vy.seqT
      have l1 := rx.len
      have l2 := ry.len
      refine BO.of op_catA ⟨a, b, vs, ws, rfl, rfl, by rw [kx]; exact hx, by rw [kx]; exact hy, by omega, fun z => ?_, fun z z2 => ?_, fun z z2 p hp => ?_⟩
      · subst z
        have : xs = [] := List.length_eq_zero_iff.mp (by simpa using l1)
        subst this
        exact fresh_old E R Vy (fun _ z => by cases z) hk
      · subst z2
        have : ys = [] := List.length_eq_zero_iff.mp (by simpa using l2)
        subst this
        rw [List.append_nil] at hk
        exact fresh_old E R Vx (fun _ z => by cases z) hk
      · exact fresh_tup E R (rx.app ry) hk p hp
    · cases e
  · split at e
    · next c => cases e; cases Vx; cases Vy; exact BO.of op_add_str ⟨_, _, rfl, rfl, c, fresh_old E R (.str _) (fun _ z => by cases z) hk⟩
    · cases e
  · split at e
    · next xs ys h1 h2 =>
      split at e
      · next c =>
        cases e
        obtain ⟨a, vs, rfl, hx, rx⟩ := Vx.lstL R h1
        obtain ⟨b, ws, rfl, hy, ry⟩ := Vy.lstL R h2
        exact BO.of op_cat ⟨a, b, vs, ws, rfl, rfl, hx, hy, by rw [← rx.len, ← ry.len]; exact c, fresh_lst E R (rx.app ry) hk⟩
      · cases e
    · cases e
  · split at e
    · next c1 =>
      subst c1
      cases e
      obtain ⟨a, vs, rfl, hx, rx⟩ := id Vx.seqT
      cases Vy
      exact BO.of op_repT1 ⟨a, vs, rfl, rfl, by rw [kx]; exact hx, fresh_old E R Vx (fun _ z => by cases z) hk⟩
    split at e
    · next c =>
      cases e
      obtain ⟨a, vs, rfl, hx, rx⟩ := Vx.seqT
      cases Vy
      have l1 := rx.len
      rcases c.2.1 with c2 | c2
      · exact BO.of op_repT ⟨a, _, vs, rfl, rfl, by rw [kx]; exact hx, fun z => c.1 (by rw [l1, z]; rfl), c2, c.2.2.1, by rw [← l1]; exact c.2.2.2, fresh_tup E R (rx.rep _) hk⟩
      · subst c2
        exact BO.of op_repT0 ⟨a, vs, rfl, rfl, by rw [kx]; exact hx, fun z => c.1 (by rw [l1, z]; rfl), fresh_tup E R (rx.rep 0) hk⟩
    · cases e
  · split at e
    · next xs h1 =>
      split at e
      · next c =>
        cases e
        obtain ⟨a, vs, rfl, hx, rx⟩ := Vx.lstL R h1
        cases Vy
        exact BO.of op_rep ⟨a, _, vs, rfl, rfl, hx, c.1, c.2.1, by rw [← rx.len]; exact c.2.2, fresh_lst E R (rx.rep _) hk⟩
      · cases e
    · cases e
  · cases e
end
end Th
set_option maxHeartbeats 1000000
namespace Th
open PySem PySem.Spec PyProof.Rows SrtO
section
variable {prog : Program} {w : World} {A : Around} {E : Value → Shared → Prop} {s : Shared} {l : Addr} {vs : List Value}
/-- the list that a walk through a row begins with, filled -/
def fullH (h : Heap) (vs : List Value) : Heap := (h.push (seqObj "list" #[] 0)).update h.objs.size (Obj.mapSeq (· ++ vs.toArray))
theorem gatherT {Q : List Value → Shared → Prop} (hl : s.heap.IsTuple l vs.toArray) (hz : vs.length ≤ sizeLine) (h : Q vs { s with heap := fullH s.heap vs }) : wpAny (model prog w) A (collect (.ref l)) Q E s := by
  obtain ⟨ob, at1, cl, k, da⟩ := id hl
  have at2 : (s.heap.push (seqObj "list" #[] 0)).get? l = some ob := Heap.get?_push_of_some _ at1
  have at3 : (s.heap.push (seqObj "list" #[] 0)).get? s.heap.objs.size = some (seqObj "list" #[] 0) := Heap.get?_push_size _ rfl
  unfold collect
  refine wpAny_bind (wpAny_runValue (codeAny_builtin entry_proto_collect' (show wpAny _ _ (do again (.builtin "list.__iadd__" ⟨[← newList [], .ref l], []⟩)) _ _ s from ?_)))
  refine wpAny_bind (wpAny_newList (wpAny_pure ⟨Code.quiet_builtin _ (by decide +kernel), codeAny_builtin entry_list_iadd' (show wpAny _ _ (Builtin.List.listExtendWith (.ref s.heap.objs.size) (.ref l) (.ref s.heap.objs.size)) _ _ { s with heap := s.heap.push (seqObj "list" #[] 0) } from ?_)⟩))
  unfold Builtin.List.listExtendWith
  refine wpAny_bind (wpAny_typeOf (T := "tuple") ⟨ob, at2, cl⟩ ?_)
  rw [if_pos (by have e : (Value.type "tuple" == Value.type "tuple") = true := rfl
                 rw [e]; simp)]
  refine wpAny_bind (listItems_at at2 da (wpAny_bind (listItems_at at3 rfl ?_)))
  rw [if_neg (by simp)]
  refine wpAny_bind (listUpdate_at at3 rfl (wpAny_pure ?_) (Nat.zero_le _) (by show (#[] ++ vs.toArray).size ≤ sizeLine + 1; simp; omega))
  show wpAny (model prog w) A (do let o ← load s.heap.objs.size; match o.data with | .seq xs _ => pure xs.toList | _ => unsupported "internal:collect") Q E { s with heap := fullH s.heap vs }
  refine wpAny_bind (wpAny_load (get?_update_seq at3 _) (show wpAny _ _ (pure ((#[] : Array Value) ++ vs.toArray).toList) Q E _ from ?_))
  rw [show ((#[] : Array Value) ++ vs.toArray).toList = vs by simp]
  exact wpAny_pure h
theorem sortedT {ltv : Value → Value → Bool} {Q : Value → Shared → Prop} (O : Swo ltv) (hl : s.heap.IsTuple l vs.toArray) (hz : vs.length ≤ sizeLine)
    (hS : 2 ≤ vs.length → ∀ (h₁ : Heap) (a : Addr), h₁.get? a = some (seqObj "list" vs.toArray 0) → (∀ b o, s.heap.get? b = some o → b ≠ a ∧ h₁.get? b = some o) → SortableO prog w A.in1.in1 { s with heap := h₁ } a vs ltv)
    (h : ∀ out : List Value, Srtd ltv out → Stb ltv out vs → Q (.ref (s.heap.objs.size + 1)) { s with heap := sortedAll s.heap vs out.toArray }) : wpAny (model prog w) A (call (.builtin "sorted") [.ref l]) Q E s := by
  refine Calls.call_function_entry kind_sorted plain_sorted entry_sorted (args_sorted1 _) ?_
  unfold Builtin.«sorted»
  have sz : (fullH s.heap vs).objs.size = s.heap.objs.size + 1 := by
    unfold fullH
    rw [Heap.size_update, size_push']
  have on : ((fullH s.heap vs).push (seqObj "list" vs.toArray 0)).get? (s.heap.objs.size + 1) = some (seqObj "list" vs.toArray 0) := by rw [← sz]; exact Heap.get?_push_size _ rfl
  have old : ∀ b o, s.heap.get? b = some o → b ≠ s.heap.objs.size + 1 ∧ ((fullH s.heap vs).push (seqObj "list" vs.toArray 0)).get? b = some o := fun b o q => by
    have lt := Heap.lt_size q
    refine ⟨Nat.ne_of_lt (Nat.lt_succ_of_lt lt), Heap.get?_push_of_some _ ?_⟩
    unfold fullH
    rw [Heap.get?_update_ne _ _ _ _ (Nat.ne_of_lt lt)]
    exact Heap.get?_push_of_some _ q
  refine wpAny_bind (m := checkCount "sorted" 1 1 _) (wpAny_pure (wpAny_bind (gatherT hl hz (wpAny_bind (wpAny_newList ?_ hz)))))
  show wpAny _ _ _ _ _ { s with heap := (fullH s.heap vs).push (seqObj "list" vs.toArray 0) }
  rw [show (({ s with heap := fullH s.heap vs } : Shared).heap.objs.size) = s.heap.objs.size + 1 from sz]
  exact wpAny_bind (wpAny_holding (wpAny_call_entry slot_list_sort ⟨_, on, rfl⟩ entry_list_sort (list_sort_ord O on hz (fun h2 => hS h2 _ _ on old) fun out hs hb => ⟨_, rfl, wpAny_pure ⟨_, rfl, h out hs hb⟩⟩) (args_list_sort _)))
end
section
open L2
variable {X : Cx}
/-- sorted(t), a tuple of numbers -/
theorem cr_sortedT : CallR X (.builtin "sorted") (fun vs H Q => ∃ (a : Addr) (ns : List Int), vs = [V.ref a] ∧ SqT X.K H a (ns.map V.int) ∧ ∀ (ns' : List Int) (p : Addr), ns'.Perm ns → ns'.Pairwise (· ≤ ·) → H p = none → Q (.ref p) (upd H p (.lst (ns'.map V.int)))) := by
  intro pins s σ H vs us Q I r h
  obtain ⟨a, ns, rfl, hs, q⟩ := h
  obtain ⟨its, rv, hl, hz⟩ := I.tuple hs
  rw [Vals.ref1 r]
  have hi := rv.ints
  refine sortedT SrtO.swo_int hl (by rw [← rv.length]; exact hz) (fun h2 h₁ a' _ _ => SrtO.ints_sortable hi h2) fun out h1 h2 => ?_
  obtain ⟨k1, k2, k3⟩ := SrtO.ints_out hi h1 h2
  obtain ⟨ep, he'⟩ := PyProof.Rows.sortedAll_at s.heap its out.toArray
  have hlen : ((out.map SrtO.iv).map V.int).length ≤ sizeLine := by
    rw [List.length_map, k2.length_eq]
    rw [List.length_map] at hz
    exact hz
  exact ⟨.ref _, upd H (s.heap.objs.size + 1) (.lst ((out.map SrtO.iv).map V.int)), I.laid (t' := s.toks) (fun _ _ => PyProof.Rows.sortedAll_old) (Nat.le_succ _) ⟨hlen, out, ep, vals_of_ints k1, he'⟩, rfl, q _ _ k2 k3 (I.hok.fresh (Nat.le_succ _))⟩
end
end Th
set_option maxHeartbeats 1000000
namespace Th
open PySem PySem.Spec PyProof.Rows SrtO
theorem ltL_cons {x y : Int} {xs ys : List Int} : ltL (x :: xs) (y :: ys) = (decide (x < y) || (!decide (y < x) && ltL xs ys)) := rfl
theorem ltL_asym : ∀ a b : List Int, ltL a b = true → ltL b a = false
  | [], [], h => nomatch h
  | [], _ :: _, _ => rfl
  | _ :: _, [], h => nomatch h
  | x :: xs, y :: ys, h => by
    rw [ltL_cons] at h ⊢
    rcases Int.lt_trichotomy x y with c | c | c
    · simp [show ¬ y < x by omega, c]
    · subst c
      simp only [Int.lt_irrefl, decide_false, Bool.not_false, Bool.true_and, Bool.false_or] at h ⊢
      exact ltL_asym xs ys h
    · simp [show ¬ x < y by omega, c] at h
theorem ltL_neg : ∀ a b c : List Int, ltL b a = false → ltL c b = false → ltL c a = false
  | [], [], [], _, _ => rfl
  | [], [], _ :: _, _, _ => rfl
  | [], _ :: _, [], _, h => nomatch h
  | [], _ :: _, _ :: _, _, _ => rfl
  | _ :: _, [], [], h, _ => nomatch h
  | _ :: _, [], _ :: _, h, _ => nomatch h
  | _ :: _, _ :: _, [], _, h => nomatch h
  | x :: xs, y :: ys, z :: zs, h1, h2 => by
    rw [ltL_cons] at h1 h2 ⊢
    simp only [Bool.or_eq_false_iff, Bool.and_eq_false_iff, decide_eq_false_iff_not, Bool.not_eq_false', decide_eq_true_eq] at h1 h2 ⊢
    refine ⟨by omega, ?_⟩
    by_cases c : x < z
    · exact .inl c
    · refine .inr (ltL_neg xs ys zs ?_ ?_)
      · rcases h1.2 with q | q
        · omega
        · exact q
      · rcases h2.2 with q | q
        · omega
        · exact q
theorem ltL_total : ∀ a b : List Int, ltL a b = false → ltL b a = false → a = b
  | [], [], _, _ => rfl
  | [], _ :: _, h, _ => nomatch h
  | _ :: _, [], _, h => nomatch h
  | x :: xs, y :: ys, h1, h2 => by
    rw [ltL_cons] at h1 h2
    simp only [Bool.or_eq_false_iff, Bool.and_eq_false_iff, decide_eq_false_iff_not, Bool.not_eq_false', decide_eq_true_eq] at h1 h2
    have e : x = y := by omega
    subst e
    rw [ltL_total xs ys (h1.2.resolve_left (by omega)) (h2.2.resolve_left (by omega))]
theorem ltL_swo {α : Type} (k : α → List Int) : Swo fun x y => ltL (k x) (k y) := ⟨fun x y h => ltL_asym _ _ h, fun x y z h1 h2 => ltL_neg _ _ _ h1 h2⟩
theorem insL_perm (x : List Int) : ∀ ys, (insL x ys).Perm (x :: ys)
  | [] => List.Perm.refl _
  | y :: ys => by
    unfold insL
    split
    · exact ((insL_perm x ys).cons y).trans (List.Perm.swap ..)
    · exact List.Perm.refl _
theorem sortL_perm : ∀ xs, (sortL xs).Perm xs
  | [] => List.Perm.refl _
  | x :: xs => (insL_perm x (sortL xs)).trans ((sortL_perm xs).cons x)
abbrev SrL (xs : List (List Int)) : Prop := xs.Pairwise fun x y => ltL y x = false
theorem insL_srt (x : List Int) : ∀ ys, SrL ys → SrL (insL x ys)
  | [], _ => List.pairwise_singleton _ _
  | y :: ys, h => by
    unfold insL
    rw [SrL, List.pairwise_cons] at h
    split
    · next c =>
      rw [SrL, List.pairwise_cons]
      refine ⟨fun z hz => ?_, insL_srt x ys h.2⟩
      rcases List.mem_cons.mp ((insL_perm x ys).mem_iff.mp hz) with rfl | hz
      · exact ltL_asym _ _ c
      · exact h.1 z hz
    · next c =>
      have c' : ltL y x = false := by simpa using c
      rw [SrL, List.pairwise_cons, List.pairwise_cons]
      refine ⟨fun z hz => ?_, h⟩
      rcases List.mem_cons.mp hz with rfl | hz
      · exact c'
      · exact ltL_neg _ _ _ c' (h.1 z hz)
theorem sortL_srt : ∀ xs, SrL (sortL xs)
  | [] => .nil
  | x :: xs => insL_srt x _ (sortL_srt xs)
theorem srL_one : ∀ {xs ys : List (List Int)}, xs.Perm ys → SrL xs → SrL ys → xs = ys
  | [], ys, p, _, _ => List.Perm.nil_eq p
  | x :: xs, [], p, _, _ => absurd p.length_eq (by simp)
  | x :: xs, y :: ys, p, h1, h2 => by
    rw [SrL, List.pairwise_cons] at h1 h2
    have e : x = y := by
      have a : x ∈ y :: ys := p.mem_iff.mp List.mem_cons_self
      have b : y ∈ x :: xs := p.mem_iff.mpr List.mem_cons_self
      rcases List.mem_cons.mp a with rfl | a
      · rfl
      · rcases List.mem_cons.mp b with rfl | b
        · rfl
        · exact ltL_total _ _ (h2.1 x a) (h1.1 y b) |>.symm ▸ rfl
    subst e
    rw [srL_one p.cons_inv h1.2 h2.2]
abbrev noTx : Nat → Bool := fun _ => false
theorem tupItems_ints : ∀ {its : List Value} {t : List Int} (i : Nat), IntsAre its t → tupItems noTx i its = some (t.map Sum.inl)
  | _, _, _, .nil => rfl
  | _, _, i, .cons n tk r => by
    show (if noTx i = true then none else (tupItems noTx (i + 1) _).map (Sum.inl n :: ·)) = _
    rw [if_neg (show ¬ noTx i = true from Bool.false_ne_true), tupItems_ints (i + 1) r]
    rfl
theorem lexLt_ints : ∀ a b : List Int, lexLt itemOrd (a.map Sum.inl) (b.map Sum.inl) = ltL a b
  | [], [] => rfl
  | [], _ :: _ => rfl
  | _ :: _, [] => rfl
  | x :: xs, y :: ys => by
    show (decide (x < y) || (!decide (y < x) && lexLt itemOrd (xs.map Sum.inl) (ys.map Sum.inl))) = _
    rw [lexLt_ints xs ys]
    rfl
/-- a row of numbers stands there -/
def RowAt (h : Heap) (v : Value) (t : List Int) : Prop := ∃ (a : Addr) (its : List Value) (o : Obj) (n : Nat), v = .ref a ∧ h.get? a = some o ∧ o.cls = .type "tuple" ∧ o.data = .seq its.toArray n ∧ IntsAre its t
theorem RowAt.key {h : Heap} {v : Value} {t : List Int} (r : RowAt h v t) : tupKey h noTx v = some (t.map Sum.inl) := by
  obtain ⟨a, its, o, n, rfl, ho, hc, hd, hi⟩ := r
  simp only [tupKey, ho, hd]
  exact tupItems_ints 0 hi
theorem RowAt.keeps {h h' : Heap} {v : Value} {t : List Int} (r : RowAt h v t) (k : ∀ b o, h.get? b = some o → o.cls = .type "tuple" → h'.get? b = some o) : RowAt h' v t := by
  obtain ⟨a, its, o, n, rfl, ho, hc, hd, hi⟩ := r
  exact ⟨a, its, o, n, rfl, k a o ho hc, hc, hd, hi⟩
theorem RowAt.uniq {h : Heap} {v : Value} {t u : List Int} (r : RowAt h v t) (q : RowAt h v u) : t = u := by
  have e := r.key.symm.trans q.key
  have := Option.some.inj e
  exact List.map_inj_right (f := (Sum.inl : Int → Int ⊕ List Nat)) (fun _ _ z => Sum.inl.inj z) |>.mp this
section
variable {prog : Program} {w : World} {A : Around} {E : Value → Shared → Prop} {s : Shared} {l : Addr} {vs : List Value}
theorem rows_cmp {k : Value → List Int} (hp : ∀ v ∈ vs, RowAt s.heap v (k v)) : Cmp prog w A s (tuples' true) (fun p => p.1 ∈ vs) (lt2 fun v u => ltL (k v) (k u)) := by
  intro p q hm hm'
  show wpAny (model prog w) A (keyLt' (tuples' true) p.1 q.1) (fun r s' => s' = s ∧ r = ltL (k p.1) (k q.1)) (fun _ _ => False) s
  refine tup_ltAt (shape := noTx) true A _ p.1 q.1 _ _ (hp _ hm).key (hp _ hm').key ⟨rfl, ?_⟩
  exact lexLt_ints _ _
theorem rows_first : ∀ {vs : List Value} {k : Value → List Int}, (∀ v ∈ vs, RowAt s.heap v (k v) ∧ k v ≠ []) → ∃ fs, TupsOf s.heap noTx vs fs ∧ fs.length = vs.length
  | [], _, _ => ⟨[], .nil, rfl⟩
  | v :: vs, k, h => by
    obtain ⟨⟨a, its, o, n, e, ho, hc, hd, hi⟩, ne⟩ := h v List.mem_cons_self
    obtain ⟨fs, h1, h2⟩ := rows_first (vs := vs) (k := k) fun u hu => h u (List.mem_cons_of_mem _ hu)
    cases hi2 : its with
    | nil => rw [hi2] at hi; generalize k v = t at hi ne; cases hi; exact absurd rfl ne
    | cons f r =>
      refine ⟨f :: fs, .cons ⟨a, o, its.toArray, n, e, ho, hc, hd, by rw [hi2]; rfl, fun _ => ?_, fun z => nomatch z⟩ h1, by rw [List.length_cons, List.length_cons, h2]⟩
      rw [hi2] at hi
      generalize k v = t at hi
      cases hi
      exact ⟨_, _, rfl⟩
theorem rows_sortable {a : Addr} {k : Value → List Int} (h0 : 0 < vs.length) (hp : ∀ v ∈ vs, RowAt s.heap v (k v) ∧ k v ≠ []) (ha : ∀ o, s.heap.get? a = some o → o.cls ≠ .type "tuple") : SortableO prog w A s a vs fun v u => ltL (k v) (k u) := by
  intro h' keep
  have hp' : ∀ v ∈ vs, RowAt h' v (k v) ∧ k v ≠ [] := fun v hm => ⟨(hp v hm).1.keeps fun b o e c => keep b o (fun z => by subst z; exact ha o e c) e, (hp v hm).2⟩
  obtain ⟨fs, h1, h2⟩ := rows_first (s := { s with heap := h' }) hp'
  exact ⟨tuples' true, fun Q E hq => tup_kind (by omega) h1 hq, rows_cmp (s := { s with heap := h' }) fun v hm => (hp' v hm).1⟩
end
section
open L2
variable {X : Cx}
/-- rows of numbers in the heap that is told -/
inductive RowsV (G : V → List Int → Prop) (K : PySem.W.Frag) (H : Hp) : List V → List (List Int) → Prop where
  | nil : RowsV G K H [] []
  | cons {a : Addr} {n : Int} {ns : List Int} {vs : List V} {ts : List (List Int)} (h : SqT K H a ((n :: ns).map V.int)) (g : G (.ref a) (n :: ns)) (r : RowsV G K H vs ts) : RowsV G K H (.ref a :: vs) ((n :: ns) :: ts)
inductive RowF (p : Value → List Int → Prop) : List Value → List (List Int) → Prop where
  | nil : RowF p [] []
  | cons {v : Value} {t : List Int} {vs : List Value} {ts : List (List Int)} (h : p v t) (r : RowF p vs ts) : RowF p (v :: vs) (t :: ts)
theorem RowsV.heap {G : V → List Int → Prop} {pins : List (Addr × Obj)} {σ : L2.St} {H : Hp} {s : Shared} (I : L2.Inv X pins σ H s) : ∀ {vs : List V} {ts : List (List Int)} {its : List Value}, RowsV G X.K H vs ts → Vals vs its → ∃ k : Value → List Int, its.map k = ts ∧ ∀ v ∈ its, RowAt s.heap v (k v) ∧ k v ≠ [] ∧ ∃ a, v = .ref a ∧ SqT X.K H a ((k v).map V.int) ∧ G (.ref a) (k v)
  | vs, ts, its, r, rv => by
    have one : ∀ {vs : List V} {ts : List (List Int)} {its : List Value}, RowsV G X.K H vs ts → Vals vs its → RowF (fun v t => RowAt s.heap v t ∧ t ≠ [] ∧ ∃ a, v = .ref a ∧ SqT X.K H a (t.map V.int) ∧ G (.ref a) t) its ts := by
      intro vs ts its r
      induction r generalizing its with
      | nil => intro rv; cases rv; exact .nil
      | cons h g r ih =>
        intro rv
        cases rv with
        | cons rx rr =>
          cases rx
          obtain ⟨its2, rv2, ⟨o, ho, hc, n, hd⟩, _⟩ := I.tuple h
          exact .cons ⟨⟨_, its2, o, n, rfl, ho, hc, hd, rv2.ints⟩, by simp, _, rfl, h, g⟩ (ih rr)
    have F := one r rv
    classical
    let k : Value → List Int := fun v => if h : ∃ t, RowAt s.heap v t then h.choose else []
    have hk : ∀ v t, RowAt s.heap v t → k v = t := fun v t h => by
      have ex : ∃ t, RowAt s.heap v t := ⟨t, h⟩
      show (if h : ∃ t, RowAt s.heap v t then h.choose else []) = t
      rw [dif_pos ex]
      exact ex.choose_spec.uniq h
    refine ⟨k, ?_, ?_⟩
    · clear r rv one
      induction F with
      | nil => rfl
      | cons h F ih => rw [List.map_cons, hk _ _ h.1, ih]
    · clear r rv one
      induction F with
      | nil => intro v hv; cases hv
      | cons h F ih =>
        intro v hv
        rcases List.mem_cons.mp hv with rfl | hv
        · rw [hk _ _ h.1]; exact h
        · exact ih v hv
theorem RowsV.of {G : V → List Int → Prop} {K : PySem.W.Frag} {H : Hp} {k : Value → List Int} : ∀ {out : List Value}, (∀ v ∈ out, k v ≠ [] ∧ ∃ a, v = .ref a ∧ SqT K H a ((k v).map V.int) ∧ G (.ref a) (k v)) → ∃ ws, RowsV G K H ws (out.map k) ∧ Vals ws out ∧ ws.length = out.length
  | [], _ => ⟨[], .nil, .nil, rfl⟩
  | v :: out, h => by
    obtain ⟨ws, h1, h2, h3⟩ := RowsV.of (out := out) fun u hu => h u (List.mem_cons_of_mem _ hu)
    obtain ⟨ne, a, rfl, hq, hg⟩ := h v List.mem_cons_self
    refine ⟨.ref a :: ws, ?_, .cons rfl h2, by rw [List.length_cons, List.length_cons, h3]⟩
    rw [List.map_cons]
    generalize hk : k (.ref a) = t at *
    cases t with
    | nil => exact absurd rfl ne
    | cons n ns => exact .cons hq hg h1
/-- sorted(x), rows of numbers -/
theorem cr_sortedRows {G : V → List Int → Prop} : CallR X (.builtin "sorted") (fun vs H Q => ∃ (a : Addr) (ws : List V) (ts : List (List Int)), vs = [V.ref a] ∧ (SqL X.K H a ws ∨ SqT X.K H a ws) ∧ RowsV G X.K H ws ts ∧ ∀ (ws' : List V) (p : Addr), RowsV G X.K H ws' (sortL ts) → H p = none → Q (.ref p) (upd H p (.lst ws'))) := by
  intro pins s σ H vs us Q I r h
  obtain ⟨a, ws, ts, rfl, hs, hr, q⟩ := h
  rw [Vals.ref1 r]
  have fin : ∀ {its : List Value}, Vals ws its → its.length ≤ sizeLine → ∀ k : Value → List Int, its.map k = ts → (∀ v ∈ its, RowAt s.heap v (k v) ∧ k v ≠ [] ∧ ∃ a, v = .ref a ∧ SqT X.K H a ((k v).map V.int) ∧ G (.ref a) (k v)) →
      ∀ out : List Value, Srtd (fun v u => ltL (k v) (k u)) out → Stb (fun v u => ltL (k v) (k u)) out its → EP X pins σ Q (.ref (s.heap.objs.size + 1)) { s with heap := sortedAll s.heap its out.toArray } := by
    intro its rv hz k hk hv out h1 h2
    obtain ⟨ws', r1, r2, r3⟩ := RowsV.of (G := G) (K := X.K) (H := H) (k := k) (out := out) fun v hm => (hv v (h2.perm.mem_iff.mp hm)).2
    have e : out.map k = sortL ts := srL_one ((h2.perm.map k).trans (by rw [hk]; exact (sortL_perm ts).symm)) (List.pairwise_map.mpr (h1.imp fun {x y} z => z)) (sortL_srt ts)
    rw [e] at r1
    obtain ⟨ep, he'⟩ := PyProof.Rows.sortedAll_at s.heap its out.toArray
    have hlen : ws'.length ≤ sizeLine := by rw [r3, h2.len]; exact hz
    exact ⟨.ref _, upd H (s.heap.objs.size + 1) (.lst ws'), I.laid (t' := s.toks) (fun _ _ => PyProof.Rows.sortedAll_old) (Nat.le_succ _) ⟨hlen, out, ep, r2, he'⟩, rfl, q ws' _ r1 (I.hok.fresh (Nat.le_succ _))⟩
  have srt : ∀ {its : List Value} (k : Value → List Int), (∀ v ∈ its, RowAt s.heap v (k v) ∧ k v ≠ [] ∧ ∃ a, v = .ref a ∧ SqT X.K H a ((k v).map V.int) ∧ G (.ref a) (k v)) → 2 ≤ its.length → ∀ (h₁ : Heap) (a : Addr), h₁.get? a = some (seqObj "list" its.toArray 0) → (∀ b o, s.heap.get? b = some o → b ≠ a ∧ h₁.get? b = some o) →
      SortableO X.prog X.w X.A.in1.in1 { s with heap := h₁ } a its (fun v u => ltL (k v) (k u)) := by
    intro its k hv h2 h₁ b hb kk
    refine rows_sortable (s := { s with heap := h₁ }) (by omega) (fun v hm => ⟨(hv v hm).1.keeps fun c o e _ => (kk c o e).2, (hv v hm).2.1⟩) fun o e => ?_
    have e' : some o = some (seqObj "list" its.toArray 0) := e.symm.trans hb
    cases e'
    intro c
    exact absurd (Value.type.inj c) (by decide)
  rcases hs with hs | hs
  · obtain ⟨its, rv, hl, hz⟩ := I.list hs
    obtain ⟨k, hk, hv⟩ := hr.heap I rv
    have hz' : its.length ≤ sizeLine := by rw [← rv.length]; exact hz
    exact SrtO.sorted_ord (ltL_swo k) hl.isList hz' (srt k hv) (fin rv hz' k hk hv)
  · obtain ⟨its, rv, hl, hz⟩ := I.tuple hs
    obtain ⟨k, hk, hv⟩ := hr.heap I rv
    have hz' : its.length ≤ sizeLine := by rw [← rv.length]; exact hz
    exact sortedT (ltL_swo k) hl hz' (srt k hv) (fin rv hz' k hk hv)
end
end Th
namespace Th
open PySem PySem.Spec PyProof.Rows L2
section
variable {W : Wd} {C : Orc} {X : Cx} {μ μ0 : List Addr} {H H0 : Hp} {σ : L2.St} {S : Store} {Q : VK} {m : Bool}
set_option maxHeartbeats 2000000 in
mutual
theorem VR.dp {hd : Nat → Option PyData} (hh : ∀ (n : Nat) (a : Addr) (p : PyData), hd n = some p → μ[n]? = some a → Dp W.K H (.ref a) p) : ∀ {d : D} {v : V} {p : PyData}, VR W μ H d v → toP hd d = some p → Dp W.K H v p
  | _, _, p, .non, e => by cases (show some PyData.none = some p from e); exact .non
  | _, _, p, .bl b, e => by cases (show some (PyData.bool b) = some p from e); exact .bl b
  | _, _, p, .int i, e => by cases (show some (PyData.int i) = some p from e); exact .int i
  | _, _, p, .str x, e => by cases (show some (PyData.str x) = some p from e); exact .str x
  | .tup ds, _, p, .tup h n z r, e => by
    have e' : (toPs hd ds).map PyData.tuple = some p := e
    cases q : toPs hd ds with
    | none => rw [q] at e'; cases e'
    | some ps => rw [q] at e'; cases e'; exact .tup (.inl h) (VRs.dp hh r q)
  | .tup ds, _, p, .tupK h r, e => by
    have e' : (toPs hd ds).map PyData.tuple = some p := e
    cases q : toPs hd ds with
    | none => rw [q] at e'; cases e'
    | some ps => rw [q] at e'; cases e'; exact .tup (.inr h) (VRs.dp hh r q)
  | .lst ds, _, p, .lst h n z r, e => by
    have e' : (toPs hd ds).map PyData.list = some p := e
    cases q : toPs hd ds with
    | none => rw [q] at e'; cases e'
    | some ps => rw [q] at e'; cases e'; exact .lst (.inl (.inl h)) (VRs.dp hh r q)
  | .frz ds, _, p, .frz h n z r, e => by
    have e' : (toPs hd ds).map PyData.list = some p := e
    cases q : toPs hd ds with
    | none => rw [q] at e'; cases e'
    | some ps => rw [q] at e'; cases e'; exact .lst (.inl h) (VRs.dp hh r q)
  | .frz ds, _, p, .frzK h r, e => by
    have e' : (toPs hd ds).map PyData.list = some p := e
    cases q : toPs hd ds with
    | none => rw [q] at e'; cases e'
    | some ps => rw [q] at e'; cases e'; exact .lst (.inr h) (VRs.dp hh r q)
  | .obj c ds, _, p, .obj h n z hk hc hf r, e => by cases (show none = some p from e)
  | .loc n, _, p, .loc h _, e => hh n _ p e h
theorem VRs.dp {hd : Nat → Option PyData} (hh : ∀ (n : Nat) (a : Addr) (p : PyData), hd n = some p → μ[n]? = some a → Dp W.K H (.ref a) p) : ∀ {ds : List D} {vs : List V} {ps : List PyData}, VRs W μ H ds vs → toPs hd ds = some ps → DpAll W.K H vs ps
  | _, _, ps, .nil, e => by cases (show some [] = some ps from e); exact .nil
  | d :: ds, _, ps, .cons h r, e => by
    simp only [toPs] at e
    split at e
    · next p qs e1 e2 => cases e; exact .cons (VR.dp hh h e1) (VRs.dp hh r e2)
    · cases e
end
theorem locP_dp (R : SR W μ S H) : ∀ (k n : Nat) (a : Addr) (p : PyData), locP S k n = some p → μ[n]? = some a → Dp W.K H (.ref a) p
  | 0, _, _, _, e, _ => by cases e
  | k + 1, n, a, p, e, ha => by
    simp only [locP] at e
    split at e
    · next xs q =>
      obtain ⟨a', vs, e1, e2, r⟩ := R.list q
      rw [ha] at e1; cases e1
      cases q2 : toPs (locP S k) xs with
      | none => rw [q2] at e; cases e
      | some ps => rw [q2] at e; cases e; exact .lst (.inl (.inl e2)) (r.dp (locP_dp R k) q2)
    · cases e
theorem pd_ok (R : SR W μ S H) {d : D} {v : V} {p : PyData} (V1 : VR W μ H d v) (e : pd S d = some p) : Dp W.K H v p ∧ SeqAt.shaped p = true := by
  unfold pd at e
  split at e
  · next q e1 =>
    split at e
    · next hs => cases e; exact ⟨V1.dp (locP_dp R 3) e1, hs⟩
    · cases e
  · cases e
theorem room_sh {d : PyData} {n : Nat} {X : Cx} (h : SeqAt.shaped d = true) (hu : X.A.units + 65 < cLine) : X.A.units + 1 + min n d.depth < cLine := by
  unfold SeqAt.shaped at h
  simp only [Bool.and_eq_true, decide_eq_true_eq] at h
  have := h.2
  have : min n d.depth ≤ d.depth := Nat.min_le_right _ _
  omega
/-- x in t -/
theorem op_inTup (hu : X.A.units + 65 < cLine) : OpR X (compareOp .In) (fun x y H Q => ∃ d ds, Dp X.K H x d ∧ Dp X.K H y (.tuple ds) ∧ SeqAt.shaped d = true ∧ SeqAt.shaped (.tuple ds) = true ∧ Q (.bl (ds.any fun z => PyData.eqv z d)) H) := by
  intro pins s σ H x y v u Q I rx ry h
  obtain ⟨d, ds, hd, he, sd, se, q⟩ := h
  obtain ⟨as, r1⟩ := Dp.reads I d x v hd rx
  obtain ⟨bs, r2⟩ := Dp.reads I (.tuple ds) y u he ry
  exact SeqAt.in_tuple_reads r2 r1 (SeqAt.canLay_of_shaped se) (SeqAt.canLay_of_shaped sd) (room_sh sd hu) ⟨.bl _, H, I, rfl, q⟩
theorem op_notInTup (hu : X.A.units + 65 < cLine) : OpR X (compareOp .NotIn) (fun x y H Q => ∃ d ds, Dp X.K H x d ∧ Dp X.K H y (.tuple ds) ∧ SeqAt.shaped d = true ∧ SeqAt.shaped (.tuple ds) = true ∧ Q (.bl (!ds.any fun z => PyData.eqv z d)) H) := by
  intro pins s σ H x y v u Q I rx ry h
  obtain ⟨d, ds, hd, he, sd, se, q⟩ := h
  obtain ⟨as, r1⟩ := Dp.reads I d x v hd rx
  obtain ⟨bs, r2⟩ := Dp.reads I (.tuple ds) y u he ry
  exact SeqAt.notIn_tuple_reads r2 r1 (SeqAt.canLay_of_shaped se) (SeqAt.canLay_of_shaped sd) (room_sh sd hu) ⟨.bl _, H, I, rfl, q⟩
def copT : Cop → CmpOp
  | .eq => .Eq | .ne => .NotEq | .lt => .Lt | .le => .LtE | .gt => .Gt | .ge => .GtE | .isN => .Is | .notN => .IsNot | .in_ => .In | .notIn => .NotIn
theorem cop_of_ok {o : Cop} {op : CmpOp} (h : copB o op = true) : op = copT o := by
  cases o <;> cases op <;> first | rfl | (simp [copB] at h)
theorem Cxt.u65 (cx : Cxt W C X) : X.A.units + 65 < cLine := by have := cx.room.r.un; omega
theorem VR.notNon {d : D} {v : V} (r : VR W μ H d v) (h : d ≠ .non) : decide (v = V.non) = false := by
  cases r <;> first | exact absurd rfl h | rfl
theorem cop_ok {o : Cop} {op : CmpOp} {x y : D} {b : Bool} {v u : V} (cx : Cxt W C X) (ho : copB o op = true) (R : SR W μ S H) (Vx : VR W μ H x v) (Vy : VR W μ H y u) (e : cop S o x y = some b)
    (hk : Q (.bl b) H) : BO X (compareOp op) v u H Q := by
  have hop := cop_of_ok ho
  subst hop
  have kx : X.K = W.K := cx.kk
  have hu := cx.u65
  unfold cop at e
  split at e
  · cases e; cases Vx; cases Vy; exact BO.of op_lt ⟨_, _, rfl, rfl, hk⟩
  · cases e; cases Vx; cases Vy; exact BO.of op_le ⟨_, _, rfl, rfl, hk⟩
  · cases e; cases Vx; cases Vy; exact BO.of op_gt ⟨_, _, rfl, rfl, hk⟩
  · cases e; cases Vx; cases Vy; exact BO.of op_ge ⟨_, _, rfl, rfl, hk⟩
  · cases e; cases Vx; cases Vy; exact BO.of op_isN ⟨rfl, hk⟩
  · next hne => cases e; cases Vy; exact BO.of op_isN ⟨rfl, by rw [Vx.notNon (fun z => hne z)]; exact hk⟩
  · cases e; cases Vx; cases Vy; exact BO.of op_notN ⟨rfl, hk⟩
  · next hne => cases e; cases Vy; exact BO.of op_notN ⟨rfl, by rw [Vx.notNon (fun z => hne z)]; exact hk⟩
  · cases e; cases Vx; cases Vy; exact BO.of op_is_bl ⟨_, _, rfl, rfl, hk⟩
  · cases e; cases Vx; cases Vy; exact BO.of op_isnot_bl ⟨_, _, rfl, rfl, hk⟩
  · split at e
    · next p q e1 e2 =>
      cases e
      obtain ⟨d1, s1⟩ := pd_ok R Vx e1
      obtain ⟨d2, s2⟩ := pd_ok R Vy e2
      rw [← kx] at d1 d2
      exact BO.of (op_eqD cx.roomU) ⟨p, q, d1, d2, s1, s2, hk⟩
    · cases e
  · split at e
    · next p q e1 e2 =>
      cases e
      obtain ⟨d1, s1⟩ := pd_ok R Vx e1
      obtain ⟨d2, s2⟩ := pd_ok R Vy e2
      rw [← kx] at d1 d2
      exact BO.of (op_neD cx.roomU) ⟨p, q, d1, d2, s1, s2, hk⟩
    · cases e
  · next c z =>
    cases Vx; cases Vy
    unfold signIn at e
    split at e
    · next k hk2 =>
      cases e
      have hc : c = ⟨#[k]⟩ := TL.ext_tl (by show c.cps.toList = _; rw [hk2])
      exact BO.of op_in_sign ⟨k, z, by rw [hc], rfl, hk⟩
    · cases e
  · next c z =>
    cases Vx; cases Vy
    unfold signIn at e
    split at e
    · next k hk2 =>
      cases e
      have hc : c = ⟨#[k]⟩ := TL.ext_tl (by show c.cps.toList = _; rw [hk2])
      exact BO.of op_notIn_sign ⟨k, z, by rw [hc], rfl, hk⟩
    · cases e
  · split at e
    · next p q e1 e2 =>
      cases e
      obtain ⟨d1, s1⟩ := pd_ok R Vx e1
      obtain ⟨d2, s2⟩ := pd_ok R Vy e2
      rw [← kx] at d1 d2
      exact BO.of (op_inD hu) ⟨p, q, d1, d2, s1, s2, hk⟩
    · next p q e1 e2 =>
      cases e
      obtain ⟨d1, s1⟩ := pd_ok R Vx e1
      obtain ⟨d2, s2⟩ := pd_ok R Vy e2
      rw [← kx] at d1 d2
      exact BO.of (op_inTup hu) ⟨p, q, d1, d2, s1, s2, hk⟩
    · cases e
  · split at e
    · next p q e1 e2 =>
      cases e
      obtain ⟨d1, s1⟩ := pd_ok R Vx e1
      obtain ⟨d2, s2⟩ := pd_ok R Vy e2
      rw [← kx] at d1 d2
      exact BO.of (op_notInD hu) ⟨p, q, d1, d2, s1, s2, hk⟩
    · next p q e1 e2 =>
      cases e
      obtain ⟨d1, s1⟩ := pd_ok R Vx e1
      obtain ⟨d2, s2⟩ := pd_ok R Vy e2
      rw [← kx] at d1 d2
      exact BO.of (op_notInTup hu) ⟨p, q, d1, d2, s1, s2, hk⟩
    · cases e
  · cases e
theorem truth_ok {d : D} {v : V} {b : Bool} (cx : Cxt W C X) (R : SR W μ S H) (V1 : VR W μ H d v) (e : truth S d = some b) : TruV X.K v H b := by
  have kx : X.K = W.K := cx.kk
  unfold truth at e
  split at e
  · cases e; cases V1; rfl
  · cases e; cases V1; rfl
  · cases e; cases V1; rfl
  · split at e
    · next c => cases e; cases V1; exact ⟨c, rfl⟩
    · cases e
  · cases q : seqOf S d with
    | none => rw [q] at e; cases e
    | some xs =>
      rw [q] at e; cases e
      obtain ⟨a, vs, rfl, h, r⟩ := V1.seq R q
      have l : xs.isEmpty = vs.isEmpty := by
        have := r.len
        cases xs <;> cases vs <;> first | rfl | (simp at this)
      rw [← kx] at h
      rcases h with h | h
      · exact .inl ⟨vs, h, by show (!xs.isEmpty) = _; rw [l]⟩
      · exact .inr (.inl ⟨vs, h, by show (!xs.isEmpty) = _; rw [l]⟩)
theorem atI_get {α : Type} {xs : List α} {k : Int} {x : α} (h : atI xs k = some x) : ∃ j, ixN xs.length k = some j ∧ xs[j]? = some x := by
  unfold atI at h
  cases e : ixN xs.length k with
  | none => rw [e] at h; cases h
  | some j => rw [e] at h; exact ⟨j, rfl, h⟩
theorem item_ok {x i d : D} {v u : V} (cx : Cxt W C X) (R : SR W μ S H) (Vx : VR W μ H x v) (Vi : VR W μ H i u) (e : itemAt S x i = some d) (hk : ∀ w, VR W μ H d w → Q w H) : rIx X.K v u H Q := by
  have kx : X.K = W.K := cx.kk
  unfold itemAt at e
  split at e
  · next k =>
    split at e
    · next xs q =>
      obtain ⟨a, vs, rfl, h, r⟩ := Vx.seq R q
      obtain ⟨j, h1, h2⟩ := atI_get e
      obtain ⟨w, g1, g2⟩ := r.get h2
      cases Vi
      have at2 : atI vs k = some w := by
        unfold atI
        rw [← r.len, h1]
        exact g1
      rw [← kx] at h
      rcases h with h | h
      · exact .inl ⟨a, vs, k, w, rfl, rfl, h, at2, hk w g2⟩
      · exact .inr (.inl ⟨a, vs, k, w, rfl, rfl, h, at2, hk w g2⟩)
    · split at e
      · next z _ =>
        split at e
        · next hz =>
          cases q2 : atI z.cps.toList k with
          | none => rw [q2] at e; cases e
          | some c =>
            rw [q2] at e; cases e
            cases Vx; cases Vi
            exact .inr (.inr ⟨z, k, c, rfl, rfl, hz, q2, hk _ (.str _)⟩)
        · cases e
      · cases e
  · cases e
theorem cut_len {ds : List D} {vs : List V} (r : VRs W μ H ds vs) (lo hi : Option Int) : VRs W μ H (cutD ds lo hi) (cutV vs lo hi) := by
  unfold cutD cutV
  rw [r.len]
  exact (r.drop _).take _
/-- a slice, by values -/
def rCut (K : PySem.W.Frag) : V → Option Int → Option Int → Hp → VK → Prop := fun x lo hi H Q => rSlL K x lo hi H Q ∨ rSlA K x lo hi H Q
theorem sl_cut : SlR X (rCut X.K) := by
  intro pins s σ H x v vl vu lo hi sl Q I rx hs pl pu h
  rcases h with h | h
  · exact sl_list pins s σ H x v vl vu lo hi sl Q I rx hs pl pu h
  · exact sl_tupA pins s σ H x v vl vu lo hi sl Q I rx hs pl pu h
theorem slice_ok {x z : D} {v : V} {lo hi : Option Int} (cx : Cxt W C X) (E : Ext μ0 H0 μ H) (R : SR W μ S H) (Vx : VR W μ H x v) (e : sliceOf S x lo hi = some z) (hk : K1 (fresh m z S) (OkP W μ0 H0 Q) (XW W X μ0 H0 σ)) : rCut X.K v lo hi H Q := by
  have kx : X.K = W.K := cx.kk
  unfold sliceOf at e
  split at e
  · next xs =>
    cases e
    obtain ⟨a, vs, rfl, h, r⟩ := Vx.seqT
    refine .inr ⟨a, vs, rfl, by rw [kx]; exact h, fun c => ?_, fun c => fresh_tup E R (cut_len r lo hi) hk⟩
    have : cutD xs lo hi = xs := by
      unfold cutD
      rw [r.len, c.1, c.2, Nat.sub_zero, List.drop_zero, ← r.len]
      exact List.take_length
    rw [this] at hk
    exact fresh_old E R Vx (fun _ z => by cases z) hk
  · cases q : seqAt S x with
    | none => rw [q] at e; cases e
    | some xs =>
      rw [q] at e; cases e
      obtain ⟨a, vs, rfl, h, r⟩ := Vx.seqL R q
      exact .inl ⟨a, vs, rfl, by rw [kx]; exact h, fresh_lst E R (cut_len r lo hi) hk⟩
theorem maxF_spec : ∀ (xs : List Int) (m : Int), (xs.foldl (fun m y => if y > m then y else m) m = m ∨ xs.foldl (fun m y => if y > m then y else m) m ∈ xs) ∧ m ≤ xs.foldl (fun m y => if y > m then y else m) m ∧ ∀ y ∈ xs, y ≤ xs.foldl (fun m y => if y > m then y else m) m
  | [], m => ⟨.inl rfl, Int.le_refl _, fun _ h => nomatch h⟩
  | x :: xs, m => by
    obtain ⟨h1, h2, h3⟩ := maxF_spec xs (if x > m then x else m)
    rw [List.foldl_cons]
    refine ⟨?_, ?_, fun y hy => ?_⟩
    · rcases h1 with h1 | h1
      · by_cases c : x > m
        · rw [if_pos c] at h1 ⊢; right; rw [h1]; exact List.mem_cons_self
        · rw [if_neg c] at h1 ⊢; left; exact h1
      · right; exact List.mem_cons_of_mem _ h1
    · by_cases c : x > m
      · rw [if_pos c] at h2 ⊢; omega
      · rw [if_neg c] at h2 ⊢; exact h2
    · rcases List.mem_cons.mp hy with rfl | hy
      · by_cases c : y > m
        · rw [if_pos c] at h2 ⊢; exact h2
        · rw [if_neg c] at h2 ⊢; omega
      · exact h3 y hy
theorem maxI_spec {ns : List Int} (h : ns ≠ []) : maxI ns ∈ ns ∧ ∀ y ∈ ns, y ≤ maxI ns := by
  cases ns with
  | nil => exact absurd rfl h
  | cons x xs =>
    obtain ⟨h1, h2, h3⟩ := maxF_spec xs x
    refine ⟨?_, fun y hy => ?_⟩
    · rcases h1 with h1 | h1
      · show xs.foldl _ x ∈ _; rw [h1]; exact List.mem_cons_self
      · exact List.mem_cons_of_mem _ h1
    · rcases List.mem_cons.mp hy with rfl | hy
      · exact h2
      · exact h3 y hy
theorem minF_spec : ∀ (xs : List Int) (m : Int), (xs.foldl (fun m y => if y < m then y else m) m = m ∨ xs.foldl (fun m y => if y < m then y else m) m ∈ xs) ∧ xs.foldl (fun m y => if y < m then y else m) m ≤ m ∧ ∀ y ∈ xs, xs.foldl (fun m y => if y < m then y else m) m ≤ y
  | [], m => ⟨.inl rfl, Int.le_refl _, fun _ h => nomatch h⟩
  | x :: xs, m => by
    obtain ⟨h1, h2, h3⟩ := minF_spec xs (if x < m then x else m)
    rw [List.foldl_cons]
    refine ⟨?_, ?_, fun y hy => ?_⟩
    · rcases h1 with h1 | h1
      · by_cases c : x < m
        · rw [if_pos c] at h1 ⊢; right; rw [h1]; exact List.mem_cons_self
        · rw [if_neg c] at h1 ⊢; left; exact h1
      · right; exact List.mem_cons_of_mem _ h1
    · by_cases c : x < m
      · rw [if_pos c] at h2 ⊢; omega
      · rw [if_neg c] at h2 ⊢; exact h2
    · rcases List.mem_cons.mp hy with rfl | hy
      · by_cases c : y < m
        · rw [if_pos c] at h2 ⊢; exact h2
        · rw [if_neg c] at h2 ⊢; omega
      · exact h3 y hy
theorem minI_spec {ns : List Int} (h : ns ≠ []) : minI ns ∈ ns ∧ ∀ y ∈ ns, minI ns ≤ y := by
  cases ns with
  | nil => exact absurd rfl h
  | cons x xs =>
    obtain ⟨h1, h2, h3⟩ := minF_spec xs x
    refine ⟨?_, fun y hy => ?_⟩
    · rcases h1 with h1 | h1
      · show xs.foldl _ x ∈ _; rw [h1]; exact List.mem_cons_self
      · exact List.mem_cons_of_mem _ h1
    · rcases List.mem_cons.mp hy with rfl | hy
      · exact h2
      · exact h3 y hy
theorem insI_perm (x : Int) : ∀ ys : List Int, (insI x ys).Perm (x :: ys)
  | [] => List.Perm.refl _
  | y :: ys => by
    unfold insI
    split
    · exact List.Perm.refl _
    · exact ((insI_perm x ys).cons y).trans (List.Perm.swap ..)
theorem sortI_perm : ∀ xs : List Int, (sortI xs).Perm xs
  | [] => List.Perm.refl _
  | x :: xs => (insI_perm x (sortI xs)).trans ((sortI_perm xs).cons x)
theorem insI_sorted (x : Int) : ∀ ys : List Int, ys.Pairwise (· ≤ ·) → (insI x ys).Pairwise (· ≤ ·)
  | [], _ => by simp [insI]
  | y :: ys, h => by
    unfold insI
    rw [List.pairwise_cons] at h
    split
    · next c =>
      rw [List.pairwise_cons, List.pairwise_cons]
      exact ⟨fun z hz => by
        rcases List.mem_cons.mp hz with rfl | hz
        · exact c
        · exact Int.le_trans c (h.1 z hz), h⟩
    · next c =>
      rw [List.pairwise_cons]
      refine ⟨fun z hz => ?_, insI_sorted x ys h.2⟩
      rcases List.mem_cons.mp ((insI_perm x ys).mem_iff.mp hz) with rfl | hz
      · omega
      · exact h.1 z hz
theorem sortI_sorted : ∀ xs : List Int, (sortI xs).Pairwise (· ≤ ·)
  | [] => .nil
  | x :: xs => insI_sorted x _ (sortI_sorted xs)
theorem sorted_one : ∀ {xs ys : List Int}, xs.Perm ys → xs.Pairwise (· ≤ ·) → ys.Pairwise (· ≤ ·) → xs = ys
  | [], ys, p, _, _ => (List.Perm.nil_eq p)
  | x :: xs, [], p, _, _ => absurd p.length_eq (by simp)
  | x :: xs, y :: ys, p, h1, h2 => by
    rw [List.pairwise_cons] at h1 h2
    have e : x = y := by
      have a : x ∈ y :: ys := p.mem_iff.mp List.mem_cons_self
      have b : y ∈ x :: xs := p.mem_iff.mpr List.mem_cons_self
      rcases List.mem_cons.mp a with rfl | a
      · rfl
      · rcases List.mem_cons.mp b with rfl | b
        · rfl
        · have := h2.1 x a
          have := h1.1 y b
          omega
    subst e
    rw [sorted_one p.cons_inv h1.2 h2.2]
def BC (X : Cx) (g : Value) : List V → Hp → VK → Prop := fun xs H Q => ∀ (pins : List (Addr × Obj)) (s : Shared) (σ : L2.St) (us : List Value), L2.Inv X pins σ H s → Vals xs us → wpAny (model X.prog X.w) X.A (call g us) (EP X pins σ Q) X.xe s
theorem BC.op (X : Cx) (g : Value) : CallR X g (BC X g) := fun pins s σ H xs us Q I r h => h pins s σ us I r
theorem BC.of {g : Value} {r : List V → Hp → VK → Prop} (h : CallR X g r) {xs : List V} (q : r xs H Q) : BC X g xs H Q := fun pins s σ us I r1 => h pins s σ H xs us Q I r1 q
/-- sum of a tuple -/
theorem cr_sumT (hc : X.calm = true) : CallR X (.builtin "sum") (fun vs H Q => ∃ (a : Addr) (ns : List Int), vs = [V.ref a] ∧ SqT X.K H a (ns.map V.int) ∧ Q (.int ns.sum) H) := by
  intro pins s σ H vs us Q I r h
  obtain ⟨a, ns, rfl, hs, q⟩ := h
  obtain ⟨its, rv, hl, _⟩ := I.tuple hs
  rw [Vals.ref1 r]
  have hi := rv.ints
  obtain ⟨xs, e⟩ := hi.allInts.items
  have hn : numsOf (intItems xs).toList = ns := by rw [← e]; exact hi.numsOf
  rw [nums_intItems] at hn
  rw [e] at hl
  refine PySem.W.ktm_sumG (I.ok.hd hc) (show s.heap.IsTuple a (intItems xs) from hl) fun h' tk t' hk => ?_
  rw [preSum_eq, List.take_of_length_le (by simp), hn]
  exact ⟨.int _, H, I.kept hk, ⟨_, rfl⟩, q⟩
/-- repr of plain data -/
theorem cr_reprD (hg : X.A.guards = some []) (hu : X.A.units + 65 < cLine) : CallR X (.builtin "repr") (fun vs H Q => ∃ (v : V) (d : PyData), vs = [v] ∧ Dp X.K H v d ∧ SeqAt.shaped d = true ∧ d.showable = true ∧ d.shown.length ≤ sizeLine ∧ Q (.str d.shown) H) := by
  intro pins s σ H vs us Q I r h
  obtain ⟨v, d, rfl, hd, sh, hs, hl, q⟩ := h
  obtain ⟨u, rfl, ru⟩ := r.one
  obtain ⟨as, r1⟩ := Dp.reads I d v u hd ru
  have tok : ∃ w' H', L2.Inv X pins σ H' { s with toks := s.toks + 1 } ∧ RelV w' (.str d.shown s.toks) ∧ Q w' H' := ⟨.str d.shown, H, I.tok _, ⟨_, rfl⟩, q⟩
  have hu2 : X.A.units + (d.depth + 1) < cLine := by
    have := SeqAt.depth_of_shaped sh
    omega
  have sm := PyData.noDict_hsm (as := as) (PyData.hasDict_of_canLay d (SeqAt.canLay_of_shaped sh))
  cases r1 with
  | none => exact PySem.P.repr_of_none tok
  | bool b => exact PySem.P.repr_of_bool tok
  | int i t => exact PySem.P.repr_of_int (by simpa [PyData.showable] using hs) tok
  | str x t => exact PySem.P.repr_of_str tok hl
  | list h1 h2 h3 h4 => exact repr_of_reads' (.list h1 h2 h3 h4) hs sm hg hu2 (fun b o e => e) (fun h' u tk hk => ⟨.str _, H, I.kept hk, ⟨_, rfl⟩, q⟩) hl
  | tuple h1 h2 h3 h4 => exact repr_of_reads' (.tuple h1 h2 h3 h4) hs sm hg hu2 (fun b o e => e) (fun h' u tk hk => ⟨.str _, H, I.kept hk, ⟨_, rfl⟩, q⟩) hl
  | dict h1 h2 h3 h4 h5 => exact repr_of_reads' (.dict h1 h2 h3 h4 h5) hs sm hg hu2 (fun b o e => e) (fun h' u tk hk => ⟨.str _, H, I.kept hk, ⟨_, rfl⟩, q⟩) hl
/-- repr of an empty dict -/
theorem cr_reprE (hg : X.A.guards = some []) (hu : X.A.units + 65 < cLine) : CallR X (.builtin "repr") (fun vs H Q => ∃ a, vs = [V.ref a] ∧ H a = some (.dK []) ∧ Q (.str "{}") H) := by
  intro pins s σ H vs us Q I r h
  obtain ⟨a, rfl, hd, q⟩ := h
  rw [Vals.ref1 r]
  obtain ⟨_, hsys, vs, rk, o, es, ep, e1, e2, e3, _, e5, _⟩ := (show ObjOk X.prog X.w H s.heap a (.dK []) from I.hok a _ hd)
  cases rk
  have e6 : es.toList = [] := by cases h : es.toList with
    | nil => rfl
    | cons x l => rw [h] at e5; cases e5
  have rd : Reads s.heap (.ref a) (.dict []) _ := .dict (as := []) (bs := []) e1 e2.1 e3 (by rw [e6]; exact .nil) (by rw [e6]; exact .nil)
  exact repr_of_reads' rd (by rfl) (fun _ hm => by
    have := List.mem_singleton.mp (show sysModules ∈ [a] from hm)
    rw [this] at hsys
    simp at hsys) hg (by show X.A.units + _ < cLine; simp only [PyData.depth, PyData.depthKv]; omega) (fun b o e => e) (fun h' u tk hk => ⟨.str "{}", H, I.kept hk, ⟨_, by rfl⟩, q⟩) (by decide)
/-- what repr tells -/
theorem cr_shown {W : Wd} {S : Store} {μ : List Addr} (kk : X.K = W.K) (hg : X.A.guards = some []) (hu : X.A.units + 65 < cLine) : CallR X (.builtin "repr") (fun vs H Q => ∃ (v : V) (d : D) (x : Str), vs = [v] ∧ SR W μ S H ∧ VR W μ H d v ∧ shownD S d = some x ∧ Q (.str x) H) := by
  intro pins s σ H vs us Q I r h
  obtain ⟨v, d, x, rfl, R, V1, e, q⟩ := h
  unfold shownD at e
  split at e
  · next n =>
    split at e
    · next h =>
      cases e
      obtain ⟨a, us', e1, e2, e3, e4⟩ := R.dict h
      cases V1 with
      | dic h5 _ =>
        rw [e1] at h5; cases h5
        have : us' = [] := by simpa using e3
        subst this
        exact cr_reprE hg hu pins s σ H _ us Q I r ⟨_, rfl, e2, q⟩
    · cases e
  · split at e
    · next p hp =>
      split at e
      · next c =>
        cases e
        obtain ⟨hd, sh⟩ := pd_ok R V1 hp
        exact cr_reprD hg hu pins s σ H _ us Q I r ⟨v, p, rfl, by rw [kk]; exact hd, sh, c.1, c.2, q⟩
      · cases e
    · cases e
def biVal : Bi → Value
  | .len => .builtin "len" | .abs => .builtin "abs" | .sum => .builtin "sum" | .all => .builtin "all" | .any => .builtin "any" | .max => .builtin "max" | .min => .builtin "min" | .max2 => .builtin "max" | .min2 => .builtin "min"
  | .sorted => .builtin "sorted" | .tuple => .type "tuple" | .list => .type "list" | .int => .type "int" | .divmod => .builtin "divmod" | .repr => .builtin "repr" | .str => .type "str"
theorem VRs.one {d : D} {vs : List V} (r : VRs W μ H [d] vs) : ∃ v, vs = [v] ∧ VR W μ H d v := by
  cases r with
  | cons h r => cases r; exact ⟨_, rfl, h⟩
theorem VRs.two {d e : D} {vs : List V} (r : VRs W μ H [d, e] vs) : ∃ v u, vs = [v, u] ∧ VR W μ H d v ∧ VR W μ H e u := by
  cases r with
  | cons h r =>
    obtain ⟨u, rfl, h2⟩ := r.one
    exact ⟨_, _, rfl, h, h2⟩
theorem ints_back : ∀ {ds : List D} {ns : List Int}, intsOf ds = some ns → ds = ns.map .int
  | [], ns, h => by cases h; rfl
  | d :: ds, ns, h => by
    unfold intsOf at h
    rw [List.mapM_cons] at h
    cases d <;> first | cases h | skip
    next i =>
    cases q : ds.mapM intOf with
    | none => rw [show intOf (.int i) = some i from rfl, q] at h; cases h
    | some ms =>
      rw [show intOf (.int i) = some i from rfl, q] at h
      cases h
      rw [ints_back (ds := ds) q]
      rfl
theorem rows_of : ∀ {xs : List D} {ws : List V} {ts : List (List Int)}, VRs W μ H xs ws → xs.mapM rowOf = some ts → RowsV (fun v t => VR W μ H (.tup (t.map .int)) v) W.K H ws ts
  | [], _, ts, .nil, h => by cases h; exact .nil
  | x :: xs, _, ts, .cons r rs, h => by
    rw [List.mapM_cons] at h
    cases h1 : rowOf x with
    | none => rw [h1] at h; cases h
    | some y =>
      rw [h1] at h
      cases h2 : xs.mapM rowOf with
      | none => rw [h2] at h; cases h
      | some zs =>
        rw [h2] at h
        cases h
        have ih := rows_of rs h2
        cases x <;> first | cases h1 | skip
        next ds =>
        simp only [rowOf] at h1
        split at h1
        · next n ns hq =>
          cases h1
          obtain ⟨a, ws, e1, hs, r2⟩ := r.seqT
          subst e1
          have := r2.ints hq
          subst this
          have e2 : ds = (n :: ns).map .int := ints_back hq
          rw [e2] at r
          exact .cons hs r ih
        · cases h1
theorem rows_back {K : PySem.W.Frag} : ∀ {ws : List V} {ts : List (List Int)}, RowsV (fun v t => VR W μ H (.tup (t.map .int)) v) K H ws ts → VRs W μ H (ts.map fun t => .tup (t.map .int)) ws
  | _, _, .nil => .nil
  | _, _, .cons _ g r => .cons g (rows_back r)
theorem bi_ok {f : Bi} {ds : List D} {z : D} {vs : List V} (cx : Cxt W C X) (E : Ext μ0 H0 μ H) (R : SR W μ S H) (r : VRs W μ H ds vs) (e : bi S f ds = some z) (hk : K1 (fresh m z S) (OkP W μ0 H0 Q) (XW W X μ0 H0 σ)) : BC X (biVal f) vs H Q := by
  have kx : X.K = W.K := cx.kk
  have ni : ∀ (i : Int) xs, D.int i ≠ D.lst xs := fun _ _ z => by cases z
  have nb : ∀ (i : Bool) xs, D.bl i ≠ D.lst xs := fun _ _ z => by cases z
  unfold bi at e
  split at e
  · next x =>
    obtain ⟨v, rfl, V1⟩ := r.one
    cases V1
    split at e
    · next c => cases e; exact BC.of call_len_str ⟨x, rfl, c, fresh_old E R (.int _) (ni _) hk⟩
    · cases e
  · next d hd =>
    obtain ⟨v, rfl, V1⟩ := r.one
    cases q : seqOf S d with
    | none => rw [q] at e; cases e
    | some xs =>
      rw [q] at e; cases e
      obtain ⟨a, ws, rfl, h, r2⟩ := V1.seq R q
      have hk2 : K1 (fresh m (.int (ws.length : Int)) S) (OkP W μ0 H0 Q) (XW W X μ0 H0 σ) := by rw [← r2.len]; exact hk
      exact BC.of call_len_seq ⟨a, ws, rfl, by rw [kx]; exact h, fresh_old E R (.int _) (ni _) hk2⟩
  · obtain ⟨v, rfl, V1⟩ := r.one
    cases V1; cases e
    exact BC.of call_abs ⟨_, rfl, fresh_old E R (.int _) (ni _) hk⟩
  · next d =>
    obtain ⟨v, rfl, V1⟩ := r.one
    split at e
    · next xs q =>
      cases q2 : intsOf xs with
      | none => rw [q2] at e; cases e
      | some ns =>
        rw [q2] at e; cases e
        obtain ⟨a, ws, rfl, h, r2⟩ := V1.seq R q
        have := r2.ints q2
        subst this
        rw [← kx] at h
        rcases h with h | h
        · exact BC.of (cr_sum cx.calm) ⟨a, ns, rfl, h, fresh_old E R (.int _) (ni _) hk⟩
        · exact BC.of (cr_sumT cx.calm) ⟨a, ns, rfl, h, fresh_old E R (.int _) (ni _) hk⟩
    · cases e
  · next d =>
    obtain ⟨v, rfl, V1⟩ := r.one
    split at e
    · next xs q =>
      cases q2 : blsOf xs with
      | none => rw [q2] at e; cases e
      | some ns =>
        rw [q2] at e; cases e
        obtain ⟨a, ws, rfl, h, r2⟩ := V1.seqL R q
        have := r2.bls q2
        subst this
        rw [← kx] at h
        exact BC.of (cr_all cx.calm) ⟨a, ns, rfl, h, fresh_old E R (.bl _) (nb _) hk⟩
    · cases e
  · next d =>
    obtain ⟨v, rfl, V1⟩ := r.one
    split at e
    · next xs q =>
      cases q2 : blsOf xs with
      | none => rw [q2] at e; cases e
      | some ns =>
        rw [q2] at e; cases e
        obtain ⟨a, ws, rfl, h, r2⟩ := V1.seqL R q
        have := r2.bls q2
        subst this
        rw [← kx] at h
        exact BC.of (cr_any cx.calm) ⟨a, ns, rfl, h, fresh_old E R (.bl _) (nb _) hk⟩
    · cases e
  · next d =>
    obtain ⟨v, rfl, V1⟩ := r.one
    split at e
    · next xs q =>
      split at e
      · next n ns q2 =>
        cases e
        obtain ⟨a, ws, rfl, h, r2⟩ := V1.seqL R q
        have := r2.ints q2
        subst this
        rw [← kx] at h
        obtain ⟨s1, s2⟩ := maxI_spec (ns := n :: ns) (by simp)
        refine BC.of (cr_max cx.calm) ⟨a, n :: ns, rfl, h, by simp, fun M h1 h2 => ?_⟩
        have : M = maxI (n :: ns) := Int.le_antisymm (s2 M h1) (h2 _ s1)
        subst this
        exact fresh_old E R (.int _) (ni _) hk
      · cases e
    · cases e
  · next d =>
    obtain ⟨v, rfl, V1⟩ := r.one
    split at e
    · next xs q =>
      split at e
      · next n ns q2 =>
        cases e
        obtain ⟨a, ws, rfl, h, r2⟩ := V1.seqL R q
        have := r2.ints q2
        subst this
        rw [← kx] at h
        obtain ⟨s1, s2⟩ := minI_spec (ns := n :: ns) (by simp)
        refine BC.of (cr_min cx.calm) ⟨a, n :: ns, rfl, h, by simp, fun M h1 h2 => ?_⟩
        have : M = minI (n :: ns) := Int.le_antisymm (h2 _ s1) (s2 M h1)
        subst this
        exact fresh_old E R (.int _) (ni _) hk
      · cases e
    · cases e
  · obtain ⟨v, u, rfl, V1, V2⟩ := r.two
    cases V1; cases V2; cases e
    exact BC.of (call_max2 cx.calm) ⟨_, _, rfl, fresh_old E R (.int _) (ni _) hk⟩
  · obtain ⟨v, u, rfl, V1, V2⟩ := r.two
    cases V1; cases V2; cases e
    exact BC.of (call_min2 cx.calm) ⟨_, _, rfl, fresh_old E R (.int _) (ni _) hk⟩
  · next d =>
    obtain ⟨v, rfl, V1⟩ := r.one
    split at e
    · next xs q =>
      cases q2 : intsOf xs with
      | none =>
        rw [q2] at e
        cases q3 : xs.mapM rowOf with
        | none => rw [q3] at e; cases e
        | some ts =>
          rw [q3] at e; cases e
          obtain ⟨a, ws, rfl, h, r2⟩ := V1.seq R q
          have r3 := rows_of r2 q3
          rw [← kx] at h r3
          refine BC.of cr_sortedRows ⟨a, ws, ts, rfl, h, r3, fun ws' p r4 hp => ?_⟩
          exact fresh_lst E R (rows_back r4) hk p hp
      | some ns =>
        rw [q2] at e; cases e
        obtain ⟨a, ws, rfl, h, r2⟩ := V1.seq R q
        have := r2.ints q2
        subst this
        rw [← kx] at h
        rcases h with h | h
        · refine BC.of cr_sortedI ⟨a, ns, rfl, h, fun ns' p h1 h2 hp => ?_⟩
          have : ns' = sortI ns := sorted_one (h1.trans (sortI_perm ns).symm) h2 (sortI_sorted ns)
          subst this
          exact fresh_lst E R VRs.ofInts hk p hp
        · refine BC.of cr_sortedT ⟨a, ns, rfl, h, fun ns' p h1 h2 hp => ?_⟩
          have : ns' = sortI ns := sorted_one (h1.trans (sortI_perm ns).symm) h2 (sortI_sorted ns)
          subst this
          exact fresh_lst E R VRs.ofInts hk p hp
    · cases e
  · next d =>
    obtain ⟨v, rfl, V1⟩ := r.one
    cases q : seqOf S d with
    | none => rw [q] at e; cases e
    | some xs =>
      rw [q] at e; cases e
      unfold seqOf at q
      split at q
      · cases q
        obtain ⟨a, ws, rfl, h, r2⟩ := V1.seqT
        exact BC.of call_tuple_of ⟨a, ws, rfl, .inr ⟨by rw [kx]; exact h, fresh_old E R V1 (fun _ z => by cases z) hk⟩⟩
      · obtain ⟨a, ws, rfl, h, r2⟩ := V1.seqL R q
        exact BC.of call_tuple_of ⟨a, ws, rfl, .inl ⟨by rw [kx]; exact h, fresh_tup E R r2 hk⟩⟩
  · next d =>
    obtain ⟨v, rfl, V1⟩ := r.one
    cases q : seqOf S d with
    | none => rw [q] at e; cases e
    | some xs =>
      rw [q] at e; cases e
      obtain ⟨a, ws, rfl, h, r2⟩ := V1.seq R q
      exact BC.of call_list_of ⟨a, ws, rfl, by rw [kx]; exact h, fresh_lst E R r2 hk⟩
  · obtain ⟨v, rfl, V1⟩ := r.one
    cases V1; cases e
    exact BC.of call_int1 (.inl ⟨_, rfl, fresh_old E R (.int _) (ni _) hk⟩)
  · obtain ⟨v, rfl, V1⟩ := r.one
    cases V1; cases e
    exact BC.of call_int1 (.inr ⟨_, rfl, fresh_old E R (.int _) (ni _) hk⟩)
  · obtain ⟨v, rfl, V1⟩ := r.one
    cases V1
    split at e
    · next hl =>
      cases q1 : PySem.intText? _ with
      | none => rw [q1] at e; cases e
      | some n =>
        rw [q1] at e; cases e
        exact BC.of call_int_str ⟨_, n, rfl, q1, hl, fresh_old E R (.int _) (ni _) hk⟩
    · cases e
  · next d =>
    obtain ⟨v, rfl, V1⟩ := r.one
    cases q1 : shownD S d with
    | none => rw [q1] at e; cases e
    | some x =>
      rw [q1] at e; cases e
      exact BC.of (cr_shown kx cx.room.g cx.u65) ⟨v, d, x, rfl, R, V1, q1, fresh_old E R (.str _) (fun _ z => by cases z) hk⟩
  · obtain ⟨v, u, rfl, V1, V2⟩ := r.two
    cases V1; cases V2
    split at e
    · next c =>
      cases e
      exact BC.of call_divmod ⟨_, _, rfl, c, fresh_tup E R (.cons (.int _) (.cons (.int _) .nil)) hk⟩
    · cases e
  · cases e
end
end Th
namespace Th
open PySem PySem.Spec PyProof.Rows L2
theorem Out.assoc {α β γ : Type} (a : Out α) (f : α → Store → Out β) (g : β → Store → Out γ) : (a.bind f).bind g = a.bind fun x S => (f x S).bind g := by
  cases a <;> rfl
section
variable {C : Orc}
theorem se_bin {m : Bool} {o : Bop} {a b : Ex} (ia : SE C a) (ib : SE C b) : SE C (.bin m o a b) := by
  intro W X ini me e f S σ H μ Q cx h hi R F hk
  rw [okE] at h
  split at h
  · next l op r he =>
    obtain ⟨p, rfl⟩ := asBin_eq he
    simp only [Bool.and_eq_true] at h
    obtain ⟨⟨h1, h2⟩, h3⟩ := h
    refine U.of (pe_op (BO.op X _) (U.pe l) (U.pe r)) ?_
    refine ia.use cx h2 hi Ext.refl R F hk fun x S1 μ1 H1 v E1 _ R1 V1 F1 k1 => ?_
    refine ib.use cx h3 hi E1 R1 F1 k1 fun y S2 μ2 H2 u E2 e2 R2 V2 F2 k2 => ?_
    obtain ⟨z, ez, k3⟩ := K1.off k2.bnd
    exact bop_ok cx h1 E2 R2 (V1.ext e2.z) V2 ez k3
  · cases h
theorem se_neg {a : Ex} (ia : SE C a) : SE C (.neg a) := by
  intro W X ini me e f S σ H μ Q cx h hi R F hk
  rw [okE] at h
  split at h
  · next l he =>
    obtain ⟨p, rfl⟩ := asUn_eq he
    refine U.of (pe_un un_neg (U.pe l)) ?_
    refine ia.use cx h hi Ext.refl R F hk fun x S1 μ1 H1 v E1 _ R1 V1 F1 k1 => ?_
    cases x <;> first | exact k1.elim | skip
    cases V1
    exact ⟨_, rfl, (show OkP W μ H Q _ _ from k1) μ1 H1 _ R1 E1 (.int _)⟩
  · cases h
theorem se_not {a : Ex} (ia : SE C a) : SE C (.not a) := by
  intro W X ini me e f S σ H μ Q cx h hi R F hk
  rw [okE] at h
  split at h
  · next l he =>
    obtain ⟨p, rfl⟩ := asUn_eq he
    refine U.of (pe_notT (U.pe l)) ?_
    refine ia.use cx h hi Ext.refl R F hk fun x S1 μ1 H1 v E1 _ R1 V1 F1 k1 => ?_
    obtain ⟨b, eb, k2⟩ := K1.off k1.bnd
    exact ⟨b, truth_ok cx R1 V1 eb, (show OkP W μ H Q _ _ from k2) μ1 H1 _ R1 E1 (.bl _)⟩
  · cases h
theorem se_cmp {o : Cop} {a b : Ex} (ia : SE C a) (ib : SE C b) : SE C (.cmp o a b) := by
  intro W X ini me e f S σ H μ Q cx h hi R F hk
  rw [okE] at h
  split at h
  · next l op r he =>
    obtain ⟨p, rfl⟩ := asCmp_eq he
    simp only [cmpOk, Bool.and_eq_true] at h
    obtain ⟨⟨⟨h1, h4⟩, h2⟩, h3⟩ := h
    refine U.of (pe_cmpR (BO.op X _) (U.pe l) (U.pe r) (ok_mark h3)) ?_
    refine ia.use cx h2 hi Ext.refl R F hk fun x S1 μ1 H1 v E1 _ R1 V1 F1 k1 => ?_
    refine ib.use cx h3 hi E1 R1 F1 k1 fun y S2 μ2 H2 u E2 e2 R2 V2 F2 k2 => ?_
    obtain ⟨z, ez, k3⟩ := K1.off k2.bnd
    exact cop_ok cx h1 R2 (V1.ext e2.z) V2 ez ((show OkP W μ H Q _ _ from k3) μ2 H2 _ R2 E2 (.bl _))
  · cases h
theorem lastM {op op' : CmpOp} {b c : Expr} (h : behindInMarks op' c = false) : lastMarks [op, op'] [b, c] = false := h
theorem se_chain {o o' : Cop} {a b c : Ex} (ia : SE C a) (ib : SE C b) (ic : SE C c) : SE C (.chain o o' a b c) := by
  intro W X ini me e f S σ H μ Q cx h hi R F hk
  rw [okE] at h
  split at h
  · next l op op' r r' he =>
    obtain ⟨p, rfl⟩ := asChain_eq he
    simp only [cmpOk, Bool.and_eq_true] at h
    obtain ⟨⟨⟨⟨⟨h1, _⟩, h1', _⟩, h2⟩, h3⟩, h4⟩ := h
    refine U.of (pe_chain (BO.op X _) (BO.op X _) (U.pe l) (U.pe r) (U.pe r') (lastM (ok_mark h4))) ?_
    refine ia.use cx h2 hi Ext.refl R F hk fun x S1 μ1 H1 v E1 _ R1 V1 F1 k1 => ?_
    refine ib.use cx h3 hi E1 R1 F1 k1 fun y S2 μ2 H2 u E2 e2 R2 V2 F2 k2 => ?_
    obtain ⟨z, ez, k3⟩ := K1.off k2.bnd
    refine cop_ok cx h1 R2 (V1.ext e2.z) V2 ez ⟨z, rfl, ?_⟩
    cases z with
    | false => exact (show OkP W μ H Q _ _ from k3) μ2 H2 _ R2 E2 (.bl _)
    | true =>
      refine ic.use cx h4 hi E2 R2 F2 k3 fun w S4 μ4 H4 t E4 e4 R4 V4 F4 k4 => ?_
      obtain ⟨z', ez', k5⟩ := K1.off k4.bnd
      exact cop_ok cx h1' R4 (V2.ext e4.z) V4 ez' ((show OkP W μ H Q _ _ from k5) μ4 H4 _ R4 E4 (.bl _))
  · cases h
theorem se_ite {t : Te} {a b : Ex} (it : STt C t) (ia : SE C a) (ib : SE C b) : SE C (.ite t a b) := by
  intro W X ini me e f S σ H μ Q cx h hi R F hk
  rw [okE] at h
  split at h
  · next c l r he =>
    obtain ⟨p, rfl⟩ := asIf_eq he
    simp only [Bool.and_eq_true] at h
    obtain ⟨⟨h1, h2⟩, h3⟩ := h
    refine U.of (pe_ifExp (UT.pt c) (U.pe l) (U.pe r)) ?_
    refine it.use cx h1 hi Ext.refl R F hk fun d S1 μ1 H1 E1 _ R1 F1 k1 => ?_
    cases d with
    | true => rw [if_pos rfl]; exact ia W X ini me l f S1 σ H1 μ1 Q cx h2 hi R1 F1 (k1.later (α := D) E1)
    | false => rw [if_neg Bool.false_ne_true]; exact ib W X ini me r f S1 σ H1 μ1 Q cx h3 hi R1 F1 (k1.later (α := D) E1)
  · cases h
theorem se_idx {a b : Ex} (ia : SE C a) (ib : SE C b) : SE C (.idx a b) := by
  intro W X ini me e f S σ H μ Q cx h hi R F hk
  rw [okE] at h
  split at h
  · next l r he =>
    obtain ⟨p, rfl⟩ := asSub_eq he
    simp only [Bool.and_eq_true] at h
    obtain ⟨h2, h3⟩ := h
    refine U.of (pe_ix ix_seq (U.pe l) (U.pe r) (ok_plainIx h3)) ?_
    refine ia.use cx h2 hi Ext.refl R F hk fun x S1 μ1 H1 v E1 _ R1 V1 F1 k1 => ?_
    refine ib.use cx h3 hi E1 R1 F1 k1 fun y S2 μ2 H2 u E2 e2 R2 V2 F2 k2 => ?_
    obtain ⟨z, ez, k3⟩ := K1.off k2
    exact item_ok cx R2 (V1.ext e2.z) V2 ez fun w Vw => k3 μ2 H2 w R2 E2 Vw
  · cases h
/-- a part of a slice -/
theorem uo_part {xs : List Ex} (ih : ∀ x ∈ xs, SE C x) {W : Wd} {X : Cx} {ini : Bool} {me : Option Own} {e : Option Expr} {f : Fr} {S : Store} {σ : L2.St} {H H0 : Hp} {μ μ0 : List Addr} {β : Type} {k : Option Int → Store → Out β} {ok : β → Store → Prop} {Q1 : Option Int → Hp → Prop} (cx : Cxt W C X)
    (h : okO W.P W.lk.toChk X.N ini X.env.scope xs e = true) (hi : ini = me.isSome) (E0 : Ext μ0 H0 μ H) (R : SR W μ S H) (F : FR W me μ H f σ) (hk : K1 ((evPart W.P C xs f S).bind k) ok (XW W X μ0 H0 σ))
    (next : ∀ d S1 μ1 H1, Ext μ0 H0 μ1 H1 → Ext μ H μ1 H1 → SR W μ1 S1 H1 → FR W me μ1 H1 f σ → K1 (k d S1) ok (XW W X μ0 H0 σ) → Q1 d H1) : UO X e σ H Q1 := by
  cases xs with
  | nil =>
    cases e with
    | some e => simp [okO] at h
    | none => exact UO.of po_none (next none S μ H E0 Ext.refl R F hk)
  | cons x xs =>
    cases e with
    | none => simp [okO] at h
    | some e =>
      refine UO.of (po_some (U.pe e)) ?_
      have hk' : K1 ((ev W.P C x f S).bind fun y S1 => (match y with | .int i => Out.ok (some i) S1 | _ => .bad : Out (Option Int)).bind k) ok (XW W X μ0 H0 σ) := by
        have e1 : (evPart W.P C (x :: xs) f S).bind k = (ev W.P C x f S).bind fun y S1 => (match y with | .int i => Out.ok (some i) S1 | _ => .bad : Out (Option Int)).bind k := Out.assoc _ _ _
        rw [e1] at hk
        exact hk
      refine (ih x List.mem_cons_self).use cx h hi E0 R F hk' fun y S1 μ1 H1 v E1 e1 R1 V1 F1 k1 => ?_
      cases y <;> first | exact k1.elim | skip
      cases V1
      exact ⟨_, rfl, next _ S1 μ1 H1 E1 e1 R1 F1 k1⟩
theorem se_slc {m : Bool} {a : Ex} {lo hi : List Ex} (ia : SE C a) (il : ∀ x ∈ lo, SE C x) (ih : ∀ x ∈ hi, SE C x) : SE C (.slc m a lo hi) := by
  intro W X ini me e f S σ H μ Q cx h hi' R F hk
  rw [okE] at h
  split at h
  · next l j he =>
    obtain ⟨p, rfl⟩ := asSub_eq he
    split at h
    · next lo' hi2 hs =>
      obtain ⟨p2, rfl⟩ := asSlc_eq hs
      simp only [Bool.and_eq_true] at h
      obtain ⟨⟨h1, h2⟩, h3⟩ := h
      refine U.of (pe_slice sl_cut (U.pe l) (UO.po lo') (UO.po hi2)) ?_
      refine ia.use cx h1 hi' Ext.refl R F hk fun x S1 μ1 H1 v E1 _ R1 V1 F1 k1 => ?_
      refine uo_part il cx h2 hi' E1 R1 F1 k1 fun d2 S2 μ2 H2 E2 e2 R2 F2 k2 => ?_
      refine uo_part ih cx h3 hi' E2 R2 F2 k2 fun d3 S3 μ3 H3 E3 e3 R3 F3 k3 => ?_
      obtain ⟨z, ez, k4⟩ := K1.off k3.bnd
      exact slice_ok cx E3 R3 (V1.ext (e2.trans e3).z) ez k4
    · cases h
  · cases h
theorem ua_list : ∀ {xs : List Ex} (ih : ∀ x ∈ xs, SE C x) {W : Wd} {X : Cx} {ini : Bool} {me : Option Own} {es : List Expr} {f : Fr} {S : Store} {σ : L2.St} {H H0 : Hp} {μ μ0 : List Addr} {β : Type} {k : List D → Store → Out β} {ok : β → Store → Prop} {Q1 : List V → Hp → Prop} (cx : Cxt W C X)
    (h : okEs W.P W.lk.toChk X.N ini X.env.scope xs es = true) (hi : ini = me.isSome) (E0 : Ext μ0 H0 μ H) (R : SR W μ S H) (F : FR W me μ H f σ) (hk : K1 ((evs W.P C xs f S).bind k) ok (XW W X μ0 H0 σ))
    (next : ∀ ds S1 μ1 H1 vs, Ext μ0 H0 μ1 H1 → Ext μ H μ1 H1 → SR W μ1 S1 H1 → VRs W μ1 H1 ds vs → FR W me μ1 H1 f σ → K1 (k ds S1) ok (XW W X μ0 H0 σ) → Q1 vs H1), UA X es σ H Q1
  | [], ih, W, X, ini, me, es, f, S, σ, H, H0, μ, μ0, β, k, ok, Q1, cx, h, hi, E0, R, F, hk, next => by
    cases es with
    | nil => exact UA.of pa_nil (next [] S μ H [] E0 Ext.refl R .nil F hk)
    | cons e es => simp [okEs] at h
  | x :: xs, ih, W, X, ini, me, es, f, S, σ, H, H0, μ, μ0, β, k, ok, Q1, cx, h, hi, E0, R, F, hk, next => by
    cases es with
    | nil => simp [okEs] at h
    | cons e es =>
      simp only [okEs, Bool.and_eq_true] at h
      obtain ⟨h1, h2⟩ := h
      refine UA.of (pa_cons (U.pe e) (UA.pa es) (ok_star h1 es X.env)) ?_
      have hk' : K1 ((ev W.P C x f S).bind fun y S1 => (evs W.P C xs f S1).bind fun ys S2 => k (y :: ys) S2) ok (XW W X μ0 H0 σ) := by
        have e1 : (evs W.P C (x :: xs) f S).bind k = (ev W.P C x f S).bind fun y S1 => (evs W.P C xs f S1).bind fun ys S2 => k (y :: ys) S2 := by
          show Out.bind (Out.bind (ev W.P C x f S) _) k = _
          rw [Out.assoc]
          congr 1
          funext y S1
          exact Out.assoc _ _ _
        rw [e1] at hk
        exact hk
      refine (ih x List.mem_cons_self).use cx h1 hi E0 R F hk' fun y S1 μ1 H1 v E1 e1 R1 V1 F1 k1 => ?_
      exact ua_list (fun z hz => ih z (List.mem_cons_of_mem _ hz)) cx h2 hi E1 R1 F1 k1 fun ys S2 μ2 H2 vs E2 e2 R2 V2 F2 k2 => next (y :: ys) S2 μ2 H2 (v :: vs) E2 (e1.trans e2) R2 (.cons (V1.ext e2.z) V2) F2 k2
theorem se_tup {xs : List Ex} (ih : ∀ x ∈ xs, SE C x) : SE C (.tup xs) := by
  intro W X ini me e f S σ H μ Q cx h hi R F hk
  rw [okE] at h
  split at h
  · next vs he =>
    obtain ⟨k, p, rfl⟩ := asTup_eq he
    refine U.of (pe_tup (UA.pa vs)) ?_
    refine ua_list ih cx h hi Ext.refl R F hk fun ds S1 μ1 H1 ws E1 e1 R1 V1 F1 k1 => ?_
    split at k1
    · next c => exact ⟨by rw [← V1.len]; exact c, fresh_tup (m := false) (X := X) (σ := σ) E1 R1 V1 k1⟩
    · exact k1.elim
  · cases h
theorem se_lst {m : Bool} {xs : List Ex} (ih : ∀ x ∈ xs, SE C x) : SE C (.lst m xs) := by
  intro W X ini me e f S σ H μ Q cx h hi R F hk
  rw [okE] at h
  split at h
  · next vs he =>
    obtain ⟨p, rfl⟩ := asLst_eq he
    refine U.of (pe_lst (UA.pa vs)) ?_
    refine ua_list ih cx h hi Ext.refl R F hk fun ds S1 μ1 H1 ws E1 e1 R1 V1 F1 k1 => ?_
    split at k1
    · next c => exact ⟨by rw [← V1.len]; exact c, fresh_lst E1 R1 V1 k1⟩
    · exact k1.elim
  · cases h
theorem okEs_cons {P : Pr} {lk : Chk} {N : List Str} {ini : Bool} {sc : Scope} {xs : List Ex} {es : List Expr} (h : okEs P lk N ini sc xs es = true) (hx : (!xs.isEmpty) = true) : ∃ x xs' e es', xs = x :: xs' ∧ es = e :: es' ∧ okE P lk N ini sc x e = true ∧ okEs P lk N ini sc xs' es' = true := by
  cases xs with
  | nil => cases hx
  | cons x xs =>
    cases es with
    | nil => simp [okEs] at h
    | cons e es =>
      simp only [okEs, Bool.and_eq_true] at h
      exact ⟨x, xs, e, es, rfl, rfl, h.1, h.2⟩
theorem biN_in (f : Bi) : biN f ∈ bltNames := by cases f <;> decide
theorem biN_name (f : Bi) : biN f ≠ ("__name__" : Str) ∧ (biN f == ("__debug__" : Str)) = false := by cases f <;> decide
theorem biN_boot (f : Bi) : bootBuiltins (biN f) = some (biVal f) := by cases f <;> decide +kernel
theorem se_cB {m : Bool} {b : Bi} {xs : List Ex} (ih : ∀ x ∈ xs, SE C x) : SE C (.cB m b xs) := by
  intro W X ini me e f S σ H μ Q cx h hi R F hk
  rw [okE] at h
  split at h
  · next x vs he =>
    obtain ⟨p, q, rfl⟩ := asCall_eq he
    simp only [Bool.and_eq_true, beq_iff_eq] at h
    obtain ⟨⟨⟨h1, h2⟩, h3⟩, h4⟩ := h
    subst h1
    have hm := cx.blt _ (biN_in b)
    have key : UA X vs σ H (fun us H1 => BC X (biVal b) us H1 Q) := ua_list ih cx h3 hi Ext.refl R F hk fun ds S1 μ1 H1 ws E1 e1 R1 V1 F1 k1 => by
      obtain ⟨z, ez, k2⟩ := K1.off k1.bnd
      exact bi_ok cx E1 R1 V1 ez k2
    obtain ⟨y, ys, e, es, rfl, rfl, o1, o2⟩ := okEs_cons h3 h4
    have st := ok_star o1 es X.env
    have pl := oks_star o2 X.env q
    cases hb : biVal b with
    | builtin id =>
      rw [hb] at key
      exact U.of (pe_callB (BC.op X _) (glB_gl h2) hm (by rw [biN_boot, hb]) (UA.pa (e :: es)) (biN_name b).1 (biN_name b).2 st pl) key
    | type id =>
      rw [hb] at key
      exact U.of (pe_callTy (BC.op X _) (glB_gl h2) hm (by rw [biN_boot, hb]) (UA.pa (e :: es)) (biN_name b).1 (biN_name b).2 st pl) key
    | _ => cases b <;> cases hb
  · cases h
theorem rg_vals {W : Wd} {μ : List Addr} {H : Hp} {a b : Int} {xs : List D} (e : rgI a b = some xs) : RgOk a b ∧ VRs W μ H xs (rgV a b) := by
  unfold rgI at e
  split at e
  · next c =>
    cases e
    refine ⟨c, ?_⟩
    have h := VRs.ofInts (W := W) (μ := μ) (H := H) (ns := (List.range (b - a).toNat).map fun (i : Nat) => a + (i : Int))
    have q : rgV a b = ((List.range (b - a).toNat).map fun (i : Nat) => a + (i : Int)).map V.int := by
      unfold rgV
      rw [List.map_map]
      rfl
    rw [q]
    exact h
  · cases e
theorem rg_new {W : Wd} {X : Cx} {μ μ0 : List Addr} {H H0 : Hp} {σ : L2.St} {Q : VK} {l m : Bool} {xs : List D} {a b : Int} {S : Store} (E : Ext μ0 H0 μ H) (R : SR W μ S H) (e : rgI a b = some xs) (h : K1 (rgO l m xs S) (OkP W μ0 H0 Q) (XW W X μ0 H0 σ)) :
    RgOk a b ∧ ∀ q, H q = none → Q (.ref q) (upd H q (if l = true then .lst (rgV a b) else .tup (rgV a b))) := by
  obtain ⟨c, r⟩ := rg_vals (W := W) (μ := μ) (H := H) e
  refine ⟨c, ?_⟩
  cases l with
  | true => exact fresh_lst E R r h
  | false => exact fresh_tup (m := false) (X := X) (σ := σ) E R r (show K1 (fresh false (.tup xs) S) (OkP W μ0 H0 Q) (XW W X μ0 H0 σ) from h)
theorem pe_rgK {X : Cx} {e : Expr} {te : L2.St → Hp → (Int → Int → Hp → Prop) → Prop} {l : Bool} {x : Str} {p pos : Pos} (hc : X.calm = true) (hx : x = (if l = true then ("list" : Str) else ("tuple" : Str))) (hg : Gl X x) (hm : X.mg x = none) (he : PRg X e te) (na : starEach [e] X.env = (false, eval e X.env) :: starEach [] X.env) :
    PE X (.Call (.Name x p) [e] [] pos) (fun σ H Q => te σ H fun a b H1 => RgOk a b ∧ ∀ q, H1 q = none → Q (.ref q) (upd H1 q (if l = true then .lst (rgV a b) else .tup (rgV a b)))) := by
  subst hx
  cases l with
  | true => exact pe_listRg hc hg hm he na
  | false => exact pe_tupRg hc hg hm he na
theorem rgN_in (l : Bool) : (if l = true then ("list" : Str) else ("tuple" : Str)) ∈ bltNames := by cases l <;> decide
theorem star_call {f : Expr} {es : List Expr} {ks : List Keyword} {pos : Pos} {env : Env} : starEach [.Call f es ks pos] env = (false, eval (.Call f es ks pos) env) :: starEach [] env := rfl
theorem se_trg1 {l m : Bool} {a : Ex} (ia : SE C a) : SE C (.trg1 l m a) := by
  intro W X ini me e f S σ H μ Q cx h hi R F hk
  rw [okE] at h
  split at h
  · next x r he =>
    obtain ⟨p, q, rfl⟩ := asCall_eq he
    simp only [Bool.and_eq_true, beq_iff_eq] at h
    obtain ⟨⟨h1, h2⟩, h3⟩ := h
    split at h3
    · next y v he2 =>
      obtain ⟨p2, q2, rfl⟩ := asCall_eq he2
      simp only [Bool.and_eq_true, beq_iff_eq] at h3
      obtain ⟨⟨rfl, h4⟩, h5⟩ := h3
      have st := ok_star h5 [] X.env
      refine U.of (pe_rgK cx.calm h1 (glB_gl h2) (cx.blt _ (by rw [h1]; exact rgN_in l)) (prg_1 (glB_gl h4) (cx.blt _ (by decide)) (U.pe v) st) star_call) ?_
      refine ia.use cx h5 hi Ext.refl R F hk fun d S1 μ1 H1 w E1 e1 R1 V1 F1 k1 => ?_
      cases d <;> first | exact k1.elim | skip
      next n =>
      cases V1
      obtain ⟨xs, ex, k2⟩ := K1.off k1.bnd
      exact ⟨n, rfl, rg_new E1 R1 ex k2⟩
    · cases h3
  · cases h
theorem se_trg2 {l m : Bool} {a b : Ex} (ia : SE C a) (ib : SE C b) : SE C (.trg2 l m a b) := by
  intro W X ini me e f S σ H μ Q cx h hi R F hk
  rw [okE] at h
  split at h
  · next x r he =>
    obtain ⟨p, q, rfl⟩ := asCall_eq he
    simp only [Bool.and_eq_true, beq_iff_eq] at h
    obtain ⟨⟨h1, h2⟩, h3⟩ := h
    split at h3
    · next y v w he2 =>
      obtain ⟨p2, q2, rfl⟩ := asCall_eq he2
      simp only [Bool.and_eq_true, beq_iff_eq] at h3
      obtain ⟨⟨⟨rfl, h4⟩, h5⟩, h6⟩ := h3
      have st := ok_star h5 [w] X.env
      have st2 := ok_star h6 [] X.env
      refine U.of (pe_rgK cx.calm h1 (glB_gl h2) (cx.blt _ (by rw [h1]; exact rgN_in l)) (prg_2 (glB_gl h4) (cx.blt _ (by decide)) (U.pe v) (U.pe w) st st2 (by rw [st2]; rfl)) star_call) ?_
      refine ia.use cx h5 hi Ext.refl R F hk fun d S1 μ1 H1 u1 E1 e1 R1 V1 F1 k1 => ?_
      refine ib.use cx h6 hi E1 R1 F1 k1 fun d2 S2 μ2 H2 u2 E2 e2 R2 V2 F2 k2 => ?_
      cases d <;> first | exact k2.elim | skip
      next i =>
      cases d2 <;> first | exact k2.elim | skip
      next j =>
      cases V1
      cases V2
      obtain ⟨xs, ex, k3⟩ := K1.off k2.bnd
      exact ⟨i, j, rfl, rfl, rg_new E2 R2 ex k3⟩
    · cases h3
  · cases h
theorem passes_none {X : Cx} : Passes (L2.CX X.prog X.w) X (fun _ _ _ => False) := fun pins σ H s e s' I c => by
  obtain ⟨_, _, _, _, _, _, _, _, _, _, _, _, z⟩ := c
  exact z.elim
/-- the wish of a call's exceptions -/
theorem exc_pass {W : Wd} {X : Cx} {μ μ1 : List Addr} {H H1 : Hp} {σ : L2.St} {r : Out D} {Q : VK} (E1 : Ext μ H μ1 H1) (h : K1 r (OkP W μ H Q) (XW W X μ H σ)) :
    ∃ E : XK, PassesAt (L2.CX X.prog X.w) X σ E ∧ K1 r (OkP W μ1 H1 Q) (fun x S' => ∀ μ' H' cls dd, SR W μ' S' H' → Ext μ1 H1 μ' H' → XR W μ' H' x cls dd → E cls dd H') := by
  cases r with
  | bad => exact h.elim
  | ok d S => exact ⟨fun _ _ _ => False, fun pins H s e s' I c => passes_none pins σ H s e s' I c, fun μ' H' v R e V => (show OkP W μ H Q d S from h) μ' H' v R (E1.trans e) V⟩
  | exc x S =>
    obtain ⟨Wx, tk, q⟩ := (show XW W X μ H σ x S from h)
    exact ⟨fun cls dd H' => Wx cls dd σ H', passAt tk σ, fun μ' H' cls dd R e r => q μ' H' cls dd R (E1.trans e) r⟩
section
variable {X : Cx} {σ : L2.St} {H : Hp} {Q : VK} {x m : Str} {f a : Addr} {fd : FuncData} {ps : List Str} {p pos apos : Pos} {e o : Expr} {es : List Expr}
/-- a function's promise is there, and its exceptions are let -/
def Prom (X : Cx) (σ : L2.St) (f : Addr) (fd : FuncData) (ps : List Str) (vs : List V) (H : Hp) (Q : VK) : Prop :=
  ∃ (k : Nat) (sp : Sp) (E : XK), RoomG k X.A ∧ FnG X.prog X.w X.K X.mg X.base k f fd ps sp ∧ PassesAt (L2.CX X.prog X.w) X σ E ∧ sp vs H Q E
theorem Prom.run {pins : List (Addr × Obj)} {s : Shared} {vs : List V} {us : List Value} (h : Prom X σ f fd ps vs H Q) (hb : Binds X.K fd ps []) (I : L2.Inv X pins σ H s) (r : Vals vs us) : wpAny (model X.prog X.w) X.A (call (.ref f) us) (EP X pins σ Q) X.xe s := by
  obtain ⟨k, sp, E, hr, F, hx, q⟩ := h
  exact run_fnG F hr hb hx I r q
theorem u_call (hg : Gl X x) (hm : X.mg x = some (.ref f)) (hk : PySem.W.keepIn X.K (.ref f) = true) (hb : Binds X.K fd ps []) (hdb : (x == ("__debug__" : Str)) = false) (he : starEach (e :: es) X.env = (false, eval e X.env) :: starEach es X.env)
    (hpl : (backTo pos (starEach es X.env)).any (·.1) = false) (h : UA X (e :: es) σ H (fun vs H1 => Prom X σ f fd ps vs H1 Q)) : U X (.Call (.Name x p) (e :: es) [] pos) σ H Q := fun pins s I => by
  refine wpAny_Call_Name_kw (ld_glob I hg hm ?_ hdb)
  refine PySem.W.callWith_K (h₀ := X.base) I.ok.mod.kin hk (thn (h pos pins s I) fun us s1 ⟨vs, H1, I1, r, q⟩ => ⟨I1.kIn, ?_⟩) he hpl
  exact q.run hb I1 r
theorem u_call0 (hg : Gl X x) (hm : X.mg x = some (.ref f)) (hk : PySem.W.keepIn X.K (.ref f) = true) (hb : Binds X.K fd ps []) (hdb : (x == ("__debug__" : Str)) = false) (h : Prom X σ f fd ps [] H Q) : U X (.Call (.Name x p) [] [] pos) σ H Q := fun pins s I => by
  refine wpAny_Call_Name_kw (ld_glob I hg hm ?_ hdb)
  exact PySem.W.callWith_K0 I.kIn hk (h.run (us := []) hb I .nil)
end
theorem se_cF {g : Nat} {xs : List Ex} (ih : ∀ x ∈ xs, SE C x) : SE C (.cF g xs) := by
  intro W X ini me e f S σ H μ Q cx h hi R F hk
  rw [okE] at h
  split at h
  · next x vs he =>
    obtain ⟨p, q, rfl⟩ := asCall_eq he
    simp only [Bool.and_eq_true, beq_iff_eq] at h
    obtain ⟨⟨⟨⟨h1, h2⟩, h3⟩, h4, h4t⟩, h5⟩ := h
    have hgm := cx.gm g h4t
    have key : UA X vs σ H (fun us H1 => Prom X σ (W.lk.fa g) (W.lk.fd g) (W.lk.pn g) us H1 Q) := ua_list ih cx h5 hi Ext.refl R F hk fun ds S1 μ1 H1 ws E1 e1 R1 V1 F1 k1 => by
      obtain ⟨k, hr, Fn⟩ := cx.fns g h4 ⟨ds, S1, fun z => by rw [z] at k1; exact k1.elim⟩
      obtain ⟨E, hx, k2⟩ := exc_pass E1 k1
      exact ⟨k, _, E, hr, Fn, hx, W.Z, μ1, S1, ds, R1, V1, k2⟩
    rw [h1] at hgm
    cases xs with
    | nil =>
      cases vs with
      | cons e es => simp [okEs] at h5
      | nil =>
        refine u_call0 (glB_gl h2) hgm.1 (by rw [cx.kk]; exact hgm.2) (by rw [cx.kk]; exact cx.bind g h4) (plainN_1 h3) ?_
        have hk2 : K1 (C.fn g [] S) (OkP W μ H Q) (XW W X μ H σ) := hk
        obtain ⟨k, hr, Fn⟩ := cx.fns g h4 ⟨[], S, fun z => by rw [z] at hk2; exact hk2.elim⟩
        obtain ⟨E, hx, k2⟩ := exc_pass Ext.refl hk2
        exact ⟨k, _, E, hr, Fn, hx, W.Z, μ, S, [], R, .nil, k2⟩
    | cons y ys =>
      cases vs with
      | nil => simp [okEs] at h5
      | cons e es =>
        simp only [okEs, Bool.and_eq_true] at h5
        exact u_call (glB_gl h2) hgm.1 (by rw [cx.kk]; exact hgm.2) (by rw [cx.kk]; exact cx.bind g h4) (plainN_1 h3) (ok_star h5.1 es X.env) (oks_star h5.2 X.env q) key
  · cases h
theorem meth_eq {o : Expr} {m : Str} {es : List Expr} {apos pos : Pos} {env : Env} (h : plainA o = true) (h1 : (backTo pos (starEach es env)).all (fun x => !x.1) = true) (h2 : es.length < 20) (hl : (apos.endLine == pos.line) = true) :
    eval (.Call (.Attribute o m apos) es [] pos) env = (do
      let ov ← eval o env
      standAt apos.atName
      let (f, first) ← holding [ov] (getMethod ov m (do return (← importBound o env).getD true))
      callWith pos f first (backTo pos (starEach es env)) (backToKw pos (keywordEach [] env))) := by
  have hf : methodCallForm (es.length + ([] : List Keyword).length) (backTo pos (starEach es env)) (backToKw pos (keywordEach [] env)) = true := by
    unfold methodCallForm
    rw [h1]
    have : decide (es.length + ([] : List Keyword).length + (if (backToKw pos (keywordEach [] env)).isEmpty then 0 else 1) < 30) = true := decide_eq_true (by simp [backToKw, keywordEach]; omega)
    rw [this]
    rfl
  rw [arm_eval_Call, plainA_base h]
  unfold methodCall methodCallPos calleeOf
  rw [hf, hl]
  rfl
section
variable {X : Cx} {σ : L2.St} {H : Hp} {Q : VK} {x m : Str} {f a : Addr} {fd : FuncData} {ps : List Str} {p pos apos : Pos} {e o : Expr} {es : List Expr}
theorem u_meth (hpa : plainA o = true) (hns : ∀ env, (backTo pos (starEach es env)).all (fun x => !x.1) = true) (hl : (apos.endLine == pos.line) = true) (hlen : es.length < 20) (hst : es = [] ∨ ∃ e es', es = e :: es' ∧ starEach (e :: es') X.env = (false, eval e X.env) :: starEach es' X.env ∧ (backTo pos (starEach es' X.env)).any (·.1) = false)
    (h : U X o σ H (fun v H1 => ∃ (a C dx : Addr) (fs : List (Str × V)) (g : Addr) (fd : FuncData) (ps : List Str), v = .ref a ∧ H1 a = some (.ins C dx fs) ∧ Cls X.K C ∧ Meth X.K C m g ∧ fs.lookup m = none ∧ Binds X.K fd ps [] ∧
      (es = [] → Prom X σ g fd ps [.ref a] H1 Q) ∧ UA X es σ H1 (fun vs H2 => Prom X σ g fd ps (.ref a :: vs) H2 Q))) : U X (.Call (.Attribute o m apos) es [] pos) σ H Q := fun pins s I => by
  refine methcall_of (te := U X o) (U.pe o) I (U.mono h fun v H1 ⟨a, C, dx, fs, g, fd, ps, ev, ha, hc, hm, hl, hb, hA0, hA⟩ => ⟨a, C, dx, fs, g, ev, ha, hc, hm, hl, fun s1 I1 => ?_⟩) (meth_eq hpa (hns X.env) hlen hl)
  rcases hst with rfl | ⟨e, es', rfl, he, hpl⟩
  · show wpAny _ _ (callWith pos (.ref g) [.ref a] (backTo pos (starEach [] X.env)) []) _ _ _
    exact PySem.W.callWith_K0 (first := [.ref a]) I1.kIn hm.kp ((hA0 rfl).run (us := [.ref a]) hb I1 (.cons rfl .nil))
  · show wpAny _ _ (callWith pos (.ref g) [.ref a] (backTo pos (starEach (e :: es') X.env)) []) _ _ _
    refine PySem.W.callWith_K (h₀ := X.base) (first := [.ref a]) I1.ok.mod.kin hm.kp (thn (hA pos pins s1 I1) fun us s2 ⟨vs, H2, I2, r2, q2⟩ => ⟨I2.kIn, ?_⟩) he hpl
    exact q2.run (us := .ref a :: us) hb I2 (.cons rfl r2)
end
theorem look_keys {fs : List (Str × V)} {y : Str} (h : y ∉ fs.map (·.1)) : fs.lookup y = none := by
  induction fs with
  | nil => rfl
  | cons q fs ih =>
    obtain ⟨z, v⟩ := q
    simp only [List.map_cons, List.mem_cons, not_or] at h
    have : (y == z) = false := by simpa using h.1
    simp only [List.lookup, this]
    exact ih h.2
theorem se_mth {m : Nat} {o : Ex} {xs : List Ex} (io : SE C o) (ih : ∀ x ∈ xs, SE C x) : SE C (.mth m o xs) := by
  intro W X ini me e f S σ H μ Q cx h hi R F hk
  rw [okE] at h
  split at h
  · next l a vs he =>
    obtain ⟨p, q, rfl, hq⟩ := asMeth_eq he
    simp only [Bool.and_eq_true, beq_iff_eq, decide_eq_true_eq] at h
    obtain ⟨⟨⟨⟨h1, h2⟩, h3⟩, h4⟩, h5⟩ := h
    have hst : vs = [] ∨ ∃ e es', vs = e :: es' ∧ starEach (e :: es') X.env = (false, eval e X.env) :: starEach es' X.env ∧ (backTo q (starEach es' X.env)).any (·.1) = false := by
      cases xs with
      | nil =>
        cases vs with
        | nil => exact .inl rfl
        | cons e es => simp [okEs] at h3
      | cons y ys =>
        cases vs with
        | nil => simp [okEs] at h3
        | cons e es =>
          simp only [okEs, Bool.and_eq_true] at h3
          exact .inr ⟨e, es, rfl, ok_star h3.1 es X.env, oks_star h3.2 X.env q⟩
    refine u_meth h4 (fun env => oks_none h3 env q) hq h5 hst ?_
    refine io.use cx h2 hi Ext.refl R F hk fun x S1 μ1 H1 v E1 _ R1 V1 F1 k1 => ?_
    cases x <;> first | exact k1.elim | skip
    next c ds =>
    cases V1 with
    | @obj b dx _ _ fs kl hb n z hkl hc hf rr =>
      have k1' : K1 (match W.P.cl c with | some k => (match k.meths.lookup m with | some g => (evs W.P C xs f S1).bind fun ds' S2 => C.fn g (.obj c ds :: ds') S2 | none => .bad) | none => .bad : Out D) (OkP W μ H Q) (XW W X μ H σ) := k1
      rw [hkl] at k1'
      split at k1'
      · next kl' e1 =>
        cases e1
        split at k1'
        · next g hg =>
          obtain ⟨c1, c2, _, _, _, _⟩ := cx.cls c kl hc hkl
          obtain ⟨g1, g2, g3⟩ := c2 m g hg
          have Vo : VR W μ1 H1 (.obj c ds) (.ref b) := .obj hb n z hkl hc hf rr
          have prom : ∀ {μ2 : List Addr} {H2 : Hp} {S2 : Store} {es' : List D} {ws : List V}, Ext μ H μ2 H2 → Ext μ1 H1 μ2 H2 → SR W μ2 S2 H2 → VRs W μ2 H2 es' ws → K1 (C.fn g (.obj c ds :: es') S2) (OkP W μ H Q) (XW W X μ H σ) → Prom X σ (W.lk.fa g) (W.lk.fd g) (W.lk.pn g) (.ref b :: ws) H2 Q := fun {μ2 H2 S2 es' ws} E2 e2 R2 V2 k2 => by
            obtain ⟨k, hr, Fn⟩ := cx.fns g g1 ⟨_, S2, fun z => by rw [z] at k2; exact k2.elim⟩
            obtain ⟨E, hx, k3⟩ := exc_pass E2 k2
            exact ⟨k, _, E, hr, Fn, hx, W.Z, μ2, S2, .obj c ds :: es', R2, .cons (Vo.ext e2.z) V2, k3⟩
          refine ⟨b, _, dx, fs, W.lk.fa g, W.lk.fd g, W.lk.pn g, rfl, hb, by rw [cx.kk]; exact c1, by rw [cx.kk, ← h1]; exact g2, look_keys (by rw [hf, ← h1]; exact g3), by rw [cx.kk]; exact cx.bind g g1, fun hnil => ?_, ?_⟩
          · subst hnil
            cases xs with
            | cons y ys => simp [okEs] at h3
            | nil => exact prom E1 Ext.refl R1 .nil k1'
          · exact ua_list ih cx h3 hi E1 R1 F1 k1' fun es' S2 μ2 H2 ws E2 e2 R2 V2 F2 k2 => prom E2 e2 R2 V2 k2
        · exact k1'.elim
      · exact k1'.elim
  · cases h
/-- o.f: a field, or a property -/
theorem look_zip {k : Cl} {P : Pr} : ∀ {flds : List Nat} {ds : List D} {fs : List (Str × V)} {a : Nat} {d : D}, fs.map (·.1) = flds.map P.nm → (flds.map P.nm).Nodup → VRs W μ H ds (fs.map (·.2)) → (flds.zip ds).lookup a = some d → a ∈ flds ∧ ∃ v, fs.lookup (P.nm a) = some v ∧ VR W μ H d v
  | [], ds, fs, a, d, _, _, _, h => by simp at h
  | b :: flds, [], fs, a, d, _, _, _, h => by simp at h
  | b :: flds, e :: ds, [], a, d, hf, _, _, h => by simp at hf
  | b :: flds, e :: ds, (y, v) :: fs, a, d, hf, hn, r, h => by
    simp only [List.map_cons, List.cons.injEq] at hf
    obtain ⟨rfl, hf⟩ := hf
    rw [List.map_cons, List.nodup_cons] at hn
    cases r with
    | cons q r =>
      simp only [List.zip_cons_cons, List.lookup] at h
      by_cases hab : a = b
      · subst hab
        simp at h
        subst h
        exact ⟨List.mem_cons_self, v, by simp [List.lookup], q⟩
      · have e1 : (a == b) = false := by simpa using hab
        rw [e1] at h
        obtain ⟨m1, w, l1, l2⟩ := look_zip (k := k) hf hn.2 r h
        refine ⟨List.mem_cons_of_mem _ m1, w, ?_, l2⟩
        have e2 : (P.nm a == P.nm b) = false := by
          rw [beq_eq_false_iff_ne]
          exact fun z => hn.1 (by rw [← z]; exact List.mem_map_of_mem m1)
        simp only [List.lookup, e2]
        exact l1
theorem u_fld {X : Cx} {σ : L2.St} {H : Hp} {Q : VK} {o : Expr} {m : Str} {pos : Pos} (hpa : plainA o = true)
    (h : U X o σ H (fun v H1 => (∃ (a C dx : Addr) (fs : List (Str × V)) (y : V), v = .ref a ∧ H1 a = some (.ins C dx fs) ∧ Cls X.K C ∧ NoAttr X.K C m ∧ fs.lookup m = some y ∧ Q y H1) ∨ (∃ (a C dx : Addr) (fs : List (Str × V)) (p g : Addr) (fd : FuncData) (ps : List Str) (k : Nat) (sp : Sp), v = .ref a ∧ H1 a = some (.ins C dx fs) ∧ Cls X.K C ∧ PropOf X.K C m p g ∧ Binds X.K fd ps [] ∧ RoomG (k + 1) X.A ∧
      FnG X.prog X.w X.K X.mg X.base k g fd ps sp ∧ sp [.ref a] H1 Q (fun _ _ _ => False)))) : U X (.Attribute o m pos) σ H Q := fun pins s I => by
  refine attr_of (plainA_base hpa m X.env _) (thn (h pins s I) fun u s1 ⟨x, H1, I1, rx, q⟩ => ?_)
  rcases q with ⟨a, C, dx, fs, y, ex, ea, c, nn, l, q⟩ | ⟨a, C, dx, fs, p, g, fd, ps, k, sp, ex, ea, c, hp, hb, hr, Fn, q⟩
  · subst ex
    obtain rfl : u = Value.ref a := rx
    exact getattr_ok I1 ea c nn l fun u s' I' ru => ⟨y, H1, I', ru, q⟩
  · subst ex
    obtain rfl : u = Value.ref a := rx
    exact prop_readG I1 ea c hp Fn hr hb q
theorem se_atr {a : Nat} {o : Ex} (io : SE C o) : SE C (.atr a o) := by
  intro W X ini me e f S σ H μ Q cx h hi R F hk
  rw [okE] at h
  split at h
  · next l y he =>
    obtain ⟨p, rfl⟩ := asAtt_eq he
    simp only [Bool.and_eq_true, beq_iff_eq] at h
    obtain ⟨⟨h1, h2⟩, h3⟩ := h
    refine u_fld h3 ?_
    refine io.use cx h2 hi Ext.refl R F hk fun x S1 μ1 H1 v E1 _ R1 V1 F1 k1 => ?_
    cases x <;> first | exact k1.elim | skip
    next c ds =>
    cases V1 with
    | @obj b dx _ _ fs kl hb n z hkl hc hf rr =>
      have k1' : K1 (match W.P.cl c with | some k => (match k.props.lookup a with | some g => (C.prop g [.obj c ds] S1).calm | none => Out.of (fldOf W.P a (.obj c ds)) S1) | none => .bad : Out D) (OkP W μ H Q) (XW W X μ H σ) := k1
      rw [hkl] at k1'
      split at k1'
      · next kl' e1 =>
        cases e1
        obtain ⟨c1, _, c3, c4, c5, _⟩ := cx.cls c kl hc hkl
        have Vo : VR W μ1 H1 (.obj c ds) (.ref b) := .obj hb n z hkl hc hf rr
        split at k1'
        · next g hg =>
          obtain ⟨g1, pp, g2⟩ := c3 a g hg
          right
          cases q : C.prop g [.obj c ds] S1 with
          | ok d S2 =>
            rw [q] at k1'
            obtain ⟨k, hr, Fn⟩ := cx.prs g g1 ⟨_, S1, fun z => by rw [q] at z; cases z⟩
            refine ⟨b, _, dx, fs, pp, W.lk.fa g, W.lk.fd g, W.lk.pn g, k, _, rfl, hb, by rw [cx.kk]; exact c1, by rw [cx.kk, ← h1]; exact g2, by rw [cx.kk]; exact cx.bind g g1, hr, Fn, W.Z, μ1, S1, [.obj c ds], R1, .cons Vo .nil, ?_⟩
            rw [q]
            exact fun μ' H' v R' E' V' => (show OkP W μ H Q d S2 from k1') μ' H' v R' (E1.trans E') V'
          | exc _ _ => rw [q] at k1'; exact k1'.elim
          | bad => rw [q] at k1'; exact k1'.elim
        · next hg =>
          left
          obtain ⟨d, e2, q⟩ := K1.off k1'
          unfold fldOf at e2
          simp only [hkl] at e2
          obtain ⟨m1, w, l1, l2⟩ := look_zip (k := kl) hf c5 rr e2
          exact ⟨b, _, dx, fs, w, rfl, hb, by rw [cx.kk]; exact c1, by rw [cx.kk, ← h1]; exact c4 a m1, by rw [← h1]; exact l1, q μ1 H1 w R1 E1 l2⟩
      · exact k1'.elim
  · cases h
theorem look_phi {P : Pr} {W : Wd} {μ : List Addr} {H : Hp} : ∀ {φ : List (Nat × D)} {fs : List (Str × V)} {a : Nat} {d : D}, fs.map (·.1) = φ.map (fun p => P.nm p.1) → (∀ b ∈ φ.map (·.1), P.nm a = P.nm b → a = b) → VRs W μ H (φ.map (·.2)) (fs.map (·.2)) → φ.lookup a = some d → ∃ v, fs.lookup (P.nm a) = some v ∧ VR W μ H d v
  | [], fs, a, d, _, _, _, h => by simp at h
  | q :: φ, [], a, d, hf, _, _, h => by simp at hf
  | (b, e) :: φ, (y, v) :: fs, a, d, hf, hn, r, h => by
    simp only [List.map_cons, List.cons.injEq] at hf
    obtain ⟨rfl, hf⟩ := hf
    cases r with
    | cons q r =>
      simp only [List.lookup] at h
      by_cases hab : a = b
      · subst hab
        simp at h
        subst h
        exact ⟨v, by simp [List.lookup], q⟩
      · have e1 : (a == b) = false := by simpa using hab
        rw [e1] at h
        obtain ⟨w, l1, l2⟩ := look_phi hf (fun c hc z => hn c (List.mem_cons_of_mem _ hc) z) r h
        refine ⟨w, ?_, l2⟩
        have e2 : (P.nm a == P.nm b) = false := by
          rw [beq_eq_false_iff_ne]
          exact fun z => hab (hn b (by simp) z)
        simp only [List.lookup, e2]
        exact l1
/-- xs.append(y) -/
theorem se_app {o a : Ex} (io : SE C o) (ia : SE C a) : SE C (.app o a) := by
  intro W X ini me e f S σ H μ Q cx h hi R F hk
  rw [okE] at h
  split at h
  · next l m r he =>
    obtain ⟨p, q, rfl, hq⟩ := asMeth_eq he
    simp only [Bool.and_eq_true, beq_iff_eq] at h
    obtain ⟨⟨⟨h1, h2⟩, h3⟩, h4⟩ := h
    subst h1
    have st := ok_star h3 [] X.env
    refine U.of (pe_bm PySem.F.plainAttrs_list PySem.F.slot_list_append PySem.F.type_list_append mt_append (U.pe l) (pa_cons (U.pe r) pa_nil st) (plainA_base h4 _ X.env _) (by rw [st]; rfl) hq st rfl) ?_
    refine io.use cx h2 hi Ext.refl R F hk fun x S1 μ1 H1 v E1 _ R1 V1 F1 k1 => ?_
    cases x <;> first | exact k1.elim | skip
    next n =>
    cases V1 with
    | @loc b _ hn hk0 =>
      obtain ⟨vs0, hb0⟩ := hk0
      have hb0' : H1 b = some (.lst vs0) := hb0
      refine ⟨.inl ⟨rfl, vs0, .inl (.inl hb0')⟩, ?_⟩
      refine ia.use cx h3 hi E1 R1 F1 k1 fun y S2 μ2 H2 u E2 e2 R2 V2 F2 k2 => ?_
      split at k2
      · next S3 hp =>
        unfold push at hp
        split at hp
        · next xs hx =>
          split at hp
          · next hl =>
            cases hp
            have hn2 : μ2[n]? = some b := by
              obtain ⟨t, et⟩ := e2.pre
              rw [et, List.getElem?_append_left (List.getElem?_eq_some_iff.mp hn).1]
              exact hn
            obtain ⟨b', ws, g1, g2, g3⟩ := R2.list hx
            rw [hn2] at g1; cases g1
            exact ⟨b, ws, u, rfl, rfl, g2, by rw [← g3.len]; exact hl, (show OkP W μ H Q _ _ from k2) μ2 _ _ (R2.write hn2 g2 (g3.app (.cons V2 .nil))) (E2.trans (ext_write (List.mem_of_getElem? hn2) g2)) .non⟩
          · cases hp
        · cases hp
      · exact k2.elim
  · cases h
/-- xs.pop(i) -/
theorem se_popA {o a : Ex} (io : SE C o) (ia : SE C a) : SE C (.popA o a) := by
  intro W X ini me e f S σ H μ Q cx h hi R F hk
  rw [okE] at h
  split at h
  · next l m r he =>
    obtain ⟨p, q, rfl, hq⟩ := asMeth_eq he
    simp only [Bool.and_eq_true, beq_iff_eq] at h
    obtain ⟨⟨⟨h1, h2⟩, h3⟩, h4⟩ := h
    subst h1
    have st := ok_star h3 [] X.env
    refine U.of (pe_bm PySem.F.plainAttrs_list PySem.F.slot_list_pop PySem.F.type_list_pop mt_popAt (U.pe l) (pa_cons (U.pe r) pa_nil st) (plainA_base h4 _ X.env _) (by rw [st]; rfl) hq st rfl) ?_
    refine io.use cx h2 hi Ext.refl R F hk fun x S1 μ1 H1 v E1 _ R1 V1 F1 k1 => ?_
    cases x <;> first | exact k1.elim | skip
    next n =>
    cases V1 with
    | @loc b _ hn hk0 =>
      obtain ⟨vs0, hb0⟩ := hk0
      have hb0' : H1 b = some (.lst vs0) := hb0
      refine ⟨.inl ⟨rfl, vs0, .inl (.inl hb0')⟩, ?_⟩
      refine ia.use cx h3 hi E1 R1 F1 k1 fun y S2 μ2 H2 u E2 e2 R2 V2 F2 k2 => ?_
      unfold popO at k2
      split at k2
      · next k =>
        cases V2
        split at k2
        · next xs hx =>
          split at k2
          · next j hj =>
            split at k2
            · next z hz =>
              split at k2
              · next hl =>
                have hn2 : μ2[n]? = some b := by
                  obtain ⟨t, et⟩ := e2.pre
                  rw [et, List.getElem?_append_left (List.getElem?_eq_some_iff.mp hn).1]
                  exact hn
                obtain ⟨b', ws, g1, g2, g3⟩ := R2.list hx
                rw [hn2] at g1; cases g1
                obtain ⟨w, w1, w2⟩ := g3.get hz
                have ew := ext_write (H := H2) (ys := ws.eraseIdx j) (List.mem_of_getElem? hn2) g2
                exact ⟨b, ws, k, j, w, rfl, rfl, g2, hl.1, hl.2, by rw [← g3.len]; exact (ixN_seq hj).1, w1, (show OkP W μ H Q _ _ from k2) μ2 _ _ (R2.write hn2 g2 (g3.erase j)) (E2.trans ew) (w2.ext ew.z)⟩
              · exact k2.elim
            · exact k2.elim
          · exact k2.elim
        · exact k2.elim
      · exact k2.elim
  · cases h
theorem posI_spec {k : Int} : ∀ {ns : List Int} {j : Nat}, posI k ns = some j → ns[j]? = some k ∧ ∀ m z, m < j → ns[m]? = some z → z ≠ k
  | [], j, h => by cases h
  | x :: ns, j, h => by
    unfold posI at h
    split at h
    · next e =>
      cases h
      subst e
      exact ⟨rfl, fun m z hm => by omega⟩
    · next e =>
      cases q : posI k ns with
      | none => rw [q] at h; cases h
      | some i =>
        rw [q] at h
        cases h
        obtain ⟨a, b⟩ := posI_spec q
        refine ⟨by simpa using a, fun m z hm hz => ?_⟩
        cases m with
        | zero => simp at hz; subst hz; exact e
        | succ m => exact b m z (Nat.lt_of_succ_lt_succ hm) (by simpa using hz)
/-- xs.index(i) -/
theorem se_idxA {o a : Ex} (io : SE C o) (ia : SE C a) : SE C (.idxA o a) := by
  intro W X ini me e f S σ H μ Q cx h hi R F hk
  rw [okE] at h
  split at h
  · next l m r he =>
    obtain ⟨p, q, rfl, hq⟩ := asMeth_eq he
    simp only [Bool.and_eq_true, beq_iff_eq] at h
    obtain ⟨⟨⟨h1, h2⟩, h3⟩, h4⟩ := h
    subst h1
    have st := ok_star h3 [] X.env
    have kx : X.K = W.K := cx.kk
    refine U.of (pe_bm PySem.F.plainAttrs_list PySem.F.slot_list_index PySem.F.type_list_index mt_index (U.pe l) (pa_cons (U.pe r) pa_nil st) (plainA_base h4 _ X.env _) (by rw [st]; rfl) hq st rfl) ?_
    refine io.use cx h2 hi Ext.refl R F hk fun x S1 μ1 H1 v E1 _ R1 V1 F1 k1 => ?_
    split at k1
    · next xs0 hx0 =>
      obtain ⟨b, vs0, rfl, q0, _⟩ := V1.seqL R1 hx0
      refine ⟨.inl ⟨rfl, vs0, by rw [kx]; exact q0⟩, ?_⟩
      refine ia.use cx h3 hi E1 R1 F1 k1 fun y S2 μ2 H2 u E2 e2 R2 V2 F2 k2 => ?_
      obtain ⟨z, ez, k3⟩ := K1.off k2
      unfold idxO at ez
      split at ez
      · next xs k hx =>
        cases V2
        split at ez
        · next ns hn =>
          cases hp : posI k ns with
          | none => rw [hp] at ez; cases ez
          | some j =>
            rw [hp] at ez
            cases ez
            obtain ⟨b2, vs, eb, q2, r2⟩ := (V1.ext e2.z).seqL R2 hx
            cases eb
            have ev := r2.ints hn
            subst ev
            obtain ⟨s1, s2⟩ := posI_spec hp
            refine ⟨b, ns.map V.int, .int k, j, .int k, rfl, rfl, by rw [kx]; exact q2, rfl, ?_, by rw [List.getElem?_map, s1]; rfl, beq_self_eq_true k, fun m z' hm hz => ?_, (show OkP W μ H Q _ _ from k3) μ2 _ _ R2 E2 (.int _)⟩
            · rw [List.all_map]
              exact List.all_eq_true.mpr fun _ _ => rfl
            · rw [List.getElem?_map] at hz
              cases hq : ns[m]? with
              | none => rw [hq] at hz; cases hz
              | some i =>
                rw [hq] at hz
                cases hz
                exact beq_eq_false_iff_ne.mpr (s2 m i hm hq)
        · cases ez
      · cases ez
    · exact k1.elim
  · cases h
theorem six_boot {n : String} (h : (n ∈ ["int", "bool", "str", "tuple", "list", "dict"]) ) : bootBuiltins (Str.ofString n) = some (.type n) ∧ Str.ofString n ∈ bltNames ∧ Str.ofString n ≠ ("__name__" : Str) ∧ (Str.ofString n == ("__debug__" : Str)) = false ∧ n ∈ ["NoneType", "int", "bool", "str", "tuple", "list", "dict"] := by
  simp only [List.mem_cons, List.not_mem_nil, or_false] at h
  rcases h with rfl | rfl | rfl | rfl | rfl | rfl <;> exact ⟨by decide +kernel, by decide, by decide, by decide, by decide⟩
theorem u_ty {W : Wd} {X : Cx} {σ : L2.St} {H : Hp} {Q : VK} {t : Ty} {e : Expr} (cx : Cxt W C X) (h : tyB W.P W.lk.toChk X.env.scope t e = true) (q : Q (tyV2 W.lk t) H) : U X e σ H Q := by
  unfold tyB at h
  split at h
  · simp only [Bool.and_eq_true, beq_iff_eq, decide_eq_true_eq] at h
    obtain ⟨⟨⟨h1, h2⟩, h3⟩, rfl⟩ := h
    obtain ⟨b1, b2, b3, b4, _⟩ := six_boot h3
    exact U.of (pe_bltn (glB_gl h1) (cx.blt _ b2) b1 (show RelV (.ty _) _ from rfl) b3 b4) q
  · simp only [Bool.and_eq_true, beq_iff_eq] at h
    obtain ⟨⟨⟨h1, h2⟩, h3⟩, rfl⟩ := h
    exact U.of (pe_glob (glB_gl h1) (cx.gc _ h3).1 (show RelV (.ref _) _ from rfl) (plainN_1 h2)) q
  · cases h
theorem tyB_has {P : Pr} {lk : Chk} {sc : Scope} {t : Ty} {e : Expr} (h : tyB P lk sc t e = true) : tyHas lk t = true := by
  unfold tyB at h
  split at h
  · simp only [Bool.and_eq_true, decide_eq_true_eq] at h
    exact decide_eq_true (six_boot h.1.2).2.2.2.2
  · simp only [Bool.and_eq_true] at h
    exact h.1.2
  · cases h
theorem tyB_star {P : Pr} {lk : Chk} {sc : Scope} {t : Ty} {e : Expr} (h : tyB P lk sc t e = true) (es : List Expr) (env : Env) : starEach (e :: es) env = (false, eval e env) :: starEach es env := by
  cases e <;> first | rfl | (cases t <;> simp [tyB] at h)
theorem ua_tys {W : Wd} {X : Cx} {σ : L2.St} {H : Hp} {Q : List V → Hp → Prop} (cx : Cxt W C X) : ∀ {ts : List Ty} {es : List Expr}, tysB W.P W.lk.toChk X.env.scope ts es = true → Q (ts.map (tyV2 W.lk)) H → UA X es σ H Q := by
  intro ts
  induction ts generalizing Q with
  | nil =>
    intro es h q
    cases es with
    | nil => exact UA.of pa_nil q
    | cons e es => simp [tysB] at h
  | cons t ts ih =>
    intro es h q
    cases es with
    | nil => simp [tysB] at h
    | cons e es =>
      simp only [tysB, Bool.and_eq_true] at h
      refine UA.of (pa_cons (U.pe e) (UA.pa es) (tyB_star h.1 es X.env)) ?_
      exact u_ty cx h.1 (ih h.2 q)
theorem tysB_has {P : Pr} {lk : Chk} {sc : Scope} : ∀ {ts : List Ty} {es : List Expr}, tysB P lk sc ts es = true → ∀ t ∈ ts, tyHas lk t = true
  | [], _, _, t, ht => nomatch ht
  | t :: ts, [], h, _, _ => by simp [tysB] at h
  | t :: ts, e :: es, h, u, hu => by
    simp only [tysB, Bool.and_eq_true] at h
    rcases List.mem_cons.mp hu with rfl | hu
    · exact tyB_has h.1
    · exact tysB_has h.2 u hu
theorem ty_of {W : Wd} {X : Cx} {μ : List Addr} {S : Store} {H : Hp} {d : D} {v : V} {t : Ty} (cx : Cxt W C X) (R : SR W μ S H) (V1 : VR W μ H d v) (e : tyN S d = some t) : TyX X.K H v (tyVal W.lk t) ∧ tyHas W.lk.toChk t = true := by
  rw [cx.kk]
  cases V1 with
  | non => cases e; exact ⟨.base .non, rfl⟩
  | bl b => cases e; exact ⟨.base (.bl b), rfl⟩
  | int i => cases e; exact ⟨.base (.int i), rfl⟩
  | str x => cases e; exact ⟨.base (.str x), rfl⟩
  | tup h n z r =>
    cases e
    rcases h with h | ⟨o, h⟩
    · exact ⟨.base (.tup h), rfl⟩
    · exact ⟨.fTuple h, rfl⟩
  | tupK h r =>
    cases e
    obtain ⟨o, its, n, hl, hc, _⟩ := h
    exact ⟨.kTuple hl hc, rfl⟩
  | lst h n z r => cases e; exact ⟨.base (.lst h), rfl⟩
  | frz h n z r =>
    cases e
    rcases h with h | ⟨o, h⟩
    · exact ⟨.base (.lst h), rfl⟩
    · exact ⟨.base (.frz h), rfl⟩
  | frzK h r =>
    cases e
    obtain ⟨o, its, n, hl, hc, _⟩ := h
    exact ⟨.kList hl hc, rfl⟩
  | obj h n z hk hc hf r =>
    cases e
    obtain ⟨a1, a2, a3, a4, _⟩ := cx.isc _ hc
    exact ⟨.base (.ins h (cx.cls _ _ hc hk).1 a1 a2 a3 a4), hc⟩
  | dic h hk0 =>
    obtain ⟨us, q⟩ := hk0
    simp only [tyN] at e
    split at e
    · cases e; exact ⟨.base (.dK q), rfl⟩
    · cases e
  | loc h hk0 =>
    obtain ⟨vs, q⟩ := hk0
    simp only [tyN] at e
    split at e
    · cases e; exact ⟨.base (.lst q), rfl⟩
    · cases e
theorem kit_any {W : Wd} {X : Cx} (cx : Cxt W C X) {t : Ty} (ht : tyHas W.lk.toChk t = true) : ∀ {ts : List Ty} {b : Bool}, (∀ u ∈ ts, tyHas W.lk.toChk u = true) → isTys t ts = some b → PySem.W.kitAny W.K (tyVal W.lk t) (ts.map (tyVal W.lk)) = some b
  | [], b, _, e => by cases e; exact kitAny_nil
  | u :: ts, b, hu, e => by
    simp only [isTys] at e
    split at e
    · next a c e1 e2 =>
      cases e
      have k1 := cx.kit t u a ht (hu u List.mem_cons_self) e1
      refine kitAny_cons k1 (fun z => ?_) (fun z => by rw [z]; rfl)
      subst z
      exact kit_any cx ht (fun x hx => hu x (List.mem_cons_of_mem _ hx)) e2
    · cases e
theorem clsV_all {lk : Lnk} : ∀ ts : List Ty, Paired ClsV (ts.map (tyV2 lk)) (ts.map (tyVal lk))
  | [] => .nil
  | .ty n :: ts => .cons (.ty n) (clsV_all ts)
  | .cls c :: ts => .cons (.own _) (clsV_all ts)
theorem se_isi {ts : List Ty} {a : Ex} (ia : SE C a) : SE C (.isi ts a) := by
  intro W X ini me e f S σ H μ Q cx h hi R F hk
  rw [okE] at h
  split at h
  · next x l t he =>
    obtain ⟨p, q, rfl⟩ := asCall_eq he
    simp only [Bool.and_eq_true, beq_iff_eq] at h
    simp only [decide_eq_true_eq] at h
    obtain ⟨⟨⟨⟨rfl, h2⟩, h3⟩, hlen⟩, h4⟩ := h
    have hm := cx.blt "isinstance" (by decide)
    have st := ok_star h3 [t] X.env
    have last : ∀ {d : D} {S1 : Store} {μ1 : List Addr} {H1 H2 : Hp} {v : V}, Ext μ H μ1 H1 → Ext μ1 H1 μ1 H2 → SR W μ1 S1 H1 → SR W μ1 S1 H2 → VR W μ1 H1 d v → K1 (match tyN S1 d with | some t => (Out.of (isTys t ts) S1).bind fun b S2 => .ok (.bl b) S2 | none => .bad : Out D) (OkP W μ H Q) (XW W X μ H σ) →
        ∃ (u : Ty) (b : Bool), tyHas W.lk.toChk u = true ∧ TyX X.K H2 v (tyVal W.lk u) ∧ isTys u ts = some b ∧ Q (.bl b) H2 := fun {d S1 μ1 H1 H2 v} E1 e1 R1 R2 V1 k1 => by
      split at k1
      · next u eu =>
        obtain ⟨b, eb, k2⟩ := K1.off k1.bnd
        obtain ⟨y1, y2⟩ := ty_of cx R2 (V1.ext e1.z) eu
        exact ⟨u, b, y2, y1, eb, (show OkP W μ H Q _ _ from k2) μ1 H2 _ R2 (E1.trans e1) (.bl b)⟩
      · exact k1.elim
    split at h4
    · next t1 =>
      refine U.of (pe_callB call_isi (glB_gl h2) hm (by decide +kernel) (pa_cons (U.pe l) (pa_cons (U.pe t) pa_nil (tyB_star h4 [] X.env)) st) (by decide) (by decide) st (by rw [tyB_star h4 [] X.env]; rfl)) ?_
      refine ia.use cx h3 hi Ext.refl R F hk fun d S1 μ1 H1 v E1 _ R1 V1 F1 k1 => ?_
      refine u_ty cx h4 ?_
      obtain ⟨u, b, y1, y2, y3, y4⟩ := last E1 Ext.refl R1 R1 V1 k1
      have k2 : PySem.W.kitOne W.K (tyVal W.lk u) (tyVal W.lk t1) = some b := by
        simp only [isTys] at y3
        split at y3
        · next a c e1 e2 => cases e2; cases y3; rw [Bool.or_false]; exact cx.kit u t1 a y1 (tyB_has h4) e1
        · cases y3
      refine ⟨v, _, _, tyVal W.lk t1, b, rfl, ?_, y2, by rw [cx.kk]; exact k2, y4⟩
      cases t1 with
      | ty n => exact .ty n
      | cls c => exact .own _
    · split at h4
      · next es het =>
        obtain ⟨k, p3, rfl⟩ := asTup_eq het
        refine U.of (pe_callB call_isiT (glB_gl h2) hm (by decide +kernel) (pa_cons (U.pe l) (pa_cons (U.pe (.Tuple es k p3)) pa_nil rfl) st) (by decide) (by decide) st rfl) ?_
        refine ia.use cx h3 hi Ext.refl R F hk fun d S1 μ1 H1 v E1 _ R1 V1 F1 k1 => ?_
        refine U.of (pe_tup (UA.pa es)) ?_
        refine ua_tys cx h4 ⟨?_, fun tp hp => ?_⟩
        · rw [List.length_map]
          exact Nat.le_of_lt (Nat.lt_of_lt_of_le hlen (by decide))
        · obtain ⟨u, b, y1, y2, y3, y4⟩ := last E1 (ext_new hp) R1 (R1.new hp) V1 k1
          exact ⟨v, tp, ts.map (tyV2 W.lk), _, ts.map (tyVal W.lk), b, rfl, upd_same, clsV_all ts, y2, by rw [cx.kk]; exact kit_any cx y1 (tysB_has h4) y3, y4⟩
      · cases h4
  · cases h
theorem se_fld {a : Nat} : SE C (.fld a) := by
  intro W X ini me e f S σ H μ Q cx h hi R F hk
  rw [okE] at h
  split at h
  · next l y he =>
    obtain ⟨p, rfl⟩ := asAtt_eq he
    split at h
    · next x hx =>
      obtain ⟨p2, rfl⟩ := asName_eq hx
      simp only [Bool.and_eq_true, beq_iff_eq, decide_eq_true_eq] at h
      obtain ⟨⟨⟨⟨⟨h1, h2⟩, h3⟩, h4⟩, h5⟩, h6⟩ := h
      have hown := F.own
      cases me with
      | none => rw [hi] at h1; cases h1
      | some o =>
        obtain ⟨z, s0, r0, ⟨fs, g1, g2, g3⟩, hcl, hfl⟩ := hown
        obtain ⟨d, e1, q⟩ := K1.off hk
        have e1' : f.φ.lookup a = some d := e1
        obtain ⟨w, l1, l2⟩ := look_phi (P := W.P) g2 (fun b hb z => cx.flj a b h6 (hfl b hb) z) g3 e1'
        obtain ⟨kl, hkl⟩ := hcl.2
        exact U.of (pe_fld (pe_var h3 (visB_vis h4) (plainN_1 h5) (plainN_2 h5)) rfl) ⟨.ref o.a, s0, o.a, _, _, fs, w, rfl, g1, by rw [cx.kk]; exact (cx.cls _ kl hcl.1 hkl).1, by rw [cx.kk, ← h2]; exact cx.fln _ a hcl.1 h6, by rw [← h2]; exact l1, q.now R l2⟩
    · cases h
  · cases h
/-- C(..) -/
def PromC (X : Cx) (σ : L2.St) (C fI : Addr) (fd : FuncData) (ps : List Str) (vs : List V) (H : Hp) (Q : VK) : Prop :=
  ∃ (k : Nat) (sp : Sp) (E : XK), RoomG (k + 1) X.A ∧ Mk X.K C fI ∧ Binds X.K fd ps [] ∧ FnG X.prog X.w X.K X.mg X.base k fI fd ps sp ∧ PassesAt (L2.CX X.prog X.w) X σ E ∧
    ∀ x dx, H x = none → H dx = none → dx ≠ x → sp (.ref x :: vs) (upd (upd H dx (.own x)) x (.ins C dx [])) (fun v H2 => v = .non ∧ Q (.ref x) H2) E
theorem run_makeS {X : Cx} {pins : List (Addr × Obj)} {σ : L2.St} {H : Hp} {s : Shared} {Q : VK} {us : List Value} {vs : List V} {C fI : Addr} {fd : FuncData} {ps : List Str} (P1 : PromC X σ C fI fd ps vs H Q) (I : L2.Inv X pins σ H s) (r : Vals vs us) :
    wpAny (model X.prog X.w) X.A (call (.ref C) us) (EP X pins σ Q) X.xe s := by
  obtain ⟨k, sp, E, hr, M, hb, Fn, hx, h⟩ := P1
  have hq := h (s.heap.objs.size + 1) s.heap.objs.size (I.hok.fresh (Nat.le_succ _)) (I.hok.fresh (Nat.le_refl _)) (Nat.ne_of_lt (Nat.lt_succ_self _))
  have I2 := L2.Inv.made (C := C) I
  have r2 : Vals (V.ref (s.heap.objs.size + 1) :: vs) (Value.ref (s.heap.objs.size + 1) :: us) := .cons rfl r
  have hl : (Value.ref (s.heap.objs.size + 1) :: us ++ []).length = ps.length := by
    rw [List.append_nil, ← r2.length]
    exact Fn.len _ _ _ _ hq
  have hb2 := hb _ (Value.ref (s.heap.objs.size + 1) :: us) I2.kIn hl
  rw [List.append_nil] at hb2
  refine wpAny_call (make_map (f := fI) I.kIn M.makes M.init (beq_iff_eq.mp M.fn) (codeAny_mono (Fn.go _ X.stack _ _ ⟨Value.ref (s.heap.objs.size + 1) :: us, []⟩ _ _ _ E (hr.make C us) (I2.env0.make C us []) hb2 r2 hq) fun r s' hq' => ?_))
  cases r with
  | error e => exact hx pins _ _ e s' I2 hq'
  | ok fl =>
    cases fl with
    | ret u =>
      obtain ⟨v, H', I3, rv, ev, q3⟩ := I2.after hq'
      subst ev
      exact ⟨rv, ⟨V.ref (s.heap.objs.size + 1), H', I3, rfl, q3⟩⟩
    | next => exact False.elim hq'
    | brk => exact False.elim hq'
    | cont => exact False.elim hq'
theorem ext_own {μ μ1 μ' : List Addr} {H H1 H2 H' : Hp} {x : Addr} (hx : H1 x = none) (E1 : Ext μ H μ1 H1) (e2 : Ext μ1 H1 μ1 H2) (e3 : ExtZ (· = x) μ1 H2 μ' H') : Ext μ H μ' H' := by
  refine E1.trans ⟨e3.pre, fun b u h n t => ?_, e2.kin.trans e3.kin⟩
  obtain ⟨h2, n2⟩ := e2.keep b u h n t
  refine e3.keep b u h2 n2 (fun z => ?_) t
  rw [z, hx] at h
  cases h
theorem se_mk {c : Nat} {xs : List Ex} (ih : ∀ x ∈ xs, SE C x) : SE C (.mk c xs) := by
  intro W X ini me e f S σ H μ Q cx h hi R F hk
  rw [okE] at h
  split at h
  · next x vs he =>
    obtain ⟨p, q, rfl⟩ := asCall_eq he
    simp only [Bool.and_eq_true, beq_iff_eq] at h
    obtain ⟨⟨⟨⟨⟨h1, h2⟩, h3⟩, h4⟩, h5⟩, h6⟩ := h
    subst h1
    have hgm := cx.gc c h4
    have key : UA X vs σ H (fun us H1 => ∃ kl, PromC X σ (W.lk.ca c) (W.lk.fa kl) (W.lk.fd kl) (W.lk.pn kl) us H1 Q) := ua_list ih cx h5 hi Ext.refl R F hk fun ds S1 μ1 H1 ws E1 e1 R1 V1 F1 k1 => by
      obtain ⟨k, kl, hkl, hr, hmk, hbd, Fn⟩ := cx.mks c h4 ⟨ds, S1, fun z => by rw [z] at k1; exact k1.elim⟩
      refine ⟨kl.init, k, SpIn W c (C.make c), ?_⟩
      have mkE : ∃ E : XK, PassesAt (L2.CX X.prog X.w) X σ E ∧ K1 (C.make c ds S1) (OkP W μ H Q) (fun y S' => ∀ μ' H' cls dd, SR W μ' S' H' → Ext μ H μ' H' → XR W μ' H' y cls dd → E cls dd H') := exc_pass Ext.refl k1
      obtain ⟨E, hx, k2⟩ := mkE
      refine ⟨E, hr, by rw [cx.kk]; exact hmk, by rw [cx.kk]; exact hbd, Fn, hx, fun x dx nx ndx ne => ?_⟩
      have nx2 : upd H1 dx (.own x) x = none := by rw [upd_ne (Ne.symm ne)]; exact nx
      have e2 : Ext μ1 H1 μ1 (upd (upd H1 dx (.own x)) x (.ins (W.lk.ca c) dx [])) := (ext_new ndx).trans (ext_new nx2)
      refine ⟨W.Z, μ1, S1, ds, x, dx, ws, rfl, upd_same, R1.free nx, R1.freeZ nx, (R1.new ndx).more nx2 .ins, (V1.more nx).ext e2.z, ?_⟩
      exact k2.imp (fun d S2 q2 μ' H' R' E' hn V' => ⟨rfl, q2 μ' H' _ R' (ext_own nx E1 e2 E') V'⟩) fun y S2 q2 μ' H' cls dd R' E' xr => q2 μ' H' cls dd R' (ext_own nx E1 e2 E') xr
    obtain ⟨y, ys, e, es, rfl, rfl, o1, o2⟩ := okEs_cons h5 h6
    intro pins s I
    refine wpAny_Call_Name_kw (ld_glob I (glB_gl h2) hgm.1 ?_ (plainN_1 h3))
    refine PySem.W.callWith_K (h₀ := X.base) I.ok.mod.kin (by rw [cx.kk]; exact hgm.2) (thn (key q pins s I) fun us s1 ⟨vs, H1, I1, r, kl, q⟩ => ⟨I1.kIn, ?_⟩) (ok_star o1 es X.env) (oks_star o2 X.env q)
    exact run_makeS q I1 r
  · cases h
end
end Th
namespace Th
open PySem PySem.Spec PyProof.Rows L2
theorem asStar_eq {e v : Expr} (h : asStar e = some v) : ∃ p, e = .Starred v p := by
  unfold asStar at h
  split at h
  · cases h; exact ⟨_, rfl⟩
  · cases h
section
variable {X : Cx}
/-- set(t), t a tuple of ints -/
theorem cr_setTup (hc : X.calm = true) : CallR X (.type "set") (fun xs H Q => ∃ (l : Addr) (ns : List Int), xs = [V.ref l] ∧ SqT X.K H l (ns.map V.int) ∧ ns.length < 60 ∧ ∀ (a : Addr) (c : Nat), H a = none → c ≤ ns.length → Q (.ref a) (upd H a (SetO X.w a (fun j => decide (j ∈ ns)) c))) := by
  intro pins s σ H xs us Q I r h
  obtain ⟨l, ns, rfl, hl, hf, q⟩ := h
  rw [Vals.ref1 r]
  obtain ⟨its, rv, pl, hz⟩ := I.tuple hl
  have hn : H s.heap.objs.size = none := I.hok.fresh (Nat.le_refl _)
  have hi := ints_of_vals rv
  refine call_set_tupI (P := X.prog) (w := X.w) ns (I.ok.hd hc) pl (by simpa using hi) (by
    have : (64 : Nat) ≤ scanBound := by decide
    omega) fun h' tk c R hle k => ?_
  exact ⟨.ref s.heap.objs.size, upd H s.heap.objs.size (SetO X.w s.heap.objs.size (fun j => decide (j ∈ ns)) c), I.laid (t' := tk) k (Nat.le_refl _) (setO_new R), rfl, q _ c hn hle⟩
end
theorem dedI_mem {k : Int} : ∀ {l : List Int}, k ∈ dedI l ↔ k ∈ l
  | [] => by simp [dedI]
  | x :: l => by
    unfold dedI
    split
    · next h =>
      rw [dedI_mem]
      rw [dedI_mem] at h
      constructor
      · exact List.mem_cons_of_mem _
      · intro q
        rcases List.mem_cons.mp q with e | e
        · rw [e]; exact h
        · exact e
    · rw [List.mem_cons, List.mem_cons, dedI_mem]
theorem dedI_nodup : ∀ l : List Int, (dedI l).Nodup
  | [] => by simp [dedI]
  | x :: l => by
    unfold dedI
    split
    · exact dedI_nodup l
    · next h => exact List.nodup_cons.mpr ⟨h, dedI_nodup l⟩
theorem le_of_lt_pw : ∀ {l : List Int}, l.Pairwise (· < ·) → l.Pairwise (· ≤ ·) := fun h => h.imp fun q => Int.le_of_lt q
variable {C : Orc}
theorem se_srS {m : Bool} {a : Ex} (ia : SE C a) : SE C (.srS m a) := by
  intro W X ini me e f S σ H μ Q cx h hi R F hk
  rw [okE] at h
  split at h
  · next x r he =>
    obtain ⟨p, q, rfl⟩ := asCall_eq he
    simp only [Bool.and_eq_true, beq_iff_eq] at h
    obtain ⟨⟨h1, h2⟩, h3⟩ := h
    subst h1
    split at h3
    · next y v he2 =>
      obtain ⟨p2, q2, rfl⟩ := asCall_eq he2
      simp only [Bool.and_eq_true, beq_iff_eq] at h3
      obtain ⟨⟨rfl, h4⟩, h5⟩ := h3
      have st := ok_star h5 [] X.env
      have kx : X.K = W.K := cx.kk
      refine U.of (pe_callB (cr_sortedSet cx.calm) (glB_gl h2) (cx.blt _ (by decide)) (by rfl) (pa_cons (pe_callTy (cr_setTup cx.calm) (glB_gl h4) (cx.blt _ (by decide)) (by rfl) (pa_cons (U.pe v) pa_nil st) (by decide) (by decide) st (by rfl)) pa_nil star_call) (by decide) (by decide) star_call (by rfl)) ?_
      refine ia.use cx h5 hi Ext.refl R F hk fun d S1 μ1 H1 w E1 e1 R1 V1 F1 k1 => ?_
      obtain ⟨z, ez, k2⟩ := K1.off k1.bnd
      unfold srSO at ez
      split at ez
      · next xs =>
        cases hn : intsOf xs with
        | none => rw [hn] at ez; cases ez
        | some ns =>
          rw [hn] at ez
          simp only at ez
          split at ez
          · next hlt =>
            cases ez
            obtain ⟨b, vs, rfl, hs, r2⟩ := V1.seqT
            have := r2.ints hn
            subst this
            refine ⟨b, ns, rfl, by rw [kx]; exact hs, hlt, fun s c hs2 hc => ?_⟩
            refine ⟨s, _, c, rfl, upd_same, by omega, fun ks p0 a1 a2 a3 hp => ?_⟩
            have ek : ks = sortI (dedI ns) := by
              refine sorted_one ((List.perm_ext_iff_of_nodup (a1.imp fun q => Int.ne_of_lt q) (dedI_nodup ns)).mpr (fun k => ?_) |>.trans (sortI_perm _).symm) (le_of_lt_pw a1) (sortI_sorted _)
              rw [a2 k, dedI_mem, decide_eq_true_eq]
            subst ek
            exact fresh_lst (E1.trans (ext_new hs2)) (R1.new hs2) VRs.ofInts k2 p0 hp
          · cases ez
      · cases ez
    · cases h3
  · cases h
theorem se_cntA {o a : Ex} (io : SE C o) (ia : SE C a) : SE C (.cntA o a) := by
  intro W X ini me e f S σ H μ Q cx h hi R F hk
  rw [okE] at h
  split at h
  · next l m r he =>
    obtain ⟨p, q, rfl, hq⟩ := asMeth_eq he
    simp only [Bool.and_eq_true, beq_iff_eq] at h
    obtain ⟨⟨⟨h1, h2⟩, h3⟩, h4⟩ := h
    subst h1
    have st := ok_star h3 [] X.env
    have kx : X.K = W.K := cx.kk
    refine U.of (pe_bm PySem.F.plainAttrs_list PySem.F.slot_list_count PySem.F.type_list_count mt_lcount (U.pe l) (pa_cons (U.pe r) pa_nil st) (plainA_base h4 _ X.env _) (by rw [st]; rfl) hq st rfl) ?_
    refine io.use cx h2 hi Ext.refl R F hk fun x S1 μ1 H1 v E1 _ R1 V1 F1 k1 => ?_
    split at k1
    · next xs0 hx0 =>
      obtain ⟨b, vs0, rfl, q0, _⟩ := V1.seqL R1 hx0
      refine ⟨.inl ⟨rfl, vs0, by rw [kx]; exact q0⟩, ?_⟩
      refine ia.use cx h3 hi E1 R1 F1 k1 fun y S2 μ2 H2 u E2 e2 R2 V2 F2 k2 => ?_
      obtain ⟨z, ez, k3⟩ := K1.off k2
      unfold cntO at ez
      split at ez
      · next xs k hx =>
        cases V2
        split at ez
        · next ns hn =>
          cases ez
          obtain ⟨b2, vs, eb, q2, r2⟩ := (V1.ext e2.z).seqL R2 hx
          cases eb
          have ev := r2.ints hn
          subst ev
          exact ⟨b, ns, k, rfl, rfl, by rw [kx]; exact q2, (show OkP W μ H Q _ _ from k3) μ2 _ _ R2 E2 (.int _)⟩
        · cases ez
      · cases ez
    · exact k1.elim
  · cases h
theorem se_dnew : SE C .dnew := by
  intro W X ini me e f S σ H μ Q cx h hi R F hk
  rw [okE] at h
  obtain ⟨p, rfl⟩ := isDct0_eq h
  refine U.of pe_dnewK fun q hq => ?_
  have k1 : OkP W μ H Q (.dic S.length) (S ++ [.dct []]) := hk
  have R1 : SR W (μ ++ [q]) (S ++ [.dct []]) (upd H q (.dK [])) := R.allocD hq
  refine k1 _ _ _ R1 (ext_alloc hq) (.dic ?_ ⟨_, upd_same⟩)
  rw [List.getElem?_append_right (by rw [R.len]; exact Nat.le_refl _), R.len]
  simp
theorem se_dget {o k : Ex} (io : SE C o) (ik : SE C k) : SE C (.dget o k) := by
  intro W X ini me e f S σ H μ Q cx h hi R F hk
  rw [okE] at h
  split at h
  · next l r he =>
    obtain ⟨p, rfl⟩ := asSub_eq he
    simp only [Bool.and_eq_true] at h
    obtain ⟨h2, h3⟩ := h
    refine U.of (pe_dget (by have := cx.u65; omega) (U.pe l) (U.pe r) (ok_plainIx h3)) ?_
    refine io.use cx h2 hi Ext.refl R F hk fun x S1 μ1 H1 v E1 _ R1 V1 F1 k1 => ?_
    refine ik.use cx h3 hi E1 R1 F1 k1 fun y S2 μ2 H2 u E2 e2 R2 V2 F2 k2 => ?_
    split at k2
    · next kvs i hx =>
      obtain ⟨n, a, us, _, rfl, _, _, g2, g3, g4⟩ := (V1.ext e2.z).dct R2 hx
      cases V2
      obtain ⟨d, ed, k3⟩ := K1.off k2
      obtain ⟨w, w1, w2⟩ := (dr_get g3 g4 i).1 d ed
      exact ⟨a, w, rfl, by rw [← w1]; exact DGet.k (k := .inl i) g2, (show OkP W μ H Q _ _ from k3) μ2 _ _ R2 E2 w2⟩
    · exact k2.elim
  · cases h
theorem star_lst {X : Cx} {pins : List (Addr × Obj)} {σ : L2.St} {H : Hp} {s : Shared} {a : Addr} {xs : List V} {E : Value → Shared → Prop} {Q : List Value → Shared → Prop} (I : L2.Inv X pins σ H s) (h : SqL X.K H a xs) (hQ : ∀ us s', L2.Inv X pins σ H s' → Vals xs us → Q us s') : PySem.W.StarOf (model X.prog X.w) X.A E (.ref a) Q s := by
  obtain ⟨its, r, pl, hz⟩ := I.list h
  obtain ⟨o, ho, hc, n, hd⟩ := pl.isList
  have hT : s.TypeIs (.ref a) "list" := ⟨o, ho, hc⟩
  have hl := r.length
  have z : wpAny (model X.prog X.w) X.A (collect (.ref a)) Q E s := by
    refine wpAny_collect_seq a (.inl rfl) ho hc hd (fun h' hk => ?_) (by rw [List.size_toArray]; omega)
    have e : its.toArray.toList = its := by simp
    rw [e]
    exact hQ its _ (I.kept (t' := s.toks) hk) r
  unfold PySem.W.StarOf notIterableAtAll
  exact wpAny_bind (wpAny_specialOf hT PySem.F.slot_list_iter.lookup (wpAny_pure ⟨rfl, z⟩))
theorem pa_star {X : Cx} {e : Expr} {es : List Expr} {te : TE} {t : TA} {p : Pos} (ha : PE X e te) (hr : PA X es t) : PA X (.Starred e p :: es) (fun σ H Q => te σ H fun x H1 => ∃ a xs, x = V.ref a ∧ (SqT X.K H1 a xs ∨ SqL X.K H1 a xs) ∧ t σ H1 fun ys H2 => Q (xs ++ ys) H2) := by
  refine ⟨fun pos pins s σ H Q I h => ?_⟩
  show wpAny _ _ (spliced ((true, (do let v ← eval e X.env; standAt pos; pure v)) :: backTo pos (starEach es X.env))) _ _ s
  refine PySem.W.ks_spliced (thn (ha.run pins s σ H _ I h) fun u s1 ⟨x, H1, I1, r1, a, xs, ex, hs, q1⟩ => ?_)
  subst ex
  obtain rfl : u = Value.ref a := r1
  refine (show ∀ {Q : List Value → Shared → Prop}, (∀ us s', L2.Inv X pins σ H1 s' → Vals xs us → Q us s') → PySem.W.StarOf (model X.prog X.w) X.A X.xe (.ref a) Q s1 from fun hQ => hs.elim (fun h => star_tup I1 h hQ) fun h => star_lst I1 h hQ) fun us s2 I2 r2 => ?_
  exact thn (hr.run pos pins s2 σ H1 _ I2 q1) fun ws s3 ⟨ys, H2, I3, r3, q3⟩ => ⟨xs ++ ys, H2, I3, r2.append r3, q3⟩
theorem ua_spl : ∀ {xs : List Ex} (ih : ∀ x ∈ xs, SE C x) {fl : List Bool} {W : Wd} {X : Cx} {ini : Bool} {me : Option Own} {es : List Expr} {f : Fr} {S : Store} {σ : L2.St} {H H0 : Hp} {μ μ0 : List Addr} {β : Type} {k : List D → Store → Out β} {ok : β → Store → Prop} {Q1 : List V → Hp → Prop} (cx : Cxt W C X)
    (h : okSp W.P W.lk.toChk X.N ini X.env.scope xs fl es = true) (hi : ini = me.isSome) (E0 : Ext μ0 H0 μ H) (R : SR W μ S H) (F : FR W me μ H f σ) (hk : K1 ((evSp W.P C xs fl f S).bind k) ok (XW W X μ0 H0 σ))
    (next : ∀ ds S1 μ1 H1 vs, Ext μ0 H0 μ1 H1 → Ext μ H μ1 H1 → SR W μ1 S1 H1 → VRs W μ1 H1 ds vs → FR W me μ1 H1 f σ → K1 (k ds S1) ok (XW W X μ0 H0 σ) → Q1 vs H1), UA X es σ H Q1
  | [], ih, fl, W, X, ini, me, es, f, S, σ, H, H0, μ, μ0, β, k, ok, Q1, cx, h, hi, E0, R, F, hk, next => by
    cases es with
    | nil => exact UA.of pa_nil (next [] S μ H [] E0 Ext.refl R .nil F (by rw [evSp] at hk; exact hk))
    | cons e es => simp [okSp] at h
  | x :: xs, ih, fl, W, X, ini, me, es, f, S, σ, H, H0, μ, μ0, β, k, ok, Q1, cx, h, hi, E0, R, F, hk, next => by
    match fl, es, h, hk with
    | [], _, h, _ => simp [okSp] at h
    | _ :: _, [], h, _ => simp [okSp] at h
    | b :: fl, e :: es, h, hk =>
      rw [okSp] at h
      simp only [Bool.and_eq_true] at h
      obtain ⟨h1, h2⟩ := h
      have kx : X.K = W.K := cx.kk
      have hk' : K1 ((ev W.P C x f S).bind fun y S1 => (Out.of (splI S1 b y) S1).bind fun zs S2 => (evSp W.P C xs fl f S2).bind fun ys S3 => k (zs ++ ys) S3) ok (XW W X μ0 H0 σ) := by
        have e1 : (evSp W.P C (x :: xs) (b :: fl) f S).bind k = (ev W.P C x f S).bind fun y S1 => (Out.of (splI S1 b y) S1).bind fun zs S2 => (evSp W.P C xs fl f S2).bind fun ys S3 => k (zs ++ ys) S3 := by
          rw [evSp]
          simp only [Out.assoc]
          rfl
        rw [e1] at hk
        exact hk
      cases b with
      | true =>
        simp only [if_true] at h1
        split at h1
        · next v hv =>
          obtain ⟨p, rfl⟩ := asStar_eq hv
          refine UA.of (pa_star (U.pe v) (UA.pa es)) ?_
          refine (ih x List.mem_cons_self).use cx h1 hi E0 R F hk' fun y S1 μ1 H1 w E1 e1 R1 V1 F1 k1 => ?_
          obtain ⟨zs, ez, k2⟩ := K1.off k1.bnd
          have ez : seqOf S1 y = some zs := ez
          obtain ⟨a, vs, rfl, hs, r2⟩ : ∃ a vs, w = .ref a ∧ (SqT W.K H1 a vs ∨ SqL W.K H1 a vs) ∧ VRs W μ1 H1 zs vs := by
            cases y with
            | tup ys =>
              cases ez
              obtain ⟨a, vs, e, hs, r2⟩ := V1.seqT
              exact ⟨a, vs, e, .inl hs, r2⟩
            | lst ys => obtain ⟨a, vs, e, hs, r2⟩ := V1.seqL R1 (show seqAt S1 _ = some zs from ez); exact ⟨a, vs, e, .inr hs, r2⟩
            | frz ys => obtain ⟨a, vs, e, hs, r2⟩ := V1.seqL R1 (show seqAt S1 _ = some zs from ez); exact ⟨a, vs, e, .inr hs, r2⟩
            | loc n => obtain ⟨a, vs, e, hs, r2⟩ := V1.seqL R1 (show seqAt S1 _ = some zs from ez); exact ⟨a, vs, e, .inr hs, r2⟩
            | _ => cases ez
          refine ⟨a, vs, rfl, by rw [kx]; exact hs, ?_⟩
          refine ua_spl (fun y hy => ih y (List.mem_cons_of_mem _ hy)) cx h2 hi E1 R1 F1 k2 fun ds S2 μ2 H2 ws E2 e2 R2 V2 F2 k3 => ?_
          exact next _ S2 μ2 H2 _ E2 (e1.trans e2) R2 (VRs.app (r2.ext e2.z) V2) F2 k3
        · cases h1
      | false =>
        simp only [Bool.false_eq_true, if_false] at h1
        refine UA.of (pa_cons (U.pe e) (UA.pa es) (ok_star h1 es X.env)) ?_
        refine (ih x List.mem_cons_self).use cx h1 hi E0 R F hk' fun y S1 μ1 H1 w E1 e1 R1 V1 F1 k1 => ?_
        refine ua_spl (fun y hy => ih y (List.mem_cons_of_mem _ hy)) cx h2 hi E1 R1 F1 (k := fun ys S3 => k ([y] ++ ys) S3) k1 fun ds S2 μ2 H2 ws E2 e2 R2 V2 F2 k3 => ?_
        exact next _ S2 μ2 H2 _ E2 (e1.trans e2) R2 (.cons (V1.ext e2.z) V2) F2 k3
theorem se_spl {l m : Bool} {fl : List Bool} {xs : List Ex} (ih : ∀ x ∈ xs, SE C x) : SE C (.spl l m fl xs) := by
  intro W X ini me e f S σ H μ Q cx h hi R F hk
  rw [okE] at h
  split at h
  · next vs he =>
    cases l with
    | true =>
      obtain ⟨p, rfl⟩ := asLst_eq he
      refine U.of (pe_lst (UA.pa vs)) ?_
      refine ua_spl ih cx h hi Ext.refl R F hk fun ds S1 μ1 H1 ws E1 e1 R1 V1 F1 k1 => ?_
      split at k1
      · next c => exact ⟨by rw [← V1.len]; exact c, fresh_lst E1 R1 V1 k1⟩
      · exact k1.elim
    | false =>
      obtain ⟨k, p, rfl⟩ := asTup_eq he
      refine U.of (pe_tup (UA.pa vs)) ?_
      refine ua_spl ih cx h hi Ext.refl R F hk fun ds S1 μ1 H1 ws E1 e1 R1 V1 F1 k1 => ?_
      split at k1
      · next c => exact ⟨by rw [← V1.len]; exact c, fresh_tup (m := false) (X := X) (σ := σ) E1 R1 V1 k1⟩
      · exact k1.elim
  · cases h
end Th
namespace PySem
open Sem (wp)
open AutoSeq1 (wpAny_loadPart')
theorem meets_enum_tup (l : Addr) (items : Array Value) (n : Nat) (dct : Option Addr) (sl : Array (Option Value)) :
    Meets (Builtin.«enumerate.__new__» ⟨[.type "enumerate", .ref l], []⟩) (fun _ R s => s.heap.get? l = some { cls := .type "tuple", dict := dct, data := .seq items n, slots := sl } ∧
      R (.ok (.ret (.ref (s.heap.push { cls := .type "tuple_iterator", data := .fields #[.ref l, .int 0 0] }).objs.size)))
        { s with heap := (s.heap.push { cls := .type "tuple_iterator", data := .fields #[.ref l, .int 0 0] }).push { cls := .type "enumerate", data := .fields #[.none, .bool false, .ref s.heap.objs.size, rawInt 0, .none, .none] } }) :=
  .of_wp fun prog w A R s h => by
    obtain ⟨hp, g, d, tk, os⟩ := s
    obtain ⟨hl, h⟩ := h
    have hsub := sub_enumerate
    have hL : Heap.IsTuple (Shared.heap ⟨hp, g, d, tk, os⟩) l items := ⟨_, hl, rfl, n, rfl⟩
    wp_walk using wpAny_loadPart' hl
    refine wpAny_stack_any fun st => wpAny_pure ?_
    split
    · rename_i c _ _ _ _ _
      cases (c == Value.type "enumerate")
      · wp_walk using wpAny_loadPart' hl, wpAny_pyIter_tuple hL
        exact ⟨_, rfl, h⟩
      · wp_walk using wpAny_loadPart' hl, wpAny_pyIter_tuple hL
        exact ⟨_, rfl, h⟩
    · wp_walk using wpAny_loadPart' hl, wpAny_pyIter_tuple hL
      exact ⟨_, rfl, h⟩
section
variable {prog : Program} {w : World} {A : Around} {E : Value → Shared → Prop} {s : Shared}
theorem enum_tup_made {l : Addr} {items : Array Value} {Q : Value → Shared → Prop} (hL : s.heap.IsTuple l items)
    (h : ∀ h', IsEnum h' (s.heap.objs.size + 1) s.heap.objs.size 0 .none → h'.IsTupleIter s.heap.objs.size l 0 →
      (∀ b o, s.heap.get? b = some o → h'.get? b = some o) → Q (.ref (s.heap.objs.size + 1)) { s with heap := h' }) :
    wpAny (model prog w) A (call (.type "enumerate") [.ref l]) Q E s := by
  obtain ⟨⟨c, dct, dt, sl⟩, hl, hc, n, hd⟩ := hL
  replace hc : c = .type "tuple" := hc
  replace hd : dt = .seq items n := hd
  subst hc hd
  refine callType_new F.called_enumerate (by decide) (F.typeCall_enumerate_1 _) (F.newCall_enumerate_1 _) (fun obj => F.args_object_init_2 obj _) F.entry_enumerate_new
    (meets_enum_tup l items n dct sl) ⟨hl, ?_⟩
  have hz : (s.heap.push { cls := .type "tuple_iterator", data := .fields #[.ref l, .int 0 0] }).objs.size = s.heap.objs.size + 1 := Heap.size_push ..
  show _ ∧ _
  rw [hz]
  have he : IsEnum ((s.heap.push { cls := .type "tuple_iterator", data := .fields #[.ref l, .int 0 0] }).push
      { cls := .type "enumerate", data := .fields #[.none, .bool false, .ref s.heap.objs.size, rawInt 0, .none, .none] }) (s.heap.objs.size + 1) s.heap.objs.size 0 .none := by
    have := Heap.get?_push_size (s.heap.push { cls := .type "tuple_iterator", data := .fields #[.ref l, .int 0 0] })
      (o := { cls := .type "enumerate", data := .fields #[.none, .bool false, .ref s.heap.objs.size, rawInt 0, .none, .none] }) rfl
    rw [hz] at this; exact this
  exact ⟨⟨_, he, rfl⟩, h _ he ⟨_, Heap.get?_push_of_some _ (Heap.get?_push_size _ rfl), rfl, rfl⟩ fun b o x => Heap.get?_push_of_some _ (Heap.get?_push_of_some _ x)⟩
theorem draws_tup (hh : A.handled = none) (it l : Addr) (hne : l ≠ it) (items : Array Value) :
    Draws prog w A it [it, l] items.size (fun i v => items[i]? = some v) (fun i h => h.IsTupleIter it l i ∧ h.IsTuple l items) where
  live := fun _ _ st => let ⟨o, ho, _⟩ := st.1; ⟨o, ho⟩
  frame := fun _ _ _ st hk => by
    obtain ⟨⟨o, e, c, d⟩, o2, e2, c2, d2⟩ := st
    exact ⟨⟨o, hk it (by simp) o e, c, d⟩, o2, hk l (by simp) o2 e2, c2, d2⟩
  item := fun i s Q E hi st hQ => by
    refine RZ.nextOf_tuple_item st.1 st.2 (x := items[i]) (by simp [hi]) fun h' hit' hs' => ?_
    obtain ⟨o2, e2, c2, d2⟩ := st.2
    exact hQ _ h' s.toks (by simp [hi]) ⟨hit', o2, (hs'.2 l hne).trans e2, c2, d2⟩ hs'
  done := fun s Q E st hE => RZ.nextOf_tuple_end hh st.1 st.2 (by simp) hE
end
end PySem
namespace Th
open PySem PySem.Spec PyProof.Rows L2
def IteT (K : PySem.W.Frag) (a : Addr) : L2.It :=
  ⟨fun i H => ∃ (xs : List V) (x : V), SqT K H a xs ∧ xs[i]? = some x, fun i H v H' => ∃ T x, v = .ref T ∧ H T = none ∧ H' = upd H T (.tup [.int (i : Nat), x]) ∧ ∀ xs, SqT K H a xs → xs[i]? = some x, fun i H => ∃ xs : List V, SqT K H a xs ∧ i = xs.length⟩
theorem turn_enumT {P : Program} {w : World} {K : PySem.W.Frag} {elts : List Expr} {kk : Nat} {tpos : Pos} (a e it : Addr) :
    Turn P w K (.Tuple elts kk tpos) (IteT K a) [e, it] e (fun i h => (∃ old, IsEnum h e it ((i : Nat) : Int) old) ∧ h.IsTupleIter it a i ∧ e ≠ it ∧ a ≠ it ∧ a ≠ e) where
  mem := by simp
  obj := fun i h st b hb => by
    obtain ⟨⟨old, he⟩, ⟨o, ho, hc, hd⟩, _⟩ := st
    have e' : b = e ∨ b = it := by simpa using hb
    rcases e' with z | z
    · rw [z]; exact ⟨_, he, fun v q => nomatch q⟩
    · rw [z]; exact ⟨o, ho, fun v q => by rw [hd] at q; cases q⟩
  keep := fun i h h' st k => by
    obtain ⟨⟨old, he⟩, ⟨o, ho, hc, hd⟩, hr⟩ := st
    exact ⟨⟨old, k e (by simp) _ he⟩, ⟨o, k it (by simp) _ ho, hc, hd⟩, hr⟩
  item := by
    intro X hP hw hK hc i pins s σ H E I hf st hg
    subst hP hw hK
    obtain ⟨⟨old, he⟩, hit, hne, hai, hae⟩ := st
    obtain ⟨xs, x, hq, hx⟩ := hg
    obtain ⟨its, rv, p, hz⟩ := I.tuple hq
    obtain ⟨u, hu, ru⟩ := rv.get hx
    have hel : e < s.heap.objs.size := Heap.lt_size he
    have hil : it < s.heap.objs.size := by obtain ⟨_, q, _⟩ := hit; exact Heap.lt_size q
    have hi : i < its.toArray.size := by
      have := (List.getElem?_eq_some_iff.mp hu).1
      simpa using this
    refine wpAny_pyNext_enum_itemD (draws_tup (A := X.A.in1) (I.ok.hd hc) it a hai its.toArray) he ⟨hit, p⟩ hi hne (by simp [hne, Ne.symm hae]) fun x' h' tk hx' ho hst hT hsz hk => ?_
    have ex : x' = u := by
      have h1 : its.toArray[i]? = some x' := hx'
      have h2 : its.toArray[i]? = some u := by simpa using hu
      rw [h1] at h2
      exact Option.some.inj h2
    subst ex
    obtain ⟨hit', _⟩ := hst
    refine ⟨_, rfl, wpAny_letOwnedTupleGo_enum (s := { s with heap := h', toks := tk + 1 }) ho fun h'' he' sb => ?_⟩
    have hT2 : h''.get? s.heap.objs.size = some { cls := .type "tuple", data := .seq #[.int i tk, x'] } := (sb.2 _ (Nat.ne_of_gt hel)).trans hT
    have new : ObjOk X.prog X.w (upd H s.heap.objs.size (.tup [.int (i : Nat), x])) h'' s.heap.objs.size (.tup [.int (i : Nat), x]) :=
      ⟨by show 2 ≤ sizeLine; decide, [.int i tk, x'], .cons ⟨_, rfl⟩ (.cons ru .nil), ⟨_, hT2, rfl, _, rfl⟩⟩
    have I1 : L2.Inv X pins σ (upd H s.heap.objs.size (.tup [.int (i : Nat), x])) { s with heap := h'', toks := tk + 1 } :=
      I.turnedNew (ch := [e, it]) (fun b ob hb q => (sb.2 b (fun z => hb (by simp [z]))).trans (hk b ob (fun z => hb (by simp [z])) (fun z => hb (by simp [z])) q)) hf (Nat.le_refl _) new
    obtain ⟨oi, hoi, hci, hdi⟩ := hit'
    refine ⟨.ref s.heap.objs.size, _, I1, rfl, ⟨_, x, rfl, I.hok.fresh (Nat.le_refl _), rfl, fun ys hy => by rw [I.tuple_inj hy hq]; exact hx⟩, ⟨⟨x', ?_⟩, ⟨oi, (sb.2 it (Ne.symm hne)).trans hoi, hci, hdi⟩, hne, hai, hae⟩, fun b hb => ?_⟩
    · have e1 : ((i + 1 : Nat) : Int) = (i : Int) + 1 := by omega
      rw [e1]; exact he'
    · have hb' : b < s.heap.objs.size := by
        have e' : b = e ∨ b = it := by simpa using hb
        rcases e' with z | z
        · rw [z]; exact hel
        · rw [z]; exact hil
      rw [upd_ne (Nat.ne_of_lt hb')]
      exact (hf b hb).1
  done := by
    intro X hP hw hK hc i pins s σ H E I hf st hg
    subst hP hw hK
    obtain ⟨⟨old, he⟩, hit, hne, hai, hae⟩ := st
    obtain ⟨xs, hq, hx⟩ := hg
    obtain ⟨its, rv, p, hz⟩ := I.tuple hq
    obtain ⟨f0, f1, f2, f3, f4, f5⟩ := hf it (by simp)
    have hl := rv.length
    have hi : i = its.toArray.size := by simp; omega
    subst hi
    exact wpAny_pyNext_enum_endD (draws_tup (A := X.A.in1) (I.ok.hd hc) it a hai its.toArray) he ⟨hit, p⟩ fun h' eb => ⟨rfl, I.turned (t' := s.toks) (fun b o hb q => eb b o hb q) f0 f1 f3 f4 f5⟩
  self := fun A i s Q E st h => let ⟨⟨_, he⟩, _⟩ := st; wpAny_pyIter_enum he h
def iEnumA (K : PySem.W.Frag) (ta : TA) : TI := fun σ H R => ta σ H fun vs H1 => ∃ a xs, vs = [.ref a] ∧ ((SqL K H1 a xs ∧ R (Ite K a) H1) ∨ (SqT K H1 a xs ∧ R (IteT K a) H1))
theorem pi_enumA {X : Cx} {e : Expr} {ta : TA} {p pos tpos : Pos} {elts : List Expr} {kk : Nat} (hg : Gl X "enumerate") (hm : X.mg "enumerate" = none) (ha : PA X [e] ta) (hs : starEach [e] X.env = [(false, eval e X.env)]) :
    PI X (.Tuple elts kk tpos) (.Call (.Name "enumerate" p) [e] [] pos) (iEnumA X.K ta) := by
  refine ⟨fun pins s σ H R I h => ?_⟩
  refine Call_ (ld_blt I hg hm boot_enumerate (PyProof.Rows.callWith_type1 (thn (ha.run pos pins s σ H _ I h) fun us s1 ⟨vs, H1, I1, r1, q1⟩ => ?_) hs rfl))
  obtain ⟨a, xs, ex, q1⟩ := q1
  subst ex
  have two : ∀ b, b = s1.heap.objs.size + 1 ∨ b = s1.heap.objs.size → FpOk X pins H1 b := fun b e' => by
    have hle : s1.heap.objs.size ≤ b := by
      rcases e' with z | z
      · rw [z]; exact Nat.le_add_right _ _
      · rw [z]; exact Nat.le_refl _
    exact I1.fpOk hle (I1.hok.fresh hle)
  cases r1 with
  | cons r rr =>
    cases rr
    cases r
    rcases q1 with ⟨hq, q⟩ | ⟨hq, q⟩
    · obtain ⟨its, rv, p', hz⟩ := I1.list hq
      refine call_enumerate_list p'.isList fun h' he hit hsz hk => wpAny_pyIter_enum he ?_
      have I2 : L2.Inv X pins σ H1 { s1 with heap := h' } := I1.kept (t' := s1.toks) hk
      exact ⟨s1.heap.objs.size + 1, [s1.heap.objs.size + 1, s1.heap.objs.size], _, _, H1, rfl, I2, turn_enum a (s1.heap.objs.size + 1) s1.heap.objs.size, ⟨⟨.none, he⟩, hit, Nat.succ_ne_self _⟩, fun b hb => two b (by simpa using hb), q⟩
    · obtain ⟨its, rv, p', hz⟩ := I1.tuple hq
      obtain ⟨o, ho, _⟩ := id p'
      have hlt := Heap.lt_size ho
      refine enum_tup_made (show s1.heap.IsTuple a its.toArray from p') fun h' he hit hk => wpAny_pyIter_enum he ?_
      have I2 : L2.Inv X pins σ H1 { s1 with heap := h' } := I1.kept (t' := s1.toks) hk
      exact ⟨s1.heap.objs.size + 1, [s1.heap.objs.size + 1, s1.heap.objs.size], _, _, H1, rfl, I2, turn_enumT a (s1.heap.objs.size + 1) s1.heap.objs.size, ⟨⟨.none, he⟩, hit, Nat.succ_ne_self _, Nat.ne_of_lt hlt, Nat.ne_of_lt (Nat.lt_succ_of_lt hlt)⟩, fun b hb => two b (by simpa using hb), q⟩
end Th
namespace Th
open PySem PySem.Spec PyProof.Rows L2
/-- a tuple (true) or a list (false): its row, its iterator, itself on the model's heap -/
def SqB (K : PySem.W.Frag) (t : Bool) (H : Hp) (a : Addr) (xs : List V) : Prop := if t = true then SqT K H a xs else SqL K H a xs
def OnB (t : Bool) (h : Heap) (it l : Addr) (i : Nat) : Prop := if t = true then h.IsTupleIter it l i else h.IsListIter it l i
def AtB (t : Bool) (h : Heap) (l : Addr) (us : Array Value) : Prop := if t = true then h.IsTuple l us else h.IsList l us
def obB (t : Bool) (l : Addr) : Obj := { cls := .type (if t = true then "tuple_iterator" else "list_iterator"), data := .fields #[.ref l, .int 0 0] }
theorem OnB.alive {t : Bool} {h : Heap} {it l : Addr} {i : Nat} (q : OnB t h it l i) : ∃ o, h.get? it = some o ∧ ∀ v, o.data ≠ .cell v := by
  cases t <;> (obtain ⟨o, e, _, d⟩ := q; exact ⟨o, e, fun v z => (by rw [d] at z; cases z)⟩)
theorem OnB.keep {t : Bool} {h h' : Heap} {it l : Addr} {i : Nat} (q : OnB t h it l i) (k : ∀ o, h.get? it = some o → h'.get? it = some o) : OnB t h' it l i := by
  cases t
  · exact Heap.IsListIter.at (show h.IsListIter it l i from q) k
  · exact Heap.IsTupleIter.at (show h.IsTupleIter it l i from q) k
theorem OnB.first {t : Bool} {h : Heap} {it l : Addr} (e : h.get? it = some (obB t l)) : OnB t h it l 0 := by
  cases t <;> exact ⟨_, e, rfl, rfl⟩
theorem drawsB {prog : Program} {w : World} {A : Around} (t : Bool) (hh : A.handled = none) (it l : Addr) (hne : l ≠ it) (us : Array Value) : Draws prog w A it [it, l] us.size (fun i v => us[i]? = some v) (fun i h => OnB t h it l i ∧ AtB t h l us) := by
  cases t
  · exact Draws.list hh it l hne us
  · exact Draws.tuple hh it l hne us
theorem beginsB (t : Bool) (l : Addr) (us : Array Value) : Begins (.ref l) (obB t l) fun h => AtB t h l us := by
  cases t
  · exact begins_list l us
  · exact begins_tuple l us
section
variable {X : Cx} {pins : List (Addr × Obj)} {σ : L2.St} {H : Hp} {s : Shared} {a : Addr} {xs ys : List V} {t : Bool}
theorem sqB_at (I : Inv X pins σ H s) (q : SqB X.K t H a xs) : ∃ us : List Value, Vals xs us ∧ AtB t s.heap a us.toArray ∧ a < s.heap.objs.size := by
  cases t
  · obtain ⟨us, r, p, _⟩ := I.list (show SqL X.K H a xs from q)
    exact ⟨us, r, p.isList, p.lt⟩
  · obtain ⟨us, r, p, _⟩ := I.tuple (show SqT X.K H a xs from q)
    obtain ⟨o, e, _⟩ := id p
    exact ⟨us, r, p, Heap.lt_size e⟩
theorem sqB_one (I : Inv X pins σ H s) (q : SqB X.K t H a xs) (q' : SqB X.K t H a ys) : xs = ys := by
  cases t
  · exact I.list_inj q q'
  · exact I.tuple_inj q q'
end
/-- the two rows as they stand at each turn, the items in new pairs -/
def ItzB (K : PySem.W.Frag) (t u : Bool) (a b : Addr) : L2.It where
  go := fun i H => ∃ (xs ys : List V) (x y : V), SqB K t H a xs ∧ SqB K u H b ys ∧ xs[i]? = some x ∧ ys[i]? = some y
  yld := fun i H v H' => ∃ T x y, v = .ref T ∧ H T = none ∧ H' = upd H T (.tup [x, y]) ∧ (∀ xs, SqB K t H a xs → xs[i]? = some x) ∧ ∀ ys, SqB K u H b ys → ys[i]? = some y
  stop := fun i H => ∃ xs ys : List V, SqB K t H a xs ∧ SqB K u H b ys ∧ i ≤ xs.length ∧ i ≤ ys.length ∧ (i = xs.length ∨ i = ys.length)
theorem five {z TI TO i1 i2 c : Addr} (h : c ∈ [z, TI, TO, i1, i2]) : c = z ∨ c = TI ∨ c = TO ∨ c = i1 ∨ c = i2 := by simpa using h
theorem sepB {z TI TO i1 i2 a b : Addr} (D : ZipApart z TI TO i1 i2 a b) : ZipSep2 z TI TO i1 i2 [i1, a] [i2, b] :=
  ⟨D.TIz, D.TOz, D.TITO, D.TIi1, by simp, by simp [D.i1z.symm, D.l1z.symm], by simp [D.TOi1, D.l1TO.symm], D.TIi2, by simp, by simp [D.i2z.symm, D.l2z.symm], by simp [D.TOi2, D.l2TO.symm], by simp [D.i12, D.l2i1.symm], by simp [D.i12.symm, D.l1i2.symm]⟩
theorem turn_zipB {P : Program} {w : World} {K : PySem.W.Frag} {elts : List Expr} {kk : Nat} {tpos : Pos} {t u : Bool} {a b z TI TO i1 i2 : Addr} (D : ZipApart z TI TO i1 i2 a b) :
    Turn P w K (.Tuple elts kk tpos) (ItzB K t u a b) [z, TI, TO, i1, i2] z (fun i h => (IsZip h z TI TO .none ∧ IsPair h TI (.ref i1) (.ref i2) ∧ ∃ x y, IsPair h TO x y) ∧ OnB t h i1 a i ∧ OnB u h i2 b i) where
  mem := by simp
  obj := fun i h ⟨⟨hz, hI, x, y, hO⟩, h1, h2⟩ c hc => by
    rcases five hc with rfl | rfl | rfl | rfl | rfl
    · exact ⟨_, hz, fun v => nofun⟩
    · exact ⟨_, hI, fun v => nofun⟩
    · exact ⟨_, hO, fun v => nofun⟩
    · exact h1.alive
    · exact h2.alive
  keep := fun i h h' ⟨⟨hz, hI, x, y, hO⟩, h1, h2⟩ k => ⟨⟨k z (by simp) _ hz, k TI (by simp) _ hI, x, y, k TO (by simp) _ hO⟩, h1.keep fun o => k i1 (by simp) o, h2.keep fun o => k i2 (by simp) o⟩
  item := by
    rintro X rfl rfl rfl hc i pins s σ H E I hf ⟨⟨hz, hI, a0, b0, hO⟩, h1, h2⟩ ⟨xs, ys, x, y, qx, qy, hx, hy⟩
    obtain ⟨us, r1, p1, lt1⟩ := sqB_at I qx
    obtain ⟨vs, r2, p2, lt2⟩ := sqB_at I qy
    obtain ⟨v1, e1, n1⟩ := r1.get hx
    obtain ⟨v2, e2, n2⟩ := r2.get hy
    have zl : z < s.heap.objs.size := Heap.lt_size hz
    have g1 : i < us.toArray.size := by have := (List.getElem?_eq_some_iff.mp e1).1; simpa using this
    have g2 : i < vs.toArray.size := by have := (List.getElem?_eq_some_iff.mp e2).1; simpa using this
    refine wpAny_pyNext_zipD2_item (sepB D) (drawsB t (show X.A.in1.handled = none from I.ok.hd hc) i1 a D.l1i1 us.toArray) (drawsB u (show X.A.in1.handled = none from I.ok.hd hc) i2 b D.l2i2 vs.toArray) hz hI hO ⟨h1, p1⟩ ⟨h2, p2⟩ g1 g2 ?_
    intro x1 x2 h' tk y1 y2 z' O' t1 t2 hT sz hk
    have ex1 : x1 = v1 := by simp [e1] at y1; exact y1.symm
    have ex2 : x2 = v2 := by simp [e2] at y2; exact y2.symm
    subst ex1 ex2
    refine ⟨_, rfl, wpAny_letOwnedTupleGo_zip (s := { s with heap := h', toks := tk }) z' fun h'' z'' sb => ?_⟩
    have off : ∀ c o, c ∉ [z, TI, TO, i1, i2] → s.heap.get? c = some o → h''.get? c = some o := fun c o hb q => by
      simp only [List.mem_cons, List.not_mem_nil, or_false, not_or] at hb
      exact (sb.2 c hb.1).trans (hk c o hb.1 hb.2.2.1 hb.2.2.2.1 hb.2.2.2.2 q)
    have T2 := (sb.2 _ (Nat.ne_of_gt zl)).trans hT
    refine ⟨.ref s.heap.objs.size, _, I.turnedNew (t' := tk) off hf (Nat.le_refl _) (ob := .tup [x, y]) ⟨by show 2 ≤ sizeLine; decide, [x1, x2], .cons n1 (.cons n2 .nil), _, T2, rfl, _, rfl⟩, rfl, ⟨_, x, y, rfl, I.hok.fresh (Nat.le_refl _), rfl, fun l hl => ?_, fun l hl => ?_⟩, ⟨⟨z'', ?_, x1, x2, ?_⟩, ?_, ?_⟩, fun c hcm => ?_⟩
    · rw [sqB_one I hl qx]; exact hx
    · rw [sqB_one I hl qy]; exact hy
    · exact (sb.2 _ D.TIz).trans (hk _ _ D.TIz D.TITO D.TIi1 D.TIi2 hI)
    · exact (sb.2 _ D.TOz).trans O'
    · exact t1.1.keep fun o q => (sb.2 _ D.i1z).trans q
    · exact t2.1.keep fun o q => (sb.2 _ D.i2z).trans q
    · rw [upd_ne]
      · exact (hf c hcm).1
      · refine Nat.ne_of_lt ?_
        rcases five hcm with rfl | rfl | rfl | rfl | rfl
        · exact zl
        · exact Heap.lt_size hI
        · exact Heap.lt_size hO
        · obtain ⟨_, e, _⟩ := h1.alive; exact Heap.lt_size e
        · obtain ⟨_, e, _⟩ := h2.alive; exact Heap.lt_size e
  done := by
    rintro X rfl rfl rfl hc i pins s σ H E I hf ⟨⟨hz, hI, a0, b0, hO⟩, h1, h2⟩ ⟨xs, ys, qx, qy, b1, b2, hend⟩
    obtain ⟨us, r1, p1, lt1⟩ := sqB_at I qx
    obtain ⟨vs, r2, p2, lt2⟩ := sqB_at I qy
    have e1 := r1.length
    have e2 := r2.length
    refine wpAny_pyNext_zipD2_end (sepB D) (drawsB t (show X.A.in1.handled = none from I.ok.hd hc) i1 a D.l1i1 us.toArray) (drawsB u (show X.A.in1.handled = none from I.ok.hd hc) i2 b D.l2i2 vs.toArray) hz hI hO ⟨h1, p1⟩ ⟨h2, p2⟩ (by simp; omega) (by simp; omega) (by simp; omega) ?_
    exact fun h' tk hk => ⟨rfl, I.turnedL (t' := tk) (fun c o hb q => by
      simp only [List.mem_cons, List.not_mem_nil, or_false, not_or] at hb
      exact hk c o hb.1 hb.2.2.1 hb.2.2.2.1 hb.2.2.2.2 q) hf⟩
  self := fun A i s Q E st h => wpAny_pyIter_zip st.1.1 h
def iZipB (K : PySem.W.Frag) (ta : TA) : TI := fun σ H R => ta σ H fun vs H1 => ∃ a b t u xs ys, vs = [.ref a, .ref b] ∧ SqB K t H1 a xs ∧ SqB K u H1 b ys ∧ R (ItzB K t u a b) H1
theorem pi_zipB {X : Cx} {e e2 : Expr} {ta : TA} {p pos tpos : Pos} {elts : List Expr} {kk : Nat} (hg : Gl X "zip") (hm : X.mg "zip" = none) (ha : PA X [e, e2] ta)
    (hs : starEach [e, e2] X.env = (false, eval e X.env) :: starEach [e2] X.env) (hpl : (backTo pos (starEach [e2] X.env)).any (·.1) = false) :
    PI X (.Tuple elts kk tpos) (.Call (.Name "zip" p) [e, e2] [] pos) (iZipB X.K ta) where
  run := by
    intro pins s σ H R I h
    refine Call_ (ld_blt I hg hm boot_zip (callWith_type1 (thn (ha.run pos pins s σ H _ I h) fun us s1 got => ?_) hs hpl))
    obtain ⟨ws, H1, I1, r, a, b, t, u, xs, ys, rfl, qx, qy, q⟩ := got
    obtain ⟨as, m1, p1, lt1⟩ := sqB_at I1 qx
    obtain ⟨bs, m2, p2, lt2⟩ := sqB_at I1 qy
    cases r with
    | cons r1 rr => cases rr with
      | cons r2 rr =>
        cases rr
        cases r1
        cases r2
        refine zip_begins2 (beginsB t a as.toArray) (beginsB u b bs.toArray) p1 p2 fun h' hz hI hO g1 g2 sz hk => wpAny_pyIter_zip hz ⟨_, _, _, _, H1, rfl, I1.kept (t' := s1.toks) hk, turn_zipB (PySem.W.ktu_apart s1.heap.objs.size a b lt1 lt2), ⟨⟨hz, hI, _, _, hO⟩, .first g1, .first g2⟩, fun c hc => ?_, q⟩
        have le : s1.heap.objs.size ≤ c := by rcases five hc with z | z | z | z | z <;> rw [z] <;> simp
        exact I1.fpOk le (I1.hok.fresh le)
/-- a row that is walked, with what is held -/
inductive SK (W : Wd) (μ : List Addr) (H : Hp) : Bool → Addr → List D → List (Nat × List D) → Prop where
  | loc {n : Nat} {a : Addr} {xs : List D} (V1 : VR W μ H (.loc n) (.ref a)) : SK W μ H false a xs [(n, xs)]
  | val {d : D} {a : Addr} {xs : List D} (V1 : VR W μ H d (.ref a)) (h : d = .lst xs ∨ d = .frz xs) : SK W μ H false a xs []
  | tup {a : Addr} {xs : List D} (V1 : VR W μ H (.tup xs) (.ref a)) : SK W μ H true a xs []
section
variable {W : Wd} {μ μ' : List Addr} {H H' : Hp} {t : Bool} {xs : List D} {held : List (Nat × List D)} {S : Store} {a : Addr}
theorem SK.ext (e : ExtZ W.Z μ H μ' H') (j : SK W μ H t a xs held) : SK W μ' H' t a xs held := by
  cases j with
  | loc V1 => exact .loc (V1.ext e)
  | val V1 h => exact .val (V1.ext e) h
  | tup V1 => exact .tup (V1.ext e)
theorem SK.more {p : Addr} (hp : H p = none) (j : SK W μ H t a xs held) : SK (W.z fun b => W.Z b ∨ b = p) μ H t a xs held := by
  cases j with
  | loc V1 => exact .loc (V1.more hp)
  | val V1 h => exact .val (V1.more hp) h
  | tup V1 => exact .tup (V1.more hp)
theorem SK.seq (j : SK W μ H t a xs held) (R : SR W μ S H) (st : Src.still held S) : ∃ vs, SqB W.K t H a vs ∧ VRs W μ H xs vs := by
  cases j with
  | @loc n _ _ V1 =>
    have hn : S[n]? = some (.lst xs) := st (n, xs) (by simp)
    obtain ⟨a', vs, e, q, r⟩ := V1.seqL R (xs := xs) (by simp [seqAt, hn])
    cases e
    exact ⟨vs, q, r⟩
  | val V1 h =>
    rcases h with rfl | rfl
    · obtain ⟨a', vs, e, q, r⟩ := V1.seqL R (xs := xs) rfl
      cases e
      exact ⟨vs, q, r⟩
    · obtain ⟨a', vs, e, q, r⟩ := V1.seqL R (xs := xs) rfl
      cases e
      exact ⟨vs, q, r⟩
  | tup V1 =>
    obtain ⟨a', vs, e, q, r⟩ := V1.seqT
    cases e
    exact ⟨vs, q, r⟩
end
end Th
namespace Th
open PySem PySem.Spec PyProof.Rows L2
/-- a list that is walked -/
inductive LK (W : Wd) (μ : List Addr) (H : Hp) (a : Addr) : List D → List (Nat × List D) → Prop where
  | loc {n : Nat} {xs : List D} (V1 : VR W μ H (.loc n) (.ref a)) : LK W μ H a xs [(n, xs)]
  | val {d : D} {xs : List D} (V1 : VR W μ H d (.ref a)) (h : d = .lst xs ∨ d = .frz xs) : LK W μ H a xs []
/-- an iterator and what it will hand on -/
inductive JK (W : Wd) (μ : List Addr) (H : Hp) : L2.It → List D → List (Nat × List D) → Prop where
  | lst {a : Addr} {xs : List D} {hd : List (Nat × List D)} (l : LK W μ H a xs hd) : JK W μ H (Itl W.K a) xs hd
  | tup {a : Addr} {xs : List D} (V1 : VR W μ H (.tup xs) (.ref a)) : JK W μ H (Itt W.K a) xs []
  | rng (lo : Int) (n : Nat) : JK W μ H (Itr lo n) ((List.range n).map fun (i : Nat) => D.int (lo + (i : Int))) []
  | enl {a : Addr} {xs : List D} {hd : List (Nat × List D)} (l : LK W μ H a xs hd) : JK W μ H (Ite W.K a) (xs.mapIdx fun (i : Nat) d => D.tup [.int i, d]) hd
  | ent {a : Addr} {xs : List D} (V1 : VR W μ H (.tup xs) (.ref a)) : JK W μ H (IteT W.K a) (xs.mapIdx fun (i : Nat) d => D.tup [.int i, d]) []
  | sgn (x : Str) : JK W μ H (Its x) (x.cps.toList.map fun c => D.str ⟨#[c]⟩) []
  | zib {a b : Addr} {t u : Bool} {xs ys : List D} {hd hd' : List (Nat × List D)} (l : SK W μ H t a xs hd) (l' : SK W μ H u b ys hd') : JK W μ H (ItzB W.K t u a b) (List.zipWith (fun d e => D.tup [d, e]) xs ys) (hd ++ hd')
section
variable {W : Wd} {μ μ' : List Addr} {H H' : Hp} {J : L2.It} {items xs : List D} {held : List (Nat × List D)} {S : Store} {a : Addr}
theorem LK.ext (e : ExtZ W.Z μ H μ' H') (j : LK W μ H a xs held) : LK W μ' H' a xs held := by
  cases j with
  | loc V1 => exact .loc (V1.ext e)
  | val V1 h => exact .val (V1.ext e) h
theorem LK.more {p : Addr} (hp : H p = none) (j : LK W μ H a xs held) : LK (W.z fun b => W.Z b ∨ b = p) μ H a xs held := by
  cases j with
  | loc V1 => exact .loc (V1.more hp)
  | val V1 h => exact .val (V1.more hp) h
theorem LK.seq (j : LK W μ H a xs held) (R : SR W μ S H) (st : Src.still held S) : ∃ vs, SqL W.K H a vs ∧ VRs W μ H xs vs := by
  cases j with
  | @loc n _ V1 =>
    have hn : S[n]? = some (.lst xs) := st (n, xs) (by simp)
    obtain ⟨a', vs, e, q, r⟩ := V1.seqL R (xs := xs) (by simp [seqAt, hn])
    cases e
    exact ⟨vs, q, r⟩
  | val V1 h =>
    rcases h with rfl | rfl
    · obtain ⟨a', vs, e, q, r⟩ := V1.seqL R (xs := xs) rfl
      cases e
      exact ⟨vs, q, r⟩
    · obtain ⟨a', vs, e, q, r⟩ := V1.seqL R (xs := xs) rfl
      cases e
      exact ⟨vs, q, r⟩
theorem JK.ext (e : ExtZ W.Z μ H μ' H') (j : JK W μ H J items held) : JK W μ' H' J items held := by
  cases j with
  | lst l => exact .lst (l.ext e)
  | tup V1 => exact .tup (V1.ext e)
  | rng lo n => exact .rng lo n
  | enl l => exact .enl (l.ext e)
  | ent V1 => exact .ent (V1.ext e)
  | sgn x => exact .sgn x
  | zib l l' => exact .zib (l.ext e) (l'.ext e)
theorem JK.more {p : Addr} (hp : H p = none) (j : JK W μ H J items held) : JK (W.z fun b => W.Z b ∨ b = p) μ H J items held := by
  cases j with
  | lst l => exact .lst (W := W.z fun b => W.Z b ∨ b = p) (l.more hp)
  | tup V1 => exact .tup (W := W.z fun b => W.Z b ∨ b = p) (V1.more hp)
  | rng lo n => exact .rng lo n
  | enl l => exact .enl (W := W.z fun b => W.Z b ∨ b = p) (l.more hp)
  | ent V1 => exact .ent (W := W.z fun b => W.Z b ∨ b = p) (V1.more hp)
  | sgn x => exact .sgn x
  | zib l l' => exact .zib (W := W.z fun b => W.Z b ∨ b = p) (l.more hp) (l'.more hp)
theorem pair_new {p : Addr} {d e : D} {v u : V} (R : SR W μ S H) (hp : H p = none) (r : VRs W μ H [d, e] [v, u]) : SR W μ S (upd H p (.tup [v, u])) ∧ Ext μ H μ (upd H p (.tup [v, u])) ∧ VR W μ (upd H p (.tup [v, u])) (.tup [d, e]) (.ref p) :=
  ⟨R.new hp, ext_new hp, .tup (.inl upd_same) (R.free hp) (R.freeZ hp) (r.ext (ext_new hp).z)⟩
/-- one turn, and the end -/
theorem JK.turn (j : JK W μ H J items held) (R : SR W μ S H) (st : Src.still held S) (i : Nat) :
    (∀ d, items[i]? = some d → J.go i H ∧ ∀ x H', J.yld i H x H' → SR W μ S H' ∧ Ext μ H μ H' ∧ VR W μ H' d x) ∧ (i = items.length → J.stop i H) := by
  cases j with
  | lst l =>
    obtain ⟨vs, q, r⟩ := l.seq R st
    refine ⟨fun d hd => ?_, fun hi => ⟨vs, q, by rw [← r.len]; omega⟩⟩
    obtain ⟨v, h1, h2⟩ := r.get hd
    refine ⟨⟨vs, v, q, h1⟩, fun x H' y => ?_⟩
    obtain ⟨rfl, y⟩ := y
    have := y vs q
    rw [h1] at this
    cases this
    exact ⟨R, Ext.refl, h2⟩
  | tup V1 =>
    obtain ⟨a', vs, e, q, r⟩ := V1.seqT
    cases e
    refine ⟨fun d hd => ?_, fun hi => ⟨vs, q, by rw [← r.len]; omega⟩⟩
    obtain ⟨v, h1, h2⟩ := r.get hd
    refine ⟨⟨vs, v, q, h1⟩, fun x H' y => ?_⟩
    obtain ⟨rfl, y⟩ := y
    have := y vs q
    rw [h1] at this
    cases this
    exact ⟨R, Ext.refl, h2⟩
  | rng lo n =>
    refine ⟨fun d hd => ?_, fun hi => by
      have : i = n := by simpa using hi
      exact Nat.le_of_eq this.symm⟩
    rw [List.getElem?_map] at hd
    cases hr : (List.range n)[i]? with
    | none => rw [hr] at hd; cases hd
    | some k =>
      rw [hr] at hd
      cases hd
      obtain ⟨hl, hk⟩ := List.getElem?_eq_some_iff.mp hr
      have hi : i < n := by simpa using hl
      have hk' : k = i := by rw [List.getElem_range] at hk; exact hk.symm
      subst hk'
      refine ⟨hi, fun x H' y => ?_⟩
      obtain ⟨rfl, rfl⟩ := y
      exact ⟨R, Ext.refl, .int _⟩
  | sgn x =>
    refine ⟨fun d hd => ?_, fun hi => by
      have : i = x.cps.size := by simpa using hi
      exact Nat.le_of_eq this.symm⟩
    rw [List.getElem?_map] at hd
    cases hr : x.cps.toList[i]? with
    | none => rw [hr] at hd; cases hd
    | some k =>
      rw [hr] at hd
      cases hd
      have hr2 : x.cps[i]? = some k := by simpa using hr
      have hi : i < x.cps.size := (Array.getElem?_eq_some_iff.mp hr2).1
      refine ⟨hi, fun v H' y => ?_⟩
      obtain ⟨rfl, c, hc, rfl⟩ := y
      rw [hr2] at hc
      cases hc
      exact ⟨R, Ext.refl, .str _⟩
  | enl l =>
    obtain ⟨vs, q, r⟩ := l.seq R st
    refine ⟨fun d hd => ?_, fun hi => ⟨vs, q, by rw [← r.len]; simp at hi; omega⟩⟩
    rw [List.getElem?_mapIdx] at hd
    cases hr : ‹List D›[i]? with
    | none => rw [hr] at hd; cases hd
    | some k =>
      rw [hr] at hd
      cases hd
      obtain ⟨v, h1, h2⟩ := r.get hr
      refine ⟨⟨vs, v, q, h1⟩, fun x H' y => ?_⟩
      obtain ⟨T, z, rfl, hT, rfl, y⟩ := y
      have := y vs q
      rw [h1] at this
      cases this
      exact pair_new R hT (.cons (.int _) (.cons h2 .nil))
  | ent V1 =>
    obtain ⟨a', vs, e, q, r⟩ := V1.seqT
    cases e
    refine ⟨fun d hd => ?_, fun hi => ⟨vs, q, by rw [← r.len]; simp at hi; omega⟩⟩
    rw [List.getElem?_mapIdx] at hd
    cases hr : ‹List D›[i]? with
    | none => rw [hr] at hd; cases hd
    | some k =>
      rw [hr] at hd
      cases hd
      obtain ⟨v, h1, h2⟩ := r.get hr
      refine ⟨⟨vs, v, q, h1⟩, fun x H' y => ?_⟩
      obtain ⟨T, z, rfl, hT, rfl, y⟩ := y
      have := y vs q
      rw [h1] at this
      cases this
      exact pair_new R hT (.cons (.int _) (.cons h2 .nil))
  | @zib a b t u xs ys hd hd' l l' =>
    obtain ⟨vs, q, r⟩ := l.seq R fun p hp => st p (List.mem_append_left _ hp)
    obtain ⟨ws, q', r'⟩ := l'.seq R fun p hp => st p (List.mem_append_right _ hp)
    refine ⟨fun d hd => ?_, fun hi => ⟨vs, ws, q, q', by rw [← r.len]; simp at hi; omega, by rw [← r'.len]; simp at hi; omega, by rw [← r.len, ← r'.len]; simp at hi; omega⟩⟩
    rw [List.getElem?_zipWith] at hd
    split at hd
    · next k k' hr hr' =>
      cases hd
      obtain ⟨v, h1, h2⟩ := r.get hr
      obtain ⟨u, h1', h2'⟩ := r'.get hr'
      refine ⟨⟨vs, ws, v, u, q, q', h1, h1'⟩, fun x H' y => ?_⟩
      obtain ⟨T, z, z', rfl, hT, rfl, y, y'⟩ := y
      have e1 := y vs q
      have e2 := y' ws q'
      rw [h1] at e1
      rw [h1'] at e2
      cases e1
      cases e2
      exact pair_new R hT (.cons h2 (.cons h2' .nil))
    · cases hd
theorem LK.sk {W : Wd} {μ : List Addr} {H : Hp} {a : Addr} {xs : List D} {held : List (Nat × List D)} (l : LK W μ H a xs held) : SK W μ H false a xs held := by
  cases l with
  | loc V1 => exact .loc V1
  | val V1 h => exact .val V1 h
/-- a source, by its value -/
theorem src_ok {d : D} {v : V} {s : Src} (R : SR W μ S H) (V1 : VR W μ H d v) (e : srcOf S d = some s) : ∃ a, v = .ref a ∧ ((s.seq = false ∧ LK W μ H a s.items s.held ∧ ∃ vs, SqL W.K H a vs) ∨ (s.seq = true ∧ s.held = [] ∧ VR W μ H (.tup s.items) (.ref a) ∧ ∃ vs, SqT W.K H a vs)) := by
  unfold srcOf at e
  split at e
  · cases e
    obtain ⟨a, vs, rfl, q, r⟩ := V1.seqT
    exact ⟨a, rfl, .inr ⟨rfl, rfl, V1, vs, q⟩⟩
  · cases e
    obtain ⟨a, vs, rfl, q, r⟩ := V1.seqL R rfl
    exact ⟨a, rfl, .inl ⟨rfl, .val V1 (.inl rfl), vs, q⟩⟩
  · cases e
    obtain ⟨a, vs, rfl, q, r⟩ := V1.seqL R rfl
    exact ⟨a, rfl, .inl ⟨rfl, .val V1 (.inr rfl), vs, q⟩⟩
  · next n =>
    split at e
    · next xs hx =>
      cases e
      obtain ⟨a, vs, rfl, q, r⟩ := V1.seqL R (xs := xs) (by simp [seqAt, hx])
      exact ⟨a, rfl, .inl ⟨rfl, .loc V1, vs, q⟩⟩
    · cases e
  · cases e
end
end Th
namespace Th
open PySem PySem.Spec PyProof.Rows L2
theorem ui_seq {X : Cx} {t e : Expr} {σ : L2.St} {H : Hp} {R : L2.It → Hp → Prop} (h : U X e σ H (fun x H1 => ∃ a, x = .ref a ∧ (((∃ xs, SqL X.K H1 a xs) ∧ R (Itl X.K a) H1) ∨ ((∃ xs, SqT X.K H1 a xs) ∧ R (Itt X.K a) H1)))) : UI X t e σ H R := fun pins s I => by
  refine thn (h pins s I) fun v s1 ⟨x, H1, I1, r1, a, ex, q⟩ => ?_
  subst ex
  cases r1
  have fresh1 : ∀ b ∈ [s1.heap.objs.size], FpOk X pins H1 b := fun b hb => by
    have e' : b = s1.heap.objs.size := by simpa using hb
    rw [e']
    exact I1.fpOk (Nat.le_refl _) (I1.hok.fresh (Nat.le_refl _))
  rcases q with ⟨⟨xs, hq⟩, q⟩ | ⟨⟨xs, hq⟩, q⟩
  · obtain ⟨its, rv, p, hz⟩ := I1.list hq
    exact wpAny_pyIter_list p.isList ⟨s1.heap.objs.size, [s1.heap.objs.size], _, _, H1, rfl, I1.kept (t' := s1.toks) fun b o g => Heap.get?_push_of_some _ g, turn_list a _, ⟨_, Heap.get?_push_size _ rfl, rfl, rfl⟩, fresh1, q⟩
  · obtain ⟨its, rv, p, hz⟩ := I1.tuple hq
    exact wpAny_pyIter_tuple (show s1.heap.IsTuple a its.toArray from p) ⟨s1.heap.objs.size, [s1.heap.objs.size], _, _, H1, rfl, I1.kept (t' := s1.toks) fun b o g => Heap.get?_push_of_some _ g, turn_tuple a _, ⟨_, Heap.get?_push_size _ rfl, rfl, rfl⟩, fresh1, q⟩
theorem ui_sgn {X : Cx} {t e : Expr} {σ : L2.St} {H : Hp} {R : L2.It → Hp → Prop} (h : U X e σ H (fun v H1 => ∃ x, v = .str x ∧ R (Its x) H1)) : UI X t e σ H R := fun pins s I => by
  refine thn (h pins s I) fun v s1 ⟨y, H1, I1, r1, x, ex, q⟩ => ?_
  subst ex
  obtain ⟨t, rfl⟩ := r1
  cases ha : x.cps.all (· < 128)
  · exact wpAny_pyIter_wide ha (pi_one (tk := s1.toks) I1 _ (turn_str _ x t "str_iterator" (.inr rfl)) ⟨_, Heap.get?_push_size _ rfl, rfl, rfl⟩ q)
  · exact wpAny_pyIter_ascii ha (pi_one (tk := s1.toks) I1 _ (turn_str _ x t "str_ascii_iterator" (.inl rfl)) ⟨_, Heap.get?_push_size _ rfl, rfl, rfl⟩ q)
def itEs : It → List Ex
  | .of e => [e]
  | .rng1 a => [a]
  | .rng2 a b => [a, b]
  | .enm e => [e]
  | .sgn e => [e]
  | .zip a b => [a, b]
section
variable {C : Orc}
theorem ui_it {it : It} (ih : ∀ x ∈ itEs it, SE C x) {W : Wd} {X : Cx} {ini : Bool} {me : Option Own} {t e : Expr} {f : Fr} {S : Store} {σ : L2.St} {H H0 : Hp} {μ μ0 : List Addr} {β : Type} {k : Src → Store → Out β} {ok : β → Store → Prop} {R1 : L2.It → Hp → Prop} (cx : Cxt W C X)
    (h : okI W.P W.lk.toChk X.N ini X.env.scope it e t = true) (hi : ini = me.isSome) (E0 : Ext μ0 H0 μ H) (R : SR W μ S H) (F : FR W me μ H f σ) (hk : K1 ((evIt W.P C it f S).bind k) ok (XW W X μ0 H0 σ))
    (next : ∀ s S1 μ1 H1 J, Ext μ0 H0 μ1 H1 → Ext μ H μ1 H1 → SR W μ1 S1 H1 → JK W μ1 H1 J s.items s.held → FR W me μ1 H1 f σ → K1 (k s S1) ok (XW W X μ0 H0 σ) → R1 J H1) : UI X t e σ H R1 := by
  have kx : X.K = W.K := cx.kk
  cases it with
  | of a =>
    rw [okI] at h
    have hk' : K1 ((ev W.P C a f S).bind fun x S1 => (Out.of (srcOf S1 x) S1).bind k) ok (XW W X μ0 H0 σ) := by
      have : (evIt W.P C (.of a) f S).bind k = (ev W.P C a f S).bind fun x S1 => (Out.of (srcOf S1 x) S1).bind k := Out.assoc _ _ _
      rw [this] at hk
      exact hk
    refine ui_seq ((ih a (by simp [itEs])).use cx h hi E0 R F hk' fun d S1 μ1 H1 v E1 e1 R1' V1 F1 k1 => ?_)
    obtain ⟨s, es, k2⟩ := K1.off k1.bnd
    obtain ⟨b, rfl, q⟩ := src_ok R1' V1 es
    rw [kx]
    refine ⟨b, rfl, ?_⟩
    rcases q with ⟨h1, l, q⟩ | ⟨h1, h2, V2, q⟩
    · exact .inl ⟨q, next s S1 μ1 H1 _ E1 e1 R1' (.lst l) F1 k2⟩
    · exact .inr ⟨q, next s S1 μ1 H1 _ E1 e1 R1' (by rw [h2]; exact .tup V2) F1 k2⟩
  | sgn a =>
    rw [okI] at h
    have hk' : K1 ((ev W.P C a f S).bind fun x S1 => (Out.of (signsO x) S1).bind k) ok (XW W X μ0 H0 σ) := by
      have : (evIt W.P C (.sgn a) f S).bind k = (ev W.P C a f S).bind fun x S1 => (Out.of (signsO x) S1).bind k := Out.assoc _ _ _
      rw [this] at hk
      exact hk
    refine ui_sgn ((ih a (by simp [itEs])).use cx h hi E0 R F hk' fun d S1 μ1 H1 v E1 e1 R1' V1 F1 k1 => ?_)
    obtain ⟨s, es, k2⟩ := K1.off k1.bnd
    unfold signsO at es
    split at es
    · next x =>
      cases es
      cases V1
      exact ⟨x, rfl, next _ S1 μ1 H1 _ E1 e1 R1' (.sgn x) F1 k2⟩
    · cases es
  | rng1 a =>
    rw [okI] at h
    split at h
    · next x l he =>
      obtain ⟨p, q, rfl⟩ := asCall_eq he
      simp only [Bool.and_eq_true, beq_iff_eq] at h
      obtain ⟨⟨rfl, h2⟩, h3⟩ := h
      have st := ok_star h3 [] X.env
      have hk' : K1 ((ev W.P C a f S).bind fun x S1 => (match x with | .int n => Out.of (rngD 0 n) S1 | _ => .bad : Out Src).bind k) ok (XW W X μ0 H0 σ) := by
        have : (evIt W.P C (.rng1 a) f S).bind k = (ev W.P C a f S).bind fun x S1 => (match x with | .int n => Out.of (rngD 0 n) S1 | _ => .bad : Out Src).bind k := Out.assoc _ _ _
        rw [this] at hk
        exact hk
      refine UI.of (pi_range1 (glB_gl h2) (cx.blt _ (by decide)) (pa_cons (U.pe l) pa_nil st) st) ?_
      refine (ih a (by simp [itEs])).use cx h3 hi E0 R F hk' fun d S1 μ1 H1 v E1 e1 R1' V1 F1 k1 => ?_
      cases d <;> first | exact k1.elim | skip
      next n =>
      cases V1
      obtain ⟨s, es, k2⟩ := K1.off k1.bnd
      unfold rngD at es
      split at es
      · next c =>
        cases es
        refine ⟨n, rfl, c.2.2.1, c.2.2.2, ?_⟩
        have := next _ S1 μ1 H1 (Itr 0 n.toNat) E1 e1 R1' (by simpa using JK.rng 0 n.toNat) F1 k2
        exact this
      · cases es
    · cases h
  | rng2 a b =>
    rw [okI] at h
    split at h
    · next x l r he =>
      obtain ⟨p, q, rfl⟩ := asCall_eq he
      simp only [Bool.and_eq_true, beq_iff_eq] at h
      obtain ⟨⟨⟨rfl, h2⟩, h3⟩, h4⟩ := h
      have st := ok_star h3 [r] X.env
      have st2 := ok_star h4 [] X.env
      have hk' : K1 ((ev W.P C a f S).bind fun x S1 => (ev W.P C b f S1).bind fun y S2 => (match x, y with | .int i, .int j => Out.of (rngD i j) S2 | _, _ => .bad : Out Src).bind k) ok (XW W X μ0 H0 σ) := by
        have : (evIt W.P C (.rng2 a b) f S).bind k = (ev W.P C a f S).bind fun x S1 => (ev W.P C b f S1).bind fun y S2 => (match x, y with | .int i, .int j => Out.of (rngD i j) S2 | _, _ => .bad : Out Src).bind k := by
          show Out.bind (Out.bind (ev W.P C a f S) _) k = _
          rw [Out.assoc]
          congr 1
          funext y S1
          exact Out.assoc _ _ _
        rw [this] at hk
        exact hk
      refine UI.of (pi_range2 (glB_gl h2) (cx.blt _ (by decide)) (pa_cons (U.pe l) (pa_cons (U.pe r) pa_nil st2) st) (by rw [st, st2]; rfl) st2) ?_
      refine (ih a (by simp [itEs])).use cx h3 hi E0 R F hk' fun d S1 μ1 H1 v E1 e1 R1' V1 F1 k1 => ?_
      refine (ih b (by simp [itEs])).use cx h4 hi E1 R1' F1 k1 fun d2 S2 μ2 H2 u E2 e2 R2' V2 F2 k2 => ?_
      cases d <;> first | exact k2.elim | skip
      next i =>
      cases d2 <;> first | exact k2.elim | skip
      next j =>
      cases V1
      cases V2
      obtain ⟨s, es, k3⟩ := K1.off k2.bnd
      unfold rngD at es
      split at es
      · next c =>
        cases es
        exact ⟨i, j, rfl, c, next _ S2 μ2 H2 (Itr i (j - i).toNat) E2 (e1.trans e2) R2' (JK.rng i (j - i).toNat) F2 k3⟩
      · cases es
    · cases h
  | enm a =>
    rw [okI] at h
    split at h
    · next x l he =>
      obtain ⟨p, q, rfl⟩ := asCall_eq he
      simp only [Bool.and_eq_true, beq_iff_eq] at h
      obtain ⟨⟨⟨ht, rfl⟩, h2⟩, h3⟩ := h
      obtain ⟨es, hes⟩ := Option.isSome_iff_exists.mp ht
      obtain ⟨kk, tp, rfl⟩ := asTup_eq hes
      have st := ok_star h3 [] X.env
      have hk' : K1 ((ev W.P C a f S).bind fun x S1 => (Out.of (srcOf S1 x) S1).bind fun s S2 => k ⟨s.items.mapIdx fun (i : Nat) d => D.tup [.int i, d], s.held, true⟩ S2) ok (XW W X μ0 H0 σ) := by
        have : (evIt W.P C (.enm a) f S).bind k = (ev W.P C a f S).bind fun x S1 => (Out.of (srcOf S1 x) S1).bind fun s S2 => k ⟨s.items.mapIdx fun (i : Nat) d => D.tup [.int i, d], s.held, true⟩ S2 := by
          show Out.bind (Out.bind (ev W.P C a f S) _) k = _
          rw [Out.assoc]
          congr 1
          funext y S1
          exact Out.assoc _ _ _
        rw [this] at hk
        exact hk
      refine UI.of (pi_enumA (glB_gl h2) (cx.blt _ (by decide)) (pa_cons (U.pe l) pa_nil st) st) ?_
      refine (ih a (by simp [itEs])).use cx h3 hi E0 R F hk' fun d S1 μ1 H1 v E1 e1 R1' V1 F1 k1 => ?_
      obtain ⟨s, es, k2⟩ := K1.off k1.bnd
      obtain ⟨b, rfl, q⟩ := src_ok R1' V1 es
      rw [kx]
      rcases q with ⟨h1, l, vs, q⟩ | ⟨h1, h2, V2, vs, q⟩
      · exact ⟨b, vs, rfl, .inl ⟨q, next _ S1 μ1 H1 _ E1 e1 R1' (.enl l) F1 k2⟩⟩
      · exact ⟨b, vs, rfl, .inr ⟨q, next _ S1 μ1 H1 _ E1 e1 R1' (by show JK W μ1 H1 _ _ s.held; rw [h2]; exact .ent V2) F1 k2⟩⟩
    · cases h
  | zip a b =>
    rw [okI] at h
    split at h
    · next x l r he =>
      obtain ⟨p, q, rfl⟩ := asCall_eq he
      simp only [Bool.and_eq_true, beq_iff_eq] at h
      obtain ⟨⟨⟨⟨ht, rfl⟩, h2⟩, h3⟩, h4⟩ := h
      obtain ⟨es, hes⟩ := Option.isSome_iff_exists.mp ht
      obtain ⟨kk, tp, rfl⟩ := asTup_eq hes
      have st := ok_star h3 [r] X.env
      have st2 := ok_star h4 [] X.env
      have hk' : K1 ((ev W.P C a f S).bind fun x S1 => (ev W.P C b f S1).bind fun y S2 => (Out.of (srcOf S2 x) S2).bind fun s S3 => (Out.of (srcOf S3 y) S3).bind fun t S4 =>
          (.ok ⟨List.zipWith (fun d e => D.tup [d, e]) s.items t.items, s.held ++ t.held, true⟩ S4 : Out Src).bind k) ok (XW W X μ0 H0 σ) := by
        have : (evIt W.P C (.zip a b) f S).bind k = (ev W.P C a f S).bind fun x S1 => (ev W.P C b f S1).bind fun y S2 => (Out.of (srcOf S2 x) S2).bind fun s S3 => (Out.of (srcOf S3 y) S3).bind fun t S4 =>
          (.ok ⟨List.zipWith (fun d e => D.tup [d, e]) s.items t.items, s.held ++ t.held, true⟩ S4 : Out Src).bind k := by
          show Out.bind (Out.bind (ev W.P C a f S) _) k = _
          rw [Out.assoc]
          congr 1
          funext y S1
          rw [Out.assoc]
          congr 1
          funext y S1
          rw [Out.assoc]
          congr 1
          funext y S1
          exact Out.assoc _ _ _
        rw [this] at hk
        exact hk
      refine UI.of (pi_zipB (glB_gl h2) (cx.blt _ (by decide)) (pa_cons (U.pe l) (pa_cons (U.pe r) pa_nil st2) st) st (by rw [st2]; rfl)) ?_
      refine (ih a (by simp [itEs])).use cx h3 hi E0 R F hk' fun d S1 μ1 H1 v E1 e1 R1' V1 F1 k1 => ?_
      refine (ih b (by simp [itEs])).use cx h4 hi E1 R1' F1 k1 fun d2 S2 μ2 H2 u E2 e2 R2' V2 F2 k2 => ?_
      obtain ⟨s, es, k3⟩ := K1.off k2.bnd
      obtain ⟨s', es', k4⟩ := K1.off k3.bnd
      obtain ⟨b1, rfl, q1⟩ := src_ok R2' (V1.ext e2.z) es
      obtain ⟨b2, rfl, q2⟩ := src_ok R2' V2 es'
      have w1 : ∃ t vs, SqB W.K t H2 b1 vs ∧ SK W μ2 H2 t b1 s.items s.held := by
        rcases q1 with ⟨_, l, vs, q⟩ | ⟨_, h2, V3, vs, q⟩
        · exact ⟨false, vs, q, l.sk⟩
        · exact ⟨true, vs, q, by rw [h2]; exact .tup V3⟩
      have w2 : ∃ t vs, SqB W.K t H2 b2 vs ∧ SK W μ2 H2 t b2 s'.items s'.held := by
        rcases q2 with ⟨_, l, vs, q⟩ | ⟨_, h2, V3, vs, q⟩
        · exact ⟨false, vs, q, l.sk⟩
        · exact ⟨true, vs, q, by rw [h2]; exact .tup V3⟩
      obtain ⟨t1, vs, q, l⟩ := w1
      obtain ⟨t2, vs', q', l'⟩ := w2
      rw [kx]
      exact ⟨b1, b2, t1, t2, vs, vs', rfl, q, q', next _ S2 μ2 H2 _ E2 (e1.trans e2) R2' (.zib l l') F2 k4⟩
    · cases h
end
end Th
namespace Th
open PySem PySem.Spec PyProof.Rows L2
theorem wipe_set {x : Option V} {i : Nat} : ∀ {σ : L2.St} {vs : List Nat}, i ∈ vs → wipe (σ.set i x) vs = wipe σ vs := by
  have comm : ∀ (σ : L2.St) (vs : List Nat), i ∉ vs → wipe (σ.set i x) vs = (wipe σ vs).set i x := by
    intro σ vs
    induction vs with
    | nil => intro _; rfl
    | cons v vs ih =>
      intro h
      simp only [List.mem_cons, not_or] at h
      show (wipe (σ.set i x) vs).set v none = ((wipe σ vs).set v none).set i x
      rw [ih h.2, List.set_comm _ _ h.1]
  intro σ vs
  induction vs with
  | nil => intro h; cases h
  | cons v vs ih =>
    intro h
    show (wipe (σ.set i x) vs).set v none = (wipe σ vs).set v none
    by_cases hm : i ∈ vs
    · rw [ih hm]
    · rcases List.mem_cons.mp h with rfl | h
      · rw [comm σ vs hm, List.set_set]
      · exact absurd h hm
section
variable {W : Wd} {μ : List Addr} {H : Hp} {me : Option Own} {f : Fr} {σ : L2.St}
theorem FR.set {i : Nat} {d : D} {v : V} (F : FR W me μ H f σ) (h0 : me.isSome = true → i ≠ 0) (r : VR W μ H d v) : FR W me μ H (setV f i d) (σ.set i (some v)) := by
  refine ⟨by simp [setV, F.len], fun j e h => ?_, ?_⟩
  · by_cases hj : i = j
    · subst hj
      have hl : i < f.ρ.length := by
        have := (List.getElem?_eq_some_iff.mp h).1
        simpa [setV] using this
      simp only [setV, List.getElem?_set_self hl] at h
      cases h
      exact ⟨v, by rw [List.getElem?_set_self (by rw [F.len]; exact hl)], r⟩
    · simp only [setV, List.getElem?_set_ne hj] at h
      obtain ⟨u, h1, h2⟩ := F.at_ j e h
      exact ⟨u, by rw [List.getElem?_set_ne hj]; exact h1, h2⟩
  · have q := F.own
    cases me with
    | none => exact q
    | some o =>
      obtain ⟨z, s0, r0, rest⟩ := q
      have hi := h0 rfl
      exact ⟨z, by rw [List.getElem?_set_ne hi]; exact s0, by show (f.ρ.set i (some d))[0]? = _; rw [List.getElem?_set_ne hi]; exact r0, rest⟩
theorem FR.wipe {own : List Nat} (F : FR W me μ H f σ) (h0 : me.isSome = true → 0 ∉ own) : FR W me μ H (wipeV f own) (L2.wipe σ own) := by
  induction own with
  | nil => exact F
  | cons i own ih =>
    have F' := ih fun h z => h0 h (List.mem_cons_of_mem _ z)
    have e2 : (wipeV f (i :: own)).φ = (wipeV f own).φ := by
      have : ∀ own, (wipeV f own).φ = f.φ := fun own => by cases own <;> rfl
      rw [this, this]
    refine ⟨?_, fun j e h => ?_, ?_⟩
    · show ((L2.wipe σ own).set i none).length = ((wipeV f own).ρ.set i none).length
      rw [List.length_set, List.length_set]
      exact F'.len
    · have h' : ((wipeV f own).ρ.set i none)[j]? = some (some e) := h
      by_cases hj : i = j
      · subst hj
        have hl : i < (wipeV f own).ρ.length := by
          have := (List.getElem?_eq_some_iff.mp h').1
          simpa using this
        rw [List.getElem?_set_self hl] at h'
        cases h'
      · rw [List.getElem?_set_ne hj] at h'
        obtain ⟨u, h1, h2⟩ := F'.at_ j e h'
        exact ⟨u, by show ((L2.wipe σ own).set i none)[j]? = _; rw [List.getElem?_set_ne hj]; exact h1, h2⟩
    · have q := F'.own
      cases me with
      | none => rw [e2]; exact q
      | some o =>
        obtain ⟨z, s0, r0, rest⟩ := q
        have hi : i ≠ 0 := fun z => h0 rfl (by rw [z]; exact List.mem_cons_self)
        rw [e2]
        exact ⟨z, by show ((L2.wipe σ own).set i none)[0]? = _; rw [List.getElem?_set_ne hi]; exact s0, by show ((wipeV f own).ρ.set i none)[0]? = _; rw [List.getElem?_set_ne hi]; exact r0, rest⟩
end
section
variable {C : Orc}
/-- a target is kept -/
def SG (C : Orc) (t : Tg) : Prop := ∀ (W : Wd) (X : Cx) (fs : Option Scope) (ini : Bool) (me : Option Own) (e : Expr) (d : D) (v : V) (f : Fr) (S : Store) (σ : L2.St) (H : Hp) (μ : List Addr) (Q : L2.St → Hp → Prop), Cxt W C X →
  (∀ x, cellIn fs x = true → X.fn x = true) → okT W.P W.lk.toChk X.N ini fs X.env.scope t e = true → ini = me.isSome →
  SR W μ S H → FR W me μ H f σ → VR W μ H d v → K1 (evTg W.P C t d f S) (fun f' S' => ∀ μ' H' σ', SR W μ' S' H' → Ext μ H μ' H' → FR W me μ' H' f' σ' → (∀ own : List Nat, (∀ i ∈ tgIx t, i ∈ own) → wipe σ' own = wipe σ own) → Q σ' H') (XW W X μ H σ) → UG X e v σ H Q
theorem sg_nm {i : Nat} : SG C (.nm i) := by
  intro W X fs ini me e d v f S σ H μ Q cx hfn h hi R F V1 hk
  rw [okT] at h
  split at h
  · next x hx =>
    obtain ⟨p, rfl⟩ := asName_eq hx
    simp only [Bool.and_eq_true, decide_eq_true_eq, Bool.or_eq_true, Bool.not_eq_true', Bool.and_eq_false_iff] at h
    obtain ⟨⟨h1, h2⟩, h3⟩ := h
    have hloc : L2.Loc X.env.scope x ∧ (X.fn x = true ∨ X.env.scope.names.lookup x = some .local) := by
      rcases h2 with h2 | ⟨h2, h4⟩
      · unfold locB at h2
        split at h2
        · next e => exact ⟨.inl e, .inr e⟩
        · cases h2
      · split at h2
        · next e => exact ⟨.inr e, .inl (hfn x h4)⟩
        · cases h2
    have h0 : me.isSome = true → i ≠ 0 := fun z hz => by
      rw [← hi] at z
      rcases h3 with h3 | h3
      · rw [z] at h3; cases h3
      · rw [hz] at h3; exact absurd h3 (by decide)
    refine UG.of (pg_name cx.nd h1 hloc.1 hloc.2) ?_
    exact (show ∀ μ' H' σ', SR W μ' S H' → Ext μ H μ' H' → FR W me μ' H' (setV f i d) σ' → (∀ own : List Nat, (∀ j ∈ [i], j ∈ own) → wipe σ' own = wipe σ own) → Q σ' H' from hk) μ H _ R Ext.refl (F.set h0 V1) fun own ho => wipe_set (ho i (by simp))
  · cases h
theorem PSet.or {X : Cx} {t t' : TSet} (h : PSet X t) (h' : PSet X t') : PSet X (fun o i v H Q => t o i v H Q ∨ t' o i v H Q) := fun pins s σ H o i v ov iv u Q I ro ri rv q => by
  rcases q with q | q
  · exact h pins s σ H o i v ov iv u Q I ro ri rv q
  · exact h' pins s σ H o i v ov iv u Q I ro ri rv q
theorem sg_sub {o i : Ex} (io : SE C o) (ii : SE C i) : SG C (.sub o i) := by
  intro W X fs ini me e d v f S σ H μ Q cx hfn h hi R F V1 hk
  rw [okT] at h
  split at h
  · next l j hx =>
    obtain ⟨p, rfl⟩ := asSub_eq hx
    simp only [Bool.and_eq_true] at h
    have hrel : ∀ ov iv v : Value, (release (match j with | .Slice _ _ none _ => [iv, v, ov] | _ => [v, ov, iv]) [] : Sem Unit) = release [v, ov, iv] [] := by
      intro ov iv v
      cases j <;> first | rfl | (have h2 := h.2; rw [okE_slice] at h2; cases h2)
    refine UG.of (pg_sub (U.pe l) (U.pe j) (PSet.or set_list (set_dict (by have := cx.u65; omega))) ?_) ?_
    · intro v
      cases j <;> first | rfl | (have h2 := h.2; rw [okE_slice] at h2; cases h2)
    refine io.use cx h.1 hi Ext.refl R F hk fun x S1 μ1 H1 u E1 _ R1 V2 F1 k1 => ?_
    refine ii.use cx h.2 hi E1 R1 F1 k1 fun y S2 μ2 H2 w E2 e2 R2 V3 F2 k2 => ?_
    split at k2
    · next S3 hs =>
      unfold store at hs
      split at hs
      · next n k =>
        split at hs
        · next kvs hkv =>
          split at hs
          · next hlen =>
            cases hs
            cases V3
            have V2' := V2.ext e2.z
            obtain ⟨n', b, us, en, rfl, hn, _, g2, g3, g4⟩ := V2'.dct (kvs := kvs) R2 (by simp only [dctAt, hkv])
            cases en
            have V1' := V1.ext E2.z
            obtain ⟨p1, p2⟩ := dr_put V1' k g3 g4
            have ew := ext_writeD (H := H2) (ys := putK us (.inl k) v) (List.mem_of_getElem? hn) g2
            refine .inr ⟨b, _, rfl, DPut.k (k := .inl k) g2 ?_, ?_⟩
            · have := congrArg List.length g3
              simp at this
              rw [this, sizeLine_eq]
              omega
            · exact k2 μ2 _ σ (R2.put hn ew (.dct upd_same p1 (p2.ext ew.z))) (E2.trans ew) (F2.ext ew R2.zm) fun own _ => rfl
          · cases hs
        · cases hs
      · next n k =>
        split at hs
        · next xs hxs =>
          split at hs
          · next jj hj =>
            cases hs
            cases V3
            have V2' := V2.ext e2.z
            cases V2' with
            | @loc b _ hn _ =>
              obtain ⟨b', vs, g1, g2, g3⟩ := R2.list hxs
              rw [hn] at g1
              cases g1
              refine .inl ⟨b, vs, k, jj, rfl, rfl, g2, by rw [← g3.len]; exact hj, ?_⟩
              exact k2 μ2 _ σ (R2.write hn g2 (g3.set (V1.ext E2.z) jj)) (E2.trans (ext_write (List.mem_of_getElem? hn) g2)) (F2.ext (ext_write (List.mem_of_getElem? hn) g2) R2.zm) fun own _ => rfl
          · cases hs
        · cases hs
      · cases hs
    · exact k2.elim
  · cases h
end
end Th
namespace Th
open PySem PySem.Spec PyProof.Rows L2
section
variable {X : Cx} {pins : List (Addr × Obj)} {σ : L2.St} {H : Hp} {s : Shared} {f a dx Ca : Addr} {fd : FuncData} {ps : List Str} {k : Nat} {sp : Sp} {E' : Value → Shared → Prop}
theorem str_readG {fs : List (Str × V)} {Q : VK} (I : L2.Inv X pins σ H s) (hi : H a = some (.ins Ca dx fs)) (hm : Meth X.K Ca "__str__" f) (F : FnG X.prog X.w X.K X.mg X.base k f fd ps sp) (hr : RoomG (k + 2) X.A) (hb : Binds X.K fd ps [])
    (hs : sp [.ref a] H (fun y H1 => ∃ x, y = .str x ∧ Q (.str x) H1) (fun _ _ _ => False)) : wpAny (model X.prog X.w) X.A (call (.type "str") [.ref a]) (EP X pins σ Q) E' s := by
  obtain ⟨mA, O, _⟩ := ins_get I.hok hi
  obtain ⟨od, J, _⟩ := O.look
  have n1 : ([Value.ref a] ++ []).length = ps.length := (F.len _ _ _ _ hs)
  have hb2 := hb s [.ref a] I.kIn n1
  have hu := (hr.in1.in1).r.un
  refine PySem.W.kso_call (by omega) I.kIn J hm.at_ hm.fn (wpAny_call ?_)
  refine codeAny_mono (F.go X.A.in1.in1 X.stack s H ⟨[.ref a], []⟩ _ [.ref a] _ (fun _ _ _ => False) hr.in1.in1 I.env0.in1.in1 hb2 (.cons rfl .nil) hs) fun r s' out => ?_
  cases r with
  | error er =>
    obtain ⟨_, _, _, _, _, _, _, _, _, _, _, _, z⟩ := out
    exact z.elim
  | ok fl =>
    cases fl <;> first | exact False.elim out | skip
    obtain ⟨v, H', I3, rv, x, rfl, q⟩ := I.after out
    obtain ⟨t, rfl⟩ := rv
    exact ⟨.str x, H', I3, ⟨t, rfl⟩, q⟩
end
end Th
namespace Th
open PySem PySem.Spec PyProof.Rows L2
section
variable {C : Orc}
theorem strs_of {W : Wd} {μ : List Addr} {H : Hp} : ∀ {xs : List D} {vs : List V} {ys : List Str}, VRs W μ H xs vs → xs.mapM strOf = some ys → vs = ys.map V.str
  | [], _, ys, .nil, h => by cases h; rfl
  | x :: xs, _, ys, .cons r rs, h => by
    rw [List.mapM_cons] at h
    cases h1 : strOf x with
    | none => rw [h1] at h; cases h
    | some y =>
      rw [h1] at h
      cases h2 : xs.mapM strOf with
      | none => rw [h2] at h; cases h
      | some zs =>
        rw [h2] at h
        cases h
        have := strs_of rs h2
        subst this
        cases x <;> first | cases h1 | skip
        cases r
        rfl
theorem se_join {o a : Ex} (io : SE C o) (ia : SE C a) : SE C (.join o a) := by
  intro W X ini me e f S σ H μ Q cx h hi R F hk
  rw [okE] at h
  split at h
  · next l m r he =>
    obtain ⟨p, q, rfl, hq⟩ := asMeth_eq he
    simp only [Bool.and_eq_true, beq_iff_eq] at h
    obtain ⟨⟨⟨h1, h2⟩, h3⟩, h4⟩ := h
    subst h1
    have st := ok_star h3 [] X.env
    have kx : X.K = W.K := cx.kk
    refine U.of (pe_bm PySem.F.plainAttrs_str PySem.F.slot_str_join PySem.F.type_str_join mt_join (U.pe l) (pa_cons (U.pe r) pa_nil st) (plainA_base h4 _ X.env _) (by rw [st]; rfl) hq st rfl) ?_
    refine io.use cx h2 hi Ext.refl R F hk fun x S1 μ1 H1 v E1 _ R1 V1 F1 k1 => ?_
    cases x <;> first | exact k1.elim | skip
    next sp =>
    cases V1
    refine ⟨rfl, ?_⟩
    refine ia.use cx h3 hi E1 R1 F1 k1 fun y S2 μ2 H2 u E2 e2 R2 V2 F2 k2 => ?_
    obtain ⟨z, ez, k3⟩ := K1.off k2
    unfold joinO at ez
    split at ez
    · next xs hx =>
      split at ez
      · next ys hy =>
        split at ez
        · next hl =>
          cases ez
          obtain ⟨b2, vs, rfl, q2, r2⟩ := V2.seq R2 hx
          have := strs_of r2 hy
          subst this
          exact ⟨sp, b2, ys, rfl, rfl, by rw [kx]; exact q2, hl, (show OkP W μ H Q _ _ from k3) μ2 _ _ R2 E2 (.str _)⟩
        · cases ez
      · cases ez
    · cases ez
  · cases h
theorem vstrs {W : Wd} {μ : List Addr} {H : Hp} : ∀ ys : List Str, VRs W μ H (ys.map .str) (ys.map V.str)
  | [] => .nil
  | y :: ys => .cons (.str y) (vstrs ys)
theorem se_spt {m : Bool} {o a : Ex} (io : SE C o) (ia : SE C a) : SE C (.spt m o a) := by
  intro W X ini me e f S σ H μ Q cx h hi R F hk
  rw [okE] at h
  split at h
  · next l w r he =>
    obtain ⟨p, q, rfl, hq⟩ := asMeth_eq he
    simp only [Bool.and_eq_true, beq_iff_eq] at h
    obtain ⟨⟨⟨h1, h2⟩, h3⟩, h4⟩ := h
    subst h1
    have st := ok_star h3 [] X.env
    refine U.of (pe_bm PySem.F.plainAttrs_str PySem.F.slot_str_split PySem.F.type_str_split mt_split (U.pe l) (pa_cons (U.pe r) pa_nil st) (plainA_base h4 _ X.env _) (by rw [st]; rfl) hq st rfl) ?_
    refine io.use cx h2 hi Ext.refl R F hk fun x S1 μ1 H1 v E1 _ R1 V1 F1 k1 => ?_
    cases x <;> first | exact k1.elim | skip
    next sp =>
    cases V1
    refine ⟨rfl, ?_⟩
    refine ia.use cx h3 hi E1 R1 F1 k1 fun y S2 μ2 H2 u E2 e2 R2 V2 F2 k2 => ?_
    obtain ⟨z, ez, k3⟩ := K1.off k2.bnd
    unfold splO at ez
    split at ez
    · next t =>
      split at ez
      · next c =>
        cases ez
        cases V2
        exact ⟨sp, t, rfl, rfl, c.1, c.2, fresh_lst E2 R2 (vstrs _) k3⟩
      · cases ez
    · cases ez
  · cases h
theorem se_fst {a b : Ex} {t : Str} (ia : SE C a) (ib : SE C b) : SE C (.fst a t b) := by
  intro W X ini me e f S σ H μ Q cx h hi R F hk
  rw [okE] at h
  split at h
  · next l u r he =>
    obtain ⟨p1, p2, p3, j, p, rfl⟩ := asFst_eq he
    simp only [Bool.and_eq_true, beq_iff_eq] at h
    obtain ⟨⟨h1, h2⟩, h3⟩ := h
    subst h1
    refine U.of (pe_joined (.cons (pe_fmt (U.pe l)) (.cons pe_str (.cons (pe_fmt (U.pe r)) .nil)))) ?_
    refine ia.use cx h2 hi Ext.refl R F hk fun x S1 μ1 H1 v E1 _ R1 V1 F1 k1 => ?_
    cases x <;> first | exact k1.elim | skip
    next s1 =>
    cases V1
    have k1' : K1 (if s1.length ≤ sizeLine ∧ (Str.empty ++ s1).length ≤ sizeLine ∧ (Str.empty ++ s1 ++ u).length ≤ sizeLine then (ev W.P C b f S1).bind fun y S2 => Out.of (fstO s1 u y) S2 else .bad) (OkP W μ H Q) (XW W X μ H σ) := k1
    split at k1'
    · next c =>
      refine .inl ⟨s1, rfl, c.1, s1, rfl, c.2.1, u, rfl, c.2.2, ?_⟩
      refine ib.use cx h3 hi E1 R1 F1 k1' fun y S2 μ2 H2 w E2 e2 R2 V2 F2 k2 => ?_
      obtain ⟨z, ez, k3⟩ := K1.off k2
      unfold fstO at ez
      split at ez
      · next s2 =>
        cases V2
        split at ez
        · next c2 =>
          cases ez
          exact .inl ⟨s2, rfl, c2.1, s2, rfl, c2.2, (show OkP W μ H Q _ _ from k3) μ2 _ _ R2 E2 (.str _)⟩
        · cases ez
      · cases ez
    · exact k1'.elim
  · cases h
theorem u_str {X : Cx} {σ : L2.St} {H : Hp} {Q : VK} {e : Expr} {p q : Pos} (hc : X.calm = true) (hg : Gl X "str") (hm : X.mg "str" = none) (st : starEach [e] X.env = (false, eval e X.env) :: starEach [] X.env)
    (h : U X e σ H (fun v H1 => (∃ i : Int, v = .int i ∧ i.natAbs.log2 < 1920 ∧ Q (.str (toString i)) H1) ∨ ∃ (a Ca dx f : Addr) (fs : List (Str × V)) (fd : FuncData) (ps : List Str) (k : Nat) (sp : Sp), v = .ref a ∧ H1 a = some (.ins Ca dx fs) ∧ Meth X.K Ca "__str__" f ∧ Binds X.K fd ps [] ∧ RoomG (k + 2) X.A ∧
      FnG X.prog X.w X.K X.mg X.base k f fd ps sp ∧ sp [.ref a] H1 (fun y H1 => ∃ x, y = .str x ∧ Q (.str x) H1) (fun _ _ _ => False))) : U X (.Call (.Name "str" p) [e] [] q) σ H Q := fun pins s I => by
  refine wpAny_Call_Name_kw (ld_blt I hg hm (by rfl) ?_ (by decide) (by decide))
  refine PyProof.Rows.callWith_type1 ?_ st (by rfl)
  rw [st]
  show wpAny _ _ (spliced ((false, eval e X.env) :: backTo q (starEach [] X.env))) _ _ s
  refine Calls.spliced_cons (thn (h pins s I) fun u s1 ⟨x, H1, I1, rx, q1⟩ => ?_)
  refine Calls.spliced_nil ?_
  rcases q1 with ⟨i, rfl, hz, q1⟩ | ⟨a, Ca, dx, f, fs, fd, ps, k, sp, rfl, ea, hm, hb, hr, F, q1⟩
  · exact call_str_int pins s1 σ H1 [.int i] [u] Q I1 (.cons rx .nil) ⟨i, rfl, hz, q1⟩
  · obtain rfl : u = Value.ref a := rx
    exact str_readG I1 ea hm F hr hb q1
theorem se_sX {a : Ex} {m : Nat} (ia : SE C a) : SE C (.sX m a) := by
  intro W X ini me e f S σ H μ Q cx h hi R F hk
  rw [okE] at h
  split at h
  · next x r he =>
    obtain ⟨p, q, rfl⟩ := asCall_eq he
    simp only [Bool.and_eq_true, beq_iff_eq] at h
    obtain ⟨⟨⟨rfl, h2⟩, h3⟩, h4⟩ := h
    refine u_str cx.calm (glB_gl h2) (cx.blt _ (by decide)) (ok_star h3 [] X.env) ?_
    refine ia.use cx h3 hi Ext.refl R F hk fun x S1 μ1 H1 v E1 _ R1 V1 F1 k1 => ?_
    cases x <;> first | exact k1.elim | skip
    · next i =>
      cases V1
      have k1' : K1 (if i.natAbs.log2 < 1920 then .ok (.str (toString i)) S1 else .bad : Out D) (OkP W μ H Q) (XW W X μ H σ) := k1
      split at k1'
      · next c => exact .inl ⟨i, rfl, c, (show OkP W μ H Q _ _ from k1') μ1 _ _ R1 E1 (.str _)⟩
      · exact k1'.elim
    · next c ds =>
      cases V1 with
      | @obj b dx _ _ fs kl hb n z hkl hc hf rr =>
        have Vo : VR W μ1 H1 (.obj c ds) (.ref b) := .obj hb n z hkl hc hf rr
        have k1' : K1 (match W.P.cl c with
          | some k => match k.meths.lookup m with
            | some g => (C.str g [.obj c ds] S1).calm.bind fun y S2 => match y with
              | .str t => .ok (.str t) S2
              | _ => .bad
            | none => .bad
          | none => .bad : Out D) (OkP W μ H Q) (XW W X μ H σ) := k1
        rw [hkl] at k1'
        simp only at k1'
        split at k1'
        · next g hg =>
          obtain ⟨c1, c2, _⟩ := cx.cls c kl hc hkl
          obtain ⟨g1, g2, _⟩ := c2 m g hg
          cases qq : C.str g [.obj c ds] S1 with
          | ok d S2 =>
            rw [qq] at k1'
            cases d <;> first | exact k1'.elim | skip
            next t =>
            obtain ⟨k, hr, Fn⟩ := cx.sts g g1 ⟨_, S1, fun z => by rw [qq] at z; cases z⟩
            refine .inr ⟨b, _, dx, W.lk.fa g, fs, W.lk.fd g, W.lk.pn g, k, _, rfl, hb, by rw [cx.kk, ← h4]; exact g2, by rw [cx.kk]; exact cx.bind g g1, hr, Fn, W.Z, μ1, S1, [.obj c ds], R1, .cons Vo .nil, ?_⟩
            rw [qq]
            intro μ' H' v R' E' V'
            cases V'
            exact ⟨t, rfl, (show OkP W μ H Q (.str t) S2 from k1') μ' H' _ R' (E1.trans E') (.str t)⟩
          | exc _ _ => rw [qq] at k1'; exact k1'.elim
          | bad => rw [qq] at k1'; exact k1'.elim
        · exact k1'.elim
  · cases h
end
end Th
namespace Th
open PySem PySem.Spec PyProof.Rows L2
section
variable {prog : Program} {w : World} {A : Around} {E : Value → Shared → Prop} {s : Shared} {K : PySem.W.Frag} {x C f : Addr} {ox : Obj} {od : Option Obj} {b : Value}
open Builtin in
theorem objNe_entry {Q : PySem.Fin → Shared → Prop} (X : K.In s.heap) (I : PySem.W.InstAt s.heap x ox C od) (hu : A.units < cLine) (hs : PySem.W.findIn K (.ref C) "__eq__" = some (some (.ref f))) (hf : PySem.W.isFn K (.ref f) = true)
    (h : wpAny (model prog w) A (call (.ref f) [.ref x, b]) (fun v s' => ∃ r, v = .bool r ∧ Q (.done (.ret (.bool (!r)))) s') E s) : wpAny (model prog w) A (Builtin.«object.__ne__» ⟨[.ref x, b], []⟩) Q E s := by
  obtain ⟨hp, g, d, tk, os⟩ := s
  unfold Builtin.«object.__ne__»
  repeat (first
    | with_reducible refine wpAny_cRoomFor hu ?_
    | (refine wpAny_bind (m := callSpecialIfBound? (.ref x) (Str.ofString "__eq__") [b])
        (PySem.W.ifBound_K X I hs hf (wpAny_mono h (fun r s' hr => by
          obtain ⟨b, rfl, hq⟩ := hr
          repeat (first | exact hq | exact wpAny_pure hq | exact wpAny_truthy_bool hq | (refine wpAny_bind (m := truthy (.bool _)) (wpAny_truthy_bool ?_)) | wp_step)) fun _ _ e => e)))
    | wp_step)
theorem ifBound_objNe {Q : Option Value → Shared → Prop} (X : K.In s.heap) (I : PySem.W.InstAt s.heap x ox C od) (hu : A.units + 1 < cLine) (hn : PySem.W.findIn K (.ref C) "__ne__" = some (some (.builtin "object.__ne__"))) (hm : PySem.W.mroIn K C (.type "object") = some true)
    (hs : PySem.W.findIn K (.ref C) "__eq__" = some (some (.ref f))) (hf : PySem.W.isFn K (.ref f) = true)
    (h : wpAny (model prog w) A.in1 (call (.ref f) [.ref x, b]) (fun v s' => ∃ r, v = .bool r ∧ Q (some (.bool (!r))) s') E s) : wpAny (model prog w) A (callSpecialIfBound? (.ref x) "__ne__" [b]) Q E s := by
  have hc : wpAny (model prog w) A (call (.builtin "object.__ne__") ([.ref x] ++ [b])) (fun v => Q (some v)) E s := by
    refine wpAny_call (codeAny_call_builtin PySem.F.cmp_object.ne.plain PySem.F.cmpEntry_ne ?_)
    simp only [checkBuiltinCall, PySem.F.cmpKind_ne, PySem.F.cmpSplit_ne]
    refine wpAny_bind ?_
    refine (I.type.andThen (PySem.W.looks_subIn (t := .ref C) (base := .type "object") X hm)).here ?_
    have ha := PySem.F.cmpArgs_ne (.ref x) b
    have fin : wpAny (model prog w) A.in1 (Builtin.«object.__ne__» ⟨[.ref x, b], []⟩) (fun fin s' => match fin with
        | .done f => wants (fun v => Q (some v)) E (.ok f) s'
        | .again c' => c'.quiet = true ∧ codeAny (model prog w) A c' (wants (fun v => Q (some v)) E) s') (fun e s' => wants (fun v => Q (some v)) E (.error e) s') s := by
      refine objNe_entry X I hu hs hf (wpAny_mono h (fun v s' hv => ?_) fun _ _ e => e)
      obtain ⟨r, rfl, q⟩ := hv
      exact ⟨r, rfl, q⟩
    cases hsig : Manifest.signature? "object.__ne__" with
    | none => exact wpAny_pure fin
    | some sig =>
      simp only [argsOk, hsig] at ha
      have h2 : Bind.checkArgs "object.__ne__" sig ⟨[.ref x, b], []⟩ = pure () := ha
      show wpAny _ _ (Bind.checkArgs "object.__ne__" sig ⟨[.ref x, b], []⟩) _ _ _
      rw [h2]; exact wpAny_pure fin
  simp only [callSpecialIfBound?, bindSpecialIfBound?]
  refine wpAny_holding (wpAny_bind (wpAny_bind (wpAny_bind (I.type.here ((PySem.W.looks_findIn X hn).here ?_)))))
  simp only [PySem.F.cmp_object.ne.bind]
  refine wpAny_bind (wpAny_askSetting (wpAny_ite ?_))
  have fin : wpAny (model prog w) A (call (.builtin "object.__ne__") ([.ref x] ++ [b]) >>= fun v => pure (some v)) Q E s := wpAny_bind (wpAny_mono hc (fun v s' h' => wpAny_pure h') fun _ _ h' => h')
  split
  · exact wpAny_bind (wpAny_pure (wpAny_pure fin))
  · exact wpAny_tryCatch (wpAny_bind (wpAny_pure (wpAny_pure fin)))
theorem ne_K {tb : Value} {Q : Value → Shared → Prop} (hu : A.units + 1 < cLine) (X : K.In s.heap) (I : PySem.W.InstAt s.heap x ox C od) (hb : PySem.W.Looks (model prog w) s.heap (typeOf b) tb) (hn : PySem.W.notFirst K C tb = true)
    (hne : PySem.W.findIn K (.ref C) "__ne__" = some (some (.builtin "object.__ne__"))) (hm : PySem.W.mroIn K C (.type "object") = some true) (hs : PySem.W.findIn K (.ref C) "__eq__" = some (some (.ref f))) (hf : PySem.W.isFn K (.ref f) = true)
    (h : wpAny (model prog w) A.in1 (call (.ref f) [.ref x, b]) (fun v s' => ∃ r, v = .bool r ∧ Q (.bool (!r)) s') E s) : wpAny (model prog w) A (richCompare .NotEq (.ref x) b) Q E s := by
  have one : wpAny (model prog w) A (tryCompare (.ref x) (cmpInfo .NotEq).2.1 b) (fun r s' => ∃ v, r = some v ∧ Q v s') E s := by
    unfold tryCompare
    refine wpAny_bind (ifBound_objNe X I hu hne hm hs hf (wpAny_mono h (fun v s' hv => ?_) fun _ _ e => e))
    obtain ⟨r, rfl, q⟩ := hv
    exact ⟨r, rfl, wpAny_pure ⟨_, rfl, q⟩⟩
  unfold richCompare
  simp only [oneThing_ref]
  refine wpAny_holding (wpAny_bind (wpAny_cRoomFor (Nat.lt_of_succ_lt hu) ?_))
  refine wpAny_bind (I.type.here (wpAny_bind (hb.here ?_)))
  split
  · rename_i q
    have e : PySem.W.subIn K tb (.ref C) = some false := by
      rcases Bool.or_eq_true_iff.mp hn with e | e
      · rw [beq_iff_eq.mp e] at q; simp at q
      · exact beq_iff_eq.mp e
    refine wpAny_bind ((PySem.W.looks_subIn X e).here ?_)
    simp only [Bool.false_eq_true, if_false]
    refine wpAny_bind (wpAny_mono one (fun r s' z => ?_) fun _ _ e => e)
    obtain ⟨v, rfl, hq⟩ := z
    exact wpAny_pure hq
  · refine wpAny_bind (wpAny_pure ?_)
    simp only [Bool.false_eq_true, if_false]
    refine wpAny_bind (wpAny_mono one (fun r s' z => ?_) fun _ _ e => e)
    obtain ⟨v, rfl, hq⟩ := z
    exact wpAny_pure hq
end
section
variable {X : Cx} {pins : List (Addr × Obj)} {σ : L2.St} {H : Hp} {s : Shared} {f a b dx dy Ca : Addr} {fd : FuncData} {ps : List Str} {k : Nat} {sp : Sp}
/-- what the own == is asked for -/
def rOwnEq (X : Cx) (Ca : Addr) (sp : Sp) (ng : Bool) : R2 := fun x y H Q => ∃ a dx fs tb, x = .ref a ∧ H a = some (.ins Ca dx fs) ∧ (∀ (pins : List (Addr × Obj)) (s : Shared) (σ : L2.St) (u : Value), L2.Inv X pins σ H s → RelV y u → PySem.W.Looks (model X.prog X.w) s.heap (typeOf u) tb) ∧
  PySem.W.notFirst X.K Ca tb = true ∧ sp [.ref a, y] H (fun v H1 => ∃ r, v = .bl r ∧ Q (.bl (if ng = true then !r else r)) H1) (fun _ _ _ => False)
theorem op_eqObj (hm : Meth X.K Ca "__eq__" f) (F : FnG X.prog X.w X.K X.mg X.base k f fd ps sp) (hr : RoomG (k + 2) X.A) (hb : Binds X.K fd ps []) : OpR X (compareOp .Eq) (rOwnEq X Ca sp false) := by
  intro pins s σ H x y v u Q I rx ry h
  obtain ⟨a, dx, fs, tb, rfl, ha, look, nf, hs⟩ := h
  cases rx
  obtain ⟨mA, J, _⟩ := ins_get I.hok ha
  obtain ⟨od, J, _⟩ := J.look
  obtain ⟨m, hF⟩ := I.fr
  have hu := hr.r.un
  have hrk : RoomG k X.A := hr.mono (by omega)
  show wpAny (model X.prog X.w) X.A (richCompare .Eq (.ref a) u) (EP X pins σ Q) X.xe s
  refine PySem.W.cmp_K (op := .Eq) (tb := tb) (by omega) hF I.ok.mod.kin J (look pins s σ u I ry) nf hm.at_ hm.fn ?_
  have n1 : ([Value.ref a, u] ++ []).length = ps.length := (F.len _ _ _ _ hs)
  refine wpAny_call (codeAny_mono (F.go X.A X.stack s H ⟨[.ref a, u], []⟩ _ [.ref a, y] _ (fun _ _ _ => False) hrk I.env0 (hb s [.ref a, u] I.kIn n1) (.cons rfl (.cons ry .nil)) hs) fun r s' out => ?_)
  cases r with
  | error er =>
    obtain ⟨_, _, _, _, _, _, _, _, _, _, _, _, z⟩ := out
    exact z.elim
  | ok fl =>
    cases fl <;> first | exact False.elim out | skip
    obtain ⟨v, H', I3, rv, r, rfl, q⟩ := I.after out
    cases rv
    exact ⟨.bl r, H', I3, rfl, q⟩
theorem op_neObj (hm : Meth X.K Ca "__eq__" f) (hne : PySem.W.findIn X.K (.ref Ca) "__ne__" = some (some (.builtin "object.__ne__"))) (ho : PySem.W.mroIn X.K Ca (.type "object") = some true) (F : FnG X.prog X.w X.K X.mg X.base k f fd ps sp) (hr : RoomG (k + 2) X.A) (hb : Binds X.K fd ps []) : OpR X (compareOp .NotEq) (rOwnEq X Ca sp true) := by
  intro pins s σ H x y v u Q I rx ry h
  obtain ⟨a, dx, fs, tb, rfl, ha, look, nf, hs⟩ := h
  cases rx
  obtain ⟨mA, J, _⟩ := ins_get I.hok ha
  obtain ⟨od, J, _⟩ := J.look
  have hu := hr.in1.r.un
  have hu' : X.A.units + 1 < cLine := by have : X.A.in1.units = X.A.units + 1 := rfl; omega
  have hrk : RoomG k X.A.in1 := hr.in1.mono (by omega)
  show wpAny (model X.prog X.w) X.A (richCompare .NotEq (.ref a) u) (EP X pins σ Q) X.xe s
  refine ne_K (tb := tb) hu' I.kIn J (look pins s σ u I ry) nf hne ho hm.at_ hm.fn ?_
  have n1 : ([Value.ref a, u] ++ []).length = ps.length := (F.len _ _ _ _ hs)
  refine wpAny_call (codeAny_mono (F.go X.A.in1 X.stack s H ⟨[.ref a, u], []⟩ _ [.ref a, y] _ (fun _ _ _ => False) hrk I.env0.in1 (hb s [.ref a, u] I.kIn n1) (.cons rfl (.cons ry .nil)) hs) fun r s' out => ?_)
  cases r with
  | error er =>
    obtain ⟨_, _, _, _, _, _, _, _, _, _, _, _, z⟩ := out
    exact z.elim
  | ok fl =>
    cases fl <;> first | exact False.elim out | skip
    obtain ⟨v, H', I3, rv, r, rfl, q⟩ := I.after out
    cases rv
    exact ⟨r, rfl, .bl (!r), H', I3, rfl, q⟩
end
end Th
namespace Th
open PySem PySem.Spec PyProof.Rows L2
section
variable {prog : Program} {w : World} {A : Around} {E : Value → Shared → Prop} {s : Shared} {K : PySem.W.Frag} {x C f : Addr} {ox : Obj} {od : Option Obj}
/-- truth by an own __len__ -/
theorem truthy_len {Q : Bool → Shared → Prop} (X : K.In s.heap) (I : PySem.W.InstAt s.heap x ox C od) (hb : PySem.W.findIn K (.ref C) "__bool__" = some none) (hs : PySem.W.findIn K (.ref C) "__len__" = some (some (.ref f))) (hf : PySem.W.isFn K (.ref f) = true)
    (h : wpAny (model prog w) A.in1 (call (.ref f) [.ref x]) (PySem.W.LenBack fun v s' => ∃ n t, v = .int n t ∧ Q (n != 0) s') E s) : wpAny (model prog w) A (truthy (.ref x)) Q E s := by
  unfold truthy
  refine wpAny_bind (m := callSpecial? (.ref x) (Str.ofString "__bool__")) (wpAny_bind (wpAny_bind (I.type.here ((PySem.W.looks_findIn X hb).here (wpAny_pure ?_)))))
  refine wpAny_bind (wpAny_bind (I.type.here ((PySem.W.looks_findIn X hs).here ?_)))
  show wpAny _ _ (if (some (Value.ref f)).isNone = true then _ else _) _ _ _
  rw [if_neg (by simp)]
  refine wpAny_bind (wpAny_runValue (codeAny_builtin entry_len ?_))
  rw [Around.under_plainId plain_len _]
  show wpAny _ _ (Builtin.«len» ⟨[.ref x], []⟩) _ _ _
  unfold Builtin.«len»
  refine wpAny_bind (m := oneArg "len" _) (wpAny_pure ?_)
  refine wpAny_bind (m := callSpecial? (.ref x) (Str.ofString "__len__")) (PySem.W.special_fn X I hs (beq_iff_eq.mp hf) (wpAny_mono h (fun r s' hr => ?_) fun _ _ y => y))
  cases r <;> first | exact hr.elim | skip
  rename_i n u
  obtain ⟨⟨h0, h1⟩, n', t', e, hq⟩ := hr
  cases e
  refine wpAny_bind (wpAny_holding (wpAny_pure ?_))
  refine wpAny_bind (wpAny_letGo ?_)
  show wpAny _ _ (if n < 0 then _ else _) _ _ _
  rw [if_neg (by omega)]
  show wpAny _ _ (if n ≥ 2 ^ 63 then _ else _) _ _ _
  rw [if_neg (by omega)]
  exact wpAny_bind (wpAny_mkInt (wpAny_pure (wpAny_pure hq)))
open Builtin in
theorem bool_own {Q : Value → Shared → Prop} (X : K.In s.heap) (I : PySem.W.InstAt s.heap x ox C od) (hb : PySem.W.findIn K (.ref C) "__bool__" = some none) (hs : PySem.W.findIn K (.ref C) "__len__" = some (some (.ref f))) (hf : PySem.W.isFn K (.ref f) = true)
    (h : wpAny (model prog w) A.in1.in1.in1 (call (.ref f) [.ref x]) (PySem.W.LenBack fun v s' => ∃ n t, v = .int n t ∧ Q (.bool (n != 0)) s') E s) : wpAny (model prog w) A (call (.type "bool") [.ref x]) Q E s := by
  refine callType_codes (T := "bool") (Bi := Builtin.«object.__init__») (Q₁ := fun r s₁ => ∃ b, r = .bool b ∧ Q r s₁) PySem.F.called_bool (PySem.F.typeCall_bool_1 _) PySem.F.entry_object_init ?_ ?_
  · refine codeAny_of_tree ?_
    show wpAny _ A.in1.in1 (do checkBuiltinCall "bool.__new__" ⟨[.type "bool", .ref x], []⟩; again (.builtin "bool.__new__" ⟨[.type "bool", .ref x], []⟩)) _ _ s
    refine wpAny_bind (wpAny_of_eq (PySem.F.newCall_bool_1 _) (wpAny_pure ⟨plainId_quiet (by decide +kernel) _, codeAny_builtin PySem.F.entry_bool_new ?_⟩))
    rw [Around.under_plainId (by decide +kernel) _]
    have f1 := PySem.F.conv_sub_bool
    obtain ⟨hp, g, d, tk, os⟩ := s
    have key := truthy_len (Q := fun b s' => ∃ b', (Value.bool b) = .bool b' ∧ Q (.bool b) s') X I hb hs hf (wpAny_mono h (fun r s₁ hr => by
      cases r <;> first | exact hr.elim | skip
      obtain ⟨h1, n, t, e, hq⟩ := hr
      exact ⟨h1, n, t, e, _, rfl, hq⟩) fun _ _ y => y)
    show wpAny _ _ (Builtin.«bool.__new__» ⟨[.type "bool", .ref x], []⟩) _ _ _
    unfold Builtin.«bool.__new__»
    repeat (any_goals (first | assumption | (refine wpAny_bind (m := truthy (.ref x)) (wpAny_mono key (fun b s' hb => ?_) fun _ _ y => y)) | wp_step))
    all_goals first | exact hb | exact wpAny_pure hb | skip
  · rintro obj s₁ ⟨b, rfl, hq⟩
    exact ⟨rfl, PySem.F.args_object_init_2 _ _, object_init_meets PySem.F.called_bool.init.lookup PySem.F.called_bool.made (by decide) prog w A.in1 _ s₁ ⟨rfl, rfl, hq⟩⟩
end
section
variable {X : Cx} {pins : List (Addr × Obj)} {σ : L2.St} {H : Hp} {s : Shared} {f a dx Ca : Addr} {fd : FuncData} {ps : List Str} {k : Nat} {sp : Sp} {fs : List (Str × V)} {Q : VK} {E' : Value → Shared → Prop}
theorem len_read (I : L2.Inv X pins σ H s) (hi : H a = some (.ins Ca dx fs)) (hm : Meth X.K Ca "__len__" f) (F : FnG X.prog X.w X.K X.mg X.base k f fd ps sp) (hr : RoomG (k + 2) X.A) (hb : Binds X.K fd ps [])
    (hs : sp [.ref a] H (fun y H1 => ∃ n : Int, y = .int n ∧ 0 ≤ n ∧ n < 2 ^ 62 ∧ Q (.int n) H1) (fun _ _ _ => False)) : wpAny (model X.prog X.w) X.A (call (.builtin "len") [.ref a]) (EP X pins σ Q) E' s := by
  obtain ⟨mA, O, _⟩ := ins_get I.hok hi
  obtain ⟨od, J, _⟩ := O.look
  obtain ⟨m, hF⟩ := I.fr
  have n1 : ([Value.ref a] ++ []).length = ps.length := (F.len _ _ _ _ hs)
  have hb2 := hb s [.ref a] I.kIn n1
  refine PySem.W.len_K hF I.ok.mod.kin J hm.at_ hm.fn (wpAny_call ?_)
  refine codeAny_mono (F.go X.A.in1 X.stack s H ⟨[.ref a], []⟩ _ [.ref a] _ (fun _ _ _ => False) (hr.in1.mono (by omega)) I.env0.in1 hb2 (.cons rfl .nil) hs) fun r s' out => ?_
  cases r with
  | error er =>
    obtain ⟨_, _, _, _, _, _, _, _, _, _, _, _, z⟩ := out
    exact z.elim
  | ok fl =>
    cases fl <;> first | exact False.elim out | skip
    obtain ⟨v, H', I3, rv, n, rfl, n0, n1, q⟩ := I.after out
    obtain ⟨t, rfl⟩ := rv
    exact ⟨⟨n0, by omega⟩, .int n, H', I3.tok _, ⟨_, rfl⟩, q⟩
theorem repr_read (I : L2.Inv X pins σ H s) (hi : H a = some (.ins Ca dx fs)) (hm : Meth X.K Ca "__repr__" f) (F : FnG X.prog X.w X.K X.mg X.base k f fd ps sp) (hr : RoomG (k + 2) X.A) (hb : Binds X.K fd ps [])
    (hs : sp [.ref a] H (fun y H1 => ∃ x, y = .str x ∧ Q (.str x) H1) (fun _ _ _ => False)) : wpAny (model X.prog X.w) X.A (call (.builtin "repr") [.ref a]) (EP X pins σ Q) E' s := by
  obtain ⟨mA, O, _⟩ := ins_get I.hok hi
  obtain ⟨od, J, _⟩ := O.look
  obtain ⟨m, hF⟩ := I.fr
  have n1 : ([Value.ref a] ++ []).length = ps.length := (F.len _ _ _ _ hs)
  have hb2 := hb s [.ref a] I.kIn n1
  have hu := hr.in1.r.un
  refine PySem.W.repr_K (by omega) hF I.ok.mod.kin J hm.at_ hm.fn (wpAny_call ?_)
  refine codeAny_mono (F.go X.A.in1 X.stack s H ⟨[.ref a], []⟩ _ [.ref a] _ (fun _ _ _ => False) (hr.in1.mono (by omega)) I.env0.in1 hb2 (.cons rfl .nil) hs) fun r s' out => ?_
  cases r with
  | error er =>
    obtain ⟨_, _, _, _, _, _, _, _, _, _, _, _, z⟩ := out
    exact z.elim
  | ok fl =>
    cases fl <;> first | exact False.elim out | skip
    obtain ⟨v, H', I3, rv, x, rfl, q⟩ := I.after out
    obtain ⟨t, rfl⟩ := rv
    exact ⟨.str x, H', I3, ⟨t, rfl⟩, q⟩
theorem bool_read (I : L2.Inv X pins σ H s) (hi : H a = some (.ins Ca dx fs)) (hbn : PySem.W.findIn X.K (.ref Ca) "__bool__" = some none) (hm : Meth X.K Ca "__len__" f) (F : FnG X.prog X.w X.K X.mg X.base k f fd ps sp) (hr : RoomG (k + 2) X.A) (hb : Binds X.K fd ps [])
    (hs : sp [.ref a] H (fun y H1 => ∃ n : Int, y = .int n ∧ 0 ≤ n ∧ n < 2 ^ 62 ∧ Q (.bl (n != 0)) H1) (fun _ _ _ => False)) : wpAny (model X.prog X.w) X.A (call (.type "bool") [.ref a]) (EP X pins σ Q) E' s := by
  obtain ⟨mA, O, _⟩ := ins_get I.hok hi
  obtain ⟨od, J, _⟩ := O.look
  have n1 : ([Value.ref a] ++ []).length = ps.length := (F.len _ _ _ _ hs)
  have hb2 := hb s [.ref a] I.kIn n1
  refine bool_own I.kIn J hbn hm.at_ hm.fn (wpAny_call ?_)
  have r3 : RoomG k X.A.in1.in1.in1 := ⟨⟨hr.r.hd, by have := hr.r.dp; show X.A.depth + 3 * k + 5 < _; omega, by have := hr.r.un; show X.A.units + 1 + 1 + 1 + 16 * k + 200 < _; omega⟩, hr.g⟩
  refine codeAny_mono (F.go X.A.in1.in1.in1 X.stack s H ⟨[.ref a], []⟩ _ [.ref a] _ (fun _ _ _ => False) r3 I.env0.in1.in1.in1 hb2 (.cons rfl .nil) hs) fun r s' out => ?_
  cases r with
  | error er =>
    obtain ⟨_, _, _, _, _, _, _, _, _, _, _, _, z⟩ := out
    exact z.elim
  | ok fl =>
    cases fl <;> first | exact False.elim out | skip
    obtain ⟨v, H', I3, rv, n, rfl, n0, n1, q⟩ := I.after out
    obtain ⟨t, rfl⟩ := rv
    exact ⟨⟨n0, by omega⟩, n, _, rfl, .bl (n != 0), H', I3.tok _, rfl, q⟩
end
end Th
namespace Th
open PySem PySem.Spec PyProof.Rows L2
theorem nf_ty {K : PySem.W.Frag} {C : Addr} {n : String} (h : n ∈ ["NoneType", "bool", "int", "str", "tuple", "list", "dict"]) : PySem.W.notFirst K C (.type n) = true := by
  simp only [List.mem_cons, List.not_mem_nil, or_false] at h
  rcases h with rfl | rfl | rfl | rfl | rfl | rfl | rfl <;> first | rfl | kernel_rfl | decide +kernel
theorem looks_ty {M : Model} {h : Heap} {a : Addr} {o : Obj} {T : String} (ha : h.get? a = some o) (hc : o.cls = .type T) : PySem.W.Looks M h (typeOf (.ref a)) (.type T) := fun A Q E s k q => wpAny_typeOf (T := T) ⟨o, k _ _ ha, hc⟩ q
section
variable {C : Orc} {W : Wd} {X : Cx} {μ : List Addr} {H : Hp} {S : Store}
theorem eq_arg (cx : Cxt W C X) (R : SR W μ S H) {c : Nat} {y : D} {v : V} (V1 : VR W μ H y v) (h : eqArg S c y = true) : ∃ tb, (∀ (pins : List (Addr × Obj)) (s : Shared) (σ : L2.St) (u : Value), L2.Inv X pins σ H s → RelV v u → PySem.W.Looks (model X.prog X.w) s.heap (typeOf u) tb) ∧ PySem.W.notFirst X.K (W.lk.ca c) tb = true := by
  have kx := cx.kk
  unfold eqArg at h
  have ty : ∀ n, tyN S y = some (.ty n) → decide (n ∈ ["NoneType", "bool", "int", "str", "tuple", "list", "dict"]) = true := fun n e => by rw [e] at h; exact h
  cases y with
  | non =>
    cases V1
    refine ⟨.type "NoneType", fun pins s σ u I r => ?_, nf_ty (by simp)⟩
    cases (show u = Value.none from r)
    exact PySem.W.Looks.of_pure rfl
  | bl b =>
    cases V1
    refine ⟨.type "bool", fun pins s σ u I r => ?_, nf_ty (by simp)⟩
    cases (show u = Value.bool b from r)
    exact PySem.W.Looks.of_pure rfl
  | int i =>
    cases V1
    refine ⟨.type "int", fun pins s σ u I r => ?_, nf_ty (by simp)⟩
    obtain ⟨t, rfl⟩ := (show ∃ t, u = Value.int i t from r)
    exact PySem.W.Looks.of_pure rfl
  | str x =>
    cases V1
    refine ⟨.type "str", fun pins s σ u I r => ?_, nf_ty (by simp)⟩
    obtain ⟨t, rfl⟩ := (show ∃ t, u = Value.str x t from r)
    exact PySem.W.Looks.of_pure rfl
  | tup xs =>
    obtain ⟨a, ws, rfl, q, _⟩ := V1.seqT
    refine ⟨.type "tuple", fun pins s σ u I r => ?_, nf_ty (by simp)⟩
    cases (show u = Value.ref a from r)
    obtain ⟨its, _, ⟨o, ho, hc, _⟩, _⟩ := I.tuple (by rw [kx]; exact q)
    exact looks_ty ho hc
  | lst xs =>
    obtain ⟨a, ws, rfl, q, _⟩ := V1.seqL R (show seqAt S (.lst xs) = some xs from rfl)
    refine ⟨.type "list", fun pins s σ u I r => ?_, nf_ty (by simp)⟩
    cases (show u = Value.ref a from r)
    obtain ⟨its, _, pl, _⟩ := I.list (by rw [kx]; exact q)
    obtain ⟨o, ho, hc, _⟩ := pl.isList
    exact looks_ty ho hc
  | frz xs =>
    obtain ⟨a, ws, rfl, q, _⟩ := V1.seqL R (show seqAt S (.frz xs) = some xs from rfl)
    refine ⟨.type "list", fun pins s σ u I r => ?_, nf_ty (by simp)⟩
    cases (show u = Value.ref a from r)
    obtain ⟨its, _, pl, _⟩ := I.list (by rw [kx]; exact q)
    obtain ⟨o, ho, hc, _⟩ := pl.isList
    exact looks_ty ho hc
  | loc n =>
    have h' := h
    simp only [tyN] at h'
    split at h'
    · next c' e =>
      split at e <;> cases e
    · next t e =>
      split at e
      · next xs hx =>
        obtain ⟨a, ws, rfl, q, _⟩ := V1.seqL R (show seqAt S (.loc n) = some xs by simp only [seqAt]; rw [hx])
        refine ⟨.type "list", fun pins s σ u I r => ?_, nf_ty (by simp)⟩
        cases (show u = Value.ref a from r)
        obtain ⟨its, _, pl, _⟩ := I.list (by rw [kx]; exact q)
        obtain ⟨o, ho, hc, _⟩ := pl.isList
        exact looks_ty ho hc
      · cases e
    · cases h'
  | dic n =>
    cases V1 with
    | @dic a _ hμ hk =>
      obtain ⟨us, e⟩ := hk
      refine ⟨.type "dict", fun pins s σ u I r => ?_, nf_ty (by simp)⟩
      cases (show u = Value.ref a from r)
      obtain ⟨z, hd, vs0, r0, dd⟩ := dk_of I.hok e
      obtain ⟨o, ho, hc⟩ := dd.typeIs
      exact looks_ty ho hc
  | obj c' es =>
    cases V1 with
    | @obj bd dy _ _ gs kl2 hb2 n2 z2 hkl2 hc2 hf2 rr2 =>
      simp only [tyN] at h
      have : c' = c := of_decide_eq_true h
      subst this
      refine ⟨.ref (W.lk.ca c'), fun pins s σ u I r => ?_, by simp [PySem.W.notFirst]⟩
      cases (show u = Value.ref bd from r)
      obtain ⟨mB, J', _⟩ := ins_get I.hok hb2
      obtain ⟨od', J', _⟩ := J'.look
      exact J'.type
end
theorem se_fmI {C : Orc} {x y : Str} {a : Ex} (ia : SE C a) : SE C (.fmI x a y) := by
  intro W X ini me e f S σ H μ Q cx h hi R F hk
  rw [okE] at h
  split at h
  · next u l w he =>
    obtain ⟨j1, p1, p2, j3, p3, p, rfl⟩ := asFm_eq he
    simp only [Bool.and_eq_true, beq_iff_eq] at h
    obtain ⟨⟨rfl, rfl⟩, h3⟩ := h
    have hk' : K1 (if (Str.empty ++ u).length ≤ sizeLine then (ev W.P C a f S).bind fun d S1 => Out.of (fmO u w d) S1 else .bad) (OkP W μ H Q) (XW W X μ H σ) := by
      rw [ev] at hk
      exact hk
    split at hk'
    · next c0 =>
      refine U.of (pe_joined (.cons pe_str (.cons (pe_fmt (U.pe l)) (.cons pe_str .nil)))) ?_
      refine ⟨u, rfl, c0, ?_⟩
      refine ia.use cx h3 hi Ext.refl R F hk' fun d S1 μ1 H1 v E1 _ R1 V1 F1 k1 => ?_
      obtain ⟨z, ez, k3⟩ := K1.off k1
      unfold fmO at ez
      split at ez
      · next i =>
        cases V1
        split at ez
        · next c =>
          cases ez
          exact .inr ⟨i, rfl, c.1, _, rfl, c.2.2.1, w, rfl, c.2.2.2, (show OkP W μ H Q _ _ from k3) μ1 _ _ R1 E1 (.str _)⟩
        · cases ez
      · cases ez
    · exact hk'.elim
  · cases h
end Th
namespace Th
open PySem PySem.Spec PyProof.Rows L2
def UGs (X : Cx) (es : List Expr) : TGs := fun vs σ H Q => ∀ (pins : List (Addr × Obj)) (s : Shared) (us : List Value), L2.Inv X pins σ H s → Vals vs us → wpAny (model X.prog X.w) X.A (assignInOrder ((assignEach es X.env).map (·.2)) us) (fun _ s' => ∃ σ' H', L2.Inv X pins σ' H' s' ∧ Q σ' H') X.xe s
theorem UGs.pg {X : Cx} (es : List Expr) : PGs X es (UGs X es) := ⟨fun pins s σ H vs us Q I r h => h pins s us I r⟩
theorem UGs.of {X : Cx} {es : List Expr} {t : TGs} {vs : List V} {σ : L2.St} {H : Hp} {Q : L2.St → Hp → Prop} (h : PGs X es t) (q : t vs σ H Q) : UGs X es vs σ H Q := fun pins s us I r => h.run pins s σ H vs us Q I r q
theorem okT_starred {P : Pr} {lk : Chk} {N : List Str} {ini : Bool} {fs : Option Scope} {sc : Scope} (t : Tg) (v : Expr) (p : Pos) : okT P lk N ini fs sc t (.Starred v p) = false := by cases t <;> rfl
theorem okT_each {P : Pr} {lk : Chk} {N : List Str} {ini : Bool} {fs : Option Scope} {sc : Scope} {t : Tg} {e : Expr} (h : okT P lk N ini fs sc t e = true) (es : List Expr) (env : Env) : assignEach (e :: es) env = (false, assign e env) :: assignEach es env := by
  cases e <;> first | rfl | (rw [okT_starred] at h; cases h)
theorem okTs_each {P : Pr} {lk : Chk} {N : List Str} {ini : Bool} {fs : Option Scope} {sc : Scope} : ∀ {ts : List Tg} {es : List Expr}, okTs P lk N ini fs sc ts es = true → ∀ env, (assignEach es env).length = ts.length ∧ (assignEach es env).findIdx? (·.1) = none
  | [], es, h, env => by
    cases es with
    | nil => exact ⟨rfl, rfl⟩
    | cons e es => simp [okTs] at h
  | t :: ts, [], h, env => by simp [okTs] at h
  | t :: ts, e :: es, h, env => by
    simp only [okTs, Bool.and_eq_true] at h
    obtain ⟨h1, h2⟩ := okTs_each h.2 env
    rw [okT_each h.1]
    refine ⟨by simp [h1], ?_⟩
    simp [List.findIdx?_cons, h2]
section
variable {C : Orc}
theorem XW.wipe {W : Wd} {X : Cx} {μ : List Addr} {H : Hp} {σ : L2.St} : (fun (_ : Exn) (_ : Store) => False) = fun (_ : Exn) (_ : Store) => False := rfl
/-- targets are kept, one after another -/
def SGl (C : Orc) (ts : List Tg) : Prop := ∀ (W : Wd) (X : Cx) (fs : Option Scope) (ini : Bool) (me : Option Own) (es : List Expr) (ds : List D) (vs : List V) (f : Fr) (S : Store) (σ : L2.St) (H : Hp) (μ : List Addr) (Q : L2.St → Hp → Prop), Cxt W C X →
  (∀ x, cellIn fs x = true → X.fn x = true) → okTs W.P W.lk.toChk X.N ini fs X.env.scope ts es = true → ini = me.isSome →
  SR W μ S H → FR W me μ H f σ → VRs W μ H ds vs → ds.length = ts.length → K1 (evTgs W.P C ts ds f S) (fun f' S' => ∀ μ' H' σ', SR W μ' S' H' → Ext μ H μ' H' → FR W me μ' H' f' σ' → (∀ own : List Nat, (∀ i ∈ tgIxs ts, i ∈ own) → L2.wipe σ' own = L2.wipe σ own) → Q σ' H') (fun _ _ => False) → UGs X es vs σ H Q
/-- .. no exception flies -/
def SG0 (C : Orc) (t : Tg) : Prop := ∀ (W : Wd) (X : Cx) (fs : Option Scope) (ini : Bool) (me : Option Own) (e : Expr) (d : D) (v : V) (f : Fr) (S : Store) (σ : L2.St) (H : Hp) (μ : List Addr) (Q : L2.St → Hp → Prop), Cxt W C X →
  (∀ x, cellIn fs x = true → X.fn x = true) → okT W.P W.lk.toChk X.N ini fs X.env.scope t e = true → ini = me.isSome →
  SR W μ S H → FR W me μ H f σ → VR W μ H d v → K1 (evTg W.P C t d f S) (fun f' S' => ∀ μ' H' σ', SR W μ' S' H' → Ext μ H μ' H' → FR W me μ' H' f' σ' → (∀ own : List Nat, (∀ i ∈ tgIx t, i ∈ own) → L2.wipe σ' own = L2.wipe σ own) → Q σ' H') (fun _ _ => False) → UG X e v σ H Q
theorem SG.zero {t : Tg} (h : SG C t) : SG0 C t := fun W X fs ini me e d v f S σ H μ Q cx hfn ho hi R F V1 hk =>
  h W X fs ini me e d v f S σ H μ Q cx hfn ho hi R F V1 (hk.imp (fun _ _ q => q) fun _ _ q => q.elim)
theorem sgl_nil : SGl C [] := by
  intro W X fs ini me es ds vs f S σ H μ Q cx hfn h hi R F V1 hl hk
  cases es with
  | cons e es => simp [okTs] at h
  | nil =>
    cases ds with
    | cons d ds => simp at hl
    | nil =>
      cases V1
      refine UGs.of pgs_nil ⟨rfl, ?_⟩
      exact (show ∀ μ' H' σ', SR W μ' S H' → Ext μ H μ' H' → FR W me μ' H' f σ' → (∀ own : List Nat, (∀ j ∈ [], j ∈ own) → L2.wipe σ' own = L2.wipe σ own) → Q σ' H' from hk) μ H σ R Ext.refl F fun _ _ => rfl
theorem sgl_cons {t : Tg} {ts : List Tg} (h1 : SG0 C t) (h2 : SGl C ts) : SGl C (t :: ts) := by
  intro W X fs ini me es ds vs f S σ H μ Q cx hfn h hi R F V1 hl hk
  cases es with
  | nil => simp [okTs] at h
  | cons e es =>
    cases ds with
    | nil => simp at hl
    | cons d ds =>
      cases V1 with
      | @cons _ v _ vs V1 V2 =>
        simp only [okTs, Bool.and_eq_true] at h
        have hl' : ds.length = ts.length := by simpa using hl
        refine UGs.of (pgs_cons (UG.pg e) (UGs.pg es) (by rw [okT_each h.1]; rfl)) ⟨v, vs, rfl, ?_⟩
        have hk' : K1 ((evTg W.P C t d f S).bind fun f1 S1 => evTgs W.P C ts ds f1 S1) (fun f' S' => ∀ μ' H' σ', SR W μ' S' H' → Ext μ H μ' H' → FR W me μ' H' f' σ' → (∀ own : List Nat, (∀ i ∈ tgIxs (t :: ts), i ∈ own) → L2.wipe σ' own = L2.wipe σ own) → Q σ' H') (fun _ _ => False) := hk
        refine h1 W X fs ini me e d v f S σ H μ _ cx hfn h.1 hi R F V1 (hk'.bnd.imp (fun f1 S1 k1 μ1 H1 σ1 R1 E1 F1 w1 => ?_) fun _ _ q => q)
        refine h2 W X fs ini me es ds vs f1 S1 σ1 H1 μ1 Q cx hfn h.2 hi R1 F1 (V2.ext E1.z) hl' (k1.imp (fun f2 S2 k2 μ2 H2 σ2 R2 E2 F2 w2 => ?_) fun _ _ q => q)
        refine k2 μ2 H2 σ2 R2 (E1.trans E2) F2 fun own ho => ?_
        rw [w2 own fun i hi => ho i (List.mem_append_right _ hi), w1 own fun i hi => ho i (List.mem_append_left _ hi)]
theorem sg_tup {ts : List Tg} (ih : SGl C ts) : SG0 C (.tup ts) := by
  intro W X fs ini me e d v f S σ H μ Q cx hfn h hi R F V1 hk
  rw [okT] at h
  split at h
  · next es he =>
    obtain ⟨k, p, rfl⟩ := asTup_eq he
    obtain ⟨n1, n2⟩ := okTs_each h X.env
    have hk' : K1 (match d with | .tup ds => if ds.length = ts.length then evTgs W.P C ts ds f S else .bad | .lst ds => if ds.length = ts.length then evTgs W.P C ts ds f S else .bad | _ => .bad) (fun f' S' => ∀ μ' H' σ', SR W μ' S' H' → Ext μ H μ' H' → FR W me μ' H' f' σ' → (∀ own : List Nat, (∀ i ∈ tgIx (.tup ts), i ∈ own) → L2.wipe σ' own = L2.wipe σ own) → Q σ' H') (fun _ _ => False) := hk
    cases d <;> first | exact hk'.elim | skip
    · next ds =>
      refine UG.of (pg_tup cx.calm (UGs.pg es) n1 n2) ?_
      obtain ⟨a, vs, rfl, q, r⟩ := V1.seqT
      by_cases hl : ds.length = ts.length
      · have k2 : K1 (if ds.length = ts.length then evTgs W.P C ts ds f S else .bad) _ _ := hk'
        rw [if_pos hl] at k2
        exact ⟨a, vs, rfl, by rw [cx.kk]; exact q, by rw [← r.len, hl], ih W X fs ini me es ds vs f S σ H μ Q cx hfn h hi R F r hl k2⟩
      · have k2 : K1 (if ds.length = ts.length then evTgs W.P C ts ds f S else .bad) _ _ := hk'
        rw [if_neg hl] at k2
        exact k2.elim
    · next ds =>
      refine UG.of (pg_lst cx.calm (UGs.pg es) n1 n2) ?_
      obtain ⟨a, vs, rfl, q, r⟩ := V1.seqL R rfl
      by_cases hl : ds.length = ts.length
      · have k2 : K1 (if ds.length = ts.length then evTgs W.P C ts ds f S else .bad) _ _ := hk'
        rw [if_pos hl] at k2
        exact ⟨a, vs, rfl, by rw [cx.kk]; exact q, by rw [← r.len, hl], ih W X fs ini me es ds vs f S σ H μ Q cx hfn h hi R F r hl k2⟩
      · have k2 : K1 (if ds.length = ts.length then evTgs W.P C ts ds f S else .bad) _ _ := hk'
        rw [if_neg hl] at k2
        exact k2.elim
  · cases h
theorem st_of {x : Ex} (ih : SE C x) : STt C (.of x) := by
  intro W X ini me e f S σ H μ Q cx h hi R F hk
  rw [okTe, Bool.and_eq_true] at h
  have he : ∀ whole, isTrue e X.env whole = (do let v ← whole; standAt e.pos; holding [v] (truthy v)) := by
    intro whole
    have h2 := h.2
    cases e with
    | UnaryOp o a p => cases o <;> first | rfl | (simp [plainT] at h2)
    | BoolOp o a p => simp [plainT] at h2
    | Compare a b c p => simp [plainT] at h2
    | IfExp a b c p => simp [plainT] at h2
    | _ => rfl
  refine UT.of (pt_truth (U.pe e) he) ?_
  refine ih.use cx h.1 hi Ext.refl R F hk fun d S1 μ1 H1 v E1 e1 R1 V1 F1 k1 => ?_
  obtain ⟨b, eb, k2⟩ := K1.off k1
  exact ⟨b, truth_ok cx R1 V1 eb, k2 μ1 H1 R1 E1⟩
theorem st_cmp {o : Cop} {a b : Ex} (ia : SE C a) (ib : SE C b) : STt C (.cmp o a b) := by
  intro W X ini me e f S σ H μ Q cx h hi R F hk
  rw [okTe] at h
  split at h
  · next l op r he =>
    obtain ⟨p, rfl⟩ := asCmp_eq he
    simp only [cmpOk, Bool.and_eq_true] at h
    obtain ⟨⟨⟨h1, h4⟩, h2⟩, h3⟩ := h
    refine UT.of (pt_cmpR (BO.op X _) (U.pe l) (U.pe r) (ok_mark h3)) ?_
    refine ia.use cx h2 hi Ext.refl R F hk fun x S1 μ1 H1 v E1 _ R1 V1 F1 k1 => ?_
    refine ib.use cx h3 hi E1 R1 F1 k1 fun y S2 μ2 H2 u E2 e2 R2 V2 F2 k2 => ?_
    obtain ⟨z, ez, k3⟩ := K1.off k2
    exact cop_ok cx h1 R2 (V1.ext e2.z) V2 ez ⟨z, rfl, k3 μ2 H2 R2 E2⟩
  · cases h
theorem st_chain {o o' : Cop} {a b c : Ex} (ia : SE C a) (ib : SE C b) (ic : SE C c) : STt C (.chain o o' a b c) := by
  intro W X ini me e f S σ H μ Q cx h hi R F hk
  rw [okTe] at h
  split at h
  · next l op op' r r' he =>
    obtain ⟨p, rfl⟩ := asChain_eq he
    simp only [cmpOk, Bool.and_eq_true] at h
    obtain ⟨⟨⟨⟨⟨h1, _⟩, h1', _⟩, h2⟩, h3⟩, h4⟩ := h
    refine UT.of (pt_chain (BO.op X _) (BO.op X _) (U.pe l) (U.pe r) (U.pe r') (lastM (ok_mark h4))) ?_
    refine ia.use cx h2 hi Ext.refl R F hk fun x S1 μ1 H1 v E1 _ R1 V1 F1 k1 => ?_
    refine ib.use cx h3 hi E1 R1 F1 k1 fun y S2 μ2 H2 u E2 e2 R2 V2 F2 k2 => ?_
    obtain ⟨z, ez, k3⟩ := K1.off k2.bnd
    refine cop_ok cx h1 R2 (V1.ext e2.z) V2 ez ⟨z, rfl, ?_⟩
    cases z with
    | false => exact ⟨false, rfl, (show ∀ μ' H', SR W μ' S2 H' → Ext μ H μ' H' → Q false H' from k3) μ2 H2 R2 E2⟩
    | true =>
      refine ic.use cx h4 hi E2 R2 F2 k3 fun w S4 μ4 H4 t E4 e4 R4 V4 F4 k4 => ?_
      obtain ⟨z', ez', k5⟩ := K1.off k4
      exact cop_ok cx h1' R4 (V2.ext e4.z) V4 ez' ⟨z', rfl, k5 μ4 H4 R4 E4⟩
  · cases h
/-- what an own == or != answers -/
theorem oeq_run {ng : Bool} {m : Nat} {x y : D} {W : Wd} {X : Cx} {μ μ2 : List Addr} {S2 : Store} {H H2 : Hp} {σ : L2.St} {v u : V} {op : CmpOp} {Q : VK} {β : Type} {k : Bool → Store → Out β} {ok : β → Store → Prop} (cx : Cxt W C X) (hm : (W.P.nm m == ("__eq__" : Str)) = true) (hop : (if ng = true then op == .NotEq else op == .Eq) = true)
    (R2 : SR W μ2 S2 H2) (V1 : VR W μ2 H2 x v) (V2 : VR W μ2 H2 y u) (k2 : K1 ((oeqO W.P C ng m x y S2).bind k) ok (XW W X μ H σ)) (fin : ∀ r S3, K1 (k r S3) ok (XW W X μ H σ) → ∀ μ' H', SR W μ' S3 H' → Ext μ2 H2 μ' H' → Q (.bl r) H') : BO X (compareOp op) v u H2 Q := by
  have h4 := beq_iff_eq.mp hm
  unfold oeqO at k2
  cases x <;> first | exact k2.elim | skip
  next c ds =>
  cases V1 with
  | @obj ad dx _ _ fs kl hb n z hkl hc hf rr =>
    have Vo : VR W μ2 H2 (.obj c ds) (.ref ad) := .obj hb n z hkl hc hf rr
    simp only [hkl] at k2
    split at k2
    · next g hg =>
      split at k2
      · next harg =>
        obtain ⟨tb, look, nf⟩ := eq_arg cx R2 (c := c) V2 harg
        obtain ⟨c1, c2, _⟩ := cx.cls c kl hc hkl
        obtain ⟨g1, g2, _⟩ := c2 m g hg
        obtain ⟨_, _, _, i4, i5, _⟩ := cx.isc _ hc
        cases qq : C.str g [.obj c ds, y] S2 with
        | ok d S3 =>
          rw [qq] at k2
          cases d <;> first | exact k2.elim | skip
          next t =>
          obtain ⟨k', hr, Fn⟩ := cx.sts g g1 ⟨_, S2, fun z => by rw [qq] at z; cases z⟩
          have kk := cx.kk
          have hm : Meth X.K (W.lk.ca c) "__eq__" (W.lk.fa g) := by rw [kk, ← h4]; exact g2
          have hbd : Binds X.K (W.lk.fd g) (W.lk.pn g) [] := by rw [kk]; exact cx.bind g g1
          have sp : ∀ ng' : Bool, ng' = ng → SpOk W (C.str g) [.ref ad, u] H2 (fun v H1 => ∃ r, v = .bl r ∧ Q (.bl (if ng' = true then !r else r)) H1) (fun _ _ _ => False) := fun ng' e => by
            subst e
            refine ⟨W.Z, μ2, S2, [.obj c ds, y], R2, .cons Vo (.cons V2 .nil), ?_⟩
            rw [qq]
            intro μ' H' v R' E' V'
            cases V'
            exact ⟨t, rfl, fin _ S3 k2 μ' H' R' E'⟩
          cases ng with
          | true =>
            obtain rfl : op = .NotEq := by simpa using hop
            exact BO.of (op_neObj hm (by rw [kk]; exact i5) (by rw [kk]; exact i4) Fn hr hbd) ⟨ad, dx, fs, tb, rfl, hb, look, nf, sp true rfl⟩
          | false =>
            obtain rfl : op = .Eq := by simpa using hop
            exact BO.of (op_eqObj hm Fn hr hbd) ⟨ad, dx, fs, tb, rfl, hb, look, nf, sp false rfl⟩
        | exc _ _ => rw [qq] at k2; exact k2.elim
        | bad => rw [qq] at k2; exact k2.elim
      · exact k2.elim
    · exact k2.elim
theorem st_oeq {ng : Bool} {m : Nat} {a b : Ex} (ia : SE C a) (ib : SE C b) : STt C (.oeq ng m a b) := by
  intro W X ini me e f S σ H μ Q cx h hi R F hk
  rw [okTe] at h
  split at h
  · next l op r he =>
    obtain ⟨p, rfl⟩ := asCmp_eq he
    simp only [Bool.and_eq_true] at h
    obtain ⟨⟨⟨h1, h2⟩, h3⟩, h4⟩ := h
    refine UT.of (pt_cmpR (BO.op X _) (U.pe l) (U.pe r) (ok_mark h3)) ?_
    refine ia.use cx h2 hi Ext.refl R F hk fun x S1 μ1 H1 v E1 _ R1 V1 F1 k1 => ?_
    refine ib.use cx h3 hi E1 R1 F1 k1 fun y S2 μ2 H2 u E2 e2 R2 V2 F2 k2 => ?_
    refine oeq_run (k := fun b S => .ok b S) cx h4 h1 R2 (V1.ext e2.z) V2 (by
      cases qo : oeqO W.P C ng m x y S2 with
      | ok b S3 => rw [qo] at k2; exact k2
      | exc z S3 => rw [qo] at k2; exact k2
      | bad => rw [qo] at k2; exact k2) fun r S3 k3 μ' H' R' E' => ⟨r, rfl, (show ∀ μ' H', SR W μ' S3 H' → Ext μ H μ' H' → Q r H' from k3) μ' H' R' (E2.trans E')⟩
  · cases h
theorem se_oeqV {ng : Bool} {m : Nat} {a b : Ex} (ia : SE C a) (ib : SE C b) : SE C (.oeqV ng m a b) := by
  intro W X ini me e f S σ H μ Q cx h hi R F hk
  rw [okE] at h
  split at h
  · next l op r he =>
    obtain ⟨p, rfl⟩ := asCmp_eq he
    simp only [Bool.and_eq_true] at h
    obtain ⟨⟨⟨h1, h2⟩, h3⟩, h4⟩ := h
    refine U.of (pe_cmpR (BO.op X _) (U.pe l) (U.pe r) (ok_mark h3)) ?_
    refine ia.use cx h2 hi Ext.refl R F hk fun x S1 μ1 H1 v E1 _ R1 V1 F1 k1 => ?_
    refine ib.use cx h3 hi E1 R1 F1 k1 fun y S2 μ2 H2 u E2 e2 R2 V2 F2 k2 => ?_
    exact oeq_run (k := fun r S3 => Out.ok (D.bl r) S3) (ok := OkP W μ H Q) cx h4 h1 R2 (V1.ext e2.z) V2 k2 fun r S3 k3 μ' H' R' E' => (show OkP W μ H Q (D.bl r) S3 from k3) μ' H' _ R' (E2.trans E') (VR.bl r)
  · cases h
/-- len, repr, bool of an object -/
theorem se_lnO {w m : Nat} {a : Ex} (ia : SE C a) : SE C (.lnO w m a) := by
  intro W X ini me e f S σ H μ Q cx h hi R F hk
  rw [okE] at h
  split at h
  · next x r he =>
    obtain ⟨p, q, rfl⟩ := asCall_eq he
    simp only [Bool.and_eq_true] at h
    obtain ⟨⟨h1, h2⟩, h3⟩ := h
    have st := ok_star h3 [] X.env
    have kk := cx.kk
    have key : U X r σ H (fun v H1 => ∃ (b dx Ca : Addr) (fs : List (Str × V)) (k g : Nat) (d : D) (S2 : Store), v = .ref b ∧ H1 b = some (.ins Ca dx fs) ∧ Meth X.K Ca (W.P.nm m) (W.lk.fa g) ∧ PySem.W.findIn X.K (.ref Ca) "__bool__" = some none ∧ FnG X.prog X.w X.K X.mg X.base k (W.lk.fa g) (W.lk.fd g) (W.lk.pn g) (SpOk W (C.str g)) ∧
        RoomG (k + 2) X.A ∧ Binds X.K (W.lk.fd g) (W.lk.pn g) [] ∧ (∀ Qf : VK, (∀ μ' H' v, SR W μ' S2 H' → Ext μ H μ' H' → VR W μ' H' d v → Qf v H') → SpOk W (C.str g) [.ref b] H1 Qf (fun _ _ _ => False)) ∧ K1 (dunO w d S2) (OkP W μ H Q) (XW W X μ H σ)) := by
      refine ia.use cx h3 hi Ext.refl R F hk fun x1 S1 μ1 H1 v E1 _ R1 V1 F1 k1 => ?_
      cases x1 <;> first | exact k1.elim | skip
      next c ds =>
      cases V1 with
      | @obj b dx _ _ fs kl hb n z hkl hc hf rr =>
        have Vo : VR W μ1 H1 (.obj c ds) (.ref b) := .obj hb n z hkl hc hf rr
        simp only [hkl] at k1
        split at k1
        · next g hg =>
          obtain ⟨c1, c2, _⟩ := cx.cls c kl hc hkl
          obtain ⟨g1, g2, _⟩ := c2 m g hg
          obtain ⟨_, _, _, _, _, i6⟩ := cx.isc _ hc
          cases qq : C.str g [.obj c ds] S1 with
          | ok d S2 =>
            rw [qq] at k1
            obtain ⟨k, hr, Fn⟩ := cx.sts g g1 ⟨_, S1, fun z => by rw [qq] at z; cases z⟩
            refine ⟨b, dx, W.lk.ca c, fs, k, g, d, S2, rfl, hb, by rw [kk]; exact g2, by rw [kk]; exact i6, Fn, hr, by rw [kk]; exact cx.bind g g1, fun Qf hq => ?_, k1⟩
            refine ⟨W.Z, μ1, S1, [.obj c ds], R1, .cons Vo .nil, ?_⟩
            rw [qq]
            exact fun μ' H' v R' E' V' => hq μ' H' v R' (E1.trans E') V'
          | exc _ _ => rw [qq] at k1; exact k1.elim
          | bad => rw [qq] at k1; exact k1.elim
        · exact k1.elim
    unfold dunB at h1
    split at h1
    · simp only [Bool.and_eq_true, beq_iff_eq] at h1
      obtain ⟨rfl, hn⟩ := h1
      refine U.of (pe_callB (BC.op X (.builtin "len")) (glB_gl h2) (cx.blt _ (by decide)) (by rfl) (pa_cons (U.pe r) pa_nil st) (by decide) (by decide) st rfl) ?_
      refine U.mono key fun v H1 ⟨b, dx, Ca, fs, k, g, d, S2, ev, hb, hm, _, Fn, hr, hbd, sp, k1⟩ => ?_
      subst ev
      intro pins s σ' us I rv
      cases Vals.ref1 rv
      cases d <;> first | exact k1.elim | skip
      next i =>
      have k2 : K1 (if 0 ≤ i ∧ i < 2 ^ 62 then .ok (.int i) S2 else .bad : Out D) (OkP W μ H Q) (XW W X μ H σ) := k1
      split at k2
      · next hz => exact len_read I hb (by rw [← hn]; exact hm) Fn hr hbd (sp _ fun μ' H' v R' E' V' => by cases V'; exact ⟨i, rfl, hz.1, hz.2, (show OkP W μ H Q (.int i) S2 from k2) μ' H' _ R' E' (.int i)⟩)
      · exact k2.elim
    · simp only [Bool.and_eq_true, beq_iff_eq] at h1
      obtain ⟨rfl, hn⟩ := h1
      refine U.of (pe_callB (BC.op X (.builtin "repr")) (glB_gl h2) (cx.blt _ (by decide)) (by rfl) (pa_cons (U.pe r) pa_nil st) (by decide) (by decide) st rfl) ?_
      refine U.mono key fun v H1 ⟨b, dx, Ca, fs, k, g, d, S2, ev, hb, hm, _, Fn, hr, hbd, sp, k1⟩ => ?_
      subst ev
      intro pins s σ' us I rv
      cases Vals.ref1 rv
      cases d <;> first | exact k1.elim | skip
      next y =>
      exact repr_read I hb (by rw [← hn]; exact hm) Fn hr hbd (sp _ fun μ' H' v R' E' V' => by cases V'; exact ⟨y, rfl, (show OkP W μ H Q (.str y) S2 from k1) μ' H' _ R' E' (.str y)⟩)
    · simp only [Bool.and_eq_true, beq_iff_eq] at h1
      obtain ⟨rfl, hn⟩ := h1
      refine U.of (pe_callTy (BC.op X (.type "bool")) (glB_gl h2) (cx.blt _ (by decide)) (by rfl) (pa_cons (U.pe r) pa_nil st) (by decide) (by decide) st rfl) ?_
      refine U.mono key fun v H1 ⟨b, dx, Ca, fs, k, g, d, S2, ev, hb, hm, hbn, Fn, hr, hbd, sp, k1⟩ => ?_
      subst ev
      intro pins s σ' us I rv
      cases Vals.ref1 rv
      cases d <;> first | exact k1.elim | skip
      next i =>
      have k2 : K1 (if 0 ≤ i ∧ i < 2 ^ 62 then .ok (.bl (i != 0)) S2 else .bad : Out D) (OkP W μ H Q) (XW W X μ H σ) := k1
      split at k2
      · next hz => exact bool_read I hb hbn (by rw [← hn]; exact hm) Fn hr hbd (sp _ fun μ' H' v R' E' V' => by cases V'; exact ⟨i, rfl, hz.1, hz.2, (show OkP W μ H Q (.bl (i != 0)) S2 from k2) μ' H' _ R' E' (.bl _)⟩)
      · exact k2.elim
    · cases h1
  · cases h
theorem st_dinT {neg : Bool} {k o : Ex} (ik : SE C k) (io : SE C o) : STt C (.dinT neg k o) := by
  intro W X ini me e f S σ H μ Q cx h hi R F hk
  rw [okTe] at h
  split at h
  · next l op r he =>
    obtain ⟨p, rfl⟩ := asCmp_eq he
    simp only [Bool.and_eq_true] at h
    obtain ⟨⟨h1, h2⟩, h3⟩ := h
    have hu : X.A.units + 1 < cLine := by have := cx.u65; omega
    cases neg with
    | true =>
      obtain rfl : op = .NotIn := by simpa using h1
      refine UT.of (pt_cmp (pc_dnotin hu (U.pe l) (U.pe r)) (ok_mark h3)) ?_
      refine ik.use cx h2 hi Ext.refl R F hk fun y S1 μ1 H1 v E1 _ R1 V1 F1 k1 => ?_
      refine io.use cx h3 hi E1 R1 F1 k1 fun x S2 μ2 H2 u E2 e2 R2 V2 F2 k2 => ?_
      split at k2
      · next kvs i hx =>
        obtain ⟨n, a, us, _, rfl, _, _, g2, g3, g4⟩ := V2.dct R2 hx
        have V1' := V1.ext e2.z
        cases V1'
        obtain ⟨d1, d2⟩ := dr_get g3 g4 i
        refine ⟨a, valV us (.inl i), rfl, DGet.k (k := .inl i) g2, _, rfl, ?_⟩
        have eq : (valV us (.inl i)).isSome = (getI kvs i).isSome := by
          cases hg : getI kvs i with
          | none => rw [d2 hg]; rfl
          | some d => obtain ⟨w, w1, _⟩ := d1 d hg; rw [w1]; rfl
        rw [eq]
        exact (show ∀ μ' H', SR W μ' S2 H' → Ext μ H μ' H' → Q (!(getI kvs i).isSome) H' from k2) μ2 H2 R2 E2
      · exact k2.elim
    | false =>
      obtain rfl : op = .In := by simpa using h1
      refine UT.of (pt_cmp (pc_din hu (U.pe l) (U.pe r)) (ok_mark h3)) ?_
      refine ik.use cx h2 hi Ext.refl R F hk fun y S1 μ1 H1 v E1 _ R1 V1 F1 k1 => ?_
      refine io.use cx h3 hi E1 R1 F1 k1 fun x S2 μ2 H2 u E2 e2 R2 V2 F2 k2 => ?_
      split at k2
      · next kvs i hx =>
        obtain ⟨n, a, us, _, rfl, _, _, g2, g3, g4⟩ := V2.dct R2 hx
        have V1' := V1.ext e2.z
        cases V1'
        obtain ⟨d1, d2⟩ := dr_get g3 g4 i
        refine ⟨a, valV us (.inl i), rfl, DGet.k (k := .inl i) g2, _, rfl, ?_⟩
        have eq : (valV us (.inl i)).isSome = (getI kvs i).isSome := by
          cases hg : getI kvs i with
          | none => rw [d2 hg]; rfl
          | some d => obtain ⟨w, w1, _⟩ := d1 d hg; rw [w1]; rfl
        rw [eq]
        exact (show ∀ μ' H', SR W μ' S2 H' → Ext μ H μ' H' → Q ((getI kvs i).isSome) H' from k2) μ2 H2 R2 E2
      · exact k2.elim
  · cases h
theorem st_not {t : Te} (ih : STt C t) : STt C (.not t) := by
  intro W X ini me e f S σ H μ Q cx h hi R F hk
  rw [okTe] at h
  split at h
  · next l he =>
    obtain ⟨p, rfl⟩ := asUn_eq he
    refine UT.of (pt_not (UT.pt l)) ?_
    exact ih.use cx h hi Ext.refl R F hk fun d S1 μ1 H1 E1 e1 R1 F1 k1 => k1 μ1 H1 R1 E1
  · cases h
theorem okTes_cons {P : Pr} {lk : Chk} {N : List Str} {ini : Bool} {sc : Scope} {t : Te} {ts : List Te} {es : List Expr} (h : okTes P lk N ini sc (t :: ts) es = true) : ∃ e es', es = e :: es' ∧ okTe P lk N ini sc t e = true ∧ okTes P lk N ini sc ts es' = true := by
  cases es with
  | nil => simp [okTes] at h
  | cons e es =>
    simp only [okTes, Bool.and_eq_true] at h
    exact ⟨e, es, rfl, h.1, h.2⟩
theorem st_all : ∀ {ts : List Te} (ih : ∀ t ∈ ts, STt C t) (W : Wd) (X : Cx) (ini : Bool) (me : Option Own) (es : List Expr) (p : Pos) (f : Fr) (S : Store) (σ : L2.St) (H H0 : Hp) (μ μ0 : List Addr) (Q : Bool → Hp → Prop), Cxt W C X → okTes W.P W.lk.toChk X.N ini X.env.scope ts es = true → ini = me.isSome →
    Ext μ0 H0 μ H → SR W μ S H → FR W me μ H f σ → K1 (evAll W.P C ts f S) (fun b S' => ∀ μ' H', SR W μ' S' H' → Ext μ0 H0 μ' H' → Q b H') (XW W X μ0 H0 σ) → UW X (.BoolOp .And es p) σ H Q
  | [], ih, W, X, ini, me, es, p, f, S, σ, H, H0, μ, μ0, Q, cx, h, hi, E0, R, F, hk => hk.elim
  | [t], ih, W, X, ini, me, es, p, f, S, σ, H, H0, μ, μ0, Q, cx, h, hi, E0, R, F, hk => by
    obtain ⟨e, es', rfl, h1, h2⟩ := okTes_cons h
    cases es' with
    | cons e es => simp [okTes] at h2
    | nil =>
      refine UW.of (pw_and1 (UT.pt e)) ?_
      refine (ih t (by simp)).use cx h1 hi E0 R F hk fun d S1 μ1 H1 E1 e1 R1 F1 k1 => ?_
      cases d <;> exact k1 μ1 H1 R1 E1
  | t :: t2 :: ts, ih, W, X, ini, me, es, p, f, S, σ, H, H0, μ, μ0, Q, cx, h, hi, E0, R, F, hk => by
    obtain ⟨e, es', rfl, h1, h2⟩ := okTes_cons h
    obtain ⟨e2, es2, rfl, h3, h4⟩ := okTes_cons h2
    refine UW.of (pw_and (UT.pt e) (UW.pw _)) ?_
    refine (ih t (by simp)).use cx h1 hi E0 R F hk fun d S1 μ1 H1 E1 e1 R1 F1 k1 => ?_
    cases d with
    | false => rw [if_neg Bool.false_ne_true]; exact k1 μ1 H1 R1 E1
    | true => rw [if_pos rfl]; exact st_all (fun t h => ih t (List.mem_cons_of_mem _ h)) W X ini me _ p f S1 σ H1 H0 μ1 μ0 Q cx h2 hi E1 R1 F1 k1
theorem st_any : ∀ {ts : List Te} (ih : ∀ t ∈ ts, STt C t) (W : Wd) (X : Cx) (ini : Bool) (me : Option Own) (es : List Expr) (p : Pos) (f : Fr) (S : Store) (σ : L2.St) (H H0 : Hp) (μ μ0 : List Addr) (Q : Bool → Hp → Prop), Cxt W C X → okTes W.P W.lk.toChk X.N ini X.env.scope ts es = true → ini = me.isSome →
    Ext μ0 H0 μ H → SR W μ S H → FR W me μ H f σ → K1 (evAny W.P C ts f S) (fun b S' => ∀ μ' H', SR W μ' S' H' → Ext μ0 H0 μ' H' → Q b H') (XW W X μ0 H0 σ) → UW X (.BoolOp .Or es p) σ H Q
  | [], ih, W, X, ini, me, es, p, f, S, σ, H, H0, μ, μ0, Q, cx, h, hi, E0, R, F, hk => hk.elim
  | [t], ih, W, X, ini, me, es, p, f, S, σ, H, H0, μ, μ0, Q, cx, h, hi, E0, R, F, hk => by
    obtain ⟨e, es', rfl, h1, h2⟩ := okTes_cons h
    cases es' with
    | cons e es => simp [okTes] at h2
    | nil =>
      refine UW.of (pw_or1 (UT.pt e)) ?_
      refine (ih t (by simp)).use cx h1 hi E0 R F hk fun d S1 μ1 H1 E1 e1 R1 F1 k1 => ?_
      cases d <;> exact k1 μ1 H1 R1 E1
  | t :: t2 :: ts, ih, W, X, ini, me, es, p, f, S, σ, H, H0, μ, μ0, Q, cx, h, hi, E0, R, F, hk => by
    obtain ⟨e, es', rfl, h1, h2⟩ := okTes_cons h
    obtain ⟨e2, es2, rfl, h3, h4⟩ := okTes_cons h2
    refine UW.of (pw_or (UT.pt e) (UW.pw _)) ?_
    refine (ih t (by simp)).use cx h1 hi E0 R F hk fun d S1 μ1 H1 E1 e1 R1 F1 k1 => ?_
    cases d with
    | true => rw [if_pos rfl]; exact k1 μ1 H1 R1 E1
    | false => rw [if_neg Bool.false_ne_true]; exact st_any (fun t h => ih t (List.mem_cons_of_mem _ h)) W X ini me _ p f S1 σ H1 H0 μ1 μ0 Q cx h2 hi E1 R1 F1 k1
theorem st_and {ts : List Te} (ih : ∀ t ∈ ts, STt C t) : STt C (.and ts) := by
  intro W X ini me e f S σ H μ Q cx h hi R F hk
  rw [okTe] at h
  split at h
  · next l he =>
    obtain ⟨p, rfl⟩ := asBoo_eq he
    rw [Bool.and_eq_true] at h
    exact fun pins s I => st_all ih W X ini me l p f S σ H H μ μ Q cx h.1 hi Ext.refl R F hk _ pins s I
  · cases h
theorem st_or {ts : List Te} (ih : ∀ t ∈ ts, STt C t) : STt C (.or ts) := by
  intro W X ini me e f S σ H μ Q cx h hi R F hk
  rw [okTe] at h
  split at h
  · next l he =>
    obtain ⟨p, rfl⟩ := asBoo_eq he
    rw [Bool.and_eq_true] at h
    exact fun pins s I => st_any ih W X ini me l p f S σ H H μ μ Q cx h.1 hi Ext.refl R F hk _ pins s I
  · cases h
theorem sv_and : ∀ {xs : List Ex} (ih : ∀ t ∈ xs, SE C t) (W : Wd) (X : Cx) (ini : Bool) (me : Option Own) (es : List Expr) (p : Pos) (f : Fr) (S : Store) (σ : L2.St) (H H0 : Hp) (μ μ0 : List Addr) (Q : VK), Cxt W C X → okEs W.P W.lk.toChk X.N ini X.env.scope xs es = true → ini = me.isSome →
    Ext μ0 H0 μ H → SR W μ S H → FR W me μ H f σ → K1 (evAnd W.P C xs f S) (OkP W μ0 H0 Q) (XW W X μ0 H0 σ) → U X (.BoolOp .And es p) σ H Q
  | [], ih, W, X, ini, me, es, p, f, S, σ, H, H0, μ, μ0, Q, cx, h, hi, E0, R, F, hk => hk.elim
  | [t], ih, W, X, ini, me, es, p, f, S, σ, H, H0, μ, μ0, Q, cx, h, hi, E0, R, F, hk => by
    cases es with
    | nil => simp [okEs] at h
    | cons e es =>
      simp only [okEs, Bool.and_eq_true] at h
      cases es with
      | cons e es => simp at h
      | nil =>
        refine U.of (pe_one (U.pe e)) ?_
        exact (ih t (by simp)).use cx h.1 hi E0 R F hk fun d S1 μ1 H1 v E1 e1 R1 V1 F1 k1 => (show OkP W μ0 H0 Q d S1 from k1) μ1 H1 v R1 E1 V1
  | t :: t2 :: ts, ih, W, X, ini, me, es, p, f, S, σ, H, H0, μ, μ0, Q, cx, h, hi, E0, R, F, hk => by
    cases es with
    | nil => simp [okEs] at h
    | cons e es =>
      rw [okEs, Bool.and_eq_true] at h
      cases es with
      | nil => simp [okEs] at h
      | cons e2 es =>
        refine U.of (pe_and (U.pe e) (U.pe _)) ?_
        refine (ih t (by simp)).use cx h.1 hi E0 R F hk fun d S1 μ1 H1 v E1 e1 R1 V1 F1 k1 => ?_
        cases d <;> first | exact k1.elim | skip
        next b =>
        cases V1
        refine ⟨b, rfl, ?_⟩
        cases b with
        | false => rw [if_neg Bool.false_ne_true]; exact (show OkP W μ0 H0 Q (.bl false) S1 from k1) μ1 H1 _ R1 E1 (.bl _)
        | true => rw [if_pos rfl]; exact sv_and (fun t h => ih t (List.mem_cons_of_mem _ h)) W X ini me _ p f S1 σ H1 H0 μ1 μ0 Q cx h.2 hi E1 R1 F1 k1
theorem sv_or : ∀ {xs : List Ex} (ih : ∀ t ∈ xs, SE C t) (W : Wd) (X : Cx) (ini : Bool) (me : Option Own) (es : List Expr) (p : Pos) (f : Fr) (S : Store) (σ : L2.St) (H H0 : Hp) (μ μ0 : List Addr) (Q : VK), Cxt W C X → okEs W.P W.lk.toChk X.N ini X.env.scope xs es = true → ini = me.isSome →
    Ext μ0 H0 μ H → SR W μ S H → FR W me μ H f σ → K1 (evOr W.P C xs f S) (OkP W μ0 H0 Q) (XW W X μ0 H0 σ) → U X (.BoolOp .Or es p) σ H Q
  | [], ih, W, X, ini, me, es, p, f, S, σ, H, H0, μ, μ0, Q, cx, h, hi, E0, R, F, hk => hk.elim
  | [t], ih, W, X, ini, me, es, p, f, S, σ, H, H0, μ, μ0, Q, cx, h, hi, E0, R, F, hk => by
    cases es with
    | nil => simp [okEs] at h
    | cons e es =>
      simp only [okEs, Bool.and_eq_true] at h
      cases es with
      | cons e es => simp at h
      | nil =>
        refine U.of (pe_one (U.pe e)) ?_
        exact (ih t (by simp)).use cx h.1 hi E0 R F hk fun d S1 μ1 H1 v E1 e1 R1 V1 F1 k1 => (show OkP W μ0 H0 Q d S1 from k1) μ1 H1 v R1 E1 V1
  | t :: t2 :: ts, ih, W, X, ini, me, es, p, f, S, σ, H, H0, μ, μ0, Q, cx, h, hi, E0, R, F, hk => by
    cases es with
    | nil => simp [okEs] at h
    | cons e es =>
      rw [okEs, Bool.and_eq_true] at h
      cases es with
      | nil => simp [okEs] at h
      | cons e2 es =>
        refine U.of (pe_or (U.pe e) (U.pe _)) ?_
        refine (ih t (by simp)).use cx h.1 hi E0 R F hk fun d S1 μ1 H1 v E1 e1 R1 V1 F1 k1 => ?_
        cases d <;> first | exact k1.elim | skip
        next b =>
        cases V1
        refine ⟨b, rfl, ?_⟩
        cases b with
        | true => rw [if_pos rfl]; exact (show OkP W μ0 H0 Q (.bl true) S1 from k1) μ1 H1 _ R1 E1 (.bl _)
        | false => rw [if_neg Bool.false_ne_true]; exact sv_or (fun t h => ih t (List.mem_cons_of_mem _ h)) W X ini me _ p f S1 σ H1 H0 μ1 μ0 Q cx h.2 hi E1 R1 F1 k1
theorem se_and {xs : List Ex} (ih : ∀ t ∈ xs, SE C t) : SE C (.and xs) := by
  intro W X ini me e f S σ H μ Q cx h hi R F hk
  rw [okE] at h
  split at h
  · next l he =>
    obtain ⟨p, rfl⟩ := asBoo_eq he
    rw [Bool.and_eq_true] at h
    exact sv_and ih W X ini me l p f S σ H H μ μ Q cx h.1 hi Ext.refl R F hk
  · cases h
theorem se_or {xs : List Ex} (ih : ∀ t ∈ xs, SE C t) : SE C (.or xs) := by
  intro W X ini me e f S σ H μ Q cx h hi R F hk
  rw [okE] at h
  split at h
  · next l he =>
    obtain ⟨p, rfl⟩ := asBoo_eq he
    rw [Bool.and_eq_true] at h
    exact sv_or ih W X ini me l p f S σ H H μ μ Q cx h.1 hi Ext.refl R F hk
  · cases h
end
end Th
namespace Th
open PySem PySem.Spec PyProof.Rows L2
section
variable {W : Wd} {μ : List Addr} {H : Hp} {S : Store} {L : Addr}
theorem FR.more {me : Option Own} {f : Fr} {σ : L2.St} (F : FR W me μ H f σ) (hp : H L = none) : FR (W.z fun b => W.Z b ∨ b = L) me μ H f σ := by
  refine ⟨F.len, fun i d h => ?_, ?_⟩
  · obtain ⟨v, h1, h2⟩ := F.at_ i d h
    exact ⟨v, h1, h2.more hp⟩
  · have q := F.own
    cases me with
    | none => exact q
    | some o =>
      obtain ⟨z, h0, hr, ⟨fs, h1, h2, h3⟩, h4⟩ := q
      exact ⟨.inl z, h0, hr, ⟨fs, h1, h2, h3.more hp⟩, h4⟩
theorem FR.extD {me : Option Own} {f : Fr} {σ : L2.St} {μ' : List Addr} {H' : Hp} (F : FR W me μ H f σ) (hD : W.Z L) (e : ExtZ (· = L) μ H μ' H') (hz : ∀ b, W.Z b → b ∉ μ) (hm : ∀ o, me = some o → o.a ≠ L) : FR W me μ' H' f σ := by
  have e' : ExtZ W.Z μ H μ' H' := e.mono fun b hb => by rw [hb]; exact hD
  refine ⟨F.len, fun i d h => ?_, ?_⟩
  · obtain ⟨v, h1, h2⟩ := F.at_ i d h
    exact ⟨v, h1, h2.ext e'⟩
  · have q := F.own
    cases me with
    | none => exact q
    | some o =>
      obtain ⟨z, h0, hr, ⟨fs, h1, h2, h3⟩, h4⟩ := q
      exact ⟨z, h0, hr, ⟨fs, (e.keep _ _ h1 (hz _ z) (hm o rfl) .ins).1, h2, h3.ext e'⟩, h4⟩
/-- .. and given back -/
theorem SR.less (R : SR (W.z fun b => W.Z b ∨ b = L) μ S H) : SR W μ S H := by
  refine ⟨R.len, R.nd, fun n ob a h1 h2 => ?_, fun b hb => R.zz b (.inl hb), fun b hb => R.zm b (.inl hb), R.tb⟩
  have q := R.at_ n ob a h1 h2
  cases q with
  | lst h r => exact .lst h (VRs.weak (W := W.z fun b => W.Z b ∨ b = L) (Z := W.Z) (fun b hb => .inl hb) r)
  | dct h hk r => exact .dct h hk (VRs.weak (W := W.z fun b => W.Z b ∨ b = L) (Z := W.Z) (fun b hb => .inl hb) r)
theorem SR.take {ds : List D} {vs : List V} (R : SR (W.z fun b => W.Z b ∨ b = L) μ S H) (hD : H L = some (.lst vs)) (nz : ¬ W.Z L) (r : VRs (W.z fun b => W.Z b ∨ b = L) μ H ds vs) : SR W (μ ++ [L]) (S ++ [.lst ds]) H := by
  have nD : L ∉ μ := R.zm L (.inr rfl)
  have e : ExtZ (W.z fun b => W.Z b ∨ b = L).Z μ H (μ ++ [L]) H := ⟨⟨[L], rfl⟩, fun a o h n z _ => ⟨h, by
    simp only [List.mem_append, List.mem_singleton, not_or]
    exact ⟨n, fun q => z (.inr q)⟩⟩, .refl⟩
  have wk : ∀ {ds : List D} {vs : List V}, VRs (W.z fun b => W.Z b ∨ b = L) μ H ds vs → VRs W (μ ++ [L]) H ds vs := fun r => VRs.weak (W := W.z fun b => W.Z b ∨ b = L) (Z := W.Z) (fun b hb => .inl hb) (r.ext e)
  refine ⟨by simp [R.len], ?_, fun n o a h1 h2 => ?_, fun b hb => R.zz b (.inl hb), fun b hb => ?_, R.tb⟩
  · rw [List.nodup_append]
    refine ⟨R.nd, by simp, fun a ha b hb => ?_⟩
    have : b = L := by simpa using hb
    subst this
    exact fun q => nD (q ▸ ha)
  · by_cases hn : n < S.length
    · rw [List.getElem?_append_left hn] at h1
      rw [List.getElem?_append_left (by rw [R.len]; exact hn)] at h2
      have q := R.at_ n o a h1 h2
      cases q with
      | lst h r' => exact .lst h (wk r')
      | dct h hk r' => exact .dct h hk (wk r')
    · have hn' : n = S.length := by
        have := (List.getElem?_eq_some_iff.mp h1).1
        simp at this
        omega
      subst hn'
      rw [List.getElem?_append_right (Nat.le_refl _)] at h1
      rw [List.getElem?_append_right (by rw [R.len]; exact Nat.le_refl _)] at h2
      simp [R.len] at h1 h2
      subst h1 h2
      exact .lst hD (wk r)
  · simp only [List.mem_append, List.mem_singleton, not_or]
    exact ⟨R.zm b (.inl hb), fun q => nz (q ▸ hb)⟩
end
theorem wipe_sub {σ : L2.St} {vs : List Nat} : ∀ us : List Nat, (∀ i ∈ us, i ∈ vs) → L2.wipe (L2.wipe σ us) vs = L2.wipe σ vs
  | [], _ => rfl
  | u :: us, h => by
    show L2.wipe ((L2.wipe σ us).set u none) vs = _
    rw [wipe_set (h u List.mem_cons_self), wipe_sub us fun i hi => h i (List.mem_cons_of_mem _ hi)]
theorem ownB_snd (N : List Str) (names : List (Str × NameKind)) (own : List Nat) : (ownB N names own).map (·.2) = own := by
  unfold ownB
  rw [List.map_map]
  exact List.map_id' _
theorem okI_fold {P : Pr} {lk : Chk} {N : List Str} {ini : Bool} {sc : Scope} {it : It} {e t : Expr} {env : Env} (h : okI P lk N ini sc it e t = true) (v : Value) : foldedSetIterable e env v = pure v := by
  cases it with
  | of x => exact ok_fold (show okE P lk N ini sc x e = true from h) v
  | sgn x => exact ok_fold (show okE P lk N ini sc x e = true from h) v
  | rng1 a =>
    rw [okI] at h
    split at h
    · next he => obtain ⟨p, q, rfl⟩ := asCall_eq he; rfl
    · cases h
  | rng2 a b =>
    rw [okI] at h
    split at h
    · next he => obtain ⟨p, q, rfl⟩ := asCall_eq he; rfl
    · cases h
  | enm a =>
    rw [okI] at h
    split at h
    · next he => obtain ⟨p, q, rfl⟩ := asCall_eq he; rfl
    · cases h
  | zip a b =>
    rw [okI] at h
    split at h
    · next he => obtain ⟨p, q, rfl⟩ := asCall_eq he; rfl
    · cases h
section
variable {C : Orc}
theorem Cxt.blk {W : Wd} {X : Cx} (cx : Cxt W C X) (Z : Addr → Prop) (s : Shared) (H : Hp) (scope : Scope) (env : Env) (fp : List Addr) (hc : env.code = X.env.code := by rfl) (hq : env.qual = X.env.qual := by rfl) : Cxt (W.z Z) C (X.blk s H scope env fp) :=
  ⟨cx.calm, cx.nd, cx.kk, cx.blt, cx.room, cx.bind, cx.gm, cx.gc, cx.fns, cx.cls, cx.mks, cx.prs, cx.sts, cx.isc, cx.kwb, cx.flj, cx.fln, cx.kit, cx.con, cx.exn, cx.sub, cx.tks, fun h1 h2 => by
    have q := cx.lam h1 h2
    rw [← hc, ← hq] at q
    exact q, cx.tak, cx.sms, cx.dks⟩
/-- the tests of a clause -/
def UTs (X : Cx) (cs : List Expr) : TT := fun σ H Q => ∀ (pins : List (Addr × Obj)) (s : Shared), L2.Inv X pins σ H s →
    wpAny (model X.prog X.w) X.A (forIn cs true fun c r => if r = true then do let ok ← isTrue c X.env (eval c X.env); pure (ForInStep.yield ok) else pure (ForInStep.yield r)) (TP X pins σ Q) X.xe s
theorem UTs.of {X : Cx} {cs : List Expr} {t : TT} {σ : L2.St} {H : Hp} {Q : Bool → Hp → Prop} (h : PTs X cs t) (q : t σ H Q) : UTs X cs σ H Q := fun pins s I => h.run pins s σ H Q I q
theorem uts_ok {ifs : List Te} (ih : ∀ t ∈ ifs, STt C t) {W : Wd} {X : Cx} {ini : Bool} {me : Option Own} {cs : List Expr} {f : Fr} {S : Store} {σ : L2.St} {H : Hp} {μ : List Addr} {Q : Bool → Hp → Prop} (cx : Cxt W C X) (h : okTes W.P W.lk.toChk X.N ini X.env.scope ifs cs = true) (hl : ifs.length ≤ 1) (hi : ini = me.isSome)
    (R : SR W μ S H) (F : FR W me μ H f σ) (hk : K1 (evTs W.P C ifs f S) (fun b S' => ∀ μ' H', SR W μ' S' H' → Ext μ H μ' H' → Q b H') (fun _ _ => False)) : UTs X cs σ H Q := by
  cases ifs with
  | nil =>
    cases cs with
    | cons c cs => simp [okTes] at h
    | nil => exact UTs.of pts_nil ((show ∀ μ' H', SR W μ' S H' → Ext μ H μ' H' → Q true H' from hk) μ H R Ext.refl)
  | cons t ts =>
    obtain ⟨c, cs', rfl, h1, h2⟩ := okTes_cons h
    have : ts = [] := by
      cases ts with
      | nil => rfl
      | cons _ _ => simp at hl
    subst this
    cases cs' with
    | cons c cs => simp [okTes] at h2
    | nil =>
      refine UTs.of (pts_one (UT.pt c)) ?_
      exact ih t (by simp) W X ini me c f S σ H μ Q cx h1 hi R F (hk.imp (fun _ _ q => q) fun _ _ q => q.elim)
theorem K1.turn {T : Out (Option D)} {ka : D → Store → Out (List D)} {kb : Store → Out (List D)} {ok : List D → Store → Prop} {ex : Exn → Store → Prop} (h : K1 (match T with
      | .ok (some y) S1 => ka y S1
      | .ok none S1 => kb S1
      | _ => .bad) ok ex) : K1 T (fun o S1 => match o with
        | some y => K1 (ka y S1) ok ex
        | none => K1 (kb S1) ok ex) (fun _ _ => False) := by
  cases T with
  | ok o S1 =>
    cases o with
    | some y => exact h
    | none => exact h
  | exc x S => exact h.elim
  | bad => exact h.elim
/-- the parts of a comprehension in its block -/
def blkG (X : Cx) (scope : Scope) (t : Expr) : TG := fun v σ' H' Q' => ∀ (s : Shared) (H0 : Hp) (C : Addr) (cl : List (Str × Addr)) (fp : List Addr), UG (X.blk s H0 scope (compEnvC scope cl C X.env) fp) t v σ' H' Q'
def blkT (X : Cx) (scope : Scope) (cs : List Expr) : TT := fun σ' H' Q' => ∀ (s : Shared) (H0 : Hp) (C : Addr) (cl : List (Str × Addr)) (fp : List Addr), UTs (X.blk s H0 scope (compEnvC scope cl C X.env) fp) cs σ' H' Q'
def blkE (X : Cx) (scope : Scope) (l : Expr) : TE := fun σ' H' Q' => ∀ (s : Shared) (H0 : Hp) (C : Addr) (cl : List (Str × Addr)) (fp : List Addr), U (X.blk s H0 scope (compEnvC scope cl C X.env) fp) l σ' H' Q'
section
variable {X : Cx} {scope : Scope} (s : Shared) (H0 : Hp) (C : Addr) (cl : List (Str × Addr)) (fp : List Addr)
theorem blkG.pg (t : Expr) : PG (X.blk s H0 scope (compEnvC scope cl C X.env) fp) t (blkG X scope t) := ⟨fun pins s' σ' H' v u Q' I r hq => hq s H0 C cl fp pins s' u I r⟩
theorem blkT.pts (cs : List Expr) : PTs (X.blk s H0 scope (compEnvC scope cl C X.env) fp) cs (blkT X scope cs) := ⟨fun pins s' σ' H' Q' I hq => hq s H0 C cl fp pins s' I⟩
theorem blkE.pe (l : Expr) : PE (X.blk s H0 scope (compEnvC scope cl C X.env) fp) l (blkE X scope l) := ⟨fun pins s' σ' H' Q' I hq => hq s H0 C cl fp pins s' I⟩
end
theorem comp_facts {P : Pr} {lk : Chk} {N : List Str} {ini : Bool} {sc : Scope} {m : Bool} {elt : Ex} {tg : Tg} {it : It} {ifs : List Te} {own : List Nat} {e : Expr} (h : okE P lk N ini sc (.comp m elt tg it ifs own) e = true) :
    ∃ l t i cs scope pos, e = .ListComp l [⟨t, i, cs, 0⟩] scope pos ∧ okI P lk N ini sc it i t = true ∧ BlkOk N sc scope (ownB N scope.names own) := by
  rw [okE] at h
  split at h
  · next l t i cs scope he =>
    obtain ⟨pos, rfl⟩ := asComp_eq he
    simp only [Bool.and_eq_true, decide_eq_true_eq] at h
    obtain ⟨⟨⟨⟨⟨⟨⟨h1, h2⟩, h3⟩, h4⟩, h5⟩, h6⟩, h7⟩, h8⟩ := h
    exact ⟨l, t, i, cs, scope, pos, rfl, h1, blkOk_by h2⟩
  · cases h
theorem lc_ok {m : Bool} {elt : Ex} {tg : Tg} {it : It} {ifs : List Te} {own : List Nat} (ie : SE C elt) (ig : SG0 C tg) (ii : ∀ x ∈ itEs it, SE C x) (ifs_ok : ∀ t ∈ ifs, STt C t)
    {W : Wd} {X : Cx} {ini : Bool} {me : Option Own} {l t i : Expr} {cs : List Expr} {scope : Scope} {pos : Pos} {f : Fr} {S : Store} {σ : L2.St} {H : Hp} {μ : List Addr} {Q : VK} (cx : Cxt W C X) (h : okE W.P W.lk.toChk X.N ini X.env.scope (.comp m elt tg it ifs own) (.ListComp l [⟨t, i, cs, 0⟩] scope pos) = true) (hi : ini = me.isSome)
    (R : SR W μ S H) (F : FR W me μ H f σ) (hk : K1 (ev W.P C (.comp m elt tg it ifs own) f S) (OkP W μ H Q) (XW W X μ H σ)) : tLc (UI X t i) (blkG X scope t) (blkT X scope cs) (blkE X scope l) ((ownB X.N scope.names own).map (·.2)) σ H Q := by
    rw [okE] at h
    simp only [asComp, Bool.and_eq_true, decide_eq_true_eq] at h
    obtain ⟨⟨⟨⟨⟨⟨⟨h1, h2⟩, h3⟩, h4⟩, h5⟩, h6⟩, h7⟩, h8⟩ := h
    have h8' : ∀ j ∈ tgIx tg, j ∈ own := fun j hj => by
      have := List.all_eq_true.mp h8 j hj
      exact List.contains_iff_mem.mp this
    have h7' : me.isSome = true → 0 ∉ own := fun hs hc => by
      rw [← hi] at hs
      rw [hs, List.contains_iff_mem.mpr hc] at h7
      cases h7
    rw [ownB_snd]
    refine ui_it ii cx h1 hi Ext.refl R F hk fun src S1 μ1 H1 J E1 e1 R1 J1 F1 k1 => ?_
    intro L hL
    have R2 := R1.more (o := HO.lst []) hL .lst
    have F2 : FR (W.z fun b => W.Z b ∨ b = L) me μ1 (upd H1 L (.lst [])) f σ := (F1.more hL).ext (ext_new hL) fun b hb => by
      rcases hb with hb | hb
      · exact R1.zm b hb
      · rw [hb]; exact R1.free hL
    have J2 : JK (W.z fun b => W.Z b ∨ b = L) μ1 (upd H1 L (.lst [])) J src.items src.held := (J1.more hL).ext (ext_new hL).z
    have nzL : ¬ W.Z L := R1.freeZ hL
    have hme : ∀ o, me = some o → o.a ≠ L := fun o ho => by
      have q := F1.own
      rw [ho] at q
      obtain ⟨z, _, _, ⟨fs, q1, _⟩, _⟩ := q
      exact fun e => by rw [e, hL] at q1; cases q1
    have k1' := k1.bnd
    refine ⟨fun j mm Hc => mm = src.items.length - j ∧ j ≤ src.items.length ∧ ∃ μc Sc acc vs, ExtZ (· = L) μ1 (upd H1 L (.lst [])) μc Hc ∧ SR (W.z fun b => W.Z b ∨ b = L) μc Sc Hc ∧ Hc L = some (.lst vs) ∧ VRs (W.z fun b => W.Z b ∨ b = L) μc Hc acc vs ∧
      K1 (compL src.held (fun x S2 => (evTg W.P C tg x (wipeV f own) S2).bind fun f1 S3 => (evTs W.P C ifs f1 S3).bind fun b S4 =>
        match b with
        | true => (ev W.P C elt f1 S4).bind fun y S5 => .ok (some y) S5
        | false => .ok none S4) (src.items.drop j) acc Sc) (fun ds S2 => K1 (fresh m (.lst ds) S2) (OkP W μ H Q) (XW W X μ H σ)) (XW W X μ H σ), ⟨src.items.length, by simp, Nat.zero_le _, μ1, S1, [], [], ExtZ.refl, R2, upd_same, .nil, k1'⟩, ?_⟩
    rintro j mm Hc ⟨rfl, hj, μc, Sc, acc, vs, Ec, Rc, hcL, Vc, kc⟩
    have Jc : JK (W.z fun b => W.Z b ∨ b = L) μc Hc J src.items src.held := J2.ext (Ec.mono fun b hb => .inr hb)
    have Fc : FR (W.z fun b => W.Z b ∨ b = L) me μc Hc f σ := F2.extD (.inr rfl) Ec R2.zm hme
    by_cases hlt : j < src.items.length
    · -- a turn
      refine .inr ?_
      rw [List.drop_eq_getElem_cons hlt] at kc
      unfold compL at kc
      by_cases st : Src.still src.held Sc
      · rw [if_pos st] at kc
        have kt := K1.turn kc
        obtain ⟨go, yl⟩ := (Jc.turn Rc st j).1 _ (List.getElem?_eq_getElem hlt)
        refine ⟨go, fun H' => ∃ μc Sc acc vs, ExtZ (· = L) μ1 (upd H1 L (.lst [])) μc H' ∧ SR (W.z fun b => W.Z b ∨ b = L) μc Sc H' ∧ H' L = some (.lst vs) ∧ VRs (W.z fun b => W.Z b ∨ b = L) μc H' acc vs ∧
          K1 (compL src.held (fun x S2 => (evTg W.P C tg x (wipeV f own) S2).bind fun f1 S3 => (evTs W.P C ifs f1 S3).bind fun b S4 =>
            match b with
            | true => (ev W.P C elt f1 S4).bind fun y S5 => .ok (some y) S5
            | false => .ok none S4) (src.items.drop (j + 1)) acc Sc) (fun ds S2 => K1 (fresh m (.lst ds) S2) (OkP W μ H Q) (XW W X μ H σ)) (XW W X μ H σ), fun H' q => ⟨src.items.length - (j + 1), by omega, rfl, hlt, q⟩, fun x H' y => ?_⟩
        obtain ⟨Ry, Ey, Vy⟩ := yl x H' y
        intro s H0 Ca cl fp
        have Fy := (Fc.ext Ey Rc.zm).wipe (own := own) h7'
        refine ig (W.z fun b => W.Z b ∨ b = L) (X.blk s H0 scope (compEnvC scope cl Ca X.env) fp) (some scope) ini me t _ x _ Sc _ H' μc _ (cx.blk (fun b => W.Z b ∨ b = L) s H0 scope _ fp) (fun x hx => hx) h3 hi Ry Fy Vy (kt.bnd.imp (fun f1 S3 k3 μ3 H3 σ3 R3 E3 F3 w3 => ?_) fun _ _ q => q)
        refine ⟨by rw [w3 own h8', wipe_sub own fun _ h => h], fun s H0 Ca cl fp => ?_⟩
        refine uts_ok ifs_ok (cx.blk (fun b => W.Z b ∨ b = L) s H0 scope _ fp) h4 h5 hi R3 F3 (k3.bnd.imp (fun b S4 k4 μ4 H4 R4 E4 => ?_) fun _ _ q => q)
        have E14 : ExtZ (· = L) μ1 (upd H1 L (.lst [])) μ4 H4 := Ec.trans ((Ey.trans E3).trans E4).z
        have keepL : Hc L = some (.lst vs) → L ∉ μc := fun _ => Rc.zm L (.inr rfl)
        have h4L : H4 L = some (.lst vs) := (((Ey.trans E3).trans E4).keep L _ hcL (Rc.zm L (.inr rfl)) .lst).1
        have V4 : VRs (W.z fun b => W.Z b ∨ b = L) μ4 H4 acc vs := Vc.ext ((Ey.trans E3).trans E4).z
        cases b with
        | false =>
          rw [if_neg Bool.false_ne_true]
          exact ⟨μ4, S4, acc, vs, E14, R4, h4L, V4, k4⟩
        | true =>
          rw [if_pos rfl]
          intro s H0 Ca cl fp
          refine ie.use (H0 := H4) (μ0 := μ4) (ok := fun o S1 => match o with
            | some y => K1 (if acc.length < sizeLine then compL src.held (fun x S2 => (evTg W.P C tg x (wipeV f own) S2).bind fun f1 S3 => (evTs W.P C ifs f1 S3).bind fun b S4 =>
                match b with
                | true => (ev W.P C elt f1 S4).bind fun y S5 => .ok (some y) S5
                | false => .ok none S4) (src.items.drop (j + 1)) (acc ++ [y]) S1 else .bad) (fun ds S2 => K1 (fresh m (.lst ds) S2) (OkP W μ H Q) (XW W X μ H σ)) (XW W X μ H σ)
            | none => True) (cx.blk (fun b => W.Z b ∨ b = L) s H0 scope _ fp) h6 hi Ext.refl R4 (F3.ext E4 R3.zm) (k4.imp (fun o S5 q => ?_) fun _ _ q => q.elim) fun y S5 μ5 H5 v E5 e5 R5 V5 F5 k5 => ?_
          · cases o with
            | some y => exact q
            | none => trivial
          · have k6 : K1 (if acc.length < sizeLine then _ else .bad) _ _ := k5
            by_cases hz : acc.length < sizeLine
            · rw [if_pos hz] at k6
              have h5L : H5 L = some (.lst vs) := (E5.keep L _ h4L (R4.zm L (.inr rfl)) .lst).1
              refine ⟨vs, h5L, by rw [← Vc.len]; exact hz, μ5, S5, acc ++ [y], vs ++ [v], ?_, ?_, upd_same, ?_, k6⟩
              · exact (E14.trans E5.z).trans ⟨⟨[], by simp⟩, fun a o ha n hn _ => ⟨by rw [upd_ne hn]; exact ha, n⟩, .lst h5L⟩
              · refine R5.step ⟨⟨[], by simp⟩, fun a o ha n hn _ => ⟨by rw [upd_ne fun z => hn (.inr z)]; exact ha, n⟩, .lst h5L⟩ (fun a ha => upd_ne fun z => R5.zm a (.inr z) ha) (fun b hb => ?_) (tabs_lst R5.tb h5L)
                by_cases e : b = L
                · subst e; exact ⟨_, upd_same, .lst⟩
                · rw [upd_ne e]; exact R5.zz b hb
              · refine ((V4.ext E5.z).app (.cons V5 .nil)).ext ⟨⟨[], by simp⟩, fun a o ha n hn _ => ⟨by rw [upd_ne fun z => hn (.inr z)]; exact ha, n⟩, .lst h5L⟩
            · rw [if_neg hz] at k6
              exact k6.elim
      · rw [if_neg st] at kc
        exact kc.elim
    · -- the end
      have e : j = src.items.length := by omega
      subst e
      rw [List.drop_length] at kc
      unfold compL at kc
      by_cases st : Src.still src.held Sc
      · rw [if_pos st] at kc
        refine .inl ⟨(Jc.turn Rc st _).2 rfl, ?_⟩
        have k2 : K1 (fresh m (.lst acc) Sc) (OkP W μ H Q) (XW W X μ H σ) := kc
        have EE : Ext μ H μc Hc := ext_own hL E1 (ext_new hL) Ec
        have nL : L ∉ μc := Rc.zm L (.inr rfl)
        cases m with
        | false =>
          have q : OkP W μ H Q (.lst acc) Sc := k2
          exact q μc Hc _ Rc.less EE (.lst hcL nL nzL (VRs.weak (W := W.z fun b => W.Z b ∨ b = L) (Z := W.Z) (fun b hb => .inl hb) Vc))
        | true =>
          have q : OkP W μ H Q (.loc Sc.length) (Sc ++ [.lst acc]) := k2
          refine q (μc ++ [L]) Hc _ (Rc.take hcL nzL Vc) ⟨?_, fun a o ha n nt => ?_, EE.kin⟩ (.loc ?_ ⟨_, hcL⟩)
          · obtain ⟨t, et⟩ := EE.pre
            exact ⟨t ++ [L], by rw [et, List.append_assoc]⟩
          · obtain ⟨q1, q2⟩ := EE.keep a o ha n nt
            refine ⟨q1, ?_⟩
            simp only [List.mem_append, List.mem_singleton, not_or]
            refine ⟨q2, fun z => ?_⟩
            have := (E1.keep a o ha n nt).1
            rw [z, hL] at this
            cases this
          · rw [List.getElem?_append_right (by rw [Rc.len]; exact Nat.le_refl _), Rc.len]
            simp
      · rw [if_neg st] at kc
        exact kc.elim
theorem se_comp {m : Bool} {elt : Ex} {tg : Tg} {it : It} {ifs : List Te} {own : List Nat} (ie : SE C elt) (ig : SG0 C tg) (ii : ∀ x ∈ itEs it, SE C x) (ifs_ok : ∀ t ∈ ifs, STt C t) : SE C (.comp m elt tg it ifs own) := by
  intro W X ini me e f S σ H μ Q cx h hi R F hk
  obtain ⟨l, t, i, cs, scope, pos, rfl, h1, h2⟩ := comp_facts h
  exact U.of (pe_lc cx.calm cx.nd (UI.pi t i) h2 (fun s H0 C cl fp => blkG.pg s H0 C cl fp t) (fun s H0 C cl fp => blkT.pts s H0 C cl fp cs) (fun s H0 C cl fp => blkE.pe s H0 C cl fp l) (okI_fold h1)) (lc_ok ie ig ii ifs_ok cx h hi R F hk)
end
end Th
namespace Th
open PySem PySem.Spec PyProof.Rows L2
theorem pick_rel {α β : Type} {R : α → β → Prop} {xs : List α} {ys : List β} {Rs : List α → List β → Prop} (nil : Rs [] []) (cons : ∀ {x y l m}, R x y → Rs l m → Rs (x :: l) (y :: m)) (get : ∀ i : Nat, (∃ x y, xs[i]? = some x ∧ ys[i]? = some y ∧ R x y) ∨ (xs[i]? = none ∧ ys[i]? = none)) : ∀ is : List Nat, Rs (is.filterMap (xs[·]?)) (is.filterMap (ys[·]?))
  | [] => nil
  | i :: is => by
    have ih := pick_rel (R := R) (Rs := Rs) nil (fun h r => cons h r) get is
    rcases get i with ⟨x, y, e1, e2, r⟩ | ⟨e1, e2⟩
    · rw [List.filterMap_cons_some e1, List.filterMap_cons_some e2]
      exact cons r ih
    · rw [List.filterMap_cons_none e1, List.filterMap_cons_none e2]
      exact ih
theorem VRs.pick {W : Wd} {μ : List Addr} {H : Hp} {ds : List D} {vs : List V} (r : VRs W μ H ds vs) (lo : Option Int) (st : Int) : VRs W μ H (pickL ds lo st) (pickL vs lo st) := by
  have hl := r.len
  unfold pickL
  rw [hl]
  refine pick_rel (R := fun d v => VR W μ H d v) .nil (fun h r => .cons h r) (fun i => ?_) _
  cases hd : ds[i]? with
  | some d =>
    obtain ⟨v, h1, h2⟩ := r.get hd
    exact .inl ⟨d, v, rfl, h1, h2⟩
  | none =>
    refine .inr ⟨rfl, ?_⟩
    rw [List.getElem?_eq_none_iff] at hd ⊢
    omega
theorem vals_pick {vs : List V} {us : List Value} (r : Vals vs us) (lo : Option Int) (st : Int) : Vals (pickL vs lo st) (slicePick us.toArray lo none (some st)).toList := by
  have hl := r.length
  have get : ∀ {vs : List V} {us : List Value}, Vals vs us → ∀ i : Nat, (∃ x y, vs[i]? = some x ∧ us[i]? = some y ∧ RelV x y) ∨ (vs[i]? = none ∧ us[i]? = none) := by
    intro vs us r
    induction r with
    | nil => intro i; exact .inr ⟨by simp, by simp⟩
    | cons h t ih =>
      intro i
      cases i with
      | zero => exact .inl ⟨_, _, rfl, rfl, h⟩
      | succ i => simpa using ih i
  unfold pickL slicePick
  simp only [List.size_toArray, ← hl]
  have e : (fun x : Nat => us.toArray[x]?) = fun x : Nat => us[x]? := by funext x; simp
  rw [e]
  exact pick_rel (R := fun d v => RelV d v) (Rs := fun a b => Vals a b) .nil (fun h r => .cons h r) (get r) _
theorem pickL_len {vs : List V} {us : List Value} (r : Vals vs us) (lo : Option Int) (st : Int) : (pickL vs lo st).length ≤ vs.length := by
  have h := (vals_pick r lo st).length
  have h2 := slicePick_size_le us.toArray lo none (some st)
  rw [h]
  have h3 : (slicePick us.toArray lo none (some st)).toList.length = (slicePick us.toArray lo none (some st)).size := by simp
  rw [h3]
  have := r.length
  simp only [List.size_toArray] at h2
  omega
theorem adjust_back (n : Nat) : Builtin.Slice.sliceAdjust none none (-1) (n : Int) = ((n : Int) - 1, -1) := rfl
theorem places_back (n : Nat) : Builtin.Slice.slicePlaces ((n : Int) - 1) (-1) (-1) = n := by
  unfold Builtin.Slice.slicePlaces
  rw [if_neg (by decide), show -(-1 : Int) = 1 from rfl, Int.ediv_one]
  split <;> omega
theorem fm_some {α β : Type} {f : α → Option β} {g : α → β} : ∀ {l : List α}, (∀ a ∈ l, f a = some (g a)) → l.filterMap f = l.map g
  | [], _ => rfl
  | a :: l, h => by
    rw [List.filterMap_cons, h a List.mem_cons_self, List.map_cons, fm_some fun b hb => h b (List.mem_cons_of_mem _ hb)]
theorem range_back {α : Type} (l : List α) : ((List.range l.length).filterMap fun (m : Nat) => l[(((l.length : Int) - 1) + (m : Int) * (-1)).toNat]?) = l.reverse := by
  cases l with
  | nil => rfl
  | cons a t =>
    rw [fm_some (g := fun m => (a :: t).reverse.getD m a)]
    · apply List.ext_getElem
      · simp
      · intro i h1 h2
        simp only [List.getElem_map, List.getElem_range, List.getD_eq_getElem?_getD]
        rw [List.getElem?_eq_getElem h2, Option.getD_some]
    · intro m hm
      have hm := List.mem_range.mp hm
      have h2 : m < (a :: t).reverse.length := by rw [List.length_reverse]; exact hm
      have e : ((((a :: t).length : Int) - 1) + (m : Int) * (-1)).toNat = (a :: t).length - 1 - m := by omega
      rw [e, ← List.getElem?_reverse hm, List.getD_eq_getElem?_getD, List.getElem?_eq_getElem h2, Option.getD_some]
section
variable {M : Model} {prog : Program} {w : World} {A : Around} {E : Value → Shared → Prop} {s : Shared}
theorem sliceApplied_back {sl : Addr} {vl vu vs : Value} {n : Nat} {Q : Int × Int × Nat → Shared → Prop} (hs : s.heap.IsSliceOf sl vl vu vs) (pl : IsPart vl none) (pu : IsPart vu none) (ps : IsPart vs (some (-1)))
    (h : Q ((n : Int) - 1, -1, n) s) : wpAny (model prog w) A (Builtin.Slice.sliceApplied (.ref sl) (pure (n : Int))) Q E s := by
  obtain ⟨os, hos, hcs, hds⟩ := id hs
  unfold Builtin.Slice.sliceApplied Builtin.Slice.sliceFields
  refine wpAny_bind (wpAny_bind (wpAny_field hos hds (x := vl) rfl (wpAny_bind (wpAny_field hos hds (x := vu) rfl (wpAny_bind (wpAny_field hos hds (x := vs) rfl (wpAny_pure ?_)))))))
  refine wpAny_bind (HT.slicePart_ ps ?_)
  show wpAny _ _ (if ((-1 : Int) == 0) = true then _ else _) _ _ s
  rw [if_neg (by decide)]
  refine wpAny_bind (HT.slicePart_ pl (wpAny_bind (HT.slicePart_ pu (wpAny_bind (wpAny_pure ?_)))))
  show wpAny _ _ (match Builtin.Slice.sliceAdjust none none (-1) (n : Int) with | (lo, hi) => pure (lo, (-1 : Int), Builtin.Slice.slicePlaces lo hi (-1))) _ _ s
  rw [adjust_back n]
  show wpAny _ _ (pure ((n : Int) - 1, (-1 : Int), Builtin.Slice.slicePlaces ((n : Int) - 1) (-1) (-1))) _ _ s
  rw [places_back]
  exact wpAny_pure h
theorem getItem_tuple_back {t sl : Addr} {items : Array Value} {vl vu vs : Value} {Q : Value → Shared → Prop} (ht : IsTup s.heap t items) (hs : s.heap.IsSliceOf sl vl vu vs) (pl : IsPart vl none) (pu : IsPart vu none) (ps : IsPart vs (some (-1)))
    (h : Q (.ref s.heap.objs.size) { s with heap := s.heap.push { cls := .type "tuple", data := .seq items.toList.reverse.toArray } })
    (hsz : items.size ≤ sizeLine) : wpAny (model prog w) A (getItem (.ref t) (.ref sl)) Q E s := by
  have htake : sizeOk (.seq items.toList.reverse.toArray) := by
    show items.toList.reverse.toArray.size ≤ sizeLine
    rw [List.size_toArray, List.length_reverse, Array.length_toList]
    exact hsz
  obtain ⟨os, hos, hcs, hds⟩ := id hs
  have hTs : s.TypeIs (.ref sl) "slice" := ⟨os, hos, hcs⟩
  unfold getItem
  try with_reducible refine wpAny_holding ?_
  first | refine wpAny_bind (wpAny_pure ?_) | skip
  refine wpAny_bind (wpAny_sequenceKey ht.typeIs (by decide) ?_)
  refine wpAny_bind (wpAny_callSpecial?_slot (name := Str.ofString "__getitem__") ht.typeIs PyProof.Rows.slot_tuple_getitem
    (wpAny_call_entry PyProof.Rows.slot_tuple_getitem ht.typeIs entry_tuple_getitem ?_ (args_tuple_getitem _ _)))
  show wpAny _ _ (Builtin.Tuple.tupleItemsOf (.ref t) >>= _) _ _ s
  refine wpAny_bind (tupleItemsOf_ ht ?_)
  refine wpAny_bind (wpAny_typeOf hTs ?_)
  rw [if_pos (by decide)]
  refine wpAny_bind (sliceApplied_back (n := items.size) hs pl pu ps ?_)
  have hno : ¬ (((items.size : Int) - 1 == 0 && (-1 : Int) == 1 && items.size == items.size) = true) := by
    intro q
    rw [Bool.and_eq_true, Bool.and_eq_true] at q
    exact absurd q.1.2 (by decide)
  show wpAny _ _ (if ((items.size : Int) - 1 == 0 && (-1 : Int) == 1 && items.size == items.size) = true then _ else _) _ _ s
  have e : ((List.range items.size).filterMap fun (k : Nat) => items[(((items.size : Int) - 1) + (k : Int) * (-1)).toNat]?).toArray = items.toList.reverse.toArray := by
    have := range_back items.toList
    simp only [Array.length_toList, Array.getElem?_toList] at this
    rw [this]
  rw [if_neg hno, e]
  first
    | exact wpAny_bind (m := Builtin.Tuple.tupleExact _) (wpAny_newObj_type (wpAny_pure ⟨_, rfl, wpAny_pure h⟩) htake)
    | exact wpAny_bind (m := Builtin.Tuple.tupleExact _) (wpAny_newObj_type (wpAny_bind (wpAny_pure (wpAny_pure ⟨_, rfl, wpAny_pure h⟩))) htake)
    | exact wpAny_bind (wpAny_bind (m := Builtin.Tuple.tupleExact _) (wpAny_newObj_type (wpAny_pure (wpAny_pure ⟨_, rfl, wpAny_pure h⟩)) htake))
    | exact wpAny_bind (wpAny_bind (m := Builtin.Tuple.tupleExact _) (wpAny_newObj_type (wpAny_pure ⟨_, rfl, wpAny_pure h⟩) htake))
end
theorem vals_rev : ∀ {vs : List V} {us : List Value}, Vals vs us → Vals vs.reverse us.reverse
  | _, _, .nil => .nil
  | _, _, .cons h r => by
    rw [List.reverse_cons, List.reverse_cons]
    exact Vals.append (vals_rev r) (.cons h .nil)
theorem VRs.rev {W : Wd} {μ : List Addr} {H : Hp} : ∀ {ds : List D} {vs : List V}, VRs W μ H ds vs → VRs W μ H ds.reverse vs.reverse
  | _, _, .nil => .nil
  | _, _, .cons h r => by
    rw [List.reverse_cons, List.reverse_cons]
    exact r.rev.app (.cons h .nil)
/-- a list's places by steps, or t[::-1] -/
def tStepA (K : PySem.W.Frag) (te : TE) (tl ts : TO) : TE := fun σ H Q => te σ H fun x H1 => tl σ H1 fun l H2 => ts σ H2 fun k H3 => ∃ a xs c, x = .ref a ∧ k = some c ∧
  ((c ≠ 0 ∧ SqL K H3 a xs ∧ ∀ p, H3 p = none → Q (.ref p) (upd H3 p (.lst (pickL xs l c)))) ∨ (l = none ∧ c = -1 ∧ SqT K H3 a xs ∧ ∀ p, H3 p = none → Q (.ref p) (upd H3 p (.tup xs.reverse))))
theorem pe_stepA {X : Cx} {e st : Expr} {lo : Option Expr} {te : TE} {tl ts : TO} {p3 pos : Pos} (he : PE X e te) (hl : PO X lo tl) (hs : PO X (some st) ts) : PE X (.Subscript e (.Slice lo none (some st) p3) pos) (tStepA X.K te tl ts) := by
  refine ⟨fun pins s σ H Q I h => ?_⟩
  refine Subscript_ (thn (he.run pins s σ H _ I h) fun v s1 ⟨x, H1, I1, r1, q1⟩ => ?_)
  refine wpAny_Slice (thn (hl.run pins s1 σ H1 _ I1 q1) fun vl s2 ⟨l, H2, I2, pl, q2⟩ => ?_)
  refine thn (po_none.run pins s2 σ H2 (fun o H3 => o = none ∧ H3 = H2) I2 ⟨rfl, rfl⟩) fun vu s3 ⟨u, H3, I3, pu, eu, e3⟩ => ?_
  subst eu e3
  refine thn (hs.run pins s3 σ H3 _ I3 q2) fun vs s4 ⟨o, H4, I4, ps, a, xs, c, ex, eo, alt⟩ => ?_
  subst ex eo
  cases r1
  have I5 : L2.Inv X pins σ H4 { s4 with heap := s4.heap.push { cls := .type "slice", data := .fields #[vl, vu, vs] } } := I4.kept (t' := s4.toks) fun b ob q => Heap.get?_push_of_some _ q
  rcases alt with ⟨c0, hx, q⟩ | ⟨rfl, rfl, hx, q⟩
  · obtain ⟨its, r, ht, hz⟩ := I5.list hx
    have hlen := r.length
    show wpAny (model X.prog X.w) X.A (subscriptTail e (.Slice lo none (some st) p3) (.ref a) (.ref s4.heap.objs.size)) (EP X pins σ Q) X.xe { s4 with heap := s4.heap.push { cls := .type "slice", data := .fields #[vl, vu, vs] } }
    refine tail_any (ops := [.ref a, .ref s4.heap.objs.size]) ht.isList.typeIs (PySem.slot_list_getitem.lookup) ?_ (by with_unfolding_all rfl)
    refine wpAny_getItem_list_slice ht.isList (Heap.IsSliceOf.new _ vl vu vs) pl pu ps (fun z => c0 (Option.some.inj z)) ?_ (by rw [List.size_toArray]; omega)
    have rp := vals_pick r l c
    have e1 : slicePick its.toArray l none (some c) = (slicePick its.toArray l none (some c)).toList.toArray := by simp
    rw [e1]
    refine ⟨.ref _, _, I5.laid (t' := s4.toks) (o := .lst (pickL xs l c)) (fun b ob q => Heap.get?_push_of_some _ q) (Nat.le_refl _) ?_, rfl, q _ (I5.hok.fresh (Nat.le_refl _))⟩
    exact ⟨by have := pickL_len r l c; omega, _, 0, rp, Heap.get?_push_size _ rfl⟩
  · obtain ⟨its, r, ht, hz⟩ := I5.tuple hx
    have hlen : its.toArray.size = xs.length := by rw [List.size_toArray]; exact r.length.symm
    show wpAny (model X.prog X.w) X.A (subscriptTail e (.Slice lo none (some st) p3) (.ref a) (.ref s4.heap.objs.size)) (EP X pins σ Q) X.xe { s4 with heap := s4.heap.push { cls := .type "slice", data := .fields #[vl, vu, vs] } }
    refine tail_any (ops := [.ref a, .ref s4.heap.objs.size]) ht.typeIs (PyProof.Rows.slot_tuple_getitem.lookup) ?_ (by with_unfolding_all rfl)
    refine getItem_tuple_back ht (Heap.IsSliceOf.new _ vl vu vs) pl pu ps ?_ (by rw [hlen]; exact hz)
    refine ⟨.ref _, _, I5.laid (t' := s4.toks) (o := .tup xs.reverse) (fun b ob q => Heap.get?_push_of_some _ q) (Nat.le_refl _) ?_, rfl, q _ (I5.hok.fresh (Nat.le_refl _))⟩
    exact ⟨by rw [List.length_reverse]; exact hz, _, vals_rev r, IsTup.new _ _⟩
section
variable {C : Orc}
theorem se_stp {m : Bool} {a st : Ex} {lo : List Ex} (ia : SE C a) (il : ∀ x ∈ lo, SE C x) (is : SE C st) : SE C (.stp m a lo st) := by
  intro W X ini me e f S σ H μ Q cx h hi' R F hk
  rw [okE] at h
  split at h
  · next l j he =>
    obtain ⟨p, rfl⟩ := asSub_eq he
    split at h
    · next lo' st' hs =>
      obtain ⟨p2, rfl⟩ := asStp_eq hs
      simp only [Bool.and_eq_true] at h
      obtain ⟨⟨h1, h2⟩, h3⟩ := h
      have kx : X.K = W.K := cx.kk
      refine U.of (pe_stepA (U.pe l) (UO.po lo') (po_some (U.pe st'))) ?_
      refine ia.use cx h1 hi' Ext.refl R F hk fun x S1 μ1 H1 v E1 _ R1 V1 F1 k1 => ?_
      refine uo_part il cx h2 hi' E1 R1 F1 k1 fun d2 S2 μ2 H2 E2 e2 R2 F2 k2 => ?_
      refine is.use cx h3 hi' E2 R2 F2 k2 fun y S3 μ3 H3 u E3 e3 R3 V3 F3 k3 => ?_
      split at k3
      · next c =>
        cases V3
        refine ⟨c, rfl, ?_⟩
        obtain ⟨z, ez, k4⟩ := K1.off k3.bnd
        have V1 := V1.ext (e2.trans e3).z
        unfold stepOf at ez
        split at ez
        · next xs =>
          split at ez
          · next hc =>
            cases ez
            obtain ⟨b, vs, rfl, q0, r0⟩ := V1.seqT
            obtain ⟨rfl, rfl⟩ := hc
            exact ⟨b, vs, -1, rfl, rfl, .inr ⟨rfl, rfl, by rw [kx]; exact q0, fresh_tup E3 R3 r0.rev k4⟩⟩
          · cases ez
        · split at ez
          · cases ez
          · next c0 =>
            cases hx : seqAt S3 x with
            | none => rw [hx] at ez; cases ez
            | some xs =>
              rw [hx] at ez
              cases ez
              obtain ⟨b, vs, rfl, q0, r0⟩ := V1.seqL R3 hx
              exact ⟨b, vs, c, rfl, rfl, .inl ⟨c0, by rw [kx]; exact q0, fresh_lst E3 R3 (r0.pick d2 c) k4⟩⟩
      · exact k3.elim
    · cases h
  · cases h
end
theorem nodup_get {α : Type} {l : List α} (h : l.Nodup) {i j : Nat} {a : α} (hi : l[i]? = some a) (hj : l[j]? = some a) : i = j := by
  obtain ⟨i1, i2⟩ := List.getElem?_eq_some_iff.mp hi
  obtain ⟨j1, j2⟩ := List.getElem?_eq_some_iff.mp hj
  have pw := List.pairwise_iff_getElem.mp h
  rcases Nat.lt_trichotomy i j with w | w | w
  · exact absurd (i2.trans j2.symm) (pw i j i1 j1 w)
  · exact w
  · exact absurd (j2.trans i2.symm) (pw j i j1 i1 w)
def mergeK (a b : List (L2.Key × V)) : List (L2.Key × V) := b.foldl (fun acc kv => putK acc kv.1 kv.2) a
theorem merge_rel : ∀ {more : List (L2.Key × V)} {ms : List (L2.Key × Value)}, KV more ms → ∀ {kvs : List (L2.Key × V)} {vs : List (L2.Key × Value)}, KV kvs vs → KV (mergeK kvs more) (merged vs ms) := by
  intro more ms r
  induction r with
  | nil => intro kvs vs q; exact q
  | @cons x y l m h t ih =>
    intro kvs vs q
    obtain ⟨k, v⟩ := x
    obtain ⟨k', u⟩ := y
    obtain ⟨h1, h2⟩ := h
    have h1 : k = k' := h1
    subst h1
    exact ih (q.put k h2)
theorem merge_len : ∀ (more kvs : List (L2.Key × V)), (mergeK kvs more).length ≤ kvs.length + more.length
  | [], kvs => Nat.le_refl _
  | p :: more, kvs => by
    have := merge_len more (putK kvs p.1 p.2)
    have h2 := length_putK kvs p.1 p.2
    show (mergeK (putK kvs p.1 p.2) more).length ≤ _
    rw [List.length_cons]
    omega
def rDUpd : V → List V → Hp → VK → Prop := fun x xs H Q => ∃ (a b : Addr) (kvs more : List (L2.Key × V)), x = .ref a ∧ xs = [.ref b] ∧ a ≠ b ∧ H a = some (.dK kvs) ∧ H b = some (.dK more) ∧ kvs.length + more.length ≤ sizeLine ∧ Q .non (upd H a (.dK (mergeK kvs more)))
theorem mt_dupd {X : Cx} : MtR X "dict.update" rDUpd := by
  intro pins s σ H x xs v us Q I rx rxs h
  obtain ⟨a, b, kvs, more, rfl, rfl, hne, ha, hb, hz, q⟩ := h
  cases rx
  rw [Vals.ref1 rxs]
  obtain ⟨z, hd, vs, rel, dd⟩ := dk_of I.hok ha
  obtain ⟨z2, hd2, ms, rel2, dd2⟩ := dk_of I.hok hb
  refine call_meetsIn PySem.F.slot_dict_update dd.typeIs PySem.F.entry_dict_update (PySem.F.args_dict_update_2 _ _) (meets_dict_update (mixKind X.prog X.w) a b hne hd2) ⟨vs, ms, dd, dd2, by rw [← rel.length, ← rel2.length]; exact hz, fun h' d1 d2 hs => ?_⟩
  have he : ∃ q, h'.get? a = some q := let ⟨q, _, _, hq, _⟩ := d1; ⟨q, hq⟩
  refine ⟨.non, upd H a (.dK (mergeK kvs more)), d_write (t' := s.toks) I (by rw [ha]; exact True.intro) hs he (dk_new ?_ hd (merge_rel rel2 rel) d1), rfl, q⟩
  have := merge_len more kvs
  omega
section
variable {W : Wd} {μ : List Addr} {H : Hp}
theorem dr_upd : ∀ {more : List (Int × D)} {ms : List (L2.Key × V)}, ms.map (·.1) = more.map (fun p => (.inl p.1 : L2.Key)) → VRs W μ H (more.map (·.2)) (ms.map (·.2)) → ∀ {kvs : List (Int × D)} {us : List (L2.Key × V)}, us.map (·.1) = kvs.map (fun p => (.inl p.1 : L2.Key)) → VRs W μ H (kvs.map (·.2)) (us.map (·.2)) →
    (mergeK us ms).map (·.1) = (updI kvs more).map (fun p => (.inl p.1 : L2.Key)) ∧ VRs W μ H ((updI kvs more).map (·.2)) ((mergeK us ms).map (·.2))
  | [], ms, hk, r, kvs, us, hk2, r2 => by
    cases ms with
    | nil => exact ⟨hk2, r2⟩
    | cons q ms => simp at hk
  | p :: more, ms, hk, r, kvs, us, hk2, r2 => by
    cases ms with
    | nil => simp at hk
    | cons q ms =>
      simp only [List.map_cons, List.cons.injEq] at hk
      rw [List.map_cons, List.map_cons] at r
      cases r with
      | cons h r =>
        obtain ⟨a1, a2⟩ := dr_put h p.1 hk2 r2
        have e : q.1 = .inl p.1 := hk.1
        have := dr_upd hk.2 r a1 a2
        show (mergeK (putK us q.1 q.2) ms).map (·.1) = (updI (putI kvs p.1 p.2) more).map _ ∧ _
        rw [e]
        refine ⟨this.1, ?_⟩
        have e2 : mergeK us (q :: ms) = mergeK (putK us (.inl p.1) q.2) ms := by rw [← e]; rfl
        rw [e2]
        exact this.2
end
section
variable {C : Orc}
theorem se_dupd {o a : Ex} (io : SE C o) (ia : SE C a) : SE C (.dupd o a) := by
  intro W X ini me e f S σ H μ Q cx h hi R F hk
  rw [okE] at h
  split at h
  · next l m r he =>
    obtain ⟨p, q, rfl, hq⟩ := asMeth_eq he
    simp only [Bool.and_eq_true, beq_iff_eq] at h
    obtain ⟨⟨⟨h1, h2⟩, h3⟩, h4⟩ := h
    subst h1
    have st := ok_star h3 [] X.env
    refine U.of (pe_bm PySem.F.plainAttrs_dict PySem.F.slot_dict_update PySem.F.type_dict_update mt_dupd (U.pe l) (pa_cons (U.pe r) pa_nil st) (plainA_base h4 _ X.env _) (by rw [st]; rfl) hq st rfl) ?_
    refine io.use cx h2 hi Ext.refl R F hk fun x S1 μ1 H1 v E1 _ R1 V1 F1 k1 => ?_
    split at k1
    · next xs0 hx0 =>
      obtain ⟨n0, b0, us0, _, rfl, _, _, g0, _, _⟩ := V1.dct R1 hx0
      refine ⟨.inr (.inr (.inl ⟨rfl, .inl ⟨us0, g0⟩⟩)), ?_⟩
      refine ia.use cx h3 hi E1 R1 F1 k1 fun y S2 μ2 H2 u E2 e2 R2 V2 F2 k2 => ?_
      cases hu : updO S2 x y with
      | none => rw [hu] at k2; exact k2.elim
      | some S3 =>
        rw [hu] at k2
        have k3 : OkP W μ H Q .non S3 := k2
        unfold updO at hu
        split at hu
        · next n m' =>
          split at hu
          · cases hu
          · next hne =>
            split at hu
            · next ka kb ea eb =>
              split at hu
              · next hl =>
                cases hu
                obtain ⟨n1, a1, us, en, e1', m1, s1, g1, g2, g3⟩ := (V1.ext e2.z).dct (kvs := ka) R2 (by simp only [dctAt, ea])
                cases en
                cases e1'
                obtain ⟨n2, a2, ms, en2, rfl, m2, s2, f1, f2, f3⟩ := V2.dct (kvs := kb) R2 (by simp only [dctAt, eb])
                cases en2
                have ne : b0 ≠ a2 := fun q => by
                  subst q
                  exact hne (nodup_get R2.nd m1 m2)
                have hl1 := congrArg List.length g2
                have hl2 := congrArg List.length f2
                simp only [List.length_map] at hl1 hl2
                obtain ⟨p1, p2⟩ := dr_upd f2 f3 g2 g3
                have ew := ext_writeD (H := H2) (ys := mergeK us ms) (List.mem_of_getElem? m1) g1
                refine ⟨b0, a2, us, ms, rfl, rfl, ne, g1, f1, by rw [hl1, hl2, sizeLine_eq]; omega, ?_⟩
                exact k3 μ2 _ _ (R2.put m1 ew (.dct upd_same p1 (p2.ext ew.z))) (E2.trans ew) .non
              · cases hu
            · cases hu
        · cases hu
    · exact k1.elim
  · cases h
end
theorem SR.takeD {W : Wd} {μ : List Addr} {H : Hp} {S : Store} {L : Addr} {kvs : List (Int × D)} {us : List (L2.Key × V)} (R : SR (W.z fun b => W.Z b ∨ b = L) μ S H) (hD : H L = some (.dK us)) (nz : ¬ W.Z L) (hk : us.map (·.1) = kvs.map (fun p => (.inl p.1 : L2.Key))) (r : VRs (W.z fun b => W.Z b ∨ b = L) μ H (kvs.map (·.2)) (us.map (·.2))) : SR W (μ ++ [L]) (S ++ [.dct kvs]) H := by
  have nD : L ∉ μ := R.zm L (.inr rfl)
  have e : ExtZ (W.z fun b => W.Z b ∨ b = L).Z μ H (μ ++ [L]) H := ⟨⟨[L], rfl⟩, fun a o h n z _ => ⟨h, by
    simp only [List.mem_append, List.mem_singleton, not_or]
    exact ⟨n, fun q => z (.inr q)⟩⟩, .refl⟩
  have wk : ∀ {ds : List D} {vs : List V}, VRs (W.z fun b => W.Z b ∨ b = L) μ H ds vs → VRs W (μ ++ [L]) H ds vs := fun r => VRs.weak (W := W.z fun b => W.Z b ∨ b = L) (Z := W.Z) (fun b hb => .inl hb) (r.ext e)
  refine ⟨by simp [R.len], ?_, fun n o a h1 h2 => ?_, fun b hb => R.zz b (.inl hb), fun b hb => ?_, R.tb⟩
  · rw [List.nodup_append]
    refine ⟨R.nd, by simp, fun a ha b hb => ?_⟩
    have : b = L := by simpa using hb
    subst this
    exact fun q => nD (q ▸ ha)
  · by_cases hn : n < S.length
    · rw [List.getElem?_append_left hn] at h1
      rw [List.getElem?_append_left (by rw [R.len]; exact hn)] at h2
      have q := R.at_ n o a h1 h2
      cases q with
      | lst h r' => exact .lst h (wk r')
      | dct h hk r' => exact .dct h hk (wk r')
    · have hn' : n = S.length := by
        have := (List.getElem?_eq_some_iff.mp h1).1
        simp at this
        omega
      subst hn'
      rw [List.getElem?_append_right (Nat.le_refl _)] at h1
      rw [List.getElem?_append_right (by rw [R.len]; exact Nat.le_refl _)] at h2
      simp [R.len] at h1 h2
      subst h1 h2
      exact .dct hD hk (wk r)
  · simp only [List.mem_append, List.mem_singleton, not_or]
    exact ⟨R.zm b (.inl hb), fun q => nz (q ▸ hb)⟩
theorem kvsOf_put (acc : List D) (i : Int) (v : D) : kvsOf (acc ++ [.tup [.int i, v]]) = putI (kvsOf acc) i v := by
  unfold kvsOf
  rw [List.foldl_append]
  rfl
theorem putI_len (kvs : List (Int × D)) (k : Int) (d : D) : (putI kvs k d).length ≤ kvs.length + 1 := by
  unfold putI
  split
  · simp
  · simp
theorem kvs_len : ∀ (ds : List D) (kvs : List (Int × D)), (ds.foldl kvStep kvs).length ≤ kvs.length + ds.length
  | [], kvs => Nat.le_refl _
  | d :: ds, kvs => by
    rw [List.foldl_cons, List.length_cons]
    refine Nat.le_trans (kvs_len ds _) ?_
    unfold kvStep
    split
    · next k v =>
      have := putI_len kvs k v
      omega
    · omega
theorem kvsOf_len (ds : List D) : (kvsOf ds).length ≤ ds.length := by
  have := kvs_len ds []
  unfold kvsOf
  simpa using this
section
variable {C : Orc}
theorem dc_ok {kx vx : Ex} {tg : Tg} {it : It} {own : List Nat} (ik : SE C kx) (iv : SE C vx) (ig : SG0 C tg) (ii : ∀ x ∈ itEs it, SE C x)
    {W : Wd} {X : Cx} {ini : Bool} {me : Option Own} {l l2 t i : Expr} {scope : Scope} {pos : Pos} {f : Fr} {S : Store} {σ : L2.St} {H : Hp} {μ : List Addr} {Q : VK} (cx : Cxt W C X) (h : okE W.P W.lk.toChk X.N ini X.env.scope (.dcom kx vx tg it own) (.DictComp l l2 [⟨t, i, [], 0⟩] scope pos) = true) (hi : ini = me.isSome)
    (R : SR W μ S H) (F : FR W me μ H f σ) (hk : K1 (ev W.P C (.dcom kx vx tg it own) f S) (OkP W μ H Q) (XW W X μ H σ)) : tDc (UI X t i) (blkG X scope t) (blkT X scope []) (blkE X scope l) (blkE X scope l2) ((ownB X.N scope.names own).map (·.2)) σ H Q := by
    rw [okE] at h
    simp only [asDc, Bool.and_eq_true] at h
    obtain ⟨⟨⟨⟨⟨⟨h1, h2⟩, h3⟩, h5⟩, h6⟩, h7⟩, h8⟩ := h
    have h8' : ∀ j ∈ tgIx tg, j ∈ own := fun j hj => by
      have := List.all_eq_true.mp h8 j hj
      exact List.contains_iff_mem.mp this
    have h7' : me.isSome = true → 0 ∉ own := fun hs hc => by
      rw [← hi] at hs
      rw [hs, List.contains_iff_mem.mpr hc] at h7
      cases h7
    rw [ownB_snd]
    refine ui_it ii cx h1 hi Ext.refl R F hk fun src S1 μ1 H1 J E1 e1 R1 J1 F1 k1 => ?_
    intro L hL
    have R2 := R1.more (o := HO.dK []) hL .dK
    have F2 : FR (W.z fun b => W.Z b ∨ b = L) me μ1 (upd H1 L (.dK [])) f σ := (F1.more hL).ext (ext_new hL) fun b hb => by
      rcases hb with hb | hb
      · exact R1.zm b hb
      · rw [hb]; exact R1.free hL
    have J2 : JK (W.z fun b => W.Z b ∨ b = L) μ1 (upd H1 L (.dK [])) J src.items src.held := (J1.more hL).ext (ext_new hL).z
    have nzL : ¬ W.Z L := R1.freeZ hL
    have hme : ∀ o, me = some o → o.a ≠ L := fun o ho => by
      have q := F1.own
      rw [ho] at q
      obtain ⟨z, _, _, ⟨fs, q1, _⟩, _⟩ := q
      exact fun e => by rw [e, hL] at q1; cases q1
    have k1' := k1.bnd
    refine ⟨fun j mm Hc => mm = src.items.length - j ∧ j ≤ src.items.length ∧ ∃ μc Sc acc us, ExtZ (· = L) μ1 (upd H1 L (.dK [])) μc Hc ∧ SR (W.z fun b => W.Z b ∨ b = L) μc Sc Hc ∧ Hc L = some (.dK us) ∧ us.map (·.1) = (kvsOf acc).map (fun p => (.inl p.1 : L2.Key)) ∧ VRs (W.z fun b => W.Z b ∨ b = L) μc Hc ((kvsOf acc).map (·.2)) (us.map (·.2)) ∧
      K1 (compL src.held (fun x S2 => (evTg W.P C tg x (wipeV f own) S2).bind fun f1 S3 => (ev W.P C kx f1 S3).bind fun k S4 => (ev W.P C vx f1 S4).bind fun v S5 => pairO k v S5) (src.items.drop j) acc Sc) (fun ds S2 => OkP W μ H Q (.dic S2.length) (S2 ++ [Ob.dct (kvsOf ds)])) (XW W X μ H σ), ⟨src.items.length, by simp, Nat.zero_le _, μ1, S1, [], [], ExtZ.refl, R2, upd_same, rfl, .nil, k1'⟩, ?_⟩
    rintro j mm Hc ⟨rfl, hj, μc, Sc, acc, us, Ec, Rc, hcL, hck, Vc, kc⟩
    have Jc : JK (W.z fun b => W.Z b ∨ b = L) μc Hc J src.items src.held := J2.ext (Ec.mono fun b hb => .inr hb)
    have Fc : FR (W.z fun b => W.Z b ∨ b = L) me μc Hc f σ := F2.extD (.inr rfl) Ec R2.zm hme
    by_cases hlt : j < src.items.length
    · -- a turn
      refine .inr ?_
      rw [List.drop_eq_getElem_cons hlt] at kc
      unfold compL at kc
      by_cases st : Src.still src.held Sc
      · rw [if_pos st] at kc
        have kt := K1.turn kc
        obtain ⟨go, yl⟩ := (Jc.turn Rc st j).1 _ (List.getElem?_eq_getElem hlt)
        refine ⟨go, fun H' => ∃ μc Sc acc us, ExtZ (· = L) μ1 (upd H1 L (.dK [])) μc H' ∧ SR (W.z fun b => W.Z b ∨ b = L) μc Sc H' ∧ H' L = some (.dK us) ∧ us.map (·.1) = (kvsOf acc).map (fun p => (.inl p.1 : L2.Key)) ∧ VRs (W.z fun b => W.Z b ∨ b = L) μc H' ((kvsOf acc).map (·.2)) (us.map (·.2)) ∧
          K1 (compL src.held (fun x S2 => (evTg W.P C tg x (wipeV f own) S2).bind fun f1 S3 => (ev W.P C kx f1 S3).bind fun k S4 => (ev W.P C vx f1 S4).bind fun v S5 => pairO k v S5) (src.items.drop (j + 1)) acc Sc) (fun ds S2 => OkP W μ H Q (.dic S2.length) (S2 ++ [Ob.dct (kvsOf ds)])) (XW W X μ H σ), fun H' q => ⟨src.items.length - (j + 1), by omega, rfl, hlt, q⟩, fun x H' y => ?_⟩
        obtain ⟨Ry, Ey, Vy⟩ := yl x H' y
        intro s H0 Ca cl fp
        have Fy := (Fc.ext Ey Rc.zm).wipe (own := own) h7'
        refine ig (W.z fun b => W.Z b ∨ b = L) (X.blk s H0 scope (compEnvC scope cl Ca X.env) fp) (some scope) ini me t _ x _ Sc _ H' μc _ (cx.blk (fun b => W.Z b ∨ b = L) s H0 scope _ fp) (fun x hx => hx) h3 hi Ry Fy Vy (kt.bnd.imp (fun f1 S3 k3 μ3 H3 σ3 R3 E3 F3 w3 => ?_) fun _ _ q => q)
        refine ⟨by rw [w3 own h8', wipe_sub own fun _ h => h], fun s H0 Ca cl fp => UTs.of pts_nil ?_⟩
        unfold tYes
        simp only [if_true]
        have h3L : H3 L = some (.dK us) := ((Ey.trans E3).keep L _ hcL (Rc.zm L (.inr rfl)) .dK).1
        have V3 := Vc.ext (Ey.trans E3).z
        intro s H0 Ca cl fp
        refine ik (W.z fun b => W.Z b ∨ b = L) (X.blk s H0 scope (compEnvC scope cl Ca X.env) fp) ini me l _ S3 _ H3 μ3 _ (cx.blk (fun b => W.Z b ∨ b = L) s H0 scope _ fp) h5 hi R3 F3 (k3.bnd.imp (fun y S4 k4 μ4 H4 v R4 E4 V4 => ?_) fun _ _ q => q.elim)
        intro s H0 Ca cl fp
        refine iv (W.z fun b => W.Z b ∨ b = L) (X.blk s H0 scope (compEnvC scope cl Ca X.env) fp) ini me l2 _ S4 _ H4 μ4 _ (cx.blk (fun b => W.Z b ∨ b = L) s H0 scope _ fp) h6 hi R4 (F3.ext E4 R3.zm) (k4.bnd.imp (fun z S5 k5 μ5 H5 u R5 e5 V5 => ?_) fun _ _ q => q.elim)
        have E5 := E4.trans e5
        cases y <;> first | exact k5.elim | skip
        · next ki =>
          cases V4
          have k6 : K1 (if acc.length < sizeLine then _ else .bad) _ _ := k5
          by_cases hz : acc.length < sizeLine
          · rw [if_pos hz] at k6
            have h5L : H5 L = some (.dK us) := (E5.keep L _ h3L (R3.zm L (.inr rfl)) .dK).1
            have hl : us.length < sizeLine := by
              have a1 := congrArg List.length hck
              have a2 := kvsOf_len acc
              simp only [List.length_map] at a1
              omega
            obtain ⟨p1, p2⟩ := dr_put V5 ki hck (V3.ext E5.z)
            refine ⟨us, .inl ki, rfl, h5L, hl, μ5, S5, acc ++ [.tup [.int ki, z]], putK us (.inl ki) u, ?_, ?_, upd_same, ?_, ?_, k6⟩
            · exact ((Ec.trans (Ey.trans E3).z).trans E5.z).trans ⟨⟨[], by simp⟩, fun a o ha n hn _ => ⟨by rw [upd_ne hn]; exact ha, n⟩, .dct h5L⟩
            · refine R5.step ⟨⟨[], by simp⟩, fun a o ha n hn _ => ⟨by rw [upd_ne fun z => hn (.inr z)]; exact ha, n⟩, .dct h5L⟩ (fun a ha => upd_ne fun z => R5.zm a (.inr z) ha) (fun b hb => ?_) (tabs_dK R5.tb h5L)
              by_cases e : b = L
              · subst e; exact ⟨_, upd_same, .dK⟩
              · rw [upd_ne e]; exact R5.zz b hb
            · rw [kvsOf_put]; exact p1
            · rw [kvsOf_put]
              exact p2.ext ⟨⟨[], by simp⟩, fun a o ha n hn _ => ⟨by rw [upd_ne fun z => hn (.inr z)]; exact ha, n⟩, .dct h5L⟩
          · rw [if_neg hz] at k6
            exact k6.elim
      · rw [if_neg st] at kc
        exact kc.elim
    · -- the end
      have e : j = src.items.length := by omega
      subst e
      rw [List.drop_length] at kc
      unfold compL at kc
      by_cases st : Src.still src.held Sc
      · rw [if_pos st] at kc
        refine .inl ⟨(Jc.turn Rc st _).2 rfl, ?_⟩
        have q : OkP W μ H Q (.dic Sc.length) (Sc ++ [.dct (kvsOf acc)]) := kc
        have EE : Ext μ H μc Hc := ext_own hL E1 (ext_new hL) Ec
        have nL : L ∉ μc := Rc.zm L (.inr rfl)
        refine q (μc ++ [L]) Hc _ (Rc.takeD hcL nzL hck Vc) ⟨?_, fun a o ha n nt => ?_, EE.kin⟩ (.dic ?_ ⟨_, hcL⟩)
        · obtain ⟨t, et⟩ := EE.pre
          exact ⟨t ++ [L], by rw [et, List.append_assoc]⟩
        · obtain ⟨q1, q2⟩ := EE.keep a o ha n nt
          refine ⟨q1, ?_⟩
          simp only [List.mem_append, List.mem_singleton, not_or]
          refine ⟨q2, fun z => ?_⟩
          have := (E1.keep a o ha n nt).1
          rw [z, hL] at this
          cases this
        · rw [List.getElem?_append_right (by rw [Rc.len]; exact Nat.le_refl _), Rc.len]
          simp
      · rw [if_neg st] at kc
        exact kc.elim
theorem dcom_facts {P : Pr} {lk : Chk} {N : List Str} {ini : Bool} {sc : Scope} {kx vx : Ex} {tg : Tg} {it : It} {own : List Nat} {e : Expr} (h : okE P lk N ini sc (.dcom kx vx tg it own) e = true) :
    ∃ l l2 t i scope pos, e = .DictComp l l2 [⟨t, i, [], 0⟩] scope pos ∧ okI P lk N ini sc it i t = true ∧ BlkOk N sc scope (ownB N scope.names own) := by
  rw [okE] at h
  split at h
  · next l l2 t i scope he =>
    obtain ⟨pos, rfl⟩ := asDc_eq he
    simp only [Bool.and_eq_true] at h
    obtain ⟨⟨⟨⟨⟨⟨h1, h2⟩, h3⟩, h5⟩, h6⟩, h7⟩, h8⟩ := h
    exact ⟨l, l2, t, i, scope, pos, rfl, h1, blkOk_by h2⟩
  · cases h
theorem se_dcom {kx vx : Ex} {tg : Tg} {it : It} {own : List Nat} (ik : SE C kx) (iv : SE C vx) (ig : SG0 C tg) (ii : ∀ x ∈ itEs it, SE C x) : SE C (.dcom kx vx tg it own) := by
  intro W X ini me e f S σ H μ Q cx h hi R F hk
  obtain ⟨l, l2, t, i, scope, pos, rfl, h1, h2⟩ := dcom_facts h
  exact U.of (pe_dc cx.calm cx.nd (UI.pi t i) h2 (fun s H0 C cl fp => blkG.pg s H0 C cl fp t) (fun s H0 C cl fp => blkT.pts s H0 C cl fp []) (fun s H0 C cl fp => blkE.pe s H0 C cl fp l) (fun s H0 C cl fp => blkE.pe s H0 C cl fp l2) (okI_fold h1)) (dc_ok ik iv ig ii cx h hi R F hk)
end
end Th
namespace Th
open PySem PySem.Spec PyProof.Rows L2
section
variable {X : Cx} {σ : L2.St} {H : Hp} {Q : VK} {x m : Str} {f a C : Addr} {fd : FuncData} {ps : List Str} {p pos apos : Pos} {e o : Expr} {es : List Expr}
theorem u_stat (hpa : plainA o = true) (hns : ∀ env, (backTo pos (starEach (e :: es) env)).all (fun x => !x.1) = true) (hl : (apos.endLine == pos.line) = true) (hlen : (e :: es).length < 20) (he : starEach (e :: es) X.env = (false, eval e X.env) :: starEach es X.env) (hpl : (backTo pos (starEach es X.env)).any (·.1) = false)
    (hs : SMet X.K C m f) (hb : Binds X.K fd ps []) (h : U X o σ H (fun v H1 => v = .ref C ∧ UA X (e :: es) σ H1 (fun vs H2 => Prom X σ f fd ps vs H2 Q))) : U X (.Call (.Attribute o m apos) (e :: es) [] pos) σ H Q := fun pins s I => by
  obtain ⟨mc, q, rest, r1, r2, r3, r4⟩ := hs.ex
  refine PySem.W.methodCall_KW (pl := _) (thn (h pins s I) fun u s1 ⟨v, H1, I1, rx, ev, hA⟩ => ?_) (meth_eq hpa (hns X.env) hlen hl)
  subst ev
  obtain rfl : u = Value.ref C := rx
  refine PySem.W.method_cls I1.kIn r2 (PySem.W.cls_bind I1.kIn r1 r3 (wpAny_call (PySem.W.sm_get (s := { s1 with toks := s1.toks + 1 }) I1.kIn r4 (PySem.W.handed_on rfl ?_))))
  have I2 : L2.Inv X pins σ H1 { s1 with toks := s1.toks + 1 } := I1.tok _
  show wpAny _ _ (callWith pos (.ref f) [] (backTo pos (starEach (e :: es) X.env)) []) _ _ _
  refine PySem.W.callWith_K (h₀ := X.base) I2.ok.mod.kin hs.kp (thn (hA pos pins _ I2) fun us s2 ⟨vs, H2, I3, r, q⟩ => ⟨I3.kIn, ?_⟩) he hpl
  exact q.run hb I3 r
end
section
variable {C : Orc}
theorem se_cS {c m g : Nat} {xs : List Ex} (ih : ∀ x ∈ xs, SE C x) : SE C (.cS c m g xs) := by
  intro W X ini me e f S σ H μ Q cx h hi R F hk
  rw [okE] at h
  split at h
  · next l a vs he =>
    obtain ⟨p, q, rfl, hq⟩ := asMeth_eq he
    simp only [Bool.and_eq_true, beq_iff_eq, decide_eq_true_eq] at h
    obtain ⟨⟨⟨⟨⟨⟨h1, h2⟩, h3, h3s⟩, h4⟩, h5⟩, h6⟩, h7⟩ := h
    split at h1
    · next x hx =>
      obtain ⟨p1, rfl⟩ := asName_eq hx
      simp only [Bool.and_eq_true, beq_iff_eq] at h1
      obtain ⟨⟨g1, g2⟩, g3⟩ := h1
      subst g1 h2
      obtain ⟨s1, s2⟩ := cx.sms c m g h3s
      obtain ⟨y, ys, e, es, rfl, rfl, o1, o2⟩ := okEs_cons h4 h5
      refine u_stat h6 (fun env => oks_none h4 env q) hq h7 (ok_star o1 es X.env) (oks_star o2 X.env q) (by rw [cx.kk]; exact s2) (by rw [cx.kk]; exact cx.bind g h3) ?_
      refine U.of (pe_glob (glB_gl g2) s1 (show RelV (.ref (W.lk.ca c)) _ from rfl) (plainN_1 g3)) ⟨rfl, ?_⟩
      exact ua_list ih cx h4 hi Ext.refl R F hk fun ds S1 μ1 H1 ws E1 e1 R1 V1 F1 k1 => by
        obtain ⟨k, hr, Fn⟩ := cx.fns g h3 ⟨ds, S1, fun z => by rw [z] at k1; exact k1.elim⟩
        obtain ⟨E, hx, k2⟩ := exc_pass E1 k1
        exact ⟨k, _, E, hr, Fn, hx, W.Z, μ1, S1, ds, R1, V1, k2⟩
    · cases h1
  · cases h
theorem tb_lit {pr : Params} : ∀ {es : List DictEntry} {tb : List (Str × Int)}, es.map entD = tb.map (fun p => some (p.1, PyData.keyHash pr p.1, p.2)) → PySem.W.KeysLit pr es
  | [], _, _ => trivial
  | e :: es, [], h => by simp at h
  | e :: es, p :: tb, h => by
    simp only [List.map_cons, List.cons.injEq] at h
    refine ⟨?_, tb_lit h.2⟩
    have h1 := h.1
    unfold entD at h1
    split at h1
    · next x t i u ek ev =>
      simp only [Option.some.injEq, Prod.mk.injEq] at h1
      exact ⟨x, t, ek, by rw [h1.2.1, h1.1]⟩
    · cases h1
def kgetV (tb : List (Str × Int)) (s : Str) (z : V) : V := match tb with
  | [] => z
  | p :: r => if p.1 = s then .int p.2 else kgetV r s z
theorem tb_get {pr : Params} {s : Str} {z : V} {u : Value} (rz : RelV z u) : ∀ {es : List DictEntry} {tb : List (Str × Int)}, es.map entD = tb.map (fun p => some (p.1, PyData.keyHash pr p.1, p.2)) → RelV (kgetV tb s z) ((findBy Value.isStrOf es.toArray s).getD u)
  | [], [], _ => rz
  | [], p :: tb, h => by simp at h
  | e :: es, [], h => by simp at h
  | e :: es, p :: tb, h => by
    simp only [List.map_cons, List.cons.injEq] at h
    have ih := tb_get rz (s := s) h.2
    have h1 := h.1
    unfold entD at h1
    split at h1
    · next x t i t2 ek ev =>
      simp only [Option.some.injEq, Prod.mk.injEq] at h1
      obtain ⟨h1, _, h3⟩ := h1
      subst h1 h3
      by_cases q : p.1 = s
      · have e1 : findBy Value.isStrOf (e :: es).toArray s = some e.val := by
          unfold findBy
          rw [List.find?_toArray, List.find?_cons]
          have : Value.isStrOf s e.key = true := by rw [ek]; exact beq_iff_eq.mpr q
          rw [this]
          rfl
        rw [e1, ev]
        show RelV (if p.1 = s then V.int p.2 else kgetV tb s z) _
        rw [if_pos q]
        exact ⟨t2, rfl⟩
      · have e1 : findBy Value.isStrOf (e :: es).toArray s = findBy Value.isStrOf es.toArray s := by
          unfold findBy
          rw [List.find?_toArray, List.find?_toArray, List.find?_cons]
          have : Value.isStrOf s e.key = false := by rw [ek]; exact beq_eq_false_iff_ne.mpr q
          rw [this]
        rw [e1]
        show RelV (if p.1 = s then V.int p.2 else kgetV tb s z) _
        rw [if_neg q]
        exact ih
    · cases h1
theorem u_kget {X : Cx} {σ : L2.St} {H : Hp} {Q : VK} {y : Str} {a : Addr} {tb : List (Str × Int)} {p apos pos : Pos} {e f : Expr} (hg : Gl X y) (hy : X.mg y = some (.ref a)) (hdb : (y == ("__debug__" : Str)) = false) (kt : KTb X.K X.w.params a tb) (hbase : attributeBase (.Name y p) "get" X.env (eval (.Name y p) X.env) = eval (.Name y p) X.env)
    (hl : (apos.endLine == pos.line) = true) (hs : starEach [e, f] X.env = [(false, eval e X.env), (false, eval f X.env)])
    (h : UA X [e, f] σ H (fun vs H1 => ∃ s z, vs = [.str s, z] ∧ Q (kgetV tb s z) H1)) : U X (.Call (.Attribute (.Name y p) "get" apos) [e, f] [] pos) σ H Q := fun pins s I => by
  obtain ⟨es, n, hK, hlow, hes⟩ := kt
  refine wpAny_Call_method_late hbase (by rw [hs]; rfl) hl rfl (thn ((pe_glob (X := X) hg hy (show RelV (.ref a) _ from rfl) hdb).run pins s σ H (fun v H1 => v = .ref a ∧ H1 = H) I ⟨rfl, rfl⟩) fun u s1 ⟨v, H1, I1, rv, ev, eH⟩ => ?_)
  subst ev eH
  obtain rfl : u = Value.ref a := rv
  have ha := I1.kIn a _ hK
  refine ⟨"dict", "dict.get", PySem.F.plainAttrs_dict, PySem.F.slot_dict_get, PySem.F.type_dict_get, ⟨_, ha, rfl⟩, fun b eb => ?_, ?_⟩
  · cases eb
    exact ⟨_, ha, rfl⟩
  · have hA := h pos pins s1 I1
    rw [hs] at hA ⊢
    refine Calls.callWith_builtin rfl (Calls.evalArgs_plain (thn hA fun us s2 ⟨vs, H2, I2, r2, sx, z, ev, q⟩ => ?_))
    subst ev
    cases r2 with
    | cons ra rr =>
      cases rr with
      | cons rb rr =>
        cases rr
        obtain ⟨t, rfl⟩ := ra
        have hT : s2.TypeIs (.ref a) "dict" := ⟨_, I2.kIn a _ hK, rfl⟩
        have hm := PySem.W.mapOf_K (prog := X.prog) (w := X.w) I2.kIn hK (tb_lit hes)
        refine call_meetsIn PySem.F.slot_dict_get hT PySem.F.entry_dict_get (PySem.F.args_dict_get_3 _ _ _) (meets_dict_get_default (strKind X.prog X.w) a (strKind_is X.prog X.w sx t) hlow _) ⟨_, hm, ⟨_, H2, I2.tok _, ?_, q⟩⟩
        have := tb_get (s := sx) rb hes
        rwa [Array.toArray_toList] at this
theorem kget_vr {W : Wd} {μ : List Addr} {H : Hp} {s : Str} {z : D} {v : V} (V1 : VR W μ H z v) : ∀ tb : List (Str × Int), VR W μ H (kgetD tb s z) (kgetV tb s v)
  | [] => V1
  | p :: tb => by
    show VR W μ H (if p.1 = s then D.int p.2 else kgetD tb s z) (if p.1 = s then V.int p.2 else kgetV tb s v)
    by_cases q : p.1 = s
    · rw [if_pos q, if_pos q]; exact .int _
    · rw [if_neg q, if_neg q]; exact kget_vr V1 tb
theorem se_kget {x : Nat} {tb : List (Str × Int)} {k d : Ex} (ik : SE C k) (id : SE C d) : SE C (.kget x tb k d) := by
  intro W X ini me e f S σ H μ Q cx h hi R F hk
  rw [okE] at h
  split at h
  · next l a r r' he =>
    obtain ⟨p, q, rfl, hq⟩ := asMeth_eq he
    simp only [Bool.and_eq_true, beq_iff_eq] at h
    obtain ⟨⟨⟨⟨⟨h1, h2⟩, h3⟩, h4⟩, h5⟩, h6⟩ := h
    subst h2
    split at h1
    · next y hy =>
      obtain ⟨p1, rfl⟩ := asName_eq hy
      simp only [Bool.and_eq_true, beq_iff_eq] at h1
      obtain ⟨⟨g1, g2⟩, g3⟩ := h1
      subst g1
      obtain ⟨b, s1, s2⟩ := cx.dks x tb h3
      have st : starEach [r, r'] X.env = [(false, eval r X.env), (false, eval r' X.env)] := by
        rw [ok_star h4 [r'] X.env, ok_star h5 [] X.env]
        rfl
      refine u_kget (glB_gl g2) s1 (plainN_1 g3) (by rw [cx.kk]; exact s2) (plainA_base h6 _ X.env _) hq st ?_
      refine UA.of (pa_cons (U.pe r) (pa_cons (U.pe r') pa_nil (ok_star h5 [] X.env)) (ok_star h4 [r'] X.env)) ?_
      refine ik.use cx h4 hi Ext.refl R F hk fun y S1 μ1 H1 v E1 _ R1 V1 F1 k1 => ?_
      refine id.use cx h5 hi E1 R1 F1 k1 fun z S2 μ2 H2 u E2 e2 R2 V2 F2 k2 => ?_
      cases y <;> first | exact k2.elim | skip
      next sx =>
      cases V1
      exact ⟨sx, u, rfl, (show OkP W μ H Q _ _ from k2) μ2 H2 _ R2 E2 (kget_vr V2 tb)⟩
    · cases h1
  · cases h
theorem se_dgd {o k d : Ex} (io : SE C o) (ik : SE C k) (id : SE C d) : SE C (.dgd o k d) := by
  intro W X ini me e f S σ H μ Q cx h hi R F hk
  rw [okE] at h
  split at h
  · next l m r r' he =>
    obtain ⟨p, q, rfl, hq⟩ := asMeth_eq he
    simp only [Bool.and_eq_true, beq_iff_eq] at h
    obtain ⟨⟨⟨⟨h1, h2⟩, h3⟩, h4⟩, h5⟩ := h
    subst h1
    have st : starEach [r, r'] X.env = [(false, eval r X.env), (false, eval r' X.env)] := by
      rw [ok_star h3 [r'] X.env, ok_star h4 [] X.env]
      rfl
    refine U.of (pe_dget2 (by have := cx.u65; omega) (U.pe l) (U.pe r) (U.pe r') ⟨plainA_base h5 _ X.env _, by rw [st]; rfl, hq, by rw [st]; rfl⟩) ?_
    refine io.use cx h2 hi Ext.refl R F hk fun x S1 μ1 H1 v E1 _ R1 V1 F1 k1 => ?_
    split at k1
    · next kvs0 hx0 =>
      obtain ⟨n0, b0, us0, _, rfl, _, _, g0, _, _⟩ := V1.dct R1 hx0
      refine ⟨b0, rfl, .inl ⟨us0, .inl g0⟩, ?_⟩
      refine ik.use cx h3 hi E1 R1 F1 k1 fun y S2 μ2 H2 u E2 e2 R2 V2 F2 k2 => ?_
      refine id.use cx h4 hi E2 R2 F2 k2 fun z S3 μ3 H3 t E3 e3 R3 V3 F3 k3 => ?_
      split at k3
      · next kvs i hx =>
        obtain ⟨n, a, us, _, ea, _, _, g2, g3, g4⟩ := (V1.ext (e2.trans e3).z).dct R3 hx
        cases ea
        cases V2
        have k4 : OkP W μ H Q ((getI kvs i).getD z) S3 := k3
        refine ⟨_, DGet.k (k := .inl i) g2, ?_⟩
        obtain ⟨d1, d2⟩ := dr_get g3 g4 i
        cases q1 : getI kvs i with
        | none =>
          rw [q1] at k4
          rw [d2 q1]
          exact k4 μ3 _ _ R3 E3 V3
        | some dd =>
          rw [q1] at k4
          obtain ⟨w, w1, w2⟩ := d1 dd q1
          rw [w1]
          exact k4 μ3 _ _ R3 E3 w2
      · exact k3.elim
    · exact k1.elim
  · cases h
end
theorem SR.allocK {W : Wd} {μ : List Addr} {H : Hp} {S : Store} {p : Addr} {kvs : List (Int × D)} {us : List (L2.Key × V)} (R : SR W μ S H) (hp : H p = none) (hk : us.map (·.1) = kvs.map (fun p => (.inl p.1 : L2.Key))) (r : VRs W μ H (kvs.map (·.2)) (us.map (·.2))) : SR W (μ ++ [p]) (S ++ [.dct kvs]) (upd H p (.dK us)) := by
  have e := (ext_alloc (μ := μ) (o := .dK us) hp)
  refine ⟨by simp [R.len], ?_, fun n o a h1 h2 => ?_, fun b hb => ?_, fun b hb => ?_, tabs_new R.tb hp⟩
  · rw [List.nodup_append]
    refine ⟨R.nd, by simp, fun a ha b hb => ?_⟩
    have : b = p := by simpa using hb
    subst this
    exact fun q => R.free hp (q ▸ ha)
  · by_cases hn : n < S.length
    · rw [List.getElem?_append_left hn] at h1
      rw [List.getElem?_append_left (by rw [R.len]; exact hn)] at h2
      obtain ⟨u, hu⟩ := R.mem (List.mem_of_getElem? h2)
      exact (R.at_ n o a h1 h2).move e.z (upd_ne (ne_of_none hu hp))
    · have hn' : n = S.length := by
        have := (List.getElem?_eq_some_iff.mp h1).1
        simp at this
        omega
      subst hn'
      rw [List.getElem?_append_right (Nat.le_refl _)] at h1
      rw [List.getElem?_append_right (by rw [R.len]; exact Nat.le_refl _)] at h2
      simp [R.len] at h1 h2
      subst h1 h2
      exact .dct upd_same hk (r.ext e.z)
  · exact R.zz_new hp hb
  · simp only [List.mem_append, List.mem_singleton, not_or]
    exact ⟨R.zm b hb, fun q => R.freeZ hp (q ▸ hb)⟩
theorem zip_kv : ∀ {ns : List Int} {us : List Value} {ys : List V} {vs : List Value}, Vals (ns.map V.int) us → Vals ys vs → KV ((ns.map Sum.inl : List L2.Key).zip ys) ((ns.map Sum.inl : List L2.Key).zip vs) ∧ ((ns.map Sum.inl : List L2.Key).zip vs).length = min us.length vs.length ∧
    ∀ (i : Nat) (k v : Value), us[i]? = some k → vs[i]? = some v → ∃ (n : Int) (t : Tok), k = .int n t ∧ ((ns.map Sum.inl : List L2.Key).zip vs)[i]? = some (.inl n, v)
  | [], _, ys, vs, .nil, r2 => ⟨by cases r2 <;> exact .nil, by simp, fun i k v h1 => by simp at h1⟩
  | n :: ns, us, ys, vs, r1, r2 => by
    rw [List.map_cons] at r1
    cases r1 with
    | @cons _ u _ us2 h t =>
      cases r2 with
      | nil => exact ⟨.nil, by simp, fun i k v _ h => by simp at h⟩
      | @cons y v ys2 vs2 h2 t2 =>
        obtain ⟨a, b, c⟩ := zip_kv t t2
        refine ⟨.cons ⟨rfl, h2⟩ a, ?_, fun i k w g1 g2 => ?_⟩
        · simp only [List.map_cons, List.zip_cons_cons, List.length_cons] at b ⊢
          omega
        · cases i with
          | zero =>
            simp only [List.getElem?_cons_zero, Option.some.injEq] at g1 g2
            subst g1 g2
            obtain ⟨t', rfl⟩ := h
            exact ⟨n, t', rfl, rfl⟩
          | succ i =>
            simp only [List.getElem?_cons_succ] at g1 g2
            exact c i k w g1 g2
theorem u_dzip {X : Cx} {σ : L2.St} {H : Hp} {Q : VK} {e1 e2 : Expr} {p p2 q q2 : Pos} (hc : X.calm = true) (hg : Gl X "dict") (hm : X.mg "dict" = none) (hg2 : Gl X "zip") (hm2 : X.mg "zip" = none) (hs2 : starEach [e1, e2] X.env = (false, eval e1 X.env) :: starEach [e2] X.env) (hpl2 : (backTo q2 (starEach [e2] X.env)).any (·.1) = false)
    (h : UA X [e1, e2] σ H (fun us H1 => ∃ (a b : Addr) (ns : List Int) (ys : List V), us = [.ref a, .ref b] ∧ SqL X.K H1 a (ns.map V.int) ∧ SqL X.K H1 b ys ∧ ns.length ≤ 100000 ∧ ∀ r, H1 r = none → Q (.ref r) (upd H1 r (.dK (mergeK [] ((ns.map Sum.inl : List L2.Key).zip ys)))))) :
    U X (.Call (.Name "dict" p) [.Call (.Name "zip" p2) [e1, e2] [] q2] [] q) σ H Q := fun pins s I => by
  refine Call_ (ld_blt I hg hm boot_dict (callWith_type1 (args_cons ?_ star_call) star_call))
  refine Call_ (ld_blt I hg2 hm2 boot_zip (callWith_type1 (thn (h q2 pins s I) fun us s1 ⟨ws, H1, I1, r, a, b, ns, ys, ew, qx, qy, hl, k⟩ => ?_) hs2 hpl2))
  subst ew
  obtain ⟨as, m1, p1, z1⟩ := I1.list qx
  obtain ⟨bs, m2, p2, z2⟩ := I1.list qy
  cases r with
  | cons r1 rr => cases rr with
    | cons r2 rr =>
      cases rr
      cases r1
      cases r2
      refine zip_begins2 (beginsB false a as.toArray) (beginsB false b bs.toArray) p1.isList p2.isList fun h' hz hI hO g1 g2 sz hk => args_nil ?_
      have I2 : L2.Inv X pins σ H1 { s1 with heap := h' } := I1.kept (t' := s1.toks) hk
      obtain ⟨c1, c2, c3⟩ := zip_kv m1 m2
      refine call_dict_pairs (s := { s1 with heap := h' }) (knd := mixKind X.prog X.w) (kvs := (ns.map Sum.inl : List L2.Key).zip bs) (PairArg.zip _ _ _ _ _ a b (PySem.W.ktu_apart s1.heap.objs.size a b p1.lt p2.lt) as.toArray bs.toArray) (I2.ok.hd hc)
        ⟨hz, hI, ⟨_, _, hO⟩, OnB.first (t := false) g1, OnB.first (t := false) g2, p1.isList.at fun o e => hk _ o e, p2.isList.at fun o e => hk _ o e⟩ ⟨by rw [c2]; simp, fun i kk v ⟨g1, g2⟩ => ?_⟩ ?_ fun h'' tk hd hk2 => ?_
      · obtain ⟨n, t, e1, e2⟩ := c3 i kk v (by simpa using g1) (by simpa using g2)
        exact ⟨.inl n, e2, by rw [e1]; exact mixKind_int X.prog X.w n t⟩
      · have hl1 := m1.length
        simp only [List.length_map] at hl1
        rw [sizeLine_eq]
        simp only [List.size_toArray]
        omega
      · have hlen : (mergeK [] ((ns.map Sum.inl : List L2.Key).zip ys)).length ≤ sizeLine := by
          have := merge_len ((ns.map Sum.inl : List L2.Key).zip ys) []
          rw [List.length_nil, List.length_zip, List.length_map] at this
          rw [sizeLine_eq]
          omega
        have gt : s1.heap.objs.size ≤ h'.objs.size := by rw [sz]; omega
        have keep : ∀ c o, s1.heap.get? c = some o → h''.get? c = some o := fun c o e => by
          have lt := Heap.lt_size e
          refine hk2 c o ?_ (hk c o e)
          simp only [List.mem_cons, List.not_mem_nil, or_false, not_or]
          refine ⟨?_, ?_, ?_, ?_⟩ <;> (intro z; subst z; first | exact Nat.lt_irrefl _ lt | exact absurd lt (Nat.not_lt.mpr (Nat.le_add_right _ _)))
        have low : (h'.objs.size == sysModules) = false := beq_eq_false_iff_ne.mpr (Nat.ne_of_gt I2.big)
        exact ⟨.ref h'.objs.size, _, I1.laid (t' := tk) keep gt (dk_new hlen low (merge_rel c1 .nil) hd), rfl, k _ (I1.hok.fresh gt)⟩
section
variable {W : Wd} {μ : List Addr} {H : Hp}
theorem dr_zip : ∀ (ns : List Int) {ds : List D} {vs : List V}, VRs W μ H ds vs → ((ns.map Sum.inl : List L2.Key).zip vs).map (·.1) = (ns.zip ds).map (fun p => (.inl p.1 : L2.Key)) ∧ VRs W μ H ((ns.zip ds).map (·.2)) (((ns.map Sum.inl : List L2.Key).zip vs).map (·.2))
  | [], _, _, r => by cases r <;> exact ⟨rfl, .nil⟩
  | n :: ns, _, _, r => by
    cases r with
    | nil => exact ⟨rfl, .nil⟩
    | cons h t =>
      obtain ⟨a, b⟩ := dr_zip ns t
      refine ⟨?_, .cons h b⟩
      simp only [List.map_cons, List.zip_cons_cons]
      rw [a]
end
section
variable {C : Orc}
theorem intsOf_vr {W : Wd} {μ : List Addr} {H : Hp} : ∀ {xs : List D} {vs : List V} {ns : List Int}, VRs W μ H xs vs → intsOf xs = some ns → vs = ns.map V.int ∧ xs.length = ns.length := by
  intro xs
  induction xs with
  | nil =>
    intro vs ns r e
    cases r
    have : ns = [] := by simpa [intsOf] using e.symm
    subst this
    exact ⟨rfl, rfl⟩
  | cons x xs ih =>
    intro vs ns r e
    cases r with
    | cons h t =>
      unfold intsOf at e
      rw [List.mapM_cons] at e
      cases x <;> first | (simp [intOf] at e; done) | skip
      next i =>
      cases h
      cases q : xs.mapM intOf with
      | none => rw [q] at e; simp [intOf] at e
      | some ms =>
        rw [q] at e
        have e2 : ns = i :: ms := by simpa [intOf] using e.symm
        subst e2
        obtain ⟨a, b⟩ := ih t (show intsOf xs = some ms from q)
        exact ⟨by rw [a]; rfl, by simp [b]⟩
theorem se_dzip {a b : Ex} (ia : SE C a) (ib : SE C b) : SE C (.dzip a b) := by
  intro W X ini me e f S σ H μ Q cx h hi R F hk
  rw [okE] at h
  split at h
  · next x r he =>
    obtain ⟨p, q, rfl⟩ := asCall_eq he
    simp only [Bool.and_eq_true, beq_iff_eq] at h
    obtain ⟨⟨rfl, h2⟩, h3⟩ := h
    split at h3
    · next y v w he2 =>
      obtain ⟨p2, q2, rfl⟩ := asCall_eq he2
      simp only [Bool.and_eq_true, beq_iff_eq] at h3
      obtain ⟨⟨⟨rfl, h4⟩, h5⟩, h6⟩ := h3
      have st := ok_star h5 [w] X.env
      have st2 := ok_star h6 [] X.env
      refine u_dzip cx.calm (glB_gl h2) (cx.blt _ (by decide)) (glB_gl h4) (cx.blt _ (by decide)) st (by rw [st2]; rfl) ?_
      refine UA.of (pa_cons (U.pe v) (pa_cons (U.pe w) pa_nil st2) st) ?_
      refine ia.use cx h5 hi Ext.refl R F hk fun d S1 μ1 H1 u1 E1 e1 R1 V1 F1 k1 => ?_
      refine ib.use cx h6 hi E1 R1 F1 k1 fun d2 S2 μ2 H2 u2 E2 e2 R2 V2 F2 k2 => ?_
      obtain ⟨kvs, ez, k3⟩ := K1.off k2.bnd
      unfold zipO at ez
      split at ez
      · next xs ys hx hy =>
        split at ez
        · next ns hn =>
          split at ez
          · next hl =>
            cases ez
            obtain ⟨a1, vs1, rfl, q1, r1⟩ := (V1.ext e2.z).seqL R2 hx
            obtain ⟨a2, vs2, rfl, q2, r2⟩ := V2.seqL R2 hy
            obtain ⟨ev, _⟩ := intsOf_vr r1 hn
            subst ev
            refine ⟨a1, a2, ns, vs2, rfl, by rw [cx.kk]; exact q1, by rw [cx.kk]; exact q2, hl, fun r hr => ?_⟩
            have k4 : OkP W μ H Q (.dic S2.length) (S2 ++ [.dct (updI [] (ns.zip ys))]) := k3
            obtain ⟨z1, z2⟩ := dr_zip ns r2
            obtain ⟨m1, m2⟩ := dr_upd z1 z2 (kvs := []) (us := []) rfl .nil
            refine k4 _ _ _ (R2.allocK hr m1 m2) (E2.trans (ext_alloc hr)) (.dic ?_ ⟨_, upd_same⟩)
            rw [List.getElem?_append_right (by rw [R2.len]; exact Nat.le_refl _), R2.len]
            simp
          · cases ez
        · cases ez
      · cases ez
    · cases h3
  · cases h
theorem kv_vals : ∀ {kvs : List (L2.Key × V)} {vs : List (L2.Key × Value)}, KV kvs vs → Vals (kvs.map (·.2)) (vs.map (·.2)) := by
  intro kvs vs r
  induction r with
  | nil => exact .nil
  | cons h t ih => exact .cons h.2 ih
theorem u_dval {X : Cx} {σ : L2.St} {H : Hp} {Q : VK} {o : Expr} {p q apos pos : Pos} (hc : X.calm = true) (hg : Gl X "list") (hm : X.mg "list" = none) (hbase : attributeBase o "values" X.env (eval o X.env) = eval o X.env) (hl : (apos.endLine == pos.line) = true)
    (h : U X o σ H (fun v H1 => ∃ (a : Addr) (kvs : List (L2.Key × V)), v = .ref a ∧ H1 a = some (.dK kvs) ∧ ∀ l, H1 l = none → Q (.ref l) (upd H1 l (.lst (kvs.map (·.2)))))) :
    U X (.Call (.Name "list" p) [.Call (.Attribute o "values" apos) [] [] pos] [] q) σ H Q := fun pins s I => by
  refine Call_ (ld_blt I hg hm boot_list (callWith_type1 (args_cons ?_ star_call) star_call))
  refine wpAny_Call_method (T := "dict") (id := "dict.values") hbase rfl hl PySem.F.plainAttrs_dict PySem.F.slot_dict_values PySem.F.type_dict_values (thn (h pins s I) fun u s1 ⟨x, H1, I1, rx, a, kvs, ex, hd, k⟩ => ?_)
  subst ex
  obtain rfl : u = Value.ref a := rx
  obtain ⟨z, hlow, vs, rel, dd⟩ := dk_of I1.hok hd
  refine ⟨dd.typeIs, dd.mapOf.noDict, ?_⟩
  have I2 : L2.Inv X pins σ H1 { s1 with heap := s1.heap.push { cls := .type "dict_values", data := .fields #[.ref a] } } := I1.kept (t' := s1.toks) fun b ob q => Heap.get?_push_of_some _ q
  show wpAny _ _ (callWith pos (.builtin "dict.values") [.ref a] [] []) _ X.xe s1
  refine method_meetsIn PySem.F.slot_dict_values PySem.F.entry_dict_values rfl (PySem.evalArgs_none ⟨rfl, dd.typeIs, PySem.F.args_dict_values_1 _, _, meets_dict_values (mixKind X.prog X.w) a hlow, ⟨vs, dd⟩, args_nil ?_⟩)
  obtain ⟨ep, da⟩ := dd.dictAt
  have hlen := rel.length
  refine PySem.W.kdl_call (PySem.W.kdl_values (prog := X.prog) (w := X.w) (knd := mixKind X.prog X.w) (d := a) (r := s1.heap.objs.size) (kvs := vs) (ep := ep)) (I2.ok.hd hc) ⟨⟨_, Heap.get?_push_size _ rfl, rfl, rfl⟩, da.push _⟩ (by rw [← hlen]; exact z) fun h' tk acc c hk hx hacc => ?_
  have ea : acc.toList = vs.map (·.2) := PySem.W.kdl_vals_eq acc.toList (by rw [Array.length_toList]; exact hacc.1) fun j v hj => hacc.2 j v (by rw [← Array.getElem?_toList]; exact hj)
  refine ⟨.ref _, _, I2.laid (t' := tk) hk (Nat.le_refl _) (show ObjOk X.prog X.w _ _ _ (.lst (kvs.map (·.2))) from ⟨by rw [List.length_map]; exact z, acc.toList, c, by rw [ea]; exact kv_vals rel, by rw [Array.toArray_toList]; exact hx⟩), rfl, k _ (I2.hok.fresh (Nat.le_refl _))⟩
theorem se_dval {m : Bool} {o : Ex} (io : SE C o) : SE C (.dval m o) := by
  intro W X ini me e f S σ H μ Q cx h hi R F hk
  rw [okE] at h
  split at h
  · next x r he =>
    obtain ⟨p, q, rfl⟩ := asCall_eq he
    simp only [Bool.and_eq_true, beq_iff_eq] at h
    obtain ⟨⟨rfl, h2⟩, h3⟩ := h
    split at h3
    · next l n he2 =>
      obtain ⟨p2, q2, rfl, hq⟩ := asMeth_eq he2
      simp only [Bool.and_eq_true, beq_iff_eq] at h3
      obtain ⟨⟨rfl, h4⟩, h5⟩ := h3
      refine u_dval cx.calm (glB_gl h2) (cx.blt _ (by decide)) (plainA_base h5 _ X.env _) hq ?_
      refine io.use cx h4 hi Ext.refl R F hk fun x S1 μ1 H1 v E1 _ R1 V1 F1 k1 => ?_
      split at k1
      · next kvs hx =>
        obtain ⟨n, a, us, _, rfl, _, _, g2, g3, g4⟩ := V1.dct R1 hx
        exact ⟨a, us, rfl, g2, fresh_lst E1 R1 g4 k1⟩
      · exact k1.elim
    · cases h3
  · cases h
end
end Th
namespace Th
open PySem PySem.Spec PyProof.Rows L2
theorem upd_upd {H : Hp} {p : Addr} {o o' : HO} : upd (upd H p o) p o' = upd H p o' := by
  funext b
  by_cases e : b = p
  · subst e; rw [upd_same, upd_same]
  · rw [upd_ne e, upd_ne e, upd_ne e]
theorem se_dlit {C : Orc} {k v : Int} : SE C (.dlit k v) := by
  intro W X ini me e f S σ H μ Q cx h hi R F hk
  rw [okE] at h
  split at h
  · next a b he =>
    obtain ⟨p, rfl⟩ := asDct1_eq he
    simp only [Bool.and_eq_true] at h
    obtain ⟨j1, p1, rfl⟩ := asInt_eq (beq_iff_eq.mp h.1)
    obtain ⟨j2, p2, rfl⟩ := asInt_eq (beq_iff_eq.mp h.2)
    refine U.of (pe_disp (pps_cons pe_int pe_int pps_nil) (by rfl) (by rfl) (by simp) (by simp)) fun q hq => ?_
    refine ⟨upd_same, [(.inl k, .int v)], rfl, by simp, ?_⟩
    rw [upd_upd]
    have k1 : OkP W μ H Q (.dic S.length) (S ++ [.dct [(k, .int v)]]) := hk
    have R1 : SR W (μ ++ [q]) (S ++ [.dct [(k, .int v)]]) (upd H q (.dK [(.inl k, .int v)])) := R.allocK hq rfl (.cons (.int v) .nil)
    refine k1 _ _ _ R1 (ext_alloc hq) (.dic ?_ ⟨_, upd_same⟩)
    rw [List.getElem?_append_right (by rw [R.len]; exact Nat.le_refl _), R.len]
    simp
  · cases h
end Th
namespace Th
open PySem PySem.Spec PyProof.Rows L2
open Builtin Builtin.ObjectAttr in
theorem own_put {prog : Program} {w : World} {A : Around} {R : Result → Shared → Prop} {heap0 : Heap} {g : Array GenState} {d : Drawn} {t : Nat} {os : OsState} {K : PySem.W.Frag} {f : Str} {tk : Tok} {u : Value} {a C : Addr} {fv : Array Value} {cd : ClassData}
    (kin : K.In heap0) (at0 : heap0.get? a = some { cls := .ref C, data := .fields fv }) (isC : PySem.W.clsIn K C = some cd) (let_ : ∀ self, PySem.refuseLoop self "__setattr__" cd.mro = pure ()) (ob : cd.mro.contains (.type "object") = true) (ne : cd.mro.isEmpty = false)
    (hasD : cd.hasDict = true) (no : PySem.W.findIn K (.ref C) f = some none)
    (fin : ∀ heap1 tk1 dx, (∀ b o, b ≠ a → heap0.get? b = some o → heap1.get? b = some o) → heap0.objs.size ≤ dx → dx ≠ a → heap1.get? a = some { cls := .ref C, dict := some dx, data := .fields fv } →
      heap1.Ns1 dx (fun y => if y = f then some u else none) → R (.ok (.ret .none)) ⟨heap1, g, d, tk1, os⟩) :
    codeAny (model prog w) A (.call (.builtin "object.__setattr__") ⟨[.ref a, .str f tk, u], []⟩) R ⟨heap0, g, d, t, os⟩ := by
  have inst : PySem.W.InstAt heap0 a { cls := .ref C, data := .fields fv } C none := ⟨at0, rfl, rfl, trivial⟩
  have so := PySem.F.store_object
  have far : a ≠ heap0.objs.size := Nat.ne_of_lt (Heap.lt_size at0)
  have isOb : PySem.W.Looks (model prog w) heap0 (isInstance (.ref a) (.type "object")) true := inst.type.andThen (PySem.W.looks_mroIn kin (by
    unfold PySem.W.mroIn
    rw [isC, Option.bind_some, if_neg (by rw [ne]; decide), ob]))
  have mroL : PySem.W.Looks (model prog w) heap0 (mroOf (.ref C)) cd.mro := (PySem.W.looks_clsIn kin isC).andThen .now
  have takL : PySem.W.Looks (model prog w) heap0 (storeTaker? none) none := .now
  have datL : PySem.W.Looks (model prog w) heap0 (classData C) cd := PySem.W.looks_clsIn kin isC
  refine codeAny_call_builtin so.slot.plain so.entry (@PySem.W.check_slot (model prog w) _ _ ⟨heap0, g, d, t, os⟩ "object.__setattr__" "object" "__setattr__" (.ref a) [.str f tk, u] [] _ so.kind so.split isOb (so.args (.ref a) (.str f tk) u) ?_)
  rw [PySem.W.osa_eq, PySem.refuse_eq]
  refine wpAny_bind (wpAny_bind (inst.type.at (wpAny_bind (mroL.at ?_))))
  rw [let_ _]
  refine wpAny_pure (wpAny_bind (inst.type.at (wpAny_bind ((PySem.W.looks_findIn kin no).at (wpAny_bind (takL.at ?_))))))
  show wpAny _ _ (storeInOwnDict (.ref a) (.ref C) (.str f tk) f u false) _ _ _
  obtain ⟨c1, c2, c3, c4, c5, c6, c7, c8, c9, c10, c11⟩ := cd
  dsimp only at hasD
  subst hasD
  unfold storeInOwnDict ownDictForStores
  repeat (first | with_reducible refine PySem.HandSPX.store_in_new ?_ ?_ | with_reducible refine wpAny_loadPart_at at0 ?_ | with_reducible refine datL.at ?_ | wp_step)
  · exact ⟨_, #[], _, (Heap.get?_update_ne _ _ _ _ far.symm).trans (Heap.get?_push_at rfl rfl), rfl, fun e he => absurd he (by simp), fun _ => rfl⟩
  · intro heap1 tk1 ns1 same
    have at1 : (heap0.push { cls := .type "dict", data := .dict #[] }).get? a = some { cls := .ref C, data := .fields fv } := Heap.get?_push_of_some _ at0
    refine fin heap1 tk1 heap0.objs.size (fun b o hb ho => ?_) (Nat.le_refl _) far.symm ?_ ns1
    · exact (same.2 b (Nat.ne_of_lt (Heap.lt_size ho))).trans ((Heap.get?_update_ne _ _ _ _ hb).trans (Heap.get?_push_of_some _ ho))
    · exact (same.2 a far).trans (Heap.get?_update_self _ at1 rfl)
section
variable {X : Cx} {pins : List (Addr × Obj)} {σ : L2.St} {H : Hp} {s : Shared} {a C : Addr} {f : Str} {y : V} {u : Value} {Q : Unit → Shared → Prop} {E : Value → Shared → Prop} {A : Around}
/-- self.f = y, the first one -/
theorem put_first (T : OexG X.K C) (I : L2.Inv X pins σ H s) (e : H a = some (exo a C none)) (no : PySem.W.findIn X.K (.ref C) f = some none) (ry : RelV y u)
    (h : ∀ dx s', H dx = none → dx ≠ a → L2.Inv X pins σ (upd (upd H dx (exd dx [(f, y)])) a (exo a C (some dx))) s' → Q () s') : wpAny (model X.prog X.w) A (setAttr (.ref a) f u) Q E s := by
  obtain ⟨B, newId, initId, bmB, n1, n2, N, bs, bm, sn, sub, ab, col, dd, k0, k1, k2, k3, k5, FB, atC, pass, cont, ob⟩ := T.cls
  have isC : PySem.W.clsIn X.K C = some { name := n1, bases := bs, mro := .ref C :: bm, ns := N, qualname := n2, hasDict := true, slotNames := sn, subclasses := sub, abstract := ab, collection := col, hasDel := false } := by
    unfold PySem.W.clsIn
    rw [atC] <;> rfl
  obtain ⟨t1, at0⟩ := exo_at I.hok e
  obtain ⟨hp, g, d, t, os⟩ := s
  refine PySem.W.set_plain I.kIn (ox := { cls := .ref C, dict := none, data := .fields #[.ref t1, .none, .none, .none, .bool false, .none] }) (od := none) ⟨at0, rfl, rfl, trivial⟩ T.sa ?_
  refine own_put I.kIn at0 isC (fun self => pass self) (by rw [List.contains_cons, cont, ob, Bool.or_true]) rfl rfl no fun h' tk' dx keep low far at1 hn => ?_
  have fr : H dx = none := I.hok.fresh low
  have old : ∀ {b : Addr} {o : Obj}, hp.get? b = some o → b ≠ dx := fun {b o} q => Nat.ne_of_lt (Nat.lt_of_lt_of_le (Heap.lt_size q) low)
  have oth : ∀ {b : Addr}, H b = none → b ≠ a := fun {b} n z => by rw [z, e] at n; cases n
  have U1 : Un X.fs [] H (upd (upd H dx (exd dx [(f, y)])) a (exo a C (some dx))) hp h' :=
    ⟨fun b o q n _ _ => keep b o (oth n) q, fun b o q n _ _ => ⟨o.slots, keep b o (oth n) q⟩, fun b o q n _ => (by rw [upd_ne (oth n), upd_ne (old q)]; exact n),
     fun b o q _ => (by
      by_cases hb : b = a
      · exact ⟨_, (by rw [hb]; exact at1)⟩
      · exact ⟨o, keep b o hb q⟩),
     fun b xs q => (by rw [upd_ne (at_ne e q exo_tup), upd_ne (ne_of_none q fr)]; exact q), fun b o v q => (by rw [upd_ne (at_ne e q exo_frz), upd_ne (ne_of_none q fr)]; exact q),
     fun b ps q => ⟨#[], (by rw [upd_ne (at_ne e q exo_tbl), upd_ne (ne_of_none q fr), q]; simp)⟩⟩
  refine h dx _ fr far (I.un (t' := tk') U1 fun b o q => ?_)
  by_cases hb : b = a
  · subst hb; rw [upd_same] at q; cases q; exact exo_ok at1
  · rw [upd_ne hb] at q
    by_cases hd : b = dx
    · subst hd; rw [upd_same] at q; cases q; exact exd_ok hn (relO_put (fs := []) ry fun g => True.intro)
    · rw [upd_ne hd] at q
      refine (I.hok b o q).stay (fun c v hc z => keep c v ?_ z) (fun c hc => (by rw [upd_ne (at_ne e hc exo_own), upd_ne (ne_of_none hc fr)]; exact hc)) (fun c xs hc => (by rw [upd_ne (at_ne e hc exo_tup), upd_ne (ne_of_none hc fr)]; exact hc))
      rcases hc with hc | hc
      · rw [hc]; exact hb
      · exact at_ne e hc exo_own
end
/-- self.f = e, the first one -/
def tPut (K : PySem.W.Frag) (f : Str) (to te : TE) : TS := fun D σ H => te σ H fun y H1 => to σ H1 fun x H2 => ∃ a C : Addr, x = .ref a ∧ OexG K C ∧ PySem.W.findIn K (.ref C) f = some none ∧
  H2 a = some (exo a C none) ∧ ∀ dx, H2 dx = none → dx ≠ a → D.nx σ (upd (upd H2 dx (exd dx [(f, y)])) a (exo a C (some dx)))
section
variable {X : Cx} {o e : Expr} {es : List Expr} {to te : TE} {ta : TA} {f : Str} {p p' pos : Pos}
theorem ps_put (ho : PE X o to) (he : PE X e te) (hs : swapsWith e (some (.Attribute o f p')) pos.line X.env = pure false := by rfl) : PS X (.Assign [.Attribute o f p'] e pos) (tPut X.K f to te) := by
  refine ⟨fun pins s σ H D I h => ?_⟩
  refine plainObj_wpAny_Assign_Attribute (thn (he.run pins s σ H _ I h) fun v s1 ⟨y, H1, I1, r1, q1⟩ => thn (ho.run pins s1 σ H1 _ I1 q1) fun u s2 ⟨x, H2, I2, r2, a, C, ex, T, no, ea, q⟩ => ?_) hs
  subst ex
  cases (show u = Value.ref a from r2)
  exact put_first T I2 ea no r1 fun dx s' n ne J => ⟨σ, _, J, q dx n ne⟩
theorem pmk_put {CX : CXT} {x : Str} {C fI : Addr} {k : Nat} {fd : FuncData} {ps : List Str} {sp : Sp} (T : OexG X.K C) (iC : PySem.W.findIn X.K (.ref C) "__init__" = some (some (.ref fI))) (tI : PySem.W.typeIn X.K (.ref fI) = some (.type "function"))
    (F1 : FnOk X.prog X.w X.K X.mg X.base CX k fI fd ps sp) (hr : Room (k + 1) X.A) (hb : Binds X.K fd ps []) (hx : Passes CX X (fun _ _ _ => False)) (hg : Gl X x) (hm : X.mg x = some (.ref C)) (ha : PA X (e :: es) ta)
    (hdb : (x == ("__debug__" : Str)) = false) (st : starEach (e :: es) X.env = (false, eval e X.env) :: starEach es X.env) (hpl : (backTo pos (starEach es X.env)).any (·.1) = false) :
    PMk X (.Call (.Name x p) (e :: es) [] pos) (tMkO C sp [] ta) := by
  intro pins s σ H Q I h
  obtain ⟨B, newId, initId, bmB, n1, n2, N, bs, bm, sn, sub, ab, col, dd, k0, k1, k2, k3, k5, FB, atC, pass, cont, ob⟩ := T.cls
  refine wpAny_Call_Name_kw (ld_glob I hg hm ?_ hdb)
  refine PySem.W.callWith_K (h₀ := X.base) I.ok.mod.kin T.kC (thn (ha.run pos pins s σ H _ I h) fun us s1 ⟨vs, H1, I1, r1, hz, q1⟩ => ⟨I1.kIn, ?_⟩) st hpl
  show wpAny _ _ (call (.ref C) us) _ _ _
  obtain ⟨hp, g, dr, tk, os⟩ := s1
  have up : hp.objs.size ≤ hp.objs.size + 1 := Nat.le_succ _
  have hq := q1 (hp.objs.size + 1) (I1.hok.fresh up)
  have old : ∀ b o, hp.get? b = some o → ((hp.push (PySem.W.kdv_tup us)).push (PySem.HandSPX.excO C hp.objs.size)).get? b = some o := fun b o e => Heap.get?_push_of_some _ (Heap.get?_push_of_some _ e)
  have new1 : ((hp.push (PySem.W.kdv_tup us)).push (PySem.HandSPX.excO C hp.objs.size)).get? (hp.objs.size + 1) = some (PySem.HandSPX.excO C hp.objs.size) := by heap_get
  have J : L2.Inv X pins σ (upd H1 (hp.objs.size + 1) (exo (hp.objs.size + 1) C none)) ⟨(hp.push (PySem.W.kdv_tup us)).push (PySem.HandSPX.excO C hp.objs.size), g, dr, tk, os⟩ :=
    I1.laid (t' := tk) (a := hp.objs.size + 1) (o := exo (hp.objs.size + 1) C none) old up (exo_ok new1)
  have rv : Vals (V.ref (hp.objs.size + 1) :: (vs ++ [])) (Value.ref (hp.objs.size + 1) :: us) := .cons rfl (by rw [List.append_nil]; exact r1)
  have n1 : (Value.ref (hp.objs.size + 1) :: us ++ []).length = ps.length := by
    rw [List.append_nil, ← rv.length]
    exact F1.len _ _ _ _ hq
  have few : us.length ≤ sizeLine := by
    rw [← Paired.length r1, sizeLine_eq]
    omega
  have bd := hb ⟨(hp.push (PySem.W.kdv_tup us)).push (PySem.HandSPX.excO C hp.objs.size), g, dr, tk, os⟩ (Value.ref (hp.objs.size + 1) :: us) J.kIn n1
  rw [List.append_nil] at bd
  refine wpAny_call (PySem.HandSPX.call_own FB cont (I1.kIn _ _ atC) (PySem.W.looks_findIn I1.kIn iC) (fun self => PySem.W.bind_fn I1.kIn self tI) few ?_)
  refine codeAny_mono (F1.run _ X.stack _ _ ⟨Value.ref (hp.objs.size + 1) :: us, []⟩ (Value.ref (hp.objs.size + 1) :: us) _ _ (fun _ _ _ => False) (hr.make C us []) (J.env0.make C us []) bd rv hq) fun r s' out => ?_
  cases r with
  | error er => exact hx pins σ _ _ er s' J out
  | ok fl =>
    cases fl <;> first | exact False.elim out | skip
    obtain ⟨v, H2, os2, bare2, un2, hok2, rv2, ev, d, fs, ea, ed, hd1, q2⟩ := out
    subst ev
    obtain ⟨h2, g2, d2, t2, os'⟩ := s'
    exact ⟨rv2, mk_end (raises_own T.exC T.tyC) I1 up old un2 hok2 os2 bare2 ea ed hd1 q2⟩
end
end Th
namespace Th
open PySem PySem.Spec PyProof.Rows L2
/-- what an __init__ that keeps its argument under f promises -/
def spI (C : Addr) (f : Str) : Sp := fun vs H Q _ => ∃ (a : Addr) (y : V), vs = [.ref a, y] ∧ H a = some (exo a C none) ∧ ∀ dx, H dx = none → dx ≠ a → Q .non (upd (upd H dx (exd dx [(f, y)])) a (exo a C (some dx)))
theorem take2 {N : List Str} {p0 p1 : Str} (h : N.take 2 = [p0, p1]) : N[0]? = some p0 ∧ N[1]? = some p1 := by
  match N, h with
  | a :: b :: r, h =>
    simp at h
    rw [h.1, h.2]
    exact ⟨rfl, rfl⟩
theorem par_vis {N ps : List Str} {sc : Scope} (S : FnScope N ps sc) {x : Str} (h : x ∈ ps) : Vis sc x := by
  rcases S.par x h with z | z
  · exact .inl z
  · exact .inr (.inl z)
theorem keeps_init {P : Program} {w : World} {K : PySem.W.Frag} {mg : Str → Option Value} {base : Heap} {C fI : Addr} {f x qual p0 p1 : Str} {fd : FuncData} {st : Stmt} {N : List Str} (T : OexG K C) (no : PySem.W.findIn K (.ref C) f = some none) (fu : Fun K x qual st fI fd) (S : FnScope N [p0, p1] (defScope st)) (hb : asKeep (defBody st) = some (p0, f, p1)) (h0 : plainN p0 = true) (h1 : plainN p1 = true) :
    FnOk P w K mg base C8.CX0 1 fI fd [p0, p1] (spI C f) := by
  obtain ⟨oc, od, kV, doc, pm, an, cv, ct, osl, rfl, lk, hcode⟩ := fu.ex
  obtain ⟨q1, q2, q3, q4, eb⟩ := asKeep_eq hb
  obtain ⟨n0, n1⟩ := take2 (show N.take 2 = [p0, p1] from S.pre)
  have v0 := par_vis S (x := p0) (by simp)
  have v1 := par_vis S (x := p1) (by simp)
  rw [eb] at lk ⊢
  refine fn_of lk hcode S (fun vs H Q E ⟨a, y, e, _⟩ => by rw [e]; rfl) fun A outer s H vs Q E hr hh => ?_
  obtain ⟨a, y, rfl, ha, hq⟩ := hh
  refine ⟨_, pss_one (ps_put (X := cxOf C8.CX0 P w K mg base N qual (defScope st) fI cv A outer s H E) (pe_var (i := 0) n0 v0 (plainN_1 h0) (plainN_2 h0)) (pe_var (i := 1) n1 v1 (plainN_1 h1) (plainN_2 h1)) (by rfl)), ?_⟩
  exact ⟨y, rfl, .ref a, rfl, a, C, rfl, T, no, ha, fun dx n ne => hq dx n ne⟩
theorem xd_heap {H1 : Hp} {a dx C : Addr} {f : Str} {y : V} (na : H1 a = none) (nd : H1 dx = none) (ne : dx ≠ a) :
    upd (del (upd (upd (upd H1 a (exo a C none)) dx (exd dx [(f, y)])) a (exo a C (some dx))) a) dx (.xd [(f, y)]) = upd H1 dx (.xd [(f, y)]) := by
  funext b
  by_cases e : b = dx
  · subst e; rw [upd_same, upd_same]
  · rw [upd_ne e, upd_ne e]
    by_cases e2 : b = a
    · subst e2; rw [del_same, na]
    · rw [del_ne e2, upd_ne e2, upd_ne e, upd_ne e2]
/-- C(e) -/
theorem mk_own1 {X : Cx} {x f : Str} {C : Addr} {e : Expr} {p pos : Pos} (xv : XVal X.K C f) (room : Room 2 X.A) (gC : X.mg x = some (.ref C)) (hg : Gl X x) (hdb : (x == ("__debug__" : Str)) = false)
    (he : starEach [e] X.env = (false, eval e X.env) :: starEach [] X.env) : PMk X (.Call (.Name x p) [e] [] pos) (fun σ H Q => U X e σ H fun y H1 => ∀ dx, H1 dx = none → Q (.ref C) (some dx) (upd H1 dx (.xd [(f, y)]))) := by
  obtain ⟨T, no, xf, fI, fd, x2, qual, st, N, p0, p1, i1, i2, fu, S, bi, hb, h0, h1⟩ := xv
  intro pins s σ H Q I h
  have F1 := keeps_init (P := X.prog) (w := X.w) (mg := X.mg) (base := X.base) T no fu S hb h0 h1
  refine pmk_put (X := X) (e := e) (es := []) (ta := tCons (U X e) tNil) T i1 i2 F1 room bi C8.pass0 hg gC (pa_cons (hs := he) (U.pe e) pa_nil) hdb he (by rfl) pins s σ H Q I ?_
  refine h.mono fun y H1 q => ⟨by simp, fun a na => ⟨a, y, rfl, upd_same, fun dx nd ne => ⟨rfl, dx, [(f, y)], upd_same, by rw [upd_ne ne, upd_same], ?_, ?_⟩⟩⟩
  · rw [upd_ne ne] at nd; exact nd
  · rw [upd_ne ne] at nd
    rw [xd_heap na nd ne]
    exact q dx nd
end Th
namespace Th
open PySem PySem.Spec PyProof.Rows L2
/-- what the clauses wish; a clause: its class, its name's slot, its suite -/
def wManyN (K : PySem.W.Frag) (Wout : WX) (D : Ends) : List (Value × Option Nat × (Addr → Value → Option Addr → TS)) → WX
  | [] => Wout
  | (c, none, ts) :: r => fun cls d σ H => ∃ b, PySem.W.exmOne K cls c = some b ∧ (b = true → ∀ a, H a = none → ts a cls d D σ H) ∧ (b = false → wManyN K Wout D r cls d σ H)
  | (c, some i, ts) :: r => fun cls d σ H => ∃ b, PySem.W.exmOne K cls c = some b ∧
      (b = true → ∀ a, H a = none → (σ.set i (some (.ref a)))[i]? = some (some (.ref a)) → ts a cls d { nx := fun σ' H' => D.nx (σ'.set i none) H', rt := D.rt, bk := fun σ' H' => D.bk (σ'.set i none) H', ct := fun σ' H' => D.ct (σ'.set i none) H' } (σ.set i (some (.ref a))) H) ∧ (b = false → wManyN K Wout D r cls d σ H)
inductive HdsN (X : Cx) : List ExceptHandler → List (Value × Option Nat × (Addr → Value → Option Addr → TS)) → Prop
  | nil : HdsN X [] []
  | plain {x : Str} {c : Value} {ts : Addr → Value → Option Addr → TS} {b₀ : Stmt} {suite : List Stmt} {np pos' : Pos} {hds : List ExceptHandler} {l : List (Value × Option Nat × (Addr → Value → Option Addr → TS))} (hc : Names X x c)
      (hsu : ∀ (a : Addr) (oe : Obj) (cls : Value) (d : Option Addr) (pn : List (Addr × Obj)), Zc cls d oe → (∃ vs, oe.data = .fields vs) → PSs (X.suite a ((a, oe) :: pn)) (b₀ :: suite) (ts a cls d)) (r : HdsN X hds l) :
      HdsN X (.ExceptHandler (some (.Name x np)) none (b₀ :: suite) pos' :: hds) ((c, none, ts) :: l)
  | named {x n : Str} {i : Nat} {c : Value} {ts : Addr → Value → Option Addr → TS} {b₀ : Stmt} {suite : List Stmt} {np pos' : Pos} {hds : List ExceptHandler} {l : List (Value × Option Nat × (Addr → Value → Option Addr → TS))} (hc : Names X x c)
      (hi : X.N[i]? = some n) (hln : X.env.kindOf n = some .local)
      (hsu : ∀ (a : Addr) (oe : Obj) (cls : Value) (d : Option Addr) (pn : List (Addr × Obj)), Zc cls d oe → (∃ vs, oe.data = .fields vs) → PSs (X.suite a ((a, oe) :: pn)) (b₀ :: suite) (ts a cls d)) (r : HdsN X hds l) :
      HdsN X (.ExceptHandler (some (.Name x np)) (some n) (b₀ :: suite) pos' :: hds) ((c, some i, ts) :: l)
section
variable {X : Cx} {body : List Stmt} {h₀ : ExceptHandler} {hds : List ExceptHandler} {l : List (Value × Option Nat × (Addr → Value → Option Addr → TS))} {pos : Pos} {tb : WX → TS} {Wout : WX}
/-- L2.ps_try_many, names told -/
theorem ps_try_manyN (hN : X.N.Nodup) (hs : X.stack = X.env :: X.outer) (hf : X.env.frame = some X.env.locals) (tk : Takes X Wout)
    (hb : ∀ (W : WX) (pn : List (Addr × Obj)) (xe : Value → Shared → Prop), Takes (X.tr pn xe) W → PassesOwn (model X.prog X.w) X.A X.env xe → PSs (X.tr pn xe) body (tb W))
    (hh : HdsN X (h₀ :: hds) l) : PS X (.Try body (h₀ :: hds) [] [] pos) (fun D σ H => tb (wManyN X.K Wout D l) D σ H) := by
  refine ⟨fun pins s σ H D I hq => ?_⟩
  have ok := I.ok
  have hfr : X.A.frames = some (X.env :: X.outer) := by rw [ok.frames, hs]
  refine wpAny_Try_except ?_
  refine wpAny_mono ((hb (wManyN X.K Wout D l) (X.pn ++ pins) (fun e s₁ => wpAny (model X.prog X.w) X.A (noteFrame e X.env) (fun _ s₂ => wpAny (model X.prog X.w) X.A (setFlight e none) (fun _ s₃ =>
    wpAny (model X.prog X.w) X.A (handleBy e X.env (h₀ :: hds)) (SP X pins D) X.xe s₃) X.xe s₂) X.xe s₁) (fun u s' xx => ?_) PassesOwn.looking).run [] s σ H D (I.toTry _) hq) (fun f s1 hsp => ?_) (fun e s1 he => he)
  · obtain ⟨a, B, sI, pins', σ', H', cls, d, rfl, J', nb, up, sky, na, os, ag, w⟩ := xx
    have J : L2.Inv X pins σ' H' sI := J'.ofTry ok
    show wpAny (model X.prog X.w) X.A (noteFrame (.ref a) X.env) _ _ _
    refine Sky.land Zc.steady hfr hf (by rw [← hs]; exact sky) fun h3 fl3 up3 => ?_
    have J3 : L2.Inv X pins σ' H' { s' with heap := h3 } := J.landed nb fl3.1 (up.trans up3) os ag
    obtain ⟨oe3, vs3, he3, hz3, hd3⟩ := fl3.there
    have noF : a ∉ frs (X.env :: X.outer) := fun hm => by
      obtain ⟨_, o', e', hnf⟩ := fl3.2.2.1.mem hm
      rw [he3] at e'; cases e'
      exact hnf _ hd3
    have nL : a ≠ X.env.locals := fun z => noF (List.mem_filterMap.mpr ⟨X.env, List.mem_cons_self, by rw [hf, z]⟩)
    have nF : a ∉ X.fs := fun hm => by
      obtain ⟨e, he, q⟩ := List.mem_filterMap.mp hm
      exact noF (List.mem_filterMap.mpr ⟨e, List.mem_cons_of_mem _ he, q⟩)
    have S3 := J3.suite he3 hd3 na nL nF
    -- the class is looked at
    have look : ∀ {x : Str} {c : Value} {b : Bool} {np : Pos} {Q E : Value → Shared → Prop}, Names X x c → wpAny (model X.prog X.w) (X.A.mark (some (.ref a))) (eval (.Name x np) X.env) (fun v s => v = c ∧ s = { s' with heap := h3 }) E { s' with heap := h3 } := fun {x c b np Q E} hc => by
      obtain ⟨hg, hdbg, hm | ⟨hm, hv, hnn⟩⟩ := hc
      · exact ld_glob (X := X.suite a ((a, oe3) :: (X.pn ++ pins))) S3 hg hm ⟨rfl, rfl⟩ hdbg
      · exact ld_blt (X := X.suite a ((a, oe3) :: (X.pn ++ pins))) S3 hg hm hv ⟨rfl, rfl⟩ hnn hdbg
    have LT : PySem.W.Looks (model X.prog X.w) h3 (typeOf (.ref a)) cls := fun A Q E s k q => wpAny_typeOf_ref (k _ _ he3) (by rw [hz3.1]; exact q)
    have go : ∀ {hds' : List ExceptHandler} {l' : List (Value × Option Nat × (Addr → Value → Option Addr → TS))}, HdsN X hds' l' → wManyN X.K Wout D l' cls d σ' H' →
        wpAny (model X.prog X.w) X.A (handleBy (.ref a) X.env hds') (SP X pins D) X.xe { s' with heap := h3 } := by
      intro hds' l' hk
      induction hk with
      | nil =>
        intro w
        refine wpAny_handleBy_nil ?_
        obtain ⟨k1, k2, k3, oe, vs, T, oT, ts', he, hz, hd, h1, hr⟩ := id fl3
        unfold PySem.passOn
        refine wpAny_bind (wpAny_field he hd h1 ?_)
        rw [if_neg (show ¬ ((Value.ref T == Value.none) = true) from by simp)]
        have fin : wpAny (model X.prog X.w) X.A (setFlight (.ref a) X.env.frame) (fun _ s4 => wpAny (model X.prog X.w) X.A (throw (.ref a) : Sem Flow) (SP X pins D) X.xe s4) X.xe { s' with heap := h3 } := by
          rw [hf]
          refine HandSPX.setFlight_upZ fl3 fun h4 hh4 up4 => wpAny_throw (tk _ _ ?_)
          exact ⟨a, B, sI, pins, σ', H', cls, d, rfl, J, nb, (up.trans up3).trans up4, .inr (.inr (by rw [hs]; exact hh4)), na, os, ag, w⟩
        first
          | exact wpAny_bind (wpAny_pure (wpAny_bind fin))
          | exact wpAny_bind fin
      | @plain x c ts b₀ suite np pos' hds2 l2 hc hsu r ih =>
        intro w
        obtain ⟨b, hb1, hyes, hno⟩ := w
        refine wpAny_handleBy_cons (codeAny_handlers_test ?_) (by intro q; cases q)
        have LM := PySem.W.exm_one (M := model X.prog X.w) (J3.kIn) LT hb1
        refine wpAny_mono (look (b := b) (Q := fun _ _ => True) hc) (fun v s z => ?_) fun _ _ z => z
        obtain ⟨rfl, rfl⟩ := z
        refine LM.here ?_
        cases b with
        | true =>
          refine codeAny_handlers_suite ?_
          refine HandSPX.lands_againZ fl3 fun h4 fl4 up4 => ?_
          have J4 : L2.Inv X pins σ' H' { s' with heap := h4 } := J.landed nb fl4.1 ((up.trans up3).trans up4) os ag
          obtain ⟨oe4, vs4, he4, hz4, hd4⟩ := fl4.there
          have S4 := J4.suite he4 hd4 na nL nF
          refine wpAny_mono ((hsu a oe4 cls d (X.pn ++ pins) hz4 ⟨_, hd4⟩).run [] _ _ H' _ S4 (hyes rfl a na)) (fun f s6 hsp => ?_) (fun _ _ z => False.elim z)
          cases f with
          | next => obtain ⟨σ6, H6, S6, q6⟩ := hsp; exact ⟨_, _, S6.unsuite ok, q6⟩
          | brk => obtain ⟨σ6, H6, S6, q6⟩ := hsp; exact ⟨_, _, S6.unsuite ok, q6⟩
          | cont => obtain ⟨σ6, H6, S6, q6⟩ := hsp; exact ⟨_, _, S6.unsuite ok, q6⟩
          | ret u => obtain ⟨v6, σ6, H6, S6, r6, q6⟩ := hsp; exact ⟨_, _, _, S6.unsuite ok, r6, q6⟩
        | false =>
          show wpAny _ X.A (handleBy (.ref a) X.env hds2) _ _ _
          exact ih (hno rfl)
      | @named x n i c ts b₀ suite np pos' hds2 l2 hc hi hln hsu r ih =>
        intro w
        obtain ⟨b, hb1, hyes, hno⟩ := w
        have hloc : Loc X.env.scope n := .inl hln
        refine wpAny_handleBy_cons (codeAny_handlers_test ?_) (by intro q; cases q)
        have LM := PySem.W.exm_one (M := model X.prog X.w) (J3.kIn) LT hb1
        refine wpAny_mono (look (b := b) (Q := fun _ _ => True) hc) (fun v s z => ?_) fun _ _ z => z
        obtain ⟨rfl, rfl⟩ := z
        refine LM.here ?_
        cases b with
        | true =>
          refine codeAny_handlers_suite_as ?_
          refine HandSPX.lands_againZ fl3 fun h4 fl4 up4 => ?_
          have J4 : L2.Inv X pins σ' H' { s' with heap := h4 } := J.landed nb fl4.1 ((up.trans up3).trans up4) os ag
          obtain ⟨oe4, vs4, he4, hz4, hd4⟩ := fl4.there
          have S4 := J4.suite he4 hd4 na nL nF
          refine store_ok (X := X.suite a ((a, oe4) :: (X.pn ++ pins))) (v := .ref a) S4 hN hi hloc rfl (fun s5 S5 => ?_) (.inr hln)
          refine wpAny_mono ((hsu a oe4 cls d (X.pn ++ pins) hz4 ⟨_, hd4⟩).run [] s5 _ H' _ S5 (hyes rfl a na (List.getElem?_set_self (by rw [J.len]; exact (List.getElem?_eq_some_iff.mp hi).1)))) (fun f s6 hsp => ?_) (fun _ _ z => False.elim z)
          have end_ : ∀ {σ6 : L2.St} {H6 : Hp} {Q : Shared → Prop}, L2.Inv (X.suite a ((a, oe4) :: (X.pn ++ pins))) [] σ6 H6 s6 → (∀ s7, L2.Inv X pins (σ6.set i none) H6 s7 → Q s7) →
              wpAny (model X.prog X.w) X.A (do bindName X.env n .none; unbindBehindTheSuite X.env n pos') (fun _ s7 => Q s7) X.xe s6 := fun {σ6 H6 Q} S6 hq => gone_ok (S6.unsuite ok) hN hi hln hq
          cases f with
          | next => obtain ⟨σ6, H6, S6, q6⟩ := hsp; exact end_ S6 fun s7 J7 => ⟨_, _, J7, q6⟩
          | brk => obtain ⟨σ6, H6, S6, q6⟩ := hsp; exact end_ S6 fun s7 J7 => ⟨_, _, J7, q6⟩
          | cont => obtain ⟨σ6, H6, S6, q6⟩ := hsp; exact end_ S6 fun s7 J7 => ⟨_, _, J7, q6⟩
          | ret u => obtain ⟨v6, σ6, H6, S6, r6, q6⟩ := hsp; exact end_ S6 fun s7 J7 => ⟨_, _, _, J7, r6, q6⟩
        | false =>
          show wpAny _ X.A (handleBy (.ref a) X.env hds2) _ _ _
          exact ih (hno rfl)
    exact go hh w
  · cases f with
    | next => obtain ⟨σ', H', J', q⟩ := hsp; exact wpAny_execs_nil ⟨σ', H', J'.ofTry ok, q⟩
    | brk => obtain ⟨σ', H', J', q⟩ := hsp; exact ⟨σ', H', J'.ofTry ok, q⟩
    | cont => obtain ⟨σ', H', J', q⟩ := hsp; exact ⟨σ', H', J'.ofTry ok, q⟩
    | ret u => obtain ⟨v, σ', H', J', r, q⟩ := hsp; exact ⟨v, σ', H', J'.ofTry ok, r, q⟩
end
end Th
set_option maxHeartbeats 4000000
namespace Th
open PySem PySem.Spec PySem.Calls PyProof.Rows L2 PySem.W
section
variable {prog : Program} {w : World} {A : Around} {E : Value → Shared → Prop} {s : Shared} {K : Frag} {x D : Addr} {ox : Obj} {od : Option Obj}
theorem class_of_exc {Q : Option Value → Shared → Prop} (C : ExcC K D) (X : K.In s.heap) (I : InstAt s.heap x ox D od) (h : Q (some (.ref D)) { s with toks := s.toks + 1 }) : wpAny (model prog w) A (getAttr? (.ref x) "__class__") Q E s := by
  cases od with
  | none => exact kin_classE C.hg C.hk C.hs C.hd C.ha C.hn C.ht C.hm X I h
  | some od =>
    have hf : findObj K D (some od) "__class__" = some (.bind (.builtin "getset_descriptor.__get__") (.builtin "object.__class__")) := findObj_data (by obtain ⟨cd, hc, _⟩ := any_some C.hd; rw [hc]; rfl) C.ha C.hn C.ht
    obtain ⟨hp, g, d, t, os⟩ := s
    have L0 := I.type (M := model prog w)
    have L3 := looks_find (M := model prog w) X I hf
    unfold getAttr? getAttrBy? getAttrBy
    refine wpAny_bind (wpAny_mkText (wpAny_bind (wpAny_attempt (wpAny_holding (wpAny_bind (L0.at (wpAny_bind ((looks_findIn (M := model prog w) X C.hg).at ?_))))))))
    show wpAny _ _ (if (onTheHeap (Value.ref D) && Value.builtin "BaseException.__getattribute__" == Value.builtin "object.__getattribute__") = true then _ else _) _ _ _
    rw [show (onTheHeap (Value.ref D) && Value.builtin "BaseException.__getattribute__" == Value.builtin "object.__getattribute__") = false from by rw [show (Value.builtin "BaseException.__getattribute__" == Value.builtin "object.__getattribute__") = false from by decide +kernel]; rfl, if_neg Bool.false_ne_true]
    unfold getAttrByItsOwn hookBefore
    refine wpAny_bind ?_
    rw [if_pos (show onTheHeap (Value.ref D) = true from rfl)]
    refine (looks_findIn (M := model prog w) X C.hk).at (wpAny_bind (wpAny_attempt (wpAny_holding ?_)))
    unfold callGetattribute
    rw [show (false && onTheHeap (Value.builtin "BaseException.__getattribute__")) = false from rfl, if_neg Bool.false_ne_true]
    unfold boundAndCalled
    rw [PySem.F.excAttr_ValueError.ga.bind (.ref x)]
    refine wpAny_bind (wpAny_pure ?_)
    show wpAny _ _ (call (.builtin "BaseException.__getattribute__") [.ref x, .str "__class__" t]) _ _ _
    refine wpAny_call (codeAny_call_builtin PySem.F.excAttr_ValueError.ga.plain PySem.F.entry_bexc_ga ?_)
    refine @check_slot (model prog w) _ _ ⟨hp, g, d, t + 1, os⟩ "BaseException.__getattribute__" "BaseException" "__getattribute__" (.ref x) [.str "__class__" t] [] _ (by decide +kernel) (by decide +kernel) (L0.andThen (looks_subIn X C.hs)) (PySem.F.args_bexc_ga (.ref x) (.str "__class__" t)) ?_
    unfold Builtin.«object.__getattribute__»
    refine wpAny_bind (wpAny_of_eq (a := ((Value.ref x : Value), [Value.str "__class__" t])) (by first | rfl | (simp only [slotArgs]; rfl)) ?_)
    refine wpAny_bind (wpAny_pure (wpAny_bind (L0.at (wpAny_bind (L3.at ?_)))))
    show wpAny _ _ (holding [Value.builtin "object.__class__"] (call (.builtin "getset_descriptor.__get__") [.builtin "object.__class__", .ref x, .ref D]) >>= ret) _ _ _
    refine wpAny_bind (wpAny_holding (wpAny_call (class_get (s := ⟨hp, g, d, t + 1, os⟩) (ox := ox) (od := some od) X I C.hm ?_)))
    refine wpAny_pure ?_
    show wpAny _ _ (handedOut (.ref D)) _ _ _
    rw [handedOut_of (v := .ref D) rfl]
    first
      | exact wpAny_pure (wpAny_pure h)
      | exact wpAny_pure h
      | exact wpAny_pure (wpAny_bind (wpAny_pure (wpAny_pure h)))
theorem kitx_excD (C : ExcC K D) : KitX K (.ref x) (.ref D) (fun h => InstAt h x ox D od) where
  ty := fun _ _ _ I => I.type
  it := fun _ _ X _ => by
    obtain ⟨cdD, hcD, _⟩ := any_some C.hd
    unfold clsIn at hcD
    split at hcD
    · rename_i c' d' cd' sl' ho
      intro A' Q' E' s' k q
      unfold isType loadHead
      exact wpAny_bind (wpAny_loadPart (k _ _ (X _ _ ho)) (wpAny_pure q))
    · cases hcD
  ne := (handS_kitx_exc (x := x) (ox := ox) C.hg C.hk C.hs C.hd C.ha C.hn C.ht C.hm).ne
  ca := fun X I k => class_of_exc C X I k
end
/-- isinstance(e, c), e the exception that the suite holds -/
def rIsX (K : PySem.W.Frag) (D a : Addr) (d : Option Addr) : List V → Hp → VK → Prop := fun xs H Q => ∃ (c : V) (cv : Value) (b : Bool), xs = [.ref a, c] ∧ (∀ u, RelV c u → u = cv) ∧ PySem.W.kitOne K (.ref D) cv = some b ∧ (∀ dd, d = some dd → ∃ fs, H dd = some (.xd fs)) ∧ Q (.bl b) H
theorem call_isX {X : Cx} {a D : Addr} {d : Option Addr} {oe : Obj} {pn : List (Addr × Obj)} (C : ExcC X.K D) (hz : Zc (.ref D) d oe) (hf : ∃ vs, oe.data = .fields vs) : CallR (X.suite a ((a, oe) :: pn)) (.builtin "isinstance") (rIsX X.K D a d) := by
  intro pins s σ H xs us Q I r h
  obtain ⟨c, cv, b, rfl, hcv, e, hdd, q⟩ := h
  cases r with
  | cons rx rr =>
    cases rr with
    | cons rt rr =>
      cases rr
      cases rx
      have ec := hcv _ rt
      subst ec
      obtain ⟨hget, _⟩ := I.pin (a, oe) (List.mem_append.mpr (.inl List.mem_cons_self))
      obtain ⟨vs, hv⟩ := hf
      have J : ∃ od, PySem.W.InstAt s.heap a oe D od := by
        cases d with
        | none =>
          refine ⟨none, hget, hz.1, by unfold PySem.W.notCls; rw [hv] <;> rfl, ?_⟩
          rw [hz.2]; trivial
        | some dd =>
          obtain ⟨fs, ea⟩ := hdd dd rfl
          obtain ⟨mA, hns, hr⟩ := (show ObjOk X.prog X.w H s.heap dd (.xd fs) from I.hok dd _ ea)
          obtain ⟨od, ho, hl⟩ := lookIn_ns hns
          exact ⟨some od, hget, hz.1, by unfold PySem.W.notCls; rw [hv] <;> rfl, by rw [hz.2]; exact ho⟩
      obtain ⟨od, J⟩ := J
      exact PySem.W.kia_one (kitx_excD C) I.kIn J e (fun z => nomatch z) fun tk => ⟨.bl b, H, I.kept (t' := tk) fun _ _ z => z, rfl, q⟩
end Th
namespace Th
open PySem PySem.Spec PyProof.Rows L2
/-- what the caught error's class must be for its clauses -/
structure XcOk (W : Wd) (c : Nat) : Prop where
  exc : ExcC W.K (W.lk.ca c)
  sub : ∀ h b, W.P.sub c h = some b → PySem.W.kitOne W.K (.ref (W.lk.ca c)) (.ref (W.lk.ca h)) = some b
  val : ∀ n, W.P.xf c = some n → XVal W.K (W.lk.ca c) (W.P.nm n)
section
variable {W : Wd} {X Y : Cx} {a : Addr} {oe : Obj} {d : Option Addr} {pn pins : List (Addr × Obj)} {σ : L2.St} {H : Hp} {μ : List Addr} {S : Store} {x : Exn} {n : Str} {i : Nat}
theorem XR.xd {cls : Value} (xr : XR W μ H x cls d) : ∀ dd, d = some dd → ∃ fs, H dd = some (.xd fs) := by
  intro dd e
  subst e
  obtain ⟨_, n, e, v, _, _, h, _⟩ := xr
  exact ⟨_, h⟩
/-- what stands around a clause's answer -/
structure HxC (W : Wd) (X : Cx) (x : Exn) (d : Option Addr) (oe : Obj) (n : Str) (i : Nat) : Prop where
  kk : X.K = W.K
  xc : XcOk W x.c
  hz : Zc (.ref (W.lk.ca x.c)) d oe
  hf : ∃ vs, oe.data = .fields vs
  hg : X.A.guards = some []
  hu : X.A.units + 65 < cLine
  blt : ∀ y ∈ bltNames, X.mg y = none
  exn : ∀ c, W.lk.hasX c = true → X.mg (W.P.nm c) = some (.ref (W.lk.ca c))
  hN : X.N[i]? = some n
  hv : Vis X.env.scope n
  hp : plainN n = true
theorem u_isX (c : HxC W X x d oe n i) (hσ : σ[i]? = some (some (.ref a))) (xr : XR W μ H x (.ref (W.lk.ca x.c)) d) {h : Nat} {b : Bool} (hb : W.P.sub x.c h = some b) (g1 : glB X.env.scope "isinstance" = true) (g2 : glB X.env.scope (W.P.nm h) = true) (g3 : plainN (W.P.nm h) = true) (g4 : W.lk.hasX h = true)
    {p1 p2 p3 p4 : Pos} {Q : VK} (hq : Q (.bl b) H) : U (X.suite a ((a, oe) :: pn)) (.Call (.Name "isinstance" p1) [.Name n p2, .Name (W.P.nm h) p3] [] p4) σ H Q := by
  refine U.of (pe_callB (X := X.suite a ((a, oe) :: pn)) (call_isX (by rw [show X.K = W.K from c.kk]; exact c.xc.exc) c.hz c.hf) (glB_gl g1) (c.blt _ (by simp [bltNames])) (by rfl)
    (pa_cons (pe_var (X := X.suite a ((a, oe) :: pn)) (i := i) c.hN c.hv (plainN_1 c.hp) (plainN_2 c.hp)) (pa_cons (pe_glob (X := X.suite a ((a, oe) :: pn)) (v := .ref (W.lk.ca h)) (glB_gl g2) (c.exn h g4) (by rfl) (plainN_1 g3)) pa_nil))) ?_
  exact ⟨_, hσ, .ref (W.lk.ca h), .ref (W.lk.ca h), b, rfl, fun u hu => hu, by rw [show X.K = W.K from c.kk]; exact c.xc.sub h b hb, xr.xd, hq⟩
theorem u_hxP (c : HxC W X x d oe n i) (hσ : σ[i]? = some (some (.ref a))) (R : SR W μ S H) (xr : XR W μ H x (.ref (W.lk.ca x.c)) d) {p : HxP} {e : Expr} (ok : okHxP W.P W.lk.toChk X.env.scope n p e = true) {dv : D} (hd : hxP W.P x S p = some dv) {Q : VK} (hq : ∀ v, VR W μ H dv v → Q v H) :
    U (X.suite a ((a, oe) :: pn)) e σ H Q ∧ ∀ es, starEach (e :: es) X.env = (false, eval e X.env) :: starEach es X.env := by
  cases p with
  | str y =>
    obtain ⟨j, pp, rfl⟩ := asStr_eq (beq_iff_eq.mp ok)
    cases hd
    exact ⟨U.of pe_str (hq _ (.str y)), fun es => rfl⟩
  | rep f =>
    unfold okHxP at ok
    dsimp only at ok
    split at ok
    · next r p1 n' p2 fn p3 p4 =>
      simp only [Bool.and_eq_true, beq_iff_eq] at ok
      obtain ⟨⟨⟨rfl, rfl⟩, rfl⟩, k4⟩ := ok
      unfold hxP at hd
      dsimp only at hd
      split at hd
      · next dx hfs =>
        split at hd
        · next hxf =>
          cases hs : shownD S dx with
          | none => rw [hs] at hd; cases hd
          | some t =>
            rw [hs] at hd; cases hd
            have xv := c.xc.val _ hxf
            refine ⟨U.of (pe_callB (X := X.suite a ((a, oe) :: pn)) (cr_shown (X := X.suite a ((a, oe) :: pn)) (W := W) (S := S) (μ := μ) c.kk c.hg c.hu) (glB_gl k4) (c.blt _ (by simp [bltNames])) (by rfl)
              (pa_cons (pe_xf (X := X) (T := by rw [show X.K = W.K from c.kk]; exact xv.xf) (hno := by rw [show X.K = W.K from c.kk]; exact xv.no) c.hz c.hf (pe_var (X := X.suite a ((a, oe) :: pn)) (i := i) c.hN c.hv (plainN_1 c.hp) (plainN_2 c.hp)) (by rfl)) pa_nil)) ?_, fun es => rfl⟩
            refine ⟨_, hσ, rfl, rfl, ?_⟩
            cases d with
            | none =>
              have := xr.2
              rw [show x.fs = [] from this] at hfs
              cases hfs
            | some dd =>
              obtain ⟨_, n1, e1, v1, x1, x2, x3, x4, x5, x6⟩ := xr
              rw [hxf] at x1; cases x1
              rw [hfs] at x2; cases x2
              exact ⟨dd, _, v1, rfl, x3, by simp, v1, dx, t, rfl, R, x6, hs, hq _ (.str t)⟩
        · cases hd
      · cases hd
    · cases ok
  | isA c1 h1 =>
    unfold okHxP at ok
    dsimp only at ok
    split at ok
    · next r1 q1 n1 q2 m1 q3 q4 r2 q5 n2 q6 m2 q7 q8 q9 q10 =>
      simp only [Bool.and_eq_true, beq_iff_eq] at ok
      obtain ⟨⟨⟨⟨⟨⟨⟨⟨⟨⟨⟨⟨rfl, rfl⟩, rfl⟩, rfl⟩, rfl⟩, rfl⟩, k1⟩, k2⟩, k3⟩, k4⟩, k5⟩, k6⟩, k7⟩ := ok
      unfold hxP at hd
      dsimp only at hd
      split at hd
      · next b1 b2 hb1 hb2 =>
        cases hd
        refine ⟨U.of (pe_and (U.pe _) (pe_one (pe_not (U.pe _)))) ?_, fun es => rfl⟩
        refine u_isX c hσ xr hb1 k1 k2 k4 k6 ?_
        refine ⟨b1, rfl, ?_⟩
        cases b1 with
        | false => rw [if_neg Bool.false_ne_true]; exact hq _ (.bl _)
        | true =>
          rw [if_pos rfl]
          exact u_isX c hσ xr hb2 k1 k3 k5 k7 ⟨b2, rfl, by simpa using hq _ (.bl (true && !b2))⟩
      · cases hd
    · cases ok
theorem ua_hxPs (c : HxC W X x d oe n i) (hσ : σ[i]? = some (some (.ref a))) (R : SR W μ S H) (xr : XR W μ H x (.ref (W.lk.ca x.c)) d) : ∀ {ps : List HxP} {es : List Expr} {ds : List D} {Q : List V → Hp → Prop}, okHxPs W.P W.lk.toChk X.env.scope n ps es = true → hxPs W.P x S ps = some ds →
    (∀ vs, VRs W μ H ds vs → Q vs H) → UA (X.suite a ((a, oe) :: pn)) es σ H Q
  | [], es, ds, Q, ok, hd, hq => by
    rw [okHxPs, List.isEmpty_iff] at ok
    subst ok
    cases hd
    exact UA.of pa_nil (hq [] .nil)
  | p :: ps, [], ds, Q, ok, hd, hq => by simp [okHxPs] at ok
  | p :: ps, e :: es, ds, Q, ok, hd, hq => by
    rw [okHxPs, Bool.and_eq_true] at ok
    unfold hxPs at hd
    split at hd
    · next d1 ds1 h1 h2 =>
      cases hd
      have k := u_hxP (pn := pn) (a := a) (Q := fun _ _ => True) c hσ R xr ok.1 h1 fun _ _ => trivial
      refine UA.of (pa_cons (U.pe e) (UA.pa es) (k.2 es)) ?_
      exact (u_hxP c hσ R xr ok.1 h1 fun v V1 => ua_hxPs c hσ R xr ok.2 h2 fun vs V2 => hq (v :: vs) (.cons V1 V2)).1
    · cases hd
def tHx (W : Wd) (i : Nat) (ps : List HxP) (a : Addr) (cls : Value) (d : Option Addr) : TE := fun σ H Q => ∃ (S : Store) (μ : List Addr) (x : Exn) (ds : List D), σ[i]? = some (some (.ref a)) ∧ SR W μ S H ∧ XR W μ H x cls d ∧ XcOk W x.c ∧ hxPs W.P x S ps = some ds ∧ ∀ vs, VRs W μ H ds vs → ∀ p, H p = none → Q (.ref p) (upd H p (.lst vs))
/-- .. as a row -/
theorem pe_hxRow (c : ∀ x : Exn, XcOk W x.c → Zc (.ref (W.lk.ca x.c)) d oe → HxC W X x d oe n i) {ps : List HxP} {es : List Expr} {pos : Pos} {cls : Value} (hz : Zc cls d oe) (ok : okHxPs W.P W.lk.toChk X.env.scope n ps es = true) (hl : ps.length ≤ 8) :
    PE (X.suite a ((a, oe) :: pn)) (.List es pos) (tHx W i ps a cls d) := by
  refine ⟨fun pins s σ H Q I h => ?_⟩
  obtain ⟨S, μ, x, ds, hσ, R, xr, xc, hd, hq⟩ := h
  have e1 : cls = .ref (W.lk.ca x.c) := xr.1
  subst e1
  refine (pe_lst (UA.pa es)).run pins s σ H Q I ?_
  refine ua_hxPs (c x xc hz) hσ R xr ok hd fun vs V1 => ⟨?_, hq vs V1⟩
  have h1 : ∀ {ps : List HxP} {ds : List D}, hxPs W.P x S ps = some ds → ds.length = ps.length := by
    intro ps
    induction ps with
    | nil => intro ds h; cases h; rfl
    | cons p ps ih =>
      intro ds h
      unfold hxPs at h
      split at h
      · next d1 ds1 h1 h2 => cases h; simp [ih h2]
      · cases h
  rw [← V1.len, h1 hd, sizeLine_eq]
  omega
end
end Th
namespace Th
open PySem PySem.Spec PyProof.Rows L2 LamX
section
variable {X : Cx} {pins : List (Addr × Obj)} {σ : L2.St} {H HZ : Hp} {s s1 : Shared}
/-- LamX.pe_act, where it is known that nothing is being shown -/
theorem actG {Ng : List Str} {qg : Str} {sg : Scope} {g f c' : Addr} {cdg pm ctv : Value} {params : Arguments} {body : Expr} {scope : Scope} {k i : Nat} {a : Str} {pn : List (Addr × Obj)} {xe : Value → Shared → Prop} {W : WX} {E : XK} {tb : TE} {p1 p2 : Pos}
    (I : L2.Inv X pins σ H s) (L : LamS X.env.scope scope) (hf : s.heap.get? f = some (PySem.W.kla_obj "<lambda>" (X.env.qual ++ "<lambda>") params body scope (cloFrom X.env.cells scope.names []) pm c' ctv)) (hfn : H f = none) (hfr : f ∉ frs X.stack)
    (hbind : bindArgs (PySem.W.kla_fn "<lambda>" (X.env.qual ++ "<lambda>") params body scope (cloFrom X.env.cells scope.names []) pm (.ref c') ctv) ⟨[], []⟩ = pure [])
    (tk : Takes ((cxOf C8.CX0 X.prog X.w X.K X.mg X.base Ng qg sg g cdg X.A X.stack s H C8.E0).tr pn xe) W) (hW : ∀ cls d σ' H', E cls d H' → W cls d σ' H') (hr : RoomG (k + 1) (X.A.deeper (envOfC qg sg s.heap.objs.size g cdg)))
    (hbody : ∀ (sl : Shared) (H : Hp), RoomG k ((X.A.deeper (envOfC qg sg s.heap.objs.size g cdg)).deeper (lamEnv X scope sl.heap.objs.size f c')) → PE (lamCx X (X.A.deeper (envOfC qg sg s.heap.objs.size g cdg)) (envOfC qg sg s.heap.objs.size g cdg :: X.stack) sl H E scope f c') body tb)
    (hN : Ng[i]? = some a) (hv : Vis sg a) (hd : (a == ("__debug__" : Str)) = false) (hcd : (a == ("__classdict__" : Str)) = false) :
    PE ((cxOf C8.CX0 X.prog X.w X.K X.mg X.base Ng qg sg g cdg X.A X.stack s H C8.E0).tr pn xe) (.Call (.Name a p1) [] [] p2)
      (fun σZ HZ Q => σZ[i]? = some (some (.ref f)) ∧ HZ c' = some (CodeO c' (X.env.qual ++ "<lambda>")) ∧ tb σ HZ Q) := by
  refine ⟨fun pinsZ sZ σZ HZ Q IZ hh => ?_⟩
  have slot := hh.1
  refine wpAny_Call_Name_kw (thn ((pe_var (pos := p1) (i := i) hN hv hd hcd).run pinsZ sZ σZ HZ (fun v H1 => v = .ref f ∧ H1 = HZ) IZ ⟨.ref f, slot, rfl, rfl⟩) fun u s1 hq => ?_)
  obtain ⟨v, H1, I1, rv, rfl, e1⟩ := hq
  have eu : u = Value.ref f := rv
  subst eu
  rw [e1] at I1
  have lamAt := I1.base.keep f _ hf hfn hfr (List.not_mem_nil)
  refine PySem.W.callWith_F0 ⟨_, _, _, _, lamAt⟩ ?_
  obtain ⟨oc, vs, t, hoc, hdc, hvc⟩ := (I1.hok c' _ hh.2.1).1
  have run : codeAny (model X.prog X.w) (X.A.deeper (envOfC qg sg s.heap.objs.size g cdg)) (.call (.ref f) ⟨[], []⟩) (CR (L2.CX X.prog X.w) (envOfC qg sg s.heap.objs.size g cdg :: X.stack) X.prog X.w HZ s1 Q E) s1 := by
    refine PySem.W.kla_callFunE hr.r.depth lamAt rfl L.co L.gen rfl ⟨c', oc, vs, t, rfl, hoc, hdc, hvc⟩ ?_
    rw [hbind]
    refine wpAny_pure (wpAny_newFunctionEnv (fun y hy => (L.own y hy).2) (fun y hy => absurd hy List.not_mem_nil) (fun h1 hns same => ⟨I1.nolimit.fresh _ same, ?_⟩) L.kind)
    have kp : ∀ b o, s1.heap.get? b = some o → h1.get? b = some o := fun b o e => same.extBut b o (Nat.ne_of_lt (Heap.lt_size e)) (Heap.get?_push_of_some _ e)
    refine PySem.W.kla_codeExpr (wpAny_mono ((hbody s1 HZ (hr.deeper _)).run [] _ _ HZ Q (lam_start2 I L I1.env0 hr.r.hd I1.base hns kp) hh.2.2) (fun v s' q => ?_) fun e s' q => q)
    obtain ⟨w', H', J, rv, q⟩ := q
    exact ⟨w', H', J.os, J.bare, J.base, J.hok, rv, q⟩
  refine wpAny_call (codeAny_mono run fun r s' q => ?_)
  cases r with
  | error e => exact passes_call tk hW pinsZ σZ HZ s1 e s' I1 q
  | ok fl => cases fl <;> first | exact I1.after q | exact False.elim q
end
section
variable {X : Cx}
/-- LamX.pe_lamcall, where it is known that nothing is being shown -/
theorem lamcallG {T : List (Addr × Str)} {TT : (XK → Hp → VK → Prop) → Hp → VK → Prop} {x a : Str} {g c P : Addr} {k : Nat} {pg : Arguments} {bg : List Stmt} {sg : Scope} {dV kV doc pm cdv ct oc : Value} {an od : Option Addr} {osl : Array (Option Value)} {Ng : List Str}
    {params : Arguments} {body : Expr} {scope : Scope} {t : XK → TE} {p lpos pos : Pos} (hg : Gl X x) (hm : X.mg x = some (.ref g)) (hk : PySem.W.keepIn X.K (.ref g) = true)
    (lk : X.K.lookup g = some ⟨oc, od, .func (PySem.W.fnOf x x pg bg sg dV kV doc pm an cdv ct), osl⟩) (hcg : PySem.W.codeIn X.K cdv x = true) (hb : L2.Binds X.K (PySem.W.fnOf x x pg bg sg dV kV doc pm an cdv ct) [a] []) (Sg : FnScope Ng [a] sg) (hNg : Ng[0]? = some a) (hva : Vis sg a)
    (hG : GivesTo X Ng x sg g cdv bg a (X.env.qual ++ "<lambda>") TT)
    (TB : TabB X.base X.mg c P) (hcode : X.env.code = .ref c) (hmT : (P, X.env.qual ++ "<lambda>") ∈ T) (hu : ∀ p ∈ T, p.1 = P → p.2 = X.env.qual ++ "<lambda>") (hr : RoomG (k + 2) X.A) (L : LamS X.env.scope scope) (hdef : defaultsOf params X.env = ([], []))
    (hbind : ∀ (q : Str) (cl : List (Str × Addr)) (pm cv ctv : Value), bindArgs (PySem.W.kla_fn "<lambda>" q params body scope cl pm cv ctv) ⟨[], []⟩ = pure [])
    (hbody : ∀ (s0 sl : Shared) (H : Hp) (E : XK) (f c' : Addr), RoomG k ((X.A.deeper (envOfC x sg s0.heap.objs.size g cdv)).deeper (lamEnv X scope sl.heap.objs.size f c')) →
      PE (lamCx X (X.A.deeper (envOfC x sg s0.heap.objs.size g cdv)) (envOfC x sg s0.heap.objs.size g cdv :: X.stack) sl H E scope f c') body (t E))
    (hdb : (x == ("__debug__" : Str)) = false) (hd : (a == ("__debug__" : Str)) = false) (hcd : (a == ("__classdict__" : Str)) = false) :
    PE X (.Call (.Name x p) [.Lambda params body scope lpos] [] pos) (tLam T TT t) := by
  refine ⟨fun pins s σ H Q I hh => ?_⟩
  refine wpAny_Call_Name_kw (ld_glob I hg hm ?_ hdb)
  refine PySem.W.callWith_K (h₀ := X.base) I.ok.mod.kin hk ?_ (by rfl) (by rfl)
  show wpAny _ _ (spliced ((false, eval (.Lambda params body scope lpos) X.env) :: backTo pos (starEach [] X.env))) _ _ s
  refine Calls.spliced_cons (lam_make2 I TB hcode hmT hu hh.1 hdef (L.has I.ok) fun f c' pm' ctv H1 s' I1 eN T1 hf hfn hfr hco => ?_)
  refine Calls.spliced_nil ⟨I1.kIn, ?_⟩
  have run : codeAny (model X.prog X.w) X.A (.call (.ref g) ⟨[.ref f], []⟩) (CR C8.CX0 X.stack X.prog X.w H1 s' Q C8.E0) s' := by
    refine run_ofS (N := Ng) (ps := [a]) (us := [.ref f]) (vs := [.ref f]) lk hcg Sg hr.r I1.env0 (hb s' [.ref f] I1.kIn rfl) (.cons rfl .nil) rfl fun _ => ?_
    obtain ⟨t', pt, qt⟩ := hG f c' s' H1 Q (fun E H' Q' => t E σ H' Q') (fun W pn xe E p1 p2 tk hW => actG (i := 0) I1 L hf hfn hfr (hbind _ _ _ _ _) tk hW (hr.deeper _) (fun sl H r2 => hbody s' sl H E f c' r2) hNg hva hd hcd) hco (hh.2 H1 eN T1)
    exact ⟨t', pt.nox, qt⟩
  refine wpAny_call (codeAny_mono run fun r s2 q => ?_)
  cases r with
  | error e => exact (show False from q).elim
  | ok fl => cases fl <;> first | exact I1.after q | exact False.elim q
end
def hxV : Hx → V
  | .bl b => .bl b
  | .str x => .str x
  | .row _ _ => .non
def hsN (W : Wd) (hs : List (Nat × Hx)) : List (Value × Option Nat × (Addr → Value → Option Addr → TS)) := hs.map fun p => match p.2 with
  | .row i ps => (.ref (W.lk.ca p.1), some i, fun a cls d => tRet (tHx W i ps a cls d))
  | v => (.ref (W.lk.ca p.1), none, fun _ _ _ D _ H => D.rt (hxV v) H)
theorem pe_hx {X : Cx} {v : Hx} {e : Expr} (h : okHx v e = true) : PE X e (tC (hxV v)) := by
  cases v with
  | bl b =>
    obtain ⟨j, p, rfl⟩ := asBl_eq (beq_iff_eq.mp h)
    exact pe_bl
  | str x =>
    obtain ⟨j, p, rfl⟩ := asStr_eq (beq_iff_eq.mp h)
    exact pe_str
  | row i ps => cases h
theorem hds_ok {W : Wd} {X : Cx} (kk : X.K = W.K) (hg : X.A.guards = some []) (hu : X.A.units + 65 < cLine) (blt : ∀ y ∈ bltNames, X.mg y = none) (exn : ∀ c, W.lk.hasX c = true → X.mg (W.P.nm c) = some (.ref (W.lk.ca c))) :
    ∀ {hs : List (Nat × Hx)} {hds : List ExceptHandler}, okHds W.P W.lk.toChk X.N X.env.scope hs hds = true → HdsN X hds (hsN W hs)
  | [], hds, h => by
    rw [okHds, List.isEmpty_iff] at h
    subst h
    exact .nil
  | (c, v) :: r, [], h => by simp [okHds] at h
  | (c, v) :: r, hd :: hds, h => by
    rw [okHds, Bool.and_eq_true] at h
    rcases okHd_eq h.1 with ⟨x, p, e, p2, p3, rfl, h1, h2, h3, h4, h5⟩ | ⟨x, p, n, es, p1, p2, p3, i, ps, rfl, rfl, h1, h2, h3, h4, h5, h6, h7, h8, h9⟩
    · have nm : Names X x (.ref (W.lk.ca c)) := ⟨glB_gl h2, plainN_1 h3, .inl (by rw [← h1]; exact exn c h4)⟩
      have su : ∀ (a : Addr) (oe : Obj) (cls : Value) (d : Option Addr) (pn : List (Addr × Obj)), Zc cls d oe → (∃ vs, oe.data = .fields vs) → PSs (X.suite a ((a, oe) :: pn)) [.Return (some e) p2] (fun D _ H => D.rt (hxV v) H) := fun a oe cls d pn _ _ => pss_one (ps_ret (pe_hx h5))
      cases v with
      | bl b => exact .plain nm su (hds_ok kk hg hu blt exn h.2)
      | str b => exact .plain nm su (hds_ok kk hg hu blt exn h.2)
      | row i ps => cases h5
    · have nm : Names X x (.ref (W.lk.ca c)) := ⟨glB_gl h2, plainN_1 h3, .inl (by rw [← h1]; exact exn c h4)⟩
      have hloc : X.env.scope.names.lookup n = some .local := by
        unfold locB at h6
        split at h6
        · next e => exact e
        · cases h6
      exact .named nm h5 hloc (fun a oe cls d pn hz hf => pss_one (ps_ret (pe_hxRow (fun x xc hz => ⟨kk, xc, hz, hf, hg, hu, blt, exn, h5, .inl hloc, h7⟩) hz h9 h8))) (hds_ok kk hg hu blt exn h.2)
theorem many_ok {W : Wd} {μ μ' : List Addr} {H0 H' : Hp} {Q : VK} {x : Exn} {S : Store} {Wout : WX} {D : Ends} {σ' : L2.St} {dd : Option Addr} (sub : ∀ c h b, W.P.sub c h = some b → XSub W c h b) (xcc : ∀ c, W.lk.hasX c = true → XcOk W c) (hD : D.rt = Q)
    (R : SR W μ' S H') (E : Ext μ H0 μ' H') (xr : XR W μ' H' x (.ref (W.lk.ca x.c)) dd) : ∀ {hs : List (Nat × Hx)}, K1 (tkH W.P hs x S) (OkP W μ H0 Q) (fun _ _ => False) → wManyN W.K Wout D (hsN W hs) (.ref (W.lk.ca x.c)) dd σ' H'
  | [], h => h.elim
  | (c, v) :: r, h => by
    rw [tkH] at h
    cases hb : W.P.sub x.c c with
    | none => rw [hb] at h; exact h.elim
    | some b =>
      rw [hb] at h
      obtain ⟨s1, s2, _⟩ := sub _ _ _ hb
      have rest : b = false → wManyN W.K Wout D (hsN W r) (.ref (W.lk.ca x.c)) dd σ' H' := fun e => by
        subst e
        exact many_ok sub xcc hD R E xr (show K1 (tkH W.P r x S) (OkP W μ H0 Q) (fun _ _ => False) from h)
      cases v with
      | bl y =>
        refine ⟨b, s2, fun e a _ => ?_, rest⟩
        subst e
        show D.rt (.bl y) H'
        rw [hD]
        exact (show OkP W μ H0 Q (.bl y) S from h) μ' H' (.bl y) R E (.bl y)
      | str y =>
        refine ⟨b, s2, fun e a _ => ?_, rest⟩
        subst e
        show D.rt (.str y) H'
        rw [hD]
        exact (show OkP W μ H0 Q (.str y) S from h) μ' H' (.str y) R E (.str y)
      | row i ps =>
        refine ⟨b, s2, fun e a _ hs => ?_, rest⟩
        subst e
        have h' : K1 (hxO W.P x S (.row i ps)) (OkP W μ H0 Q) (fun _ _ => False) := h
        unfold hxO at h'
        dsimp only at h'
        cases hp : hxPs W.P x S ps with
        | none => rw [hp] at h'; exact h'.elim
        | some ds =>
          rw [hp] at h'
          refine ⟨S, μ', x, ds, hs, R, xr, xcc _ s1, hp, fun vs V1 p hp => ?_⟩
          show D.rt (.ref p) _
          rw [hD]
          exact (show OkP W μ H0 Q (.lst ds) S from h') μ' _ _ (R.new hp) (E.trans (ext_new hp)) (.lst upd_same (R.free hp) (R.freeZ hp) (V1.ext (ext_new hp).z))
/-- what a def makes of the lambda -/
def TTk (W : Wd) (C : Orc) (g : Nat) : (XK → Hp → VK → Prop) → Hp → VK → Prop := fun tl H Q => ∃ (S : Store) (μ : List Addr) (act : Store → Out D), SR W μ S H ∧
  (∀ (E : XK) (S' : Store) (μ' : List Addr) (H' : Hp) (Q' : VK), SR W μ' S' H' → Ext μ H μ' H' → K1 (act S') (OkP W μ' H' Q') (fun x S'' => ∀ μ'' H'' cls dd, SR W μ'' S'' H'' → Ext μ' H' μ'' H'' → XR W μ'' H'' x cls dd → E cls dd H'') → tl E H' Q') ∧
  K1 (callT W.P C act g S) (OkP W μ H Q) (fun _ _ => False)
theorem tk_gives {W : Wd} {C : Orc} {X : Cx} (cx : Cxt W C X) {g : Nat} {T : Tk} (hT : W.P.tk g = some T) {x a q : Str} {sc : Scope} {fa : Addr} {cdv : Value} {N : List Str} {body : List Stmt} (Sg : FnScope N [a] sc) (hns : T.ns = N.length)
    (ok : okTk W.P W.lk.toChk N sc T body = true) {C' : Orc} {k : Nat} (two : 2 ≤ k) (fin : ∀ e ∈ T.fin, ∀ f, Kept W C' X k e f) (room : RoomG (k + 1) X.A) : GivesTo X N x sc fa cdv body a q (TTk W C' g) := by
  intro f c' s H Q tl act hc hh
  obtain ⟨S, μ, actf, R, ht, hk⟩ := hh
  generalize hY : (cxOf C8.CX0 X.prog X.w X.K X.mg X.base N x sc fa cdv X.A X.stack s H C8.E0).nox = Y
  have Yp : Y.prog = X.prog := by rw [← hY]; rfl
  have Yw : Y.w = X.w := by rw [← hY]; rfl
  have Ym : Y.mg = X.mg := by rw [← hY]; rfl
  have Yb : Y.base = X.base := by rw [← hY]; rfl
  have YK : Y.K = W.K := by rw [← hY]; exact cx.kk
  have Yc : Y.calm = true := by rw [← hY]; rfl
  have YN : Y.N = N := by rw [← hY]; rfl
  have Ysc : Y.env.scope = sc := by rw [← hY]; rfl
  have YA : RoomG k Y.A := by rw [← hY]; exact room.deeper _
  have Yfn : ∀ y, Y.fn y = true := by rw [← hY]; intro y; rfl
  have act' : ∀ (Wx : WX) (pn : List (Addr × Obj)) (xe : Value → Shared → Prop) (E : XK) (p1 p2 : Pos), Takes (Y.tr pn xe) Wx → (∀ cls d σ' H', E cls d H' → Wx cls d σ' H') →
      PE (Y.tr pn xe) (.Call (.Name a p1) [] [] p2) (fun σZ HZ Q => σZ[0]? = some (some (.ref f)) ∧ HZ c' = some (CodeO c' q) ∧ tl E HZ Q) := by
    rw [← hY]
    exact fun Wx pn xe E p1 p2 tk hW => act Wx pn xe E p1 p2 tk hW
  have hs0 : (L2.start N [V.ref f])[0]? = some (some (V.ref f)) := rfl
  have hN0 : N[0]? = some a := by
    have := Sg.pre
    have h2 : (N.take 1)[0]? = some a := by
      rw [show N.take 1 = [a] from this]
      rfl
    rw [List.getElem?_take] at h2
    simpa using h2
  have hl0 : (L2.start N [V.ref f]).length = N.length := by
    have h1 : 0 < N.length := by
      rcases Nat.eq_zero_or_pos N.length with z | z
      · rw [List.length_eq_zero_iff.mp z] at hN0
        cases hN0
      · exact z
    simp [L2.start]
    omega
  -- the text
  unfold okTk at ok
  split at ok
  · next b hds rest hb =>
    obtain ⟨pt, rfl⟩ := asTry_eq hb
    simp only [Bool.and_eq_true, Bool.not_eq_true'] at ok
    obtain ⟨⟨⟨k1, k2⟩, k3⟩, k4⟩ := ok
    have hds1 : HdsN Y hds (hsN W T.hs) := hds_ok (W := W) (X := Y) YK YA.g (by have := YA.r.un; omega) (fun y hy => by rw [Ym]; exact cx.blt y hy) (fun c hx => by rw [Ym]; exact (cx.exn c hx).1) (by rw [Ysc, YN]; exact k1)
    have hne : ∃ h0 r, hds = h0 :: r := by
      cases hds with
      | nil =>
        cases hT' : T.hs with
        | nil => rw [hT'] at k2; cases k2
        | cons p r => rw [hT'] at k1; simp [okHds] at k1
      | cons h0 r => exact ⟨h0, r, rfl⟩
    obtain ⟨h0, hr, rfl⟩ := hne
    have Ystk : Y.stack = Y.env :: Y.outer := by rw [← hY]; rfl
    have Yfr : Y.env.frame = some Y.env.locals := by rw [← hY]; rfl
    replace hk : K1 (tkO W.P C' T (actf S)) (OkP W μ H Q) (fun _ _ => False) := by
      unfold callT at hk
      rw [hT] at hk
      exact hk
    -- the exception that is caught
    have exc : ∀ (D : Ends), D.rt = Q → ∀ {xx : Exn} {S1 : Store}, actf S = .exc xx S1 → ∀ μ'' H'' cls dd, SR W μ'' S1 H'' → Ext μ H μ'' H'' → XR W μ'' H'' xx cls dd → ∀ σ', wManyN Y.K (fun _ _ _ _ => False) D (hsN W T.hs) cls dd σ' H'' := by
      intro D hD xx S1 hx μ'' H'' cls dd R2 E2 xr σ'
      rw [hx] at hk
      have e1 : cls = .ref (W.lk.ca xx.c) := xr.1
      subst e1
      rw [YK]
      exact many_ok cx.sub (fun c hc => ⟨(cx.exn c hc).2.2.2, fun h b e => (cx.sub c h b e).2.2, (cx.exn c hc).2.2.1⟩) hD R2 E2 xr hk
    -- what is returned at last
    have atEnd : ∀ {e : Ex} {x0 : Expr} {ρ : List (Option D)} {S1 : Store} {μ1 : List Addr} {H1 : Hp} {σ1 : L2.St}, T.fin = [e] → okE W.P W.lk.toChk N false sc e x0 = true → SR W μ1 S1 H1 → Ext μ H μ1 H1 → FR W none μ1 H1 ⟨ρ, []⟩ σ1 →
        K1 (tkF W.P C' T ρ S1) (OkP W μ H Q) (fun _ _ => False) → U Y x0 σ1 H1 Q := by
      intro e x0 ρ S1 μ1 H1 σ1 he hx R1 E1 F1 hq
      unfold tkF at hq
      rw [he] at hq
      refine fin e (by rw [he]; exact List.mem_cons_self) ⟨ρ, []⟩ Y Yp Yw Ym Yb YK Yc (by rw [YN]; exact Sg.nd) YA W.Z x0 S1 σ1 H1 μ1 Q (by rw [YN, Ysc]; exact hx) R1 F1 ?_
      show K1 (ev W.P C' e ⟨ρ, []⟩ S1) (OkP W μ1 H1 Q) (XW W Y μ1 H1 σ1)
      have hq' : K1 ((ev W.P C' e ⟨ρ, []⟩ S1).calm) (OkP W μ H Q) (fun _ _ => False) := hq
      cases hv : ev W.P C' e ⟨ρ, []⟩ S1 with
      | ok d S2 =>
        rw [hv] at hq'
        exact fun μ' H' v R' E' V' => (show OkP W μ H Q d S2 from hq') μ' H' v R' (E1.trans E') V'
      | exc xx S2 => rw [hv] at hq'; exact hq'.elim
      | bad => rw [hv] at hq'; exact hq'.elim
    have noX : Takes Y (fun _ _ _ _ => False) := takes_none5
    unfold okActS at k3
    split at k3
    · -- a call alone
      next e pe =>
      simp only [Bool.and_eq_true, beq_iff_eq] at k3
      obtain ⟨kk, k3⟩ := k3
      obtain ⟨y, p1, p2, rfl, hy⟩ := isAct_eq k3
      rw [hN0] at hy
      cases hy
      rw [kk] at k4
      unfold okFin at k4
      split at k4
      · next e1 x0 px hfin =>
        rw [Bool.and_eq_true] at k4
        refine ⟨_, pss_cons (ps_try_manyN (X := Y) (Wout := fun _ _ _ _ => False)
          (tb := fun Wx D σ H => ∃ Ech : XK, (∀ cls d σ' H', Ech cls d H' → Wx cls d σ' H') ∧ σ[0]? = some (some (.ref f)) ∧ H c' = some (CodeO c' q) ∧ tl Ech H (fun _ H2 => D.nx σ H2))
          (by rw [YN]; exact Sg.nd) Ystk Yfr noX (fun Wx pn xe tk _ => ⟨fun pins s' σ H' D I h' => ?_⟩) hds1) (pss_one (ps_ret (U.pe x0))), ?_⟩
        · obtain ⟨Ech, hW, h1, h2, h3⟩ := h'
          exact (pss_one (ps_expr (pos := pe) (act' Wx pn xe Ech p1 p2 tk hW))).run pins s' σ H' D I ⟨h1, h2, h3⟩
        · refine ⟨fun cls d H' => ∀ σ', wManyN Y.K (fun _ _ _ _ => False) _ (hsN W T.hs) cls d σ' H', fun cls d σ' H' h' => h' σ', hs0, hc, ?_⟩
          refine ht _ S μ H _ R Ext.refl ?_
          cases ha : actf S with
          | ok d S1 =>
            rw [ha, tkO_0 kk] at hk
            refine fun μ1 H1 v R1 E1 V1 => atEnd hfin k4.1 R1 E1 ⟨?_, fun i d h => ?_, rfl⟩ hk
            · show _ = (List.replicate T.ns none).length
              rw [hl0, List.length_replicate, hns]
            · have h' : (List.replicate T.ns (none : Option D))[i]? = some (some d) := h
              rw [List.getElem?_replicate] at h'
              split at h' <;> cases h'
          | exc xx S1 => exact fun μ'' H'' cls dd R2 E2 xr σ' => exc _ rfl ha μ'' H'' cls dd R2 E2 xr σ'
          | bad => rw [ha] at hk; exact hk.elim
      · cases k4
      · cases k4
    · -- what it answers is returned
      next e pe =>
      simp only [Bool.and_eq_true, beq_iff_eq] at k3
      obtain ⟨kk, k3⟩ := k3
      obtain ⟨y, p1, p2, rfl, hy⟩ := isAct_eq k3
      rw [hN0] at hy
      cases hy
      rw [kk] at k4
      unfold okFin at k4
      split at k4
      · rw [Bool.and_eq_true] at k4
        exact absurd k4.2 (by decide)
      · refine ⟨_, pss_one (ps_try_manyN (X := Y) (Wout := fun _ _ _ _ => False)
          (tb := fun Wx D σ H => ∃ Ech : XK, (∀ cls d σ' H', Ech cls d H' → Wx cls d σ' H') ∧ σ[0]? = some (some (.ref f)) ∧ H c' = some (CodeO c' q) ∧ tl Ech H D.rt)
          (by rw [YN]; exact Sg.nd) Ystk Yfr noX (fun Wx pn xe tk _ => ⟨fun pins s' σ H' D I h' => ?_⟩) hds1), ?_⟩
        · obtain ⟨Ech, hW, h1, h2, h3⟩ := h'
          exact (pss_one (ps_ret (pos := pe) (act' Wx pn xe Ech p1 p2 tk hW))).run pins s' σ H' D I ⟨h1, h2, h3⟩
        · refine ⟨fun cls d H' => ∀ σ', wManyN Y.K (fun _ _ _ _ => False) _ (hsN W T.hs) cls d σ' H', fun cls d σ' H' h' => h' σ', hs0, hc, ?_⟩
          refine ht _ S μ H _ R Ext.refl ?_
          cases ha : actf S with
          | ok d S1 => rw [ha, tkO_1 kk] at hk; exact hk
          | exc xx S1 => exact fun μ'' H'' cls dd R2 E2 xr σ' => exc _ rfl ha μ'' H'' cls dd R2 E2 xr σ'
          | bad => rw [ha] at hk; exact hk.elim
      · cases k4
    · -- .. is kept in a slot
      next y py e pe =>
      simp only [Bool.and_eq_true, beq_iff_eq, decide_eq_true_eq, bne_iff_ne] at k3
      obtain ⟨⟨⟨⟨kk, k3⟩, k5⟩, k6⟩, k7⟩ := k3
      obtain ⟨y', p1, p2, rfl, hy⟩ := isAct_eq k3
      rw [hN0] at hy
      cases hy
      rw [kk] at k4
      unfold okFin at k4
      split at k4
      · next e1 x0 px hfin =>
        rw [Bool.and_eq_true] at k4
        have hloc : sc.names.lookup y = some .local := by
          unfold locB at k6
          split at k6
          · next e => exact e
          · cases k6
        refine ⟨_, pss_cons (ps_try_manyN (X := Y) (Wout := fun _ _ _ _ => False)
          (tb := fun Wx D σ H => ∃ Ech : XK, (∀ cls d σ' H', Ech cls d H' → Wx cls d σ' H') ∧ σ[0]? = some (some (.ref f)) ∧ H c' = some (CodeO c' q) ∧ tl Ech H (fun v H2 => D.nx (σ.set T.slot (some v)) H2))
          (by rw [YN]; exact Sg.nd) Ystk Yfr noX (fun Wx pn xe tk _ => ⟨fun pins s' σ H' D I h' => ?_⟩) hds1) (pss_one (ps_ret (U.pe x0))), ?_⟩
        · obtain ⟨Ech, hW, h1, h2, h3⟩ := h'
          exact (pss_one (ps_set (X := Y.tr pn xe) (i := T.slot) (x := y) (pos := pe) (pos' := py) (by show Y.N.Nodup; rw [YN]; exact Sg.nd) (by show Y.N[T.slot]? = some y; rw [YN]; exact k5) (.inl (by show Y.env.scope.names.lookup y = _; rw [Ysc]; exact hloc)) (act' Wx pn xe Ech p1 p2 tk hW) (by rfl) (.inl (Yfn y)))).run pins s' σ H' D I ⟨h1, h2, h3⟩
        · refine ⟨fun cls d H' => ∀ σ', wManyN Y.K (fun _ _ _ _ => False) _ (hsN W T.hs) cls d σ' H', fun cls d σ' H' h' => h' σ', hs0, hc, ?_⟩
          refine ht _ S μ H _ R Ext.refl ?_
          cases ha : actf S with
          | ok d S1 =>
            rw [ha, tkO_2 kk] at hk
            refine fun μ1 H1 v R1 E1 V1 => atEnd hfin k4.1 R1 E1 ⟨?_, fun i d' h => ?_, rfl⟩ hk
            · show ((L2.start N [V.ref f]).set T.slot (some v)).length = ((List.replicate T.ns none).set T.slot (some d)).length
              rw [List.length_set, List.length_set, hl0, List.length_replicate, hns]
            · have h' : ((List.replicate T.ns (none : Option D)).set T.slot (some d))[i]? = some (some d') := h
              by_cases hi : T.slot = i
              · subst hi
                have hlt : T.slot < N.length := (List.getElem?_eq_some_iff.mp k5).1
                rw [List.getElem?_set_self (by rw [List.length_replicate, hns]; exact hlt)] at h'
                cases h'
                exact ⟨v, by rw [List.getElem?_set_self (by rw [hl0]; exact hlt)], V1⟩
              · rw [List.getElem?_set_ne hi, List.getElem?_replicate] at h'
                split at h' <;> cases h'
          | exc xx S1 => exact fun μ'' H'' cls dd R2 E2 xr σ' => exc _ rfl ha μ'' H'' cls dd R2 E2 xr σ'
          | bad => rw [ha] at hk; exact hk.elim
      · cases k4
      · cases k4
    · cases k3
  · cases ok
theorem tkH_calm {P : Pr} {x : Exn} {S : Store} {ok : D → Store → Prop} {ex : Exn → Store → Prop} : ∀ {hs : List (Nat × Hx)}, K1 (tkH P hs x S) ok ex → K1 (tkH P hs x S) ok (fun _ _ => False)
  | [], h => h
  | (c, v) :: r, h => by
    rw [tkH] at h ⊢
    cases hb : P.sub x.c c with
    | none => rw [hb] at h; exact h
    | some b =>
      rw [hb] at h
      cases b with
      | true =>
        have h' : K1 (hxO P x S v) ok ex := h
        show K1 (hxO P x S v) ok (fun _ _ => False)
        cases v with
        | bl y => exact h'
        | str y => exact h'
        | row i ps =>
          unfold hxO at h' ⊢
          dsimp only at h' ⊢
          cases hp : hxPs P x S ps with
          | none => rw [hp] at h'; exact h'
          | some ds => rw [hp] at h'; exact h'
      | false => exact tkH_calm (hs := r) h
theorem tkF_calm {P : Pr} {C : Orc} {T : Tk} {ρ : List (Option D)} {S : Store} {ok : D → Store → Prop} {ex : Exn → Store → Prop} (h : K1 (tkF P C T ρ S) ok ex) : K1 (tkF P C T ρ S) ok (fun _ _ => False) := by
  unfold tkF at h ⊢
  split at h
  · next e he =>
    cases hv : ev P C e ⟨ρ, []⟩ S with
    | ok d S2 => rw [hv] at h; exact h
    | exc xx S2 => rw [hv] at h; exact h
    | bad => rw [hv] at h; exact h
  · exact h
theorem callT_calm {P : Pr} {C : Orc} {act : Store → Out D} {g : Nat} {S : Store} {ok : D → Store → Prop} {ex : Exn → Store → Prop} (h : K1 (callT P C act g S) ok ex) : K1 (callT P C act g S) ok (fun _ _ => False) := by
  unfold callT at h ⊢
  split at h
  · exact h.elim
  · next T hT =>
    cases ha : act S with
    | ok d S1 =>
      rw [ha] at h
      have h' : K1 (match T.kind with
        | 0 => tkF P C T (List.replicate T.ns none) S1
        | 1 => .ok d S1
        | _ => tkF P C T ((List.replicate T.ns none).set T.slot (some d)) S1) ok ex := h
      show K1 (match T.kind with
        | 0 => tkF P C T (List.replicate T.ns none) S1
        | 1 => .ok d S1
        | _ => tkF P C T ((List.replicate T.ns none).set T.slot (some d)) S1) ok _
      split at h'
      · exact tkF_calm h'
      · exact h'
      · exact tkF_calm h'
    | exc xx S1 => rw [ha] at h; exact tkH_calm (hs := T.hs) h
    | bad => rw [ha] at h; exact h
/-- f(lambda: e) -/
theorem se_lam {C : Orc} {g : Nat} {e : Ex} : SE C (.lam g e) := by
  intro W X ini me e0 f S σ H μ Q cx h hi R F hk
  rw [okE] at h
  split at h
  · next x ps b sc hx =>
    obtain ⟨p, lp, q, rfl⟩ := asLam_eq hx
    simp only [Bool.and_eq_true, Bool.not_eq_true', decide_eq_true_eq, beq_iff_eq] at h
    obtain ⟨⟨⟨⟨⟨⟨⟨⟨h1, h2⟩, h3⟩, h4⟩, h5⟩, h6⟩, h7⟩, h8⟩, h9⟩ := h
    have hme : me = none := by
      cases me with
      | none => rfl
      | some o => rw [h1] at hi; cases hi
    subst hme
    rw [ev] at hk
    have hne : C.take g e f S ≠ .bad := fun z => by rw [z] at hk; exact hk
    obtain ⟨l1, l2, l3, l4⟩ := cx.lam ⟨g, e, f, S, hne⟩ h2
    obtain ⟨C', k, k2, room, et, kp, kf⟩ := cx.tak g e f S hne
    rw [et] at hk
    have hk1 := callT_calm hk
    cases hT : W.P.tk g with
    | none =>
      unfold callT at hk1
      rw [hT] at hk1
      exact hk1.elim
    | some T =>
      obtain ⟨fa, fd, st, N, a, m1, m2, fu, bi, sg, pn, pa, hns, ok⟩ := cx.tks ⟨g, e, f, S, hne⟩ g T h3 hT
      obtain ⟨oc, od, kV, doc, pm, an, cv, ct, osl, rfl, lk, hcode⟩ := fu.ex
      have hN0 : N[0]? = some a := by
        have h2 : (N.take 1)[0]? = some a := by
          rw [show N.take 1 = [a] from sg.pre]
          rfl
        rw [List.getElem?_take] at h2
        simpa using h2
      have hva : Vis (defScope st) a := by
        rcases sg.par a List.mem_cons_self with z | z
        · exact .inl z
        · exact .inr (.inl z)
      have eps := noPar_eq h7
      subst h4 eps
      have LS := lamS_by h8
      have hu : ∀ p ∈ W.lk.T, p.1 = W.lk.lamP → p.2 = X.env.qual ++ "<lambda>" := l4
      refine U.of (lamcallG (T := W.lk.T) (TT := TTk W C' g) (Ng := N) (a := a) (k := k) (t := fun E σ H Q => ∃ (S : Store) (μ : List Addr), SR W μ S H ∧ FR W none μ H f σ ∧ K1 (ev W.P C' e f S) (OkP W μ H Q) (fun x S' => ∀ μ' H' cls dd, SR W μ' S' H' → Ext μ H μ' H' → XR W μ' H' x cls dd → E cls dd H'))
        (glB_gl h5) m1 (by rw [cx.kk]; exact m2) (by rw [cx.kk]; exact lk) (by rw [cx.kk]; exact hcode) (by rw [cx.kk]; exact bi) sg hN0 hva (tk_gives cx hT sg hns ok k2 (kf T hT) (room.mono (by omega))) l2 l1 l3 hu room LS rfl (fun _ _ _ _ _ => by rfl) (fun s0 sl H E f' c' rg => ?_) (plainN_1 h6) (plainN_1 pa) (plainN_2 pa)) ⟨R.tb, fun H1 eN T1 => ?_⟩
      · -- the lambda's body
        refine ⟨fun pins s σ H Q I hh => ?_⟩
        obtain ⟨S, μ, R, F, hq⟩ := hh
        refine kp (lamCx X (X.A.deeper (envOfC (W.P.nm g) (defScope st) s0.heap.objs.size fa cv)) (envOfC (W.P.nm g) (defScope st) s0.heap.objs.size fa cv :: X.stack) sl _ E sc f' c') rfl rfl rfl rfl cx.kk rfl cx.nd rg W.Z b S σ H μ Q (by
          show okE W.P W.lk.toChk X.N false sc e b = true
          rw [← h1]; exact h9) R F ?_ pins s I
        exact hq.imp (fun _ _ q => q) fun x S' q => ⟨fun cls d _ H => E cls d H, takes_of rfl rfl rfl rfl, fun μ' H' cls dd R' E' r => q μ' H' cls dd R' E' r⟩
      · obtain ⟨R1, E1⟩ := R.lamN eN T1
        refine ⟨S, μ, fun S' => ev W.P C' e f S', R1, fun E S' μ' H' Q' R2 E2 hq => ⟨S', μ', R2, (F.ext E1 R.zm).ext E2 R1.zm, hq⟩, ?_⟩
        exact hk1.imp (fun d S' q μ' H' v R' E' V' => q μ' H' v R' (E1.trans E') V') fun _ _ q => q
  · cases h
/-- C() -/
theorem mk_own0 {X : Cx} {x : Str} {C : Addr} {p pos : Pos} (xc : XCls X.K C) (gC : X.mg x = some (.ref C)) (hg : Gl X x) (hdb : (x == ("__debug__" : Str)) = false) : PMk X (.Call (.Name x p) [] [] pos) (fun _ H Q => Q (.ref C) none H) := by
  obtain ⟨B, newId, initId, bm, F, ex, kC, sb, ty⟩ := xc
  intro pins s σ H Q I q
  refine wpAny_Call_Name_kw (ld_glob I hg gC ?_ hdb)
  refine PySem.W.callWith_K0 I.kIn kC ?_
  show wpAny _ _ (call (.ref C) []) _ _ _
  obtain ⟨_, _, _, _, _, _, _, _, _, _, _, _, _, _, _, _, _, hC, hN, hni, T⟩ := exc_obj I.kIn ex
  exact wpAny_call_exc_subT F T hC hN hni fun h' e hm => mk_of I hm (raises_own sb ty) q (I.hok.gone hm.new)
end Th
namespace Th
open PySem PySem.Spec PyProof.Rows L2
theorem UK.pk {X : Cx} (kws : List Keyword) : PK X kws (UK X kws) := ⟨fun pos pins s σ H Q I h => h pos pins s I⟩
theorem UK.of {X : Cx} {kws : List Keyword} {t : TA} {σ : L2.St} {H : Hp} {Q : List V → Hp → Prop} (h : PK X kws t) (q : t σ H Q) : UK X kws σ H Q := fun pos pins s I => h.run pos pins s σ H Q I q
section
variable {C : Orc}
theorem okK_names {P : Pr} {lk : Chk} {N : List Str} {ini : Bool} {sc : Scope} : ∀ {xs : List Ex} {kws : List Keyword}, okK P lk N ini sc xs kws = true → ∀ (env : Env) (pos : Pos),
    (backToKw pos (keywordEach kws env)).all (·.1.isSome) = true ∧ (backToKw pos (keywordEach kws env)).filterMap (·.1) = kws.filterMap (·.arg) ∧ (backToKw pos (keywordEach kws env)).any (·.1.isNone) = false ∧ (kws.filterMap (·.arg)).length = xs.length
  | [], kws, h, env, pos => by
    cases kws with
    | nil => exact ⟨rfl, rfl, rfl, rfl⟩
    | cons e es => simp [okK] at h
  | x :: xs, [], h, env, pos => by simp [okK] at h
  | x :: xs, k :: ks, h, env, pos => by
    rw [okK] at h
    split at h
    · next a e hk =>
      obtain ⟨p, rfl⟩ := asKw_eq hk
      rw [Bool.and_eq_true] at h
      obtain ⟨h1, h2, h3, h4⟩ := okK_names h.2 env pos
      simp only [keywordEach, backToKw, List.map_cons, List.all_cons, List.any_cons, List.filterMap_cons] at h1 h2 h3 ⊢
      refine ⟨by simpa using h1, by simpa using h2, by simpa using h3, by simp [h4]⟩
    · cases h
theorem uk_list : ∀ {xs : List Ex} (ih : ∀ x ∈ xs, SE C x) {W : Wd} {X : Cx} {ini : Bool} {me : Option Own} {es : List Keyword} {f : Fr} {S : Store} {σ : L2.St} {H H0 : Hp} {μ μ0 : List Addr} {β : Type} {k : List D → Store → Out β} {ok : β → Store → Prop} {Q1 : List V → Hp → Prop} (cx : Cxt W C X)
    (h : okK W.P W.lk.toChk X.N ini X.env.scope xs es = true) (hi : ini = me.isSome) (E0 : Ext μ0 H0 μ H) (R : SR W μ S H) (F : FR W me μ H f σ) (hk : K1 ((evs W.P C xs f S).bind k) ok (XW W X μ0 H0 σ))
    (next : ∀ ds S1 μ1 H1 vs, Ext μ0 H0 μ1 H1 → Ext μ H μ1 H1 → SR W μ1 S1 H1 → VRs W μ1 H1 ds vs → FR W me μ1 H1 f σ → K1 (k ds S1) ok (XW W X μ0 H0 σ) → ds.length = xs.length → Q1 vs H1), UK X es σ H Q1
  | [], ih, W, X, ini, me, es, f, S, σ, H, H0, μ, μ0, β, k, ok, Q1, cx, h, hi, E0, R, F, hk, next => by
    cases es with
    | nil => exact UK.of pk_nil (next [] S μ H [] E0 Ext.refl R .nil F hk rfl)
    | cons e es => simp [okK] at h
  | x :: xs, ih, W, X, ini, me, es, f, S, σ, H, H0, μ, μ0, β, k, ok, Q1, cx, h, hi, E0, R, F, hk, next => by
    cases es with
    | nil => simp [okK] at h
    | cons kw es =>
      rw [okK] at h
      split at h
      · next a e hkw =>
        obtain ⟨p, rfl⟩ := asKw_eq hkw
        rw [Bool.and_eq_true] at h
        obtain ⟨h1, h2⟩ := h
        refine UK.of (pk_cons (U.pe e) (UK.pk es)) ?_
        have hk' : K1 ((ev W.P C x f S).bind fun y S1 => (evs W.P C xs f S1).bind fun ys S2 => k (y :: ys) S2) ok (XW W X μ0 H0 σ) := by
          have e1 : (evs W.P C (x :: xs) f S).bind k = (ev W.P C x f S).bind fun y S1 => (evs W.P C xs f S1).bind fun ys S2 => k (y :: ys) S2 := by
            show Out.bind (Out.bind (ev W.P C x f S) _) k = _
            rw [Out.assoc]
            congr 1
            funext y S1
            exact Out.assoc _ _ _
          rw [e1] at hk
          exact hk
        refine (ih x List.mem_cons_self).use cx h1 hi E0 R F hk' fun y S1 μ1 H1 v E1 e1 R1 V1 F1 k1 => ?_
        exact uk_list (fun z hz => ih z (List.mem_cons_of_mem _ hz)) cx h2 hi E1 R1 F1 k1 fun ys S2 μ2 H2 vs E2 e2 R2 V2 F2 k2 l => next (y :: ys) S2 μ2 H2 (v :: vs) E2 (e1.trans e2) R2 (.cons (V1.ext e2.z) V2) F2 k2 (by simp [l])
      · cases h
theorem VRs.perm {W : Wd} {μ : List Addr} {H : Hp} {ds : List D} {vs : List V} (r : VRs W μ H ds vs) : ∀ perm : List Nat, (∀ k ∈ perm, k < ds.length) → VRs W μ H (perm.map fun k => ds.getD k .non) (perm.map fun k => vs.getD k .non)
  | [], _ => .nil
  | k :: ks, h => by
    refine .cons ?_ (VRs.perm r ks fun j hj => h j (List.mem_cons_of_mem _ hj))
    have hk := h k List.mem_cons_self
    obtain ⟨v, h1, h2⟩ := r.get (List.getElem?_eq_getElem hk)
    show VR W μ H (ds.getD k .non) (vs.getD k .non)
    rw [List.getD_eq_getElem?_getD, List.getD_eq_getElem?_getD, List.getElem?_eq_getElem hk, h1]
    exact h2
theorem se_cK {g : Nat} {perm : List Nat} {xs : List Ex} (ih : ∀ x ∈ xs, SE C x) : SE C (.cK g perm xs) := by
  intro W X ini me e f S σ H μ Q cx h hi R F hk
  rw [okE] at h
  split at h
  · next x kws he =>
    obtain ⟨p, q, rfl⟩ := asKall_eq he
    simp only [Bool.and_eq_true, beq_iff_eq] at h
    obtain ⟨⟨⟨⟨⟨⟨h1, h2⟩, h3⟩, h4, h4t⟩, h5⟩, h6⟩, h7⟩ := h
    have hgm := cx.gm g h4t
    obtain ⟨hkb, hl, hp, _⟩ := cx.kwb g perm _ h4 h6
    obtain ⟨n1, n2, n3, n4⟩ := okK_names h5 X.env q
    rw [h1] at hgm
    have key := uk_list (Q1 := fun zs H1 => zs.length = (kws.filterMap (·.arg)).length ∧ Prom X σ (W.lk.fa g) (W.lk.fd g) (W.lk.pn g) (perm.map fun k => zs.getD k .non) H1 Q) ih cx h5 hi Ext.refl R F hk fun ds S1 μ1 H1 ws E1 e1 R1 V1 F1 k1 l => by
      refine ⟨by rw [← V1.len, l, n4], ?_⟩
      obtain ⟨k, hr, Fn⟩ := cx.fns g h4 ⟨_, S1, fun z => by rw [z] at k1; exact k1.elim⟩
      obtain ⟨E, hx, k2⟩ := exc_pass E1 k1
      exact ⟨k, _, E, hr, Fn, hx, W.Z, μ1, S1, _, R1, V1.perm perm (by rw [l, ← n4]; exact hp), k2⟩
    refine fun pins s I => ?_
    refine wpAny_Call_Name_kw (ld_glob I (glB_gl h2) hgm.1 ?_ (plainN_1 h3))
    refine PySem.W.callWith_KW0 I.kIn (by rw [cx.kk]; exact hgm.2) n1 (thn (key q pins s I) fun us s1 ⟨vs, H1, I1, r, l2, q1⟩ => ⟨I1.kIn, ?_⟩) (by rw [n3]; rfl)
    rw [n2]
    obtain ⟨k, sp, E, hr, Fn, hx, hsp⟩ := q1
    show wpAny _ _ (call (.ref (W.lk.fa g)) [] ((kws.filterMap (·.arg)).zip us)) _ _ _
    have hkb' : KBn X.K (W.lk.fd g) (W.lk.pn g) 0 (kws.filterMap (·.arg)) (fun _ ws => perm.map fun k => ws.getD k .none) (fun _ zs => perm.map fun k => zs.getD k .non) := by rw [cx.kk]; exact hkb
    refine wpAny_call (codeAny_mono (Fn.go X.A X.stack s1 H1 ⟨[], (kws.filterMap (·.arg)).zip us⟩ _ _ Q E hr I1.env0 (hkb'.to s1 [] us I1.kIn rfl (r.length.symm.trans l2)) (hkb'.rel (vs := []) .nil r) hsp) fun r s' hq => ?_)
    cases r with
    | error e => exact hx pins H1 s1 e s' I1 hq
    | ok fl =>
      cases fl with
      | ret u => exact I1.after hq
      | next => exact False.elim hq
      | brk => exact False.elim hq
      | cont => exact False.elim hq
  · cases h
/-- o.m(k = .., ..) -/
theorem methk_eq {o : Expr} {m : Str} {kws : List Keyword} {apos pos : Pos} {env : Env} (h : plainA o = true) (h1 : (backToKw pos (keywordEach kws env)).all (fun x => x.1.isSome) = true) (h2 : kws.length < 20) (hl : (apos.endLine == pos.line) = true) :
    eval (.Call (.Attribute o m apos) [] kws pos) env = (do
      let ov ← eval o env
      standAt apos.atName
      let (f, first) ← holding [ov] (getMethod ov m (do return (← importBound o env).getD true))
      callWith pos f first (backTo pos (starEach [] env)) (backToKw pos (keywordEach kws env))) := by
  have hf : methodCallForm (([] : List Expr).length + kws.length) (backTo pos (starEach [] env)) (backToKw pos (keywordEach kws env)) = true := by
    unfold methodCallForm
    rw [h1]
    have : decide (([] : List Expr).length + kws.length + (if (backToKw pos (keywordEach kws env)).isEmpty then 0 else 1) < 30) = true := decide_eq_true (by simp only [List.length_nil]; split <;> omega)
    rw [this]
    rfl
  rw [arm_eval_Call, plainA_base h]
  unfold methodCall methodCallPos calleeOf
  rw [hf, hl]
  rfl
theorem se_mthK {m g : Nat} {p0 : Str} {o : Ex} {perm : List Nat} {xs : List Ex} (io : SE C o) (ih : ∀ x ∈ xs, SE C x) : SE C (.mthK m g p0 o perm xs) := by
  intro W X ini me e f S σ H μ Q cx h hi R F hk
  rw [okE] at h
  split at h
  · next l a kws he =>
    obtain ⟨p, q, rfl, hq⟩ := asMethK_eq he
    simp only [Bool.and_eq_true, beq_iff_eq, decide_eq_true_eq] at h
    obtain ⟨⟨⟨⟨⟨⟨h1, h2⟩, h3⟩, h4⟩, h5⟩, h6⟩, h7⟩ := h
    obtain ⟨_, hl, hp, hk1⟩ := cx.kwb g _ _ h7 h6
    have hkb := hk1 p0 perm _ rfl rfl
    obtain ⟨n1, n2, n3, n4⟩ := okK_names h3 X.env q
    have hl' : (kws.filterMap (·.arg)).length = perm.length := by simpa using hl
    have hp' : ∀ k ∈ perm, k < (kws.filterMap (·.arg)).length := fun k hk => by
      have := hp (k + 1) (List.mem_cons_of_mem _ (List.mem_map.mpr ⟨k, hk, rfl⟩))
      simpa using this
    refine (?mk : (U X l σ H (fun x H1 => ∃ a1 C1 dx fs g1, x = .ref a1 ∧ H1 a1 = some (.ins C1 dx fs) ∧ Cls X.K C1 ∧ Meth X.K C1 a g1 ∧ fs.lookup a = none ∧
        ∀ (pins : List (Addr × Obj)) (s1 : Shared), L2.Inv X pins σ H1 s1 → wpAny (model X.prog X.w) X.A (callWith q (.ref g1) [.ref a1] (backTo q (starEach [] X.env)) (backToKw q (keywordEach kws X.env))) (EP X pins σ Q) X.xe s1)) → U X (.Call (.Attribute l a p) [] kws q) σ H Q) ?_
    case mk =>
      intro hU pins s I
      refine PySem.W.methodCall_KW (thn ((U.pe l).run pins s σ H _ I hU) fun u s1 ⟨x, H1, I1, rx, a1, C1, dx, fs, g1, ex, ea, c, k, lo, q⟩ => ?_) (methk_eq h4 n1 h5 hq)
      subst ex
      obtain rfl : u = Value.ref a1 := rx
      exact getmeth_ok I1 ea c k lo (q pins s1 I1)
    refine io.use cx h2 hi Ext.refl R F hk fun x S1 μ1 H1 v E1 _ R1 V1 F1 k1 => ?_
    cases x <;> first | exact k1.elim | skip
    next c ds =>
    cases V1 with
    | @obj b dx _ _ fs kl hb n z hkl hc hf rr =>
      have Vo : VR W μ1 H1 (.obj c ds) (.ref b) := .obj hb n z hkl hc hf rr
      simp only [hkl] at k1
      split at k1
      · next hg =>
        obtain ⟨c1, c2, _, _, _, _⟩ := cx.cls c kl hc hkl
        obtain ⟨g1, g2, g3⟩ := c2 m g hg
        refine ⟨b, _, dx, fs, W.lk.fa g, rfl, hb, by rw [cx.kk]; exact c1, by rw [cx.kk, ← h1]; exact g2, look_keys (by rw [hf, ← h1]; exact g3), fun pins s1 I1 => ?_⟩
        have key := uk_list (Q1 := fun zs H1 => zs.length = (kws.filterMap (·.arg)).length ∧ Prom X σ (W.lk.fa g) (W.lk.fd g) (W.lk.pn g) (.ref b :: perm.map fun k => zs.getD k .non) H1 Q) ih cx h3 hi E1 R1 F1 k1 fun es' S2 μ2 H2 ws E2 e2 R2 V2 F2 k2 l2 => by
          refine ⟨by rw [← V2.len, l2, n4], ?_⟩
          obtain ⟨k, hr, Fn⟩ := cx.fns g g1 ⟨_, S2, fun z => by rw [z] at k2; exact k2.elim⟩
          obtain ⟨E, hx, k3⟩ := exc_pass E2 k2
          exact ⟨k, _, E, hr, Fn, hx, W.Z, μ2, S2, _, R2, .cons (Vo.ext e2.z) (V2.perm perm (by rw [l2, ← n4]; exact hp')), k3⟩
        refine PySem.W.callWith_KW0 (first := [.ref b]) I1.kIn (by rw [cx.kk]; exact g2.kp) n1 (thn (key q pins s1 I1) fun us s2 ⟨vs, H2, I2, r, l2, q1⟩ => ⟨I2.kIn, ?_⟩) (by rw [n3]; rfl)
        rw [n2]
        obtain ⟨k, sp, E, hr, Fn, hx, hsp⟩ := q1
        show wpAny _ _ (call (.ref (W.lk.fa g)) [.ref b] ((kws.filterMap (·.arg)).zip us)) _ _ _
        have hkb' : KBn X.K (W.lk.fd g) (W.lk.pn g) 1 (kws.filterMap (·.arg)) (fun us ws => us ++ perm.map fun k => ws.getD k .none) (fun vs zs => vs ++ perm.map fun k => zs.getD k .non) := by rw [cx.kk]; exact hkb
        refine wpAny_call (codeAny_mono (Fn.go X.A X.stack s2 H2 ⟨[.ref b], (kws.filterMap (·.arg)).zip us⟩ _ _ Q E hr I2.env0 (hkb'.to s2 [.ref b] us I2.kIn rfl (r.length.symm.trans l2)) (hkb'.rel (vs := [.ref b]) (.cons rfl .nil) r) hsp) fun r s' hq => ?_)
        cases r with
        | error e => exact hx pins H2 s2 e s' I2 hq
        | ok fl =>
          cases fl with
          | ret u => exact I2.after hq
          | next => exact False.elim hq
          | brk => exact False.elim hq
          | cont => exact False.elim hq
      · exact k1.elim
  · cases h
mutual
theorem allE (C : Orc) : ∀ x : Ex, SE C x
  | .non => se_non
  | .bl _ => se_bl
  | .int _ => se_int
  | .str _ => se_str
  | .v _ => se_v
  | .g _ => se_g
  | .bin _ _ a b => se_bin (allE C a) (allE C b)
  | .neg a => se_neg (allE C a)
  | .not a => se_not (allE C a)
  | .and es => se_and (allEs C es)
  | .or es => se_or (allEs C es)
  | .cmp _ a b => se_cmp (allE C a) (allE C b)
  | .chain _ _ a b c => se_chain (allE C a) (allE C b) (allE C c)
  | .ite t a b => se_ite (allT C t) (allE C a) (allE C b)
  | .idx a i => se_idx (allE C a) (allE C i)
  | .slc _ a lo hi => se_slc (allE C a) (allEs C lo) (allEs C hi)
  | .tup es => se_tup (allEs C es)
  | .lst _ es => se_lst (allEs C es)
  | .cB _ _ es => se_cB (allEs C es)
  | .trg1 _ _ a => se_trg1 (allE C a)
  | .trg2 _ _ a b => se_trg2 (allE C a) (allE C b)
  | .isi _ a => se_isi (allE C a)
  | .cF _ es => se_cF (allEs C es)
  | .cK _ _ es => se_cK (allEs C es)
  | .lam _ _ => se_lam
  | .mk _ es => se_mk (allEs C es)
  | .mth _ o es => se_mth (allE C o) (allEs C es)
  | .app o a => se_app (allE C o) (allE C a)
  | .popA o a => se_popA (allE C o) (allE C a)
  | .idxA o a => se_idxA (allE C o) (allE C a)
  | .cntA o a => se_cntA (allE C o) (allE C a)
  | .dnew => se_dnew
  | .dget o k => se_dget (allE C o) (allE C k)
  | .dupd o a => se_dupd (allE C o) (allE C a)
  | .dcom kx vx tg it _ => se_dcom (allE C kx) (allE C vx) (allG C tg) (allI C it)
  | .stp _ a lo st => se_stp (allE C a) (allEs C lo) (allE C st)
  | .srS _ a => se_srS (allE C a)
  | .spl _ _ _ es => se_spl (allEs C es)
  | .atr _ o => se_atr (allE C o)
  | .sX _ a => se_sX (allE C a)
  | .join a b => se_join (allE C a) (allE C b)
  | .spt _ a b => se_spt (allE C a) (allE C b)
  | .fst a _ b => se_fst (allE C a) (allE C b)
  | .fld _ => se_fld
  | .fmI _ a _ => se_fmI (allE C a)
  | .dlit _ _ => se_dlit
  | .lnO _ _ a => se_lnO (allE C a)
  | .oeqV _ _ a b => se_oeqV (allE C a) (allE C b)
  | .mthK _ _ _ o _ es => se_mthK (allE C o) (allEs C es)
  | .cS _ _ _ es => se_cS (allEs C es)
  | .kget _ _ k d => se_kget (allE C k) (allE C d)
  | .dzip a b => se_dzip (allE C a) (allE C b)
  | .dgd o k d => se_dgd (allE C o) (allE C k) (allE C d)
  | .dval _ o => se_dval (allE C o)
  | .comp _ elt tg it ifs _ => se_comp (allE C elt) (allG C tg) (allI C it) (allTs C ifs)
theorem allEs (C : Orc) : ∀ xs : List Ex, ∀ x ∈ xs, SE C x
  | [], _, h => by cases h
  | y :: ys, x, h => by
    rcases List.mem_cons.mp h with e | h
    · rw [e]; exact allE C y
    · exact allEs C ys x h
theorem allT (C : Orc) : ∀ t : Te, STt C t
  | .of x => st_of (allE C x)
  | .cmp _ a b => st_cmp (allE C a) (allE C b)
  | .chain _ _ a b c => st_chain (allE C a) (allE C b) (allE C c)
  | .dinT _ k o => st_dinT (allE C k) (allE C o)
  | .oeq _ _ a b => st_oeq (allE C a) (allE C b)
  | .not t => st_not (allT C t)
  | .and ts => st_and (allTs C ts)
  | .or ts => st_or (allTs C ts)
theorem allTs (C : Orc) : ∀ xs : List Te, ∀ x ∈ xs, STt C x
  | [], _, h => by cases h
  | y :: ys, x, h => by
    rcases List.mem_cons.mp h with e | h
    · rw [e]; exact allT C y
    · exact allTs C ys x h
theorem allI (C : Orc) : ∀ it : It, ∀ x ∈ itEs it, SE C x
  | .of a, x, h => by
    have : x = a := by simpa [itEs] using h
    rw [this]; exact allE C a
  | .rng1 a, x, h => by
    have : x = a := by simpa [itEs] using h
    rw [this]; exact allE C a
  | .rng2 a b, x, h => by
    have : x = a ∨ x = b := by simpa [itEs] using h
    rcases this with e | e
    · rw [e]; exact allE C a
    · rw [e]; exact allE C b
  | .enm a, x, h => by
    have : x = a := by simpa [itEs] using h
    rw [this]; exact allE C a
  | .sgn a, x, h => by
    have : x = a := by simpa [itEs] using h
    rw [this]; exact allE C a
  | .zip a b, x, h => by
    have : x = a ∨ x = b := by simpa [itEs] using h
    rcases this with e | e
    · rw [e]; exact allE C a
    · rw [e]; exact allE C b
theorem allG (C : Orc) : ∀ t : Tg, SG0 C t
  | .nm _ => sg_nm.zero
  | .sub o i => (sg_sub (allE C o) (allE C i)).zero
  | .tup ts => sg_tup (allGs C ts)
theorem allGs (C : Orc) : ∀ ts : List Tg, SGl C ts
  | [] => sgl_nil
  | t :: ts => sgl_cons (allG C t) (allGs C ts)
end
end
end Th
namespace Th
open PySem PySem.Spec PyProof.Rows L2
def isNm : Tg → Bool
  | .nm _ => true
  | _ => false
def noComp : Expr → Bool
  | .ListComp .. => false
  | .SetComp .. => false
  | .DictComp .. => false
  | _ => true
/-- name = [.. for ..] that the name's slot is made for -/
def swapTo (sc : Scope) (tg : Expr) (v : Expr) : Bool := match tg, v with
  | .Name y py, .ListComp _ _ scope p => sc.kind == .function && sc.names.lookup y == some .local && py.line == p.line && !(scope.names.any fun (n, k) => n == y && (k == .local || k == .cell))
  | _, _ => false
def parNames (sc : Scope) (line : Nat) (ts : List Expr) : List Str := ts.filterMap fun
  | .Name id pos => if sc.names.lookup id == some .local && pos.line == line then some id else none
  | _ => none
/-- no parallel stores -/
def parNone (sc : Scope) (tg v : Expr) : Bool := match tg, v with
  | .Tuple ts _ _, .Tuple vs _ _ => !(ts.length == 2 || ts.length == 3) || (((parNames sc ((ts.head?.map (·.pos.line)).getD 0) ts).length != ts.length) || vs.all (foldedForSure 8))
  | .List .., .Tuple .. => false
  | _, _ => true
def asAsg : Stmt → Option (Expr × Expr)
  | .Assign [t] v _ => some (t, v)
  | _ => none
def asAug : Stmt → Option (Str × Operator × Expr)
  | .AugAssign (.Name x _) op e _ => some (x, op, e)
  | _ => none
def asAugX : Stmt → Option (Expr × Expr × Operator × Expr)
  | .AugAssign (.Subscript l j _) op e _ => some (l, j, op, e)
  | _ => none
def asExp : Stmt → Option Expr
  | .Expr e _ => some e
  | _ => none
def asRet : Stmt → Option Expr
  | .Return (some e) _ => some e
  | _ => none
def isRetN : Stmt → Bool
  | .Return none _ => true
  | _ => false
def asIfS : Stmt → Option (Expr × List Stmt × List Stmt)
  | .If c a b _ => some (c, a, b)
  | _ => none
def asForS : Stmt → Option (Expr × Expr × List Stmt)
  | .For t i b [] _ => some (t, i, b)
  | _ => none
def asWhile : Stmt → Option (Expr × List Stmt)
  | .While c b [] _ => some (c, b)
  | _ => none
def isBrk : Stmt → Bool
  | .Break _ => true
  | _ => false
def isCont : Stmt → Bool
  | .Continue _ => true
  | _ => false
def isPass : Stmt → Bool
  | .Pass _ => true
  | _ => false
/-- raise C() -/
def asRaise : Stmt → Option Str
  | .Raise (some (.Call (.Name x _) [] [] _)) none _ => some x
  | _ => none
theorem asRaise_eq {s : Stmt} {x : Str} (h : asRaise s = some x) : ∃ p q r, s = .Raise (some (.Call (.Name x p) [] [] q)) none r := by
  unfold asRaise at h
  split at h
  · cases h; exact ⟨_, _, _, rfl⟩
  · cases h
/-- raise C(e) -/
def asRaise1 : Stmt → Option (Str × Expr)
  | .Raise (some (.Call (.Name x _) [e] [] _)) none _ => some (x, e)
  | _ => none
theorem asRaise1_eq {s : Stmt} {x : Str} {e : Expr} (h : asRaise1 s = some (x, e)) : ∃ p q r, s = .Raise (some (.Call (.Name x p) [e] [] q)) none r := by
  unfold asRaise1 at h
  split at h
  · cases h; exact ⟨_, _, _, rfl⟩
  · cases h
def asPar2 : Expr → Option (Str × Str)
  | .Tuple [.Name x _, .Name y _] _ _ => some (x, y)
  | _ => none
def asPar3 : Expr → Option (Str × Str × Str)
  | .Tuple [.Name x _, .Name y _, .Name z _] _ _ => some (x, y, z)
  | _ => none
def parOk (sc : Scope) (tg v : Expr) : Bool := match tg, v with
  | .Tuple ts _ _, .Tuple vs _ _ => (ts.length == 2 || ts.length == 3) && vs.length == ts.length && sc.kind == .function && !(vs.any fun | .Starred .. => true | _ => false) &&
      ((parNames sc ((ts.head?.map (·.pos.line)).getD 0) ts).length == ts.length) && ((parNames sc ((ts.head?.map (·.pos.line)).getD 0) ts).eraseDups.length == (parNames sc ((ts.head?.map (·.pos.line)).getD 0) ts).length) && !(vs.all (foldedForSure 8)) && !(vs.all (constantsAlone 8))
  | _, _ => false
section
variable (P : Pr) (lk : Chk) (N : List Str) (ini : Bool)
/-- try: body / except ..: .. and nothing else -/
def asTryS : Stmt → Option (List Stmt × ExceptHandler × List ExceptHandler)
  | .Try b (h :: hs) [] [] _ => some (b, h, hs)
  | _ => none
mutual
def okS (sc : Scope) : Sm → Stmt → Bool
  | .asg t e, s => match asAsg s with
    | some (tg, v) => okT P lk N ini none sc t tg && okE P lk N ini sc e v && parNone sc tg v && (noComp v || (isNm t && sc.kind == .function && (asComp v).isSome))
    | none => false
  | .par is es, s => match asAsg s with
    | some (tg, v) => parOk sc tg v && !(ini && is.contains 0) && (match asTup v with
      | some vs => okEs P lk N ini sc es vs && (match is with
        | [i, j] => (match asPar2 tg with
          | some (x, y) => decide (N[i]? = some x) && decide (N[j]? = some y) && decide (i ≠ j) && locB sc x && locB sc y && decide (vs.length = 2)
          | none => false)
        | [i, j, l] => (match asPar3 tg with
          | some (x, y, z) => decide (N[i]? = some x) && decide (N[j]? = some y) && decide (N[l]? = some z) && decide (i ≠ j) && decide (i ≠ l) && decide (j ≠ l) && locB sc x && locB sc y && locB sc z && decide (vs.length = 3)
          | none => false)
        | _ => false)
      | none => false)
    | none => false
  | .aug i o e, s => match asAug s with
    | some (x, op, v) => decide (N[i]? = some x) && (locB sc x || (match sc.names.lookup x with | some .cell => true | _ => false)) && opB o op && okE P lk N ini sc e v && !(ini && i == 0)
    | none => false
  | .augX o i b e, s => match asAugX s with
    | some (l, j, op, v) => okE P lk N ini sc o l && okE P lk N ini sc i j && opB b op && okE P lk N ini sc e v
    | none => false
  | .fset a e, s => match asAsg s with
    | some (tg, v) => match asAtt tg with
      | some (l, f) => match asName l with
        | some x => ini && P.nm a == f && decide (N[0]? = some x) && visB sc x && plainN x && lk.fl a && okE P lk N ini sc e v
        | none => false
      | none => false
    | none => false
  | .expr e, s => match asExp s with
    | some v => okE P lk N ini sc e v && noComp v
    | none => false
  | .ret e, s => match asRet s with
    | some v => okE P lk N ini sc e v && !ini
    | none => false
  | .retN, s => isRetN s && !ini
  | .ifs c a b, s => match asIfS s with
    | some (t, l, r) => okTe P lk N ini sc c t && okSs sc a l && okSs sc b r
    | none => false
  | .fors t it body, s => match asForS s with
    | some (tg, i, b) => okI P lk N ini sc it i tg && okT P lk N ini none sc t tg && okSs sc body b
    | none => false
  | .whiles c body, s => match asWhile s with
    | some (t, b) => okTe P lk N ini sc c t && okSs sc body b
    | none => false
  | .brk, s => isBrk s
  | .cont, s => isCont s
  | .pass, s => isPass s
  | .dead, _ => true
  | .raise c, s => match asRaise s with
    | some x => P.nm c == x && glB sc x && plainN x && lk.hasX c
    | none => false
  | .raiseV c e, s => match asRaise1 s with
    | some (x, a) => P.nm c == x && glB sc x && plainN x && lk.hasX c && okE P lk N ini sc e a
    | none => false
  | .tryD body, s => match asTryS s with
    | some (b, _, _) => okSs sc body b
    | none => false
def okSs (sc : Scope) : List Sm → List Stmt → Bool
  | [], ss => ss.isEmpty
  | x :: xs, ss => match ss with
    | [] => false
    | s :: ss => okS sc x s && okSs sc xs ss
end
end
def ExtM (me : Option Own) (μ : List Addr) (H : Hp) (μ' : List Addr) (H' : Hp) : Prop := ExtZ (fun b => ∃ o, me = some o ∧ b = o.a) μ H μ' H'
theorem ExtM.refl {me : Option Own} {μ : List Addr} {H : Hp} : ExtM me μ H μ H := ExtZ.refl
theorem ExtM.trans {me : Option Own} {μ μ1 μ2 : List Addr} {H H1 H2 : Hp} (a : ExtM me μ H μ1 H1) (b : ExtM me μ1 H1 μ2 H2) : ExtM me μ H μ2 H2 := ExtZ.trans a b
theorem Ext.m {me : Option Own} {μ μ' : List Addr} {H H' : Hp} (e : Ext μ H μ' H') : ExtM me μ H μ' H' := e.z
section
variable (W : Wd) (X : Cx) (me : Option Own) (μ : List Addr) (H : Hp)
def PF (Q : L2.St → Hp → Prop) (f : Fr) (S : Store) : Prop := ∀ μ' H' σ', SR W μ' S H' → ExtM me μ H μ' H' → FR W me μ' H' f σ' → Q σ' H'
def PR (Q : VK) (d : D) (S : Store) : Prop := ∀ μ' H' v, SR W μ' S H' → ExtM me μ H μ' H' → VR W μ' H' d v → Q v H'
def PX (x : Exn) (f : Fr) (S : Store) : Prop := ∃ Wx : WX, Takes X Wx ∧ ∀ μ' H' σ' cls dd, SR W μ' S H' → ExtM me μ H μ' H' → FR W me μ' H' f σ' → XR W μ' H' x cls dd → Wx cls dd σ' H'
def KS (D : Ends) (r : SO) : Prop := match r with
  | .nx f S => PF W me μ H D.nx f S
  | .bk f S => PF W me μ H D.bk f S
  | .ct f S => PF W me μ H D.ct f S
  | .rt d S => PR W me μ H D.rt d S
  | .ex x f S => PX W X me μ H x f S
  | .bad => False
end
section
variable {W : Wd} {X : Cx} {me : Option Own} {μ μ1 : List Addr} {H H1 : Hp} {D : Ends}
theorem KS.later {r : SO} (E : ExtM me μ H μ1 H1) (h : KS W X me μ H D r) : KS W X me μ1 H1 D r := by
  cases r with
  | nx f S => exact fun μ' H' σ' R e F => (show PF W me μ H D.nx f S from h) μ' H' σ' R (E.trans e) F
  | bk f S => exact fun μ' H' σ' R e F => (show PF W me μ H D.bk f S from h) μ' H' σ' R (E.trans e) F
  | ct f S => exact fun μ' H' σ' R e F => (show PF W me μ H D.ct f S from h) μ' H' σ' R (E.trans e) F
  | rt d S => exact fun μ' H' v R e F => (show PR W me μ H D.rt d S from h) μ' H' v R (E.trans e) F
  | ex x f S =>
    obtain ⟨Wx, tk, q⟩ := (show PX W X me μ H x f S from h)
    exact ⟨Wx, tk, fun μ' H' σ' cls dd R e F r => q μ' H' σ' cls dd R (E.trans e) F r⟩
  | bad => exact h
theorem KS.so {α : Type} {o : Out α} {k : α → Store → SO} {f : Fr} {σ : L2.St} (h : KS W X me μ H D (o.so f k)) (F : FR W me μ H f σ) (zm : ∀ b, W.Z b → b ∉ μ) : K1 (o.bind fun d S => .ok d S) (fun d S1 => KS W X me μ H D (k d S1)) (XW W X μ H σ) := by
  cases o with
  | ok d S => exact h
  | exc x S =>
    obtain ⟨Wx, tk, q⟩ := (show PX W X me μ H x f S from h)
    exact ⟨Wx, tk, fun μ' H' cls dd R E r => q μ' H' σ cls dd R E.m (F.ext E zm) r⟩
  | bad => exact h
/-- a statement is kept -/
def SS (C : Orc) (s : Sm) : Prop := ∀ (W : Wd) (X : Cx) (ini : Bool) (me : Option Own) (st : Stmt) (f : Fr) (S : Store) (σ : L2.St) (H : Hp) (μ : List Addr) (D : Ends), Cxt W C X → PassesOwn (model X.prog X.w) X.A X.env X.xe → (∀ x, X.fn x = true) →
  okS W.P W.lk.toChk X.N ini X.env.scope s st = true → ini = me.isSome → SR W μ S H → FR W me μ H f σ → KS W X me μ H D (ex W.P C s f S) → US X st D σ H
def SSs (C : Orc) (ss : List Sm) : Prop := ∀ (W : Wd) (X : Cx) (ini : Bool) (me : Option Own) (st : List Stmt) (f : Fr) (S : Store) (σ : L2.St) (H : Hp) (μ : List Addr) (D : Ends), Cxt W C X → PassesOwn (model X.prog X.w) X.A X.env X.xe → (∀ x, X.fn x = true) →
  okSs W.P W.lk.toChk X.N ini X.env.scope ss st = true → ini = me.isSome → SR W μ S H → FR W me μ H f σ → KS W X me μ H D (exs W.P C ss f S) → USs X st D σ H
end
theorem asAsg_eq {s : Stmt} {t v : Expr} (h : asAsg s = some (t, v)) : ∃ p, s = .Assign [t] v p := by
  unfold asAsg at h
  split at h
  · cases h; exact ⟨_, rfl⟩
  · cases h
theorem asAug_eq {s : Stmt} {x : Str} {op : Operator} {v : Expr} (h : asAug s = some (x, op, v)) : ∃ p q, s = .AugAssign (.Name x p) op v q := by
  unfold asAug at h
  split at h
  · cases h; exact ⟨_, _, rfl⟩
  · cases h
theorem asAugX_eq {s : Stmt} {l j : Expr} {op : Operator} {v : Expr} (h : asAugX s = some (l, j, op, v)) : ∃ p q, s = .AugAssign (.Subscript l j p) op v q := by
  unfold asAugX at h
  split at h
  · cases h; exact ⟨_, _, rfl⟩
  · cases h
theorem asExp_eq {s : Stmt} {v : Expr} (h : asExp s = some v) : ∃ p, s = .Expr v p := by
  unfold asExp at h
  split at h
  · cases h; exact ⟨_, rfl⟩
  · cases h
theorem asRet_eq {s : Stmt} {v : Expr} (h : asRet s = some v) : ∃ p, s = .Return (some v) p := by
  unfold asRet at h
  split at h
  · cases h; exact ⟨_, rfl⟩
  · cases h
theorem isRetN_eq {s : Stmt} (h : isRetN s = true) : ∃ p, s = .Return none p := by
  unfold isRetN at h
  split at h
  · exact ⟨_, rfl⟩
  · cases h
theorem asIfS_eq {s : Stmt} {c : Expr} {a b : List Stmt} (h : asIfS s = some (c, a, b)) : ∃ p, s = .If c a b p := by
  unfold asIfS at h
  split at h
  · cases h; exact ⟨_, rfl⟩
  · cases h
theorem asForS_eq {s : Stmt} {t i : Expr} {b : List Stmt} (h : asForS s = some (t, i, b)) : ∃ p, s = .For t i b [] p := by
  unfold asForS at h
  split at h
  · cases h; exact ⟨_, rfl⟩
  · cases h
theorem asWhile_eq {s : Stmt} {c : Expr} {b : List Stmt} (h : asWhile s = some (c, b)) : ∃ p, s = .While c b [] p := by
  unfold asWhile at h
  split at h
  · cases h; exact ⟨_, rfl⟩
  · cases h
theorem isBrk_eq {s : Stmt} (h : isBrk s = true) : ∃ p, s = .Break p := by
  unfold isBrk at h
  split at h
  · exact ⟨_, rfl⟩
  · cases h
theorem isCont_eq {s : Stmt} (h : isCont s = true) : ∃ p, s = .Continue p := by
  unfold isCont at h
  split at h
  · exact ⟨_, rfl⟩
  · cases h
theorem isPass_eq {s : Stmt} (h : isPass s = true) : ∃ p, s = .Pass p := by
  unfold isPass at h
  split at h
  · exact ⟨_, rfl⟩
  · cases h
theorem asPar2_eq {e : Expr} {x y : Str} (h : asPar2 e = some (x, y)) : ∃ p q k r, e = .Tuple [.Name x p, .Name y q] k r := by
  unfold asPar2 at h
  split at h
  · cases h; exact ⟨_, _, _, _, rfl⟩
  · cases h
theorem asPar3_eq {e : Expr} {x y z : Str} (h : asPar3 e = some (x, y, z)) : ∃ p q u k r, e = .Tuple [.Name x p, .Name y q, .Name z u] k r := by
  unfold asPar3 at h
  split at h
  · cases h; exact ⟨_, _, _, _, _, rfl⟩
  · cases h
theorem noComp_swaps {v : Expr} (h : noComp v = true) (t : Option Expr) (l : Nat) (env : Env) : swapsWith v t l env = pure false := by
  cases v <;> first | rfl | (simp [noComp] at h)
theorem par_none {ts vs : List Expr} {kt kv : Nat} {pt pv : Pos} {env : Env} (h : ((parNames env.scope ((ts.head?.map (·.pos.line)).getD 0) ts).length != ts.length) = true ∨ vs.all (foldedForSure 8) = true) : swappedStores [.Tuple ts kt pt] (.Tuple vs kv pv) env = pure none := by
  unfold swappedStores
  dsimp only
  split
  · rfl
  · split
    · rfl
    · split
      · rfl
      · next h3 =>
        split
        · rfl
        · next h4 =>
          rcases h with h | h
          · have h3' : ¬ ((parNames env.scope ((ts.head?.map (·.pos.line)).getD 0) ts).length != ts.length || (parNames env.scope ((ts.head?.map (·.pos.line)).getD 0) ts).eraseDups.length != (parNames env.scope ((ts.head?.map (·.pos.line)).getD 0) ts).length) = true := h3
            rw [Bool.or_eq_true] at h3'
            exact absurd (Or.inl h) h3'
          · exact absurd h h4
theorem parNone_none {tg v : Expr} {env : Env} (h : parNone env.scope tg v = true) : swappedStores [tg] v env = pure none := by
  unfold parNone at h
  split at h
  · next ts kt pt vs kv pv =>
    rw [Bool.or_eq_true] at h
    rcases h with h | h
    · unfold swappedStores
      show (if (!(ts.length == 2 || ts.length == 3) || vs.length != ts.length || env.blockKind != .function) = true then pure none else _) = _
      rw [if_pos (by rw [h]; rfl)]
    · rw [Bool.or_eq_true] at h
      exact par_none h
  · cases h
  · next h1 h2 =>
    cases tg with
    | Tuple ts k p =>
      cases v <;> first | rfl | exact absurd rfl (h1 _ _ _ _ _ _ rfl)
    | List ts p =>
      cases v <;> first | rfl | exact absurd rfl (h2 _ _ _ _ _ rfl)
    | _ => rfl
theorem par_some {ts vs : List Expr} {kt kv : Nat} {pt pv : Pos} {env : Env} (h : parOk env.scope (.Tuple ts kt pt) (.Tuple vs kv pv) = true) : swappedStores [.Tuple ts kt pt] (.Tuple vs kv pv) env = pure (some (parNames env.scope ((ts.head?.map (·.pos.line)).getD 0) ts)) := by
  unfold parOk at h
  simp only [Bool.and_eq_true, Bool.not_eq_true'] at h
  obtain ⟨⟨⟨⟨⟨⟨⟨h1, h2⟩, h3⟩, h4⟩, h5⟩, h6⟩, h7⟩, h8⟩ := h
  have hk : env.scope.kind = .function := by
    cases e : env.scope.kind <;> first | rfl | (rw [e] at h3; cases h3)
  have hb : env.blockKind = .function := by unfold Env.blockKind; rw [hk]; rfl
  unfold swappedStores
  dsimp only
  split
  · next z =>
    rw [hb, h1] at z
    have h2' : vs.length = ts.length := by simpa using h2
    rw [h2'] at z
    simp at z
  · split
    · next z =>
      have z' : (vs.any fun | .Starred .. => true | _ => false) = true := z
      rw [h4] at z'
      cases z'
    · split
      · next z =>
        have z' : ((parNames env.scope ((ts.head?.map (·.pos.line)).getD 0) ts).length != ts.length || (parNames env.scope ((ts.head?.map (·.pos.line)).getD 0) ts).eraseDups.length != (parNames env.scope ((ts.head?.map (·.pos.line)).getD 0) ts).length) = true := z
        rw [Bool.or_eq_true, bne_iff_ne, bne_iff_ne] at z'
        rcases z' with z' | z'
        · exact absurd (by simpa using h5) z'
        · exact absurd (by simpa using h6) z'
      · split
        · next z => rw [h7] at z; cases z
        · split
          · next z => rw [h8] at z; cases z
          · rfl
end Th
namespace Th
open PySem PySem.Spec PyProof.Rows L2
section
variable {C : Orc}
theorem KS.nx {W : Wd} {X : Cx} {me : Option Own} {μ μ1 : List Addr} {H H1 : Hp} {D : Ends} {f : Fr} {S : Store} {σ : L2.St} (h : KS W X me μ H D (.nx f S)) (R : SR W μ1 S H1) (E : ExtM me μ H μ1 H1) (F : FR W me μ1 H1 f σ) : D.nx σ H1 := (show PF W me μ H D.nx f S from h) μ1 H1 σ R E F
theorem swap_nm {l t i : Expr} {cs : List Expr} {scope : Scope} {pos p : Pos} {y : Str} {line : Nat} {env : Env} : swapsWith (.ListComp l [⟨t, i, cs, 0⟩] scope pos) (some (.Name y p)) line env = pure (swapTo env.scope (.Name y p) (.ListComp l [⟨t, i, cs, 0⟩] scope pos)) ∨ env.scope.kind ≠ .function := by
  by_cases hk : env.scope.kind = .function
  · refine .inl ?_
    have hb : env.blockKind = .function := by unfold Env.blockKind; rw [hk]; rfl
    unfold swapsWith swapTo
    simp only [hb, hk]
    rfl
  · exact .inr hk
theorem swap_of {P : Pr} {lk : Chk} {N : List Str} {ini : Bool} {sc : Scope} {e : Ex} {v : Expr} (h : okE P lk N ini sc e v = true) (hl : (asComp v).isSome = true) : ∃ m elt tg it ifs own, e = .comp m elt tg it ifs own := by
  obtain ⟨⟨l, t, i, cs, s2⟩, hv⟩ := Option.isSome_iff_exists.mp hl
  obtain ⟨p, rfl⟩ := asComp_eq hv
  cases e <;> first | exact ⟨_, _, _, _, _, _, rfl⟩ | (exfalso; cases h) | (rename_i l _ _ _; cases l <;> (exfalso; cases h))
theorem ss_asg {t : Tg} {e : Ex} : SS C (.asg t e) := by
  intro W X ini me st f S σ H μ D cx hp hfn h hi R F hk
  rw [okS] at h
  split at h
  · next tg v hs =>
    obtain ⟨pos, rfl⟩ := asAsg_eq hs
    simp only [Bool.and_eq_true, Bool.or_eq_true] at h
    obtain ⟨⟨⟨h1, h2⟩, h3⟩, h4⟩ := h
    have k1 : K1 ((ev W.P C e f S).bind fun d S => .ok d S) (fun d S1 => KS W X me μ H D (match evTg W.P C t d f S1 with
      | .ok f1 S2 => .nx f1 S2
      | .exc x S2 => .bad
      | .bad => .bad)) (XW W X μ H σ) := by
      rw [ex] at hk
      exact KS.so hk F R.zm
    have tgt : ∀ {μ1 H1 d S1 v}, Ext μ H μ1 H1 → SR W μ1 S1 H1 → VR W μ1 H1 d v → FR W me μ1 H1 f σ → KS W X me μ H D (match evTg W.P C t d f S1 with
      | .ok f1 S2 => .nx f1 S2
      | .exc x S2 => .bad
      | .bad => .bad) → K1 (evTg W.P C t d f S1) (fun f' S' => ∀ μ' H' σ', SR W μ' S' H' → Ext μ1 H1 μ' H' → FR W me μ' H' f' σ' → (∀ own : List Nat, (∀ i ∈ tgIx t, i ∈ own) → L2.wipe σ' own = L2.wipe σ own) → D.nx σ' H') (fun _ _ => False) := fun {μ1 H1 d S1 v} E1 R1 V1 F1 k2 => by
      cases ht : evTg W.P C t d f S1 with
      | ok f1 S2 => rw [ht] at k2; exact fun μ' H' σ' R' e F' _ => k2.nx R' (E1.trans e).m F'
      | exc x S2 => rw [ht] at k2; exact k2.elim
      | bad => rw [ht] at k2; exact k2.elim
    have ord : swapsWithSole [tg] v pos.line X.env = pure false → US X (.Assign [tg] v pos) D σ H := fun hsw => by
      refine US.of (ps_asg (U.pe v) (UG.pg tg) hsw (parNone_none h3) (by rw [okT_each h1]; rfl)) ?_
      exact (allE C e).use cx h2 hi Ext.refl R F k1 fun d S1 μ1 H1 u E1 _ R1 V1 F1 k2 => allG C t W X none ini me tg d u f S1 σ H1 μ1 _ cx (fun x _ => hfn x) h1 hi R1 F1 V1 (tgt E1 R1 V1 F1 k2)
    by_cases hc : noComp v = true
    · exact ord (noComp_swaps hc _ _ _)
    · rcases h4 with h4 | ⟨⟨h4, h5⟩, h6⟩
      · exact absurd h4 hc
      · cases t <;> first | cases h4 | skip
        next i =>
        have h1' := h1
        rw [okT] at h1
        split at h1
        · next y hy =>
          obtain ⟨py, rfl⟩ := asName_eq hy
          simp only [Bool.and_eq_true, decide_eq_true_eq, Bool.not_eq_true', Bool.and_eq_false_iff] at h1
          have hk' : X.env.scope.kind = .function := by
            cases e : X.env.scope.kind <;> first | rfl | (rw [e] at h5; cases h5)
          rcases swap_of h2 h6 with ⟨m, elt, tg', it, ifs, own, rfl⟩
          obtain ⟨l, t', i', cs, scope, p2, rfl, g1, g2⟩ := comp_facts h2
          have sw : swapsWith (.ListComp l [⟨t', i', cs, 0⟩] scope p2) (some (.Name y py)) pos.line X.env = pure (swapTo X.env.scope (.Name y py) (.ListComp l [⟨t', i', cs, 0⟩] scope p2)) := by
            rcases swap_nm with q | q
            · exact q
            · exact absurd hk' q
          cases hb : swapTo X.env.scope (.Name y py) (.ListComp l [⟨t', i', cs, 0⟩] scope p2) with
          | false => rw [hb] at sw; exact ord sw
          | true =>
            rw [hb] at sw
            have hyl : X.env.scope.names.lookup y = some .local := by
              simp only [swapTo, Bool.and_eq_true, beq_iff_eq] at hb
              exact hb.1.1.2
            refine US.of (ps_setLc cx.calm cx.nd h1.1.1 hyl sw (UI.pi t' i') g2 (fun s H0 C cl fp => blkG.pg s H0 C cl fp t') (fun s H0 C cl fp => blkT.pts s H0 C cl fp cs) (fun s H0 C cl fp => blkE.pe s H0 C cl fp l) (okI_fold g1)) ?_
            have h0 : me.isSome = true → i ≠ 0 := fun z hz => by
              rw [← hi] at z
              rcases h1.2 with h3 | h3
              · rw [z] at h3; cases h3
              · rw [hz] at h3; exact absurd h3 (by decide)
            refine lc_ok (Q := fun x H1 => D.nx (σ.set i (some x)) H1) (allE C elt) (allG C tg') (allI C it) (allTs C ifs) cx h2 hi R F ?_
            cases hv : ev W.P C (.comp m elt tg' it ifs own) f S with
            | ok d S1 =>
              rw [hv] at k1
              have k2 : KS W X me μ H D (.nx (setV f i d) S1) := k1
              exact fun μ' H' v R' E V1 => k2.nx R' E.m ((F.ext E R.zm).set h0 V1)
            | exc x S1 => rw [hv] at k1; exact k1
            | bad => rw [hv] at k1; exact k1
        · cases h1
  · cases h
theorem locB_loc {sc : Scope} {x : Str} (h : locB sc x = true) : sc.names.lookup x = some .local := by
  unfold locB at h
  split at h
  · next e => exact e
  · cases h
theorem par_two (sc : Scope) {x y : Str} (px py : Pos) {kt k2 : Nat} {pt p2 : Pos} {vs : List Expr} (lx : sc.names.lookup x = some .local) (ly : sc.names.lookup y = some .local) (h : parOk sc (.Tuple [.Name x px, .Name y py] kt pt) (.Tuple vs k2 p2) = true) :
    parNames sc ((([Expr.Name x px, Expr.Name y py].head?).map (·.pos.line)).getD 0) [.Name x px, .Name y py] = [x, y] := by
  unfold parOk at h
  simp only [Bool.and_eq_true] at h
  have h5 := h.1.1.1.2
  generalize ((([Expr.Name x px, Expr.Name y py].head?).map (·.pos.line)).getD 0) = line at h5 ⊢
  unfold parNames at h5 ⊢
  simp only [List.filterMap_cons, List.filterMap_nil, lx, ly] at h5 ⊢
  by_cases a : (px.line == line) = true <;> by_cases b : (py.line == line) = true <;> simp [a, b] at h5 ⊢
theorem par_three (sc : Scope) {x y z : Str} (px py pz : Pos) {kt k2 : Nat} {pt p2 : Pos} {vs : List Expr} (lx : sc.names.lookup x = some .local) (ly : sc.names.lookup y = some .local) (lz : sc.names.lookup z = some .local) (h : parOk sc (.Tuple [.Name x px, .Name y py, .Name z pz] kt pt) (.Tuple vs k2 p2) = true) :
    parNames sc ((([Expr.Name x px, Expr.Name y py, Expr.Name z pz].head?).map (·.pos.line)).getD 0) [.Name x px, .Name y py, .Name z pz] = [x, y, z] := by
  unfold parOk at h
  simp only [Bool.and_eq_true] at h
  have h5 := h.1.1.1.2
  generalize ((([Expr.Name x px, Expr.Name y py, Expr.Name z pz].head?).map (·.pos.line)).getD 0) = line at h5 ⊢
  unfold parNames at h5 ⊢
  simp only [List.filterMap_cons, List.filterMap_nil, lx, ly, lz] at h5 ⊢
  by_cases a : (px.line == line) = true <;> by_cases b : (py.line == line) = true <;> by_cases c : (pz.line == line) = true <;> simp [a, b, c] at h5 ⊢
theorem ss_par {is : List Nat} {es : List Ex} : SS C (.par is es) := by
  intro W X ini me st f S σ H μ D cx hp hfn h hi R F hk
  rw [okS] at h
  split at h
  · next tg v hs =>
    obtain ⟨pos, rfl⟩ := asAsg_eq hs
    simp only [Bool.and_eq_true] at h
    obtain ⟨⟨h1, h2⟩, h3⟩ := h
    split at h3
    · next vs hv =>
      obtain ⟨k2, p2, rfl⟩ := asTup_eq hv
      rw [Bool.and_eq_true] at h3
      obtain ⟨h3, h4⟩ := h3
      have h0 : ∀ i ∈ is, me.isSome = true → i ≠ 0 := fun i hm z hz => by
        rw [← hi] at z
        rw [z, List.contains_iff_mem.mpr (hz ▸ hm)] at h2
        cases h2
      rw [ex] at hk
      have k1 := KS.so hk F R.zm
      split at h4
      · next i j =>
        split at h4
        · next x y hx =>
          obtain ⟨px, py, kt, pt, rfl⟩ := asPar2_eq hx
          simp only [Bool.and_eq_true, decide_eq_true_eq] at h4
          obtain ⟨⟨⟨⟨⟨h5, h6⟩, h7⟩, h8⟩, h9⟩, h10⟩ := h4
          match vs, h10 with
          | [a, b], _ =>
            have hnm := par_some h1
            have lx := locB_loc h8
            have ly := locB_loc h9
            have hpn := par_two X.env.scope px py lx ly h1
            rw [hpn] at hnm
            refine US.of (ps_par cx.calm cx.nd h5 h6 h7 lx ly (UA.pa [a, b]) hnm) ?_
            refine ua_list (allEs C es) cx h3 hi Ext.refl R F k1 fun ds S1 μ1 H1 us E1 _ R1 V1 F1 k3 => ?_
            have k4 : KS W X me μ H D (if ds.length = [i, j].length then .nx (setVs f [i, j] ds) S1 else .bad) := k3
            split at k4
            · next hl =>
              obtain ⟨d1, d2, rfl⟩ : ∃ d1 d2, ds = [d1, d2] := by
                match ds, hl with
                | [d1, d2], _ => exact ⟨d1, d2, rfl⟩
              obtain ⟨v, w, rfl, Vv, Vw⟩ := V1.two
              exact ⟨v, w, rfl, k4.nx R1 E1.m ((F1.set (h0 i (by simp)) Vv).set (h0 j (by simp)) Vw)⟩
            · exact k4.elim
        · cases h4
      · next i j l =>
        split at h4
        · next x y z hx =>
          obtain ⟨px, py, pz, kt, pt, rfl⟩ := asPar3_eq hx
          simp only [Bool.and_eq_true, decide_eq_true_eq] at h4
          obtain ⟨⟨⟨⟨⟨⟨⟨⟨⟨h5, h6⟩, h6'⟩, h7⟩, h7'⟩, h7''⟩, h8⟩, h9⟩, h9'⟩, h10⟩ := h4
          match vs, h10 with
          | [a, b, c], _ =>
            have hnm := par_some h1
            have lx := locB_loc h8
            have ly := locB_loc h9
            have lz := locB_loc h9'
            have hpn := par_three X.env.scope px py pz lx ly lz h1
            rw [hpn] at hnm
            refine US.of (ps_par3 cx.calm cx.nd h5 h6 h6' h7 h7' h7'' lx ly lz (UA.pa [a, b, c]) hnm) ?_
            refine ua_list (allEs C es) cx h3 hi Ext.refl R F k1 fun ds S1 μ1 H1 us E1 _ R1 V1 F1 k3 => ?_
            have k4 : KS W X me μ H D (if ds.length = [i, j, l].length then .nx (setVs f [i, j, l] ds) S1 else .bad) := k3
            split at k4
            · next hl =>
              obtain ⟨d1, d2, d3, rfl⟩ : ∃ d1 d2 d3, ds = [d1, d2, d3] := by
                match ds, hl with
                | [d1, d2, d3], _ => exact ⟨d1, d2, d3, rfl⟩
              cases V1 with
              | cons Vu V1 =>
                obtain ⟨v, w, rfl, Vv, Vw⟩ := V1.two
                exact ⟨_, v, w, rfl, k4.nx R1 E1.m (((F1.set (h0 i (by simp)) Vu).set (h0 j (by simp)) Vv).set (h0 l (by simp)) Vw)⟩
            · exact k4.elim
        · cases h4
      · cases h4
    · cases h3
  · cases h
end
end Th
namespace Th
open PySem PySem.Spec PyProof.Rows L2
section
variable {C : Orc}
theorem ss_expr {e : Ex} : SS C (.expr e) := by
  intro W X ini me st f S σ H μ D cx hp hfn h hi R F hk
  rw [okS] at h
  split at h
  · next v hs =>
    obtain ⟨pos, rfl⟩ := asExp_eq hs
    rw [Bool.and_eq_true] at h
    rw [ex] at hk
    refine US.of (ps_expr (U.pe v) (noComp_swaps h.2 _ _ _)) ?_
    exact (allE C e).use cx h.1 hi Ext.refl R F (KS.so hk F R.zm) fun d S1 μ1 H1 u E1 _ R1 V1 F1 k2 => KS.nx (X := X) k2 R1 E1.m F1
  · cases h
theorem ss_ret {e : Ex} : SS C (.ret e) := by
  intro W X ini me st f S σ H μ D cx hp hfn h hi R F hk
  rw [okS] at h
  split at h
  · next v hs =>
    obtain ⟨pos, rfl⟩ := asRet_eq hs
    rw [Bool.and_eq_true] at h
    rw [ex] at hk
    refine US.of (ps_ret (U.pe v)) ?_
    exact (allE C e).use cx h.1 hi Ext.refl R F (KS.so hk F R.zm) fun d S1 μ1 H1 u E1 _ R1 V1 F1 k2 => (show PR W me μ H D.rt d S1 from k2) μ1 H1 u R1 E1.m V1
  · cases h
theorem ss_retN : SS C .retN := by
  intro W X ini me st f S σ H μ D cx hp hfn h hi R F hk
  rw [okS, Bool.and_eq_true] at h
  obtain ⟨pos, rfl⟩ := isRetN_eq h.1
  rw [ex] at hk
  exact US.of ps_retN ((show PR W me μ H D.rt .non S from hk) μ H .non R .refl .non)
theorem ss_brk : SS C .brk := by
  intro W X ini me st f S σ H μ D cx hp hfn h hi R F hk
  rw [okS] at h
  obtain ⟨pos, rfl⟩ := isBrk_eq h
  rw [ex] at hk
  exact US.of ps_break ((show PF W me μ H D.bk f S from hk) μ H σ R .refl F)
theorem ss_cont : SS C .cont := by
  intro W X ini me st f S σ H μ D cx hp hfn h hi R F hk
  rw [okS] at h
  obtain ⟨pos, rfl⟩ := isCont_eq h
  rw [ex] at hk
  exact US.of ps_continue ((show PF W me μ H D.ct f S from hk) μ H σ R .refl F)
theorem ss_pass : SS C .pass := by
  intro W X ini me st f S σ H μ D cx hp hfn h hi R F hk
  rw [okS] at h
  obtain ⟨pos, rfl⟩ := isPass_eq h
  rw [ex] at hk
  exact US.of ps_pass ((show PF W me μ H D.nx f S from hk) μ H σ R .refl F)
theorem ss_raise {c : Nat} : SS C (.raise c) := by
  intro W X ini me st f S σ H μ D cx hp hfn h hi R F hk
  rw [okS] at h
  split at h
  · next x hx =>
    obtain ⟨p, q, r, rfl⟩ := asRaise_eq hx
    simp only [Bool.and_eq_true, beq_iff_eq] at h
    obtain ⟨⟨⟨h1, h2⟩, h3⟩, h4⟩ := h
    subst h1
    obtain ⟨m, xc, _⟩ := cx.exn c h4
    rw [ex] at hk
    cases hx : W.P.xf c with
    | some n => rw [hx] at hk; exact hk.elim
    | none =>
      rw [hx] at hk
      obtain ⟨Wx, tk, q⟩ := (show PX W X me μ H ⟨c, []⟩ f S from hk)
      refine US.of (ps_raise cx.calm tk (mk_own0 (by rw [cx.kk]; exact xc hx) m (glB_gl h2) (plainN_1 h3))) ?_
      exact q μ H σ (.ref (W.lk.ca c)) none R ExtM.refl F ⟨rfl, rfl⟩
  · cases h
theorem ss_raiseV {c : Nat} {e : Ex} : SS C (.raiseV c e) := by
  intro W X ini me st f S σ H μ D cx hp hfn h hi R F hk
  rw [okS] at h
  split at h
  · next x a hx =>
    obtain ⟨p, q, r, rfl⟩ := asRaise1_eq hx
    simp only [Bool.and_eq_true, beq_iff_eq] at h
    obtain ⟨⟨⟨⟨h1, h2⟩, h3⟩, h4⟩, h5⟩ := h
    subst h1
    obtain ⟨m, _, xv, _⟩ := cx.exn c h4
    rw [ex] at hk
    cases hx : W.P.xf c with
    | none => rw [hx] at hk; exact hk.elim
    | some n =>
      rw [hx] at hk
      have k1 := KS.so hk F R.zm
      -- what takes it
      have key : U X a σ H (fun y H1 => ∃ Wx : WX, Takes X Wx ∧ ∀ dx, H1 dx = none → Wx (.ref (W.lk.ca c)) (some dx) σ (upd H1 dx (.xd [(W.P.nm n, y)]))) := by
        refine (allE C e).use cx h5 hi Ext.refl R F k1 fun d S1 μ1 H1 v E1 _ R1 V1 F1 k2 => ?_
        obtain ⟨Wx, tk, q⟩ := (show PX W X me μ H ⟨c, [d]⟩ f S1 from k2)
        refine ⟨Wx, tk, fun dx nd => ?_⟩
        have e2 := ext_new (μ := μ1) (o := .xd [(W.P.nm n, v)]) nd
        exact q μ1 _ σ (.ref (W.lk.ca c)) (some dx) (R1.new nd) (E1.trans e2).m (F1.ext e2 R1.zm) ⟨rfl, n, d, v, hx, rfl, upd_same, R1.free nd, R1.freeZ nd, V1.ext e2.z⟩
      have tk : Takes X (fun cls dd σ H => ∃ Wx : WX, Takes X Wx ∧ Wx cls dd σ H) := fun u s' ⟨a, B, sI, pins, σ, H, cls, d, e, I, nb, up, sky, na, os, ag, Wx, tk, w⟩ => tk u s' ⟨a, B, sI, pins, σ, H, cls, d, e, I, nb, up, sky, na, os, ag, w⟩
      refine US.of (ps_raise cx.calm tk (mk_own1 (by rw [cx.kk]; exact xv n hx) cx.room.r m (glB_gl h2) (plainN_1 h3) (ok_star h5 [] X.env))) ?_
      exact key.mono fun y H1 ⟨Wx, tk, q⟩ dx nd => ⟨Wx, tk, q dx nd⟩
  · cases h
theorem ss_dead : SS C .dead := by
  intro W X ini me st f S σ H μ D cx hp hfn h hi R F hk
  rw [ex] at hk
  exact hk.elim
theorem ss_aug {i : Nat} {o : Bop} {e : Ex} : SS C (.aug i o e) := by
  intro W X ini me st f S σ H μ D cx hp hfn h hi R F hk
  rw [okS] at h
  split at h
  · next x op v hs =>
    obtain ⟨p, pos, rfl⟩ := asAug_eq hs
    simp only [Bool.and_eq_true, decide_eq_true_eq, Bool.or_eq_true, Bool.not_eq_true', Bool.and_eq_false_iff] at h
    obtain ⟨⟨⟨⟨h1, h2⟩, h3⟩, h4⟩, h5⟩ := h
    have hloc : L2.Loc X.env.scope x := by
      rcases h2 with h2 | h2
      · exact .inl (locB_loc h2)
      · split at h2
        · next e => exact .inr e
        · cases h2
    have h0 : me.isSome = true → i ≠ 0 := fun z hz => by
      rw [← hi] at z
      rcases h5 with h3 | h3
      · rw [z] at h3; cases h3
      · rw [hz] at h3; exact absurd h3 (by decide)
    rw [ex] at hk
    split at hk
    · next x0 hx0 =>
      have e2 : f.ρ[i]? = some (some x0) := by
        unfold getV at hx0
        split at hx0
        · next o e => rw [e, hx0]
        · cases hx0
      obtain ⟨v0, s1, V0⟩ := F.at_ i x0 e2
      have k1 := KS.so hk F R.zm
      cases o <;> first | (cases op <;> first | (simp [opB] at h3; done) | skip) | skip
      · refine US.of (ps_aug cx.nd h1 hloc (U.pe v) ip_add (.inl (hfn x))) ⟨v0, s1, ?_⟩
        refine (allE C e).use cx h4 hi Ext.refl R F k1 fun y S1 μ1 H1 u E1 _ R1 V1 F1 k2 => ?_
        cases x0 <;> first | exact k2.elim | skip
        cases y <;> first | exact k2.elim | skip
        cases V0
        cases V1
        exact ⟨_, _, rfl, rfl, KS.nx (X := X) k2 R1 E1.m (F1.set h0 (.int _))⟩
      · refine US.of (ps_aug cx.nd h1 hloc (U.pe v) ip_sub (.inl (hfn x))) ⟨v0, s1, ?_⟩
        refine (allE C e).use cx h4 hi Ext.refl R F k1 fun y S1 μ1 H1 u E1 _ R1 V1 F1 k2 => ?_
        cases x0 <;> first | exact k2.elim | skip
        cases y <;> first | exact k2.elim | skip
        cases V0
        cases V1
        exact ⟨_, _, rfl, rfl, KS.nx (X := X) k2 R1 E1.m (F1.set h0 (.int _))⟩
      all_goals
        refine US.of (ps_aug cx.nd h1 hloc (U.pe v) (ti := fun _ _ _ _ => False) (fun _ _ _ _ _ _ _ _ _ _ _ _ z => z.elim) (.inl (hfn x))) ⟨v0, s1, ?_⟩
        refine (allE C e).use cx h4 hi Ext.refl R F k1 fun y S1 μ1 H1 u E1 _ R1 V1 F1 k2 => ?_
        exact k2.elim
    · exact hk.elim
  · cases h
def rNum : V → V → Hp → VK → Prop := fun x y H Q => ∃ p xs k v, x = .ref p ∧ y = .int k ∧ 0 ≤ k ∧ k < 1000000 ∧ H p = some (.lst xs) ∧ xs[k.toNat]? = some v ∧ Q v H
theorem pget_num {X : Cx} : PGet X rNum := by
  intro pins s σ H x y v u Q I rx ry h
  obtain ⟨p, xs, i, z, rfl, rfl, h0, h1, hp, he, q⟩ := h
  cases rx
  obtain ⟨t, rfl⟩ := ry
  obtain ⟨its, n, r, ho, hz⟩ := I.lst hp
  obtain ⟨w, ew, rw'⟩ := r.get he
  exact wpAny_getItem_list (items := its.toArray) ⟨_, ho, rfl, n, rfl⟩ h0 (by omega) (by simpa using ew) ⟨z, H, I, rw', q⟩
theorem numAt_spec {S : Store} {x i : D} {a : Int} (h : numAt S x i = some a) : ∃ n k xs, x = .loc n ∧ i = .int k ∧ 0 ≤ k ∧ k < 1000000 ∧ S[n]? = some (.lst xs) ∧ xs[k.toNat]? = some (.int a) := by
  unfold numAt at h
  split at h
  · next n k =>
    split at h
    · next xs hx =>
      split at h
      · next hk =>
        split at h
        · next b hb => cases h; exact ⟨n, k, xs, rfl, rfl, hk.1, hk.2, hx, hb⟩
        · cases h
      · cases h
    · cases h
  · cases h
theorem ip_any {X : Cx} {b : Bop} {op : Operator} (h : opB b op = true) : ∃ t, PIp X op t ∧ ∀ a c z H (Q : VK), augI b a (.int c) = some z → (∃ m, z = .int m ∧ Q (.int m) H) → t (.int a) (.int c) H Q := by
  cases b <;> (cases op <;> first | (simp [opB] at h; done) | skip)
  · exact ⟨_, ip_add, fun a c z H Q e ⟨m, e2, q⟩ => by cases e; cases e2; exact ⟨_, _, rfl, rfl, q⟩⟩
  · exact ⟨_, ip_sub, fun a c z H Q e ⟨m, e2, q⟩ => by cases e; cases e2; exact ⟨_, _, rfl, rfl, q⟩⟩
  all_goals exact ⟨fun _ _ _ _ => False, fun _ _ _ _ _ _ _ _ _ _ _ _ z => z.elim, fun a c z H Q e _ => by cases e⟩
theorem augI_spec {b : Bop} {a : Int} {y z : D} (h : augI b a y = some z) : ∃ c m, y = .int c ∧ z = .int m := by
  unfold augI at h
  split at h
  · cases h; exact ⟨_, _, rfl, rfl⟩
  · cases h; exact ⟨_, _, rfl, rfl⟩
  · cases h
theorem ss_augX {o i : Ex} {b : Bop} {e : Ex} : SS C (.augX o i b e) := by
  intro W X ini me st f S σ H μ D cx hp hfn h hi R F hk
  rw [okS] at h
  split at h
  · next l j op v hs =>
    obtain ⟨p, pos, rfl⟩ := asAugX_eq hs
    simp only [Bool.and_eq_true] at h
    obtain ⟨⟨⟨h1, h2⟩, h3⟩, h4⟩ := h
    obtain ⟨t, ht, ht2⟩ := ip_any (X := X) h3
    rw [ex] at hk
    refine US.of (ps_augS (U.pe l) (U.pe j) pget_num (U.pe v) ht set_list ?_) ?_
    · intro ov iv new
      cases j <;> first | rfl | (rw [okE_slice] at h2; cases h2)
    refine (allE C o).use cx h1 hi Ext.refl R F (KS.so hk F R.zm) fun x S1 μ1 H1 u E1 _ R1 V1 F1 k1 => ?_
    refine (allE C i).use cx h2 hi E1 R1 F1 (KS.so k1 F R.zm) fun y S2 μ2 H2 w E2 e2 R2 V2 F2 k2 => ?_
    have k2' : KS W X me μ H D (match numAt S2 x y with
      | some a => (ev W.P C e f S2).so f fun y' S3 => match (augI b a y').bind fun z => store S3 x y z with
        | some S4 => .nx f S4
        | none => .bad
      | none => .bad) := k2
    split at k2'
    · next a ha =>
      obtain ⟨n, k, xs, rfl, rfl, g0, g1, gx, ga⟩ := numAt_spec ha
      have V1' := V1.ext e2.z
      cases V2
      cases V1' with
      | @loc q _ hn hk0 =>
        obtain ⟨q', vs, m1, m2, m3⟩ := R2.list gx
        rw [hn] at m1
        cases m1
        obtain ⟨w, ew, Vw⟩ := m3.get ga
        refine ⟨q, vs, k, w, rfl, rfl, g0, g1, m2, ew, ?_⟩
        refine (allE C e).use cx h4 hi E2 R2 F2 (KS.so k2' F R.zm) fun y' S3 μ3 H3 w3 E3 e3 R3 V3 F3 k3 => ?_
        have k3' : KS W X me μ H D (match (augI b a y').bind fun z => store S3 (.loc n) (.int k) z with
          | some S4 => .nx f S4
          | none => .bad) := k3
        cases hz : augI b a y' with
        | none => rw [hz] at k3'; exact k3'.elim
        | some z =>
          rw [hz] at k3'
          obtain ⟨c, m, rfl, rfl⟩ := augI_spec hz
          cases V3
          cases Vw
          refine ht2 a c _ H3 _ hz ⟨m, rfl, ?_⟩
          have k4 : KS W X me μ H D (match store S3 (.loc n) (.int k) (.int m) with
            | some S4 => .nx f S4
            | none => .bad) := k3'
          split at k4
          · next S4 hs4 =>
            unfold store at hs4
            simp only at hs4
            split at hs4
            · next ys hys =>
              split at hs4
              · next jj hj =>
                cases hs4
                obtain ⟨q2, vs2, n1, n2, n3⟩ := R3.list hys
                have hn3 := (VR.loc (W := W) (H := H2) hn hk0).ext e3.z
                cases hn3 with
                | @loc _ _ hn3 _ =>
                  rw [hn3] at n1
                  cases n1
                  refine ⟨q, vs2, k, jj, rfl, rfl, n2, by rw [← n3.len]; exact hj, ?_⟩
                  exact KS.nx (X := X) k4 (R3.write hn3 n2 (n3.set (.int m) jj)) (E3.trans (ext_write (List.mem_of_getElem? hn3) n2)).m (F3.ext (ext_write (List.mem_of_getElem? hn3) n2) R3.zm)
              · cases hs4
            · cases hs4
          · exact k4.elim
    · exact k2'.elim
  · cases h
theorem att_swaps (v o : Expr) (f : Str) (p : Pos) (l : Nat) (env : Env) : swapsWith v (some (.Attribute o f p)) l env = pure false := by
  cases v <;> rfl
theorem put_keys {P : Pr} {a : Nat} {d : D} {v : V} {W : Wd} {μ : List Addr} {H : Hp} (V1 : VR W μ H d v) : ∀ {φ : List (Nat × D)} {fs : List (Str × V)}, fs.map (·.1) = φ.map (fun p => P.nm p.1) → (∀ b ∈ φ.map (·.1), P.nm a = P.nm b → a = b) → VRs W μ H (φ.map (·.2)) (fs.map (·.2)) →
    (putF (P.nm a) v fs).map (·.1) = (putN a d φ).map (fun p => P.nm p.1) ∧ VRs W μ H ((putN a d φ).map (·.2)) ((putF (P.nm a) v fs).map (·.2)) ∧ ∀ b ∈ (putN a d φ).map (·.1), b = a ∨ b ∈ φ.map (·.1)
  | [], [], _, _, _ => ⟨rfl, .cons V1 .nil, fun b hb => .inl (by simpa [putN] using hb)⟩
  | [], _ :: _, h, _, _ => by simp at h
  | _ :: _, [], h, _, _ => by simp at h
  | (b, e) :: φ, (g, w) :: fs, h, hj, r => by
    simp only [List.map_cons, List.cons.injEq] at h
    obtain ⟨h1, h2⟩ := h
    cases r with
    | cons r1 r2 =>
      have hb := hj b (by simp)
      by_cases e1 : b = a
      · subst e1
        have : g = P.nm b := h1
        subst this
        simp only [putF, putN, if_pos]
        exact ⟨by simp [h2], .cons V1 r2, fun c hc => .inr hc⟩
      · have ne : ¬ g = P.nm a := fun z => e1 (hb (by rw [← z]; exact h1)).symm
        obtain ⟨q1, q2, q3⟩ := put_keys V1 h2 (fun c hc => hj c (List.mem_cons_of_mem _ hc)) r2
        simp only [putF, putN, if_neg ne, if_neg e1]
        refine ⟨by simp [h1, q1], .cons r1 q2, fun c hc => ?_⟩
        rcases List.mem_cons.mp hc with hc | hc
        · exact .inr (by rw [hc]; exact List.mem_cons_self)
        · rcases q3 c hc with z | z
          · exact .inl z
          · exact .inr (List.mem_cons_of_mem _ z)
theorem ss_fset {a : Nat} {e : Ex} : SS C (.fset a e) := by
  intro W X ini me st f S σ H μ D cx hp hfn h hi R F hk
  rw [okS] at h
  split at h
  · next tg v hs =>
    obtain ⟨pos, rfl⟩ := asAsg_eq hs
    split at h
    · next l m hl =>
      obtain ⟨ap, rfl⟩ := asAtt_eq hl
      split at h
      · next x hx =>
        obtain ⟨p, rfl⟩ := asName_eq hx
        simp only [Bool.and_eq_true, decide_eq_true_eq, beq_iff_eq] at h
        obtain ⟨⟨⟨⟨⟨⟨h1, h2⟩, h3⟩, h4⟩, h5⟩, h6⟩, h7⟩ := h
        subst h2
        rw [ex] at hk
        refine US.of (ps_fld (pe_var h3 (visB_vis h4) (plainN_1 h5) (plainN_2 h5)) (U.pe v) (att_swaps _ _ _ _ _ _)) ?_
        refine (allE C e).use cx h7 hi Ext.refl R F (KS.so hk F R.zm) fun d S1 μ1 H1 u E1 _ R1 V1 F1 k2 => ?_
        have hl900 : f.φ.length < 900 := by
          by_cases q : f.φ.length < 900
          · exact q
          · have k3 : KS W X me μ H D (if f.φ.length < 900 then .nx ⟨f.ρ, putN a d f.φ⟩ S1 else .bad) := k2
            rw [if_neg q] at k3
            exact k3.elim
        have k3 : KS W X me μ H D (.nx ⟨f.ρ, putN a d f.φ⟩ S1) := by
          have k3 : KS W X me μ H D (if f.φ.length < 900 then .nx ⟨f.ρ, putN a d f.φ⟩ S1 else .bad) := k2
          rw [if_pos hl900] at k3
          exact k3
        rw [h1] at hi
        cases me with
        | none => cases hi
        | some o =>
          obtain ⟨z, s0, r0, ⟨fs, g1, g2, g3⟩, ⟨g4, kl, g4'⟩, g5⟩ := F1.own
          refine ⟨.ref o.a, s0, o.a, W.lk.ca o.c, o.dx, fs, rfl, g1, by rw [cx.kk]; exact (cx.cls o.c kl g4 g4').1, by rw [cx.kk]; exact cx.fln o.c a g4 h6, ?_, ?_⟩
          · have : fs.length = f.φ.length := by
              have := congrArg List.length g2
              simpa using this
            omega
          · have hz : ∀ b, W.Z b → b ∉ μ1 := R1.zm
            have ew : ExtZ W.Z μ1 H1 μ1 (upd H1 o.a (.ins (W.lk.ca o.c) o.dx (putF (W.P.nm a) u fs))) := ⟨⟨[], by simp⟩, fun b w hb n hn _ => ⟨by rw [upd_ne fun q => hn (by rw [q]; exact z)]; exact hb, n⟩, .ins g1⟩
            obtain ⟨q1, q2, q3⟩ := put_keys (P := W.P) (a := a) (V1.ext ew) (φ := f.φ) (fs := fs) g2 (fun b hb hn => cx.flj a b h6 (g5 b hb) hn) (g3.ext ew)
            refine KS.nx (X := X) k3 (R1.step ew (fun b hb => upd_ne fun q => hz o.a z (by rw [← q]; exact hb)) (fun b hb => ?_) (tabs_ins R1.tb g1)) (E1.m.trans ⟨⟨[], by simp⟩, fun b w hb n hn _ => ⟨by rw [upd_ne fun q => hn ⟨o, rfl, q⟩]; exact hb, n⟩, .ins g1⟩) ⟨F1.len, fun i d' hd' => ?_, z, s0, r0, ⟨_, upd_same, q1, q2⟩, ⟨g4, kl, g4'⟩, fun b hb => ?_⟩
            · by_cases e : b = o.a
              · subst e; exact ⟨_, upd_same, .ins⟩
              · rw [upd_ne e]; exact R1.zz b hb
            · obtain ⟨v', e1, e2⟩ := F1.at_ i d' hd'
              exact ⟨v', e1, e2.ext ew⟩
            · rcases q3 b hb with e | e
              · rw [e]; exact h6
              · exact g5 b e
      · cases h
    · cases h
  · cases h
theorem ss_ifs {c : Te} {a b : List Sm} (ia : SSs C a) (ib : SSs C b) : SS C (.ifs c a b) := by
  intro W X ini me st f S σ H μ D cx hp hfn h hi R F hk
  rw [okS] at h
  split at h
  · next t l r hs =>
    obtain ⟨pos, rfl⟩ := asIfS_eq hs
    simp only [Bool.and_eq_true] at h
    obtain ⟨⟨h1, h2⟩, h3⟩ := h
    rw [ex] at hk
    refine US.of (ps_if (UT.pt t) (USs.pss l) (USs.pss r)) ?_
    refine (allT C c).use cx h1 hi Ext.refl R F (KS.so hk F R.zm) fun t S1 μ1 H1 E1 _ R1 F1 k2 => ?_
    cases t with
    | true => rw [if_pos rfl]; exact ia W X ini me l f S1 σ H1 μ1 D cx hp hfn h2 hi R1 F1 (KS.later E1.m k2)
    | false => rw [if_neg Bool.false_ne_true]; exact ib W X ini me r f S1 σ H1 μ1 D cx hp hfn h3 hi R1 F1 (KS.later E1.m k2)
  · cases h
theorem asTryS_eq {s : Stmt} {b : List Stmt} {h : ExceptHandler} {hs : List ExceptHandler} (e : asTryS s = some (b, h, hs)) : ∃ p, s = .Try b (h :: hs) [] [] p := by
  unfold asTryS at e
  split at e
  · cases e; exact ⟨_, rfl⟩
  · cases e
theorem Cxt.nox {W : Wd} {X : Cx} (cx : Cxt W C X) : Cxt W C X.nox := ⟨cx.calm, cx.nd, cx.kk, cx.blt, cx.room, cx.bind, cx.gm, cx.gc, cx.fns, cx.cls, cx.mks, cx.prs, cx.sts, cx.isc, cx.kwb, cx.flj, cx.fln, cx.kit, cx.con, cx.exn, cx.sub, cx.tks, cx.lam, cx.tak, cx.sms, cx.dks⟩
theorem ss_tryD {b : List Sm} (ib : SSs C b) : SS C (.tryD b) := by
  intro W X ini me st f S σ H μ D cx hp hfn h hi R F hk
  rw [okS] at h
  split at h
  · next l h0 hs e =>
    obtain ⟨pos, rfl⟩ := asTryS_eq e
    rw [ex] at hk
    refine US.of (ps_try_thru0 (USs.pss l)) ?_
    refine ib W X.nox ini me l f S σ H μ D cx.nox PassesOwn.never hfn h hi R F ?_
    cases e2 : exs W.P C b f S with
    | nx f1 S1 => rw [e2] at hk; exact hk
    | rt d S1 => rw [e2] at hk; exact hk
    | bk f1 S1 => rw [e2] at hk; exact hk
    | ct f1 S1 => rw [e2] at hk; exact hk
    | ex x f1 S1 => rw [e2] at hk; exact (show False from hk).elim
    | bad => rw [e2] at hk; exact hk
  · cases h
theorem sss_nil : SSs C [] := by
  intro W X ini me st f S σ H μ D cx hp hfn h hi R F hk
  cases st with
  | cons _ _ => simp [okSs] at h
  | nil =>
    rw [exs] at hk
    exact USs.of pss_nil ((show PF W me μ H D.nx f S from hk) μ H σ R .refl F)
theorem sss_cons {s : Sm} {ss : List Sm} (i1 : SS C s) (i2 : SSs C ss) : SSs C (s :: ss) := by
  intro W X ini me st f S σ H μ D cx hp hfn h hi R F hk
  cases st with
  | nil => simp [okSs] at h
  | cons t ts =>
    rw [okSs, Bool.and_eq_true] at h
    rw [exs] at hk
    refine USs.of (pss_cons (US.ps t) (USs.pss ts)) ?_
    refine i1 W X ini me t f S σ H μ _ cx hp hfn h.1 hi R F ?_
    cases e : ex W.P C s f S with
    | nx f1 S1 =>
      rw [e] at hk
      exact fun μ' H' σ' R' E' F' => i2 W X ini me ts f1 S1 σ' H' μ' D cx hp hfn h.2 hi R' F' (KS.later E' hk)
    | bk f1 S1 => rw [e] at hk; exact hk
    | ct f1 S1 => rw [e] at hk; exact hk
    | rt d S1 => rw [e] at hk; exact hk
    | ex x f1 S1 => rw [e] at hk; exact hk
    | bad => rw [e] at hk; exact hk
end
end Th
namespace Th
open PySem PySem.Spec PyProof.Rows L2
section
variable {C : Orc}
theorem ExtM.sub {W : Wd} {me : Option Own} {μ μ1 : List Addr} {H H1 : Hp} {f : Fr} {σ : L2.St} {μ0 : List Addr} {H0 : Hp} (e : ExtM me μ H μ1 H1) (F : FR W me μ0 H0 f σ) : ExtZ W.Z μ H μ1 H1 := e.mono fun b ⟨o, ho, hb⟩ => by
  have q := F.own
  rw [ho] at q
  rw [hb]
  exact q.1
theorem ss_fors {t : Tg} {it : It} {body : List Sm} (ib : SSs C body) : SS C (.fors t it body) := by
  intro W X ini me st f S σ H μ D cx hp hfn h hi R F hk
  rw [okS] at h
  split at h
  · next tg i b hs =>
    obtain ⟨pos, rfl⟩ := asForS_eq hs
    simp only [Bool.and_eq_true] at h
    obtain ⟨⟨h1, h2⟩, h3⟩ := h
    rw [ex] at hk
    refine US.of (ps_for hp cx.calm (UI.pi tg i) (UG.pg tg) (USs.pss b) (okI_fold h1)) ?_
    refine ui_it (allI C it) cx h1 hi Ext.refl R F (KS.so hk F R.zm) fun src S1 μ1 H1 J E1 e1 R1 J1 F1 k1 => ?_
    have k1' : KS W X me μ H D (forL src.held (fun d f1 S2 => evTg W.P C t d f1 S2) (fun f1 S2 => exs W.P C body f1 S2) src.items f S1) := k1
    refine ⟨fun j mm σc Hc => mm = src.items.length - j ∧ j ≤ src.items.length ∧ ∃ μc Sc fc, SR W μc Sc Hc ∧ ExtM me μ H μc Hc ∧ JK W μc Hc J src.items src.held ∧ FR W me μc Hc fc σc ∧
      KS W X me μ H D (forL src.held (fun d f1 S2 => evTg W.P C t d f1 S2) (fun f1 S2 => exs W.P C body f1 S2) (src.items.drop j) fc Sc), ⟨src.items.length, by simp, Nat.zero_le _, μ1, S1, f, R1, E1.m, J1, F1, k1'⟩, ?_⟩
    rintro j mm σc Hc ⟨rfl, hj, μc, Sc, fc, Rc, Ec, Jc, Fc, kc⟩
    by_cases hlt : j < src.items.length
    · refine .inr ?_
      rw [List.drop_eq_getElem_cons hlt] at kc
      unfold forL at kc
      by_cases st : Src.still src.held Sc
      · rw [if_pos st] at kc
        obtain ⟨go, yl⟩ := (Jc.turn Rc st j).1 _ (List.getElem?_eq_getElem hlt)
        refine ⟨go, fun σ' H' => ∃ μc Sc fc, SR W μc Sc H' ∧ ExtM me μ H μc H' ∧ JK W μc H' J src.items src.held ∧ FR W me μc H' fc σ' ∧
          KS W X me μ H D (forL src.held (fun d f1 S2 => evTg W.P C t d f1 S2) (fun f1 S2 => exs W.P C body f1 S2) (src.items.drop (j + 1)) fc Sc), fun σ' H' q => ⟨src.items.length - (j + 1), by omega, rfl, hlt, q⟩, fun x H' y => ?_⟩
        obtain ⟨Ry, Ey, Vy⟩ := yl x H' y
        have Fy := Fc.ext Ey Rc.zm
        refine allG C t W X none ini me tg _ x fc Sc σc H' μc _ cx (fun x _ => hfn x) h2 hi Ry Fy Vy ?_
        cases ht : evTg W.P C t src.items[j] fc Sc with
        | exc x S2 => rw [ht] at kc; exact kc.elim
        | bad => rw [ht] at kc; exact kc.elim
        | ok f2 S2 =>
          rw [ht] at kc
          intro μ2 H2 σ2 R2 E2 F2 _
          refine ib W X ini me b f2 S2 σ2 H2 μ2 _ cx hp hfn h3 hi R2 F2 ?_
          have J2 : JK W μ2 H2 J src.items src.held := (Jc.ext Ey.z).ext E2.z
          have EE : ExtM me μ H μ2 H2 := Ec.trans (Ey.trans E2).m
          have again : ∀ {f3 S3}, KS W X me μ H D (forL src.held (fun d f1 S2 => evTg W.P C t d f1 S2) (fun f1 S2 => exs W.P C body f1 S2) (src.items.drop (j + 1)) f3 S3) → PF W me μ2 H2 (fun σ' H' => ∃ μc Sc fc, SR W μc Sc H' ∧ ExtM me μ H μc H' ∧ JK W μc H' J src.items src.held ∧ FR W me μc H' fc σ' ∧
              KS W X me μ H D (forL src.held (fun d f1 S2 => evTg W.P C t d f1 S2) (fun f1 S2 => exs W.P C body f1 S2) (src.items.drop (j + 1)) fc Sc)) f3 S3 := fun {f3 S3} k3 μ3 H3 σ3 R3 E3 F3 =>
            ⟨μ3, S3, f3, R3, EE.trans E3, J2.ext (E3.sub F3), F3, k3⟩
          have kc' : KS W X me μ H D (match exs W.P C body f2 S2 with
            | .nx f3 S3 => forL src.held (fun d f1 S2 => evTg W.P C t d f1 S2) (fun f1 S2 => exs W.P C body f1 S2) (src.items.drop (j + 1)) f3 S3
            | .ct f3 S3 => forL src.held (fun d f1 S2 => evTg W.P C t d f1 S2) (fun f1 S2 => exs W.P C body f1 S2) (src.items.drop (j + 1)) f3 S3
            | .bk f3 S3 => .nx f3 S3
            | r => r) := kc
          cases hb : exs W.P C body f2 S2 with
          | nx f3 S3 => rw [hb] at kc'; exact again kc'
          | ct f3 S3 => rw [hb] at kc'; exact again kc'
          | bk f3 S3 => rw [hb] at kc'; exact fun μ3 H3 σ3 R3 E3 F3 => KS.nx (X := X) kc' R3 (EE.trans E3) F3
          | rt d S3 => rw [hb] at kc'; exact KS.later (r := .rt d S3) (D := D) EE kc'
          | ex x f3 S3 => rw [hb] at kc'; exact KS.later (r := .ex x f3 S3) (D := D) EE kc'
          | bad => rw [hb] at kc'; exact kc'.elim
      · rw [if_neg st] at kc
        exact kc.elim
    · have e : j = src.items.length := by omega
      subst e
      rw [List.drop_length] at kc
      unfold forL at kc
      by_cases st : Src.still src.held Sc
      · rw [if_pos st] at kc
        exact .inl ⟨(Jc.turn Rc st _).2 rfl, KS.nx (X := X) kc Rc Ec Fc⟩
      · rw [if_neg st] at kc
        exact kc.elim
  · cases h
theorem ss_whiles {c : Te} {body : List Sm} (ib : SSs C body) : SS C (.whiles c body) := by
  intro W X ini me st f S σ H μ D cx hp hfn h hi R F hk
  rw [okS] at h
  split at h
  · next t b hs =>
    obtain ⟨pos, rfl⟩ := asWhile_eq hs
    rw [Bool.and_eq_true] at h
    obtain ⟨h1, h2⟩ := h
    rw [ex] at hk
    have hnb : whl (fun f1 S1 => evT W.P C c f1 S1) (fun f1 S1 => exs W.P C body f1 S1) f S ≠ .bad := fun z => by rw [z] at hk; exact hk
    obtain ⟨k, hw⟩ := whl_ex hnb
    refine US.of (ps_while hp (UT.pt t) (USs.pss b)) ?_
    refine ⟨fun mm σc Hc => ∃ μc Sc fc r, SR W μc Sc Hc ∧ ExtM me μ H μc Hc ∧ FR W me μc Hc fc σc ∧ whK (fun f1 S1 => evT W.P C c f1 S1) (fun f1 S1 => exs W.P C body f1 S1) mm fc Sc = some r ∧ KS W X me μ H D r, ⟨k, μ, S, f, _, R, .refl, F, hw, hk⟩, ?_⟩
    rintro mm σc Hc ⟨μc, Sc, fc, r, Rc, Ec, Fc, hr, kc⟩
    cases mm with
    | zero => cases hr
    | succ mm =>
      have hr' : turnW (fun f1 S1 => evT W.P C c f1 S1) (fun f1 S1 => exs W.P C body f1 S1) (whK (fun f1 S1 => evT W.P C c f1 S1) (fun f1 S1 => exs W.P C body f1 S1) mm) some fc Sc = some r := hr
      simp only [turnW] at hr'
      refine allT C c W X ini me t fc Sc σc Hc μc _ cx h1 hi Rc Fc ?_
      cases ht : evT W.P C c fc Sc with
      | bad => rw [ht] at hr'; cases hr'; exact kc.elim
      | exc x S1 =>
        rw [ht] at hr'
        cases hr'
        obtain ⟨Wx, tk, q⟩ := (show PX W X me μ H x fc S1 from kc)
        exact ⟨Wx, tk, fun μ' H' cls dd R' E' rx => q μ' H' σc cls dd R' (Ec.trans E'.m) (Fc.ext E' Rc.zm) rx⟩
      | ok v S1 =>
        rw [ht] at hr'
        cases v with
        | false =>
          cases hr'
          exact fun μ' H' R' E' => by rw [if_neg Bool.false_ne_true]; exact KS.nx (X := X) kc R' (Ec.trans E'.m) (Fc.ext E' Rc.zm)
        | true =>
          intro μ' H' R' E'
          rw [if_pos rfl]
          refine ⟨fun σ2 H2 => ∃ μc Sc fc r, SR W μc Sc H2 ∧ ExtM me μ H μc H2 ∧ FR W me μc H2 fc σ2 ∧ whK (fun f1 S1 => evT W.P C c f1 S1) (fun f1 S1 => exs W.P C body f1 S1) mm fc Sc = some r ∧ KS W X me μ H D r, fun σ2 H2 q => ⟨mm, Nat.lt_succ_self _, q⟩, ?_⟩
          have E2 : ExtM me μ H μ' H' := Ec.trans E'.m
          refine ib W X ini me b fc S1 σc H' μ' _ cx hp hfn h2 hi R' (Fc.ext E' Rc.zm) ?_
          have hr2 : (match exs W.P C body fc S1 with
            | .nx f' S' => whK (fun f1 S1 => evT W.P C c f1 S1) (fun f1 S1 => exs W.P C body f1 S1) mm f' S'
            | .ct f' S' => whK (fun f1 S1 => evT W.P C c f1 S1) (fun f1 S1 => exs W.P C body f1 S1) mm f' S'
            | .bk f' S' => some (.nx f' S')
            | .rt d S' => some (.rt d S')
            | .ex x f' S' => some (.ex x f' S')
            | .bad => some .bad) = some r := hr'
          cases hb : exs W.P C body fc S1 with
          | nx f3 S3 => rw [hb] at hr2; exact fun μ3 H3 σ3 R3 E3 F3 => ⟨μ3, S3, f3, r, R3, E2.trans E3, F3, hr2, kc⟩
          | ct f3 S3 => rw [hb] at hr2; exact fun μ3 H3 σ3 R3 E3 F3 => ⟨μ3, S3, f3, r, R3, E2.trans E3, F3, hr2, kc⟩
          | bk f3 S3 => rw [hb] at hr2; cases hr2; exact fun μ3 H3 σ3 R3 E3 F3 => KS.nx (X := X) kc R3 (E2.trans E3) F3
          | rt d S3 => rw [hb] at hr2; cases hr2; exact KS.later (r := .rt d S3) (D := D) E2 kc
          | ex x f3 S3 => rw [hb] at hr2; cases hr2; exact KS.later (r := .ex x f3 S3) (D := D) E2 kc
          | bad => rw [hb] at hr2; cases hr2; exact kc.elim
  · cases h
mutual
theorem allS (C : Orc) : ∀ s : Sm, SS C s
  | .asg _ _ => ss_asg
  | .par _ _ => ss_par
  | .aug _ _ _ => ss_aug
  | .augX _ _ _ _ => ss_augX
  | .fset _ _ => ss_fset
  | .expr _ => ss_expr
  | .ret _ => ss_ret
  | .retN => ss_retN
  | .ifs _ a b => ss_ifs (allSs C a) (allSs C b)
  | .fors _ _ b => ss_fors (allSs C b)
  | .whiles _ b => ss_whiles (allSs C b)
  | .brk => ss_brk
  | .cont => ss_cont
  | .pass => ss_pass
  | .dead => ss_dead
  | .raise _ => ss_raise
  | .raiseV _ _ => ss_raiseV
  | .tryD b => ss_tryD (allSs C b)
theorem allSs (C : Orc) : ∀ ss : List Sm, SSs C ss
  | [] => sss_nil
  | s :: ss => sss_cons (allS C s) (allSs C ss)
end
end
end Th
namespace Th
open PySem PySem.Spec PyProof.Rows L2
/-- the def's text -/
structure DefOk (W : Wd) (ini : Bool) (g : Nat) (F : Fn) : Prop where
  ex : ∃ (x qual : Str) (st : Stmt) (N : List Str), Fun W.K x qual st (W.lk.fa g) (W.lk.fd g) ∧ FnScope N (W.lk.pn g) (defScope st) ∧ F.ns = N.length ∧ F.np = (W.lk.pn g).length ∧ okSs W.P W.lk.toChk N ini (defScope st) F.body (defBody st) = true ∧
    ((∃ g, W.P.tk g ≠ none) → N = W.lk.lamN → (W.lk.fd g).code = .ref W.lk.lamC ∧ (W.lk.lamP, qual ++ ".<locals>." ++ "<lambda>") ∈ W.lk.T ∧ ∀ p ∈ W.lk.T, p.1 = W.lk.lamP → p.2 = qual ++ ".<locals>." ++ "<lambda>")
/-- the facts of a law's program -/
structure Glob (mg : Str → Option Value) (pr : Params) (W : Wd) : Prop where
  blt : ∀ x ∈ bltNames, mg x = none
  bind : ∀ g, W.lk.has g = true → Binds W.K (W.lk.fd g) (W.lk.pn g) []
  gm : ∀ g, W.lk.top g = true → mg (W.P.nm g) = some (.ref (W.lk.fa g)) ∧ PySem.W.keepIn W.K (.ref (W.lk.fa g)) = true
  gc : ∀ c, W.lk.hasC c = true → mg (W.P.nm c) = some (.ref (W.lk.ca c)) ∧ PySem.W.keepIn W.K (.ref (W.lk.ca c)) = true
  cls : ∀ (c : Nat) (kl : Cl), W.lk.hasC c = true → W.P.cl c = some kl → Cls W.K (W.lk.ca c) ∧ (∀ m g, kl.meths.lookup m = some g → W.lk.has g = true ∧ Meth W.K (W.lk.ca c) (W.P.nm m) (W.lk.fa g) ∧ W.P.nm m ∉ kl.flds.map W.P.nm) ∧
    (∀ a g, kl.props.lookup a = some g → W.lk.has g = true ∧ ∃ p, PropOf W.K (W.lk.ca c) (W.P.nm a) p (W.lk.fa g)) ∧ (∀ a, a ∈ kl.flds → NoAttr W.K (W.lk.ca c) (W.P.nm a)) ∧ (kl.flds.map W.P.nm).Nodup ∧ kl.flds.length < 900
  fns : ∀ g F, W.lk.has g = true → W.P.fn g = some F → DefOk W false g F
  inis : ∀ c kl F, W.lk.hasC c = true → W.P.cl c = some kl → W.P.fn kl.init = some F → Mk W.K (W.lk.ca c) (W.lk.fa kl.init) ∧ Binds W.K (W.lk.fd kl.init) (W.lk.pn kl.init) [] ∧ DefOk W true kl.init F
  isc : ∀ c, W.lk.hasC c = true → PySem.W.findIn W.K (.ref (W.lk.ca c)) "__class__" = some (some (.builtin "object.__class__")) ∧ PySem.W.specialIn W.K (.builtin "object.__class__") "__get__" = some (some (.builtin "getset_descriptor.__get__")) ∧
    PySem.W.takesIn W.K (.builtin "object.__class__") = some true ∧ PySem.W.mroIn W.K (W.lk.ca c) (.type "object") = some true ∧ PySem.W.findIn W.K (.ref (W.lk.ca c)) "__ne__" = some (some (.builtin "object.__ne__")) ∧ PySem.W.findIn W.K (.ref (W.lk.ca c)) "__bool__" = some none
  kwb : ∀ g perm ks, W.lk.has g = true → W.lk.kw g perm ks = true → KBn W.K (W.lk.fd g) (W.lk.pn g) 0 ks (fun _ ws => perm.map fun k => ws.getD k .none) (fun _ zs => perm.map fun k => zs.getD k .non) ∧ ks.length = perm.length ∧ (∀ k ∈ perm, k < ks.length) ∧ ∀ (p0 : Str) (perm1 : List Nat) (ks1 : List Str), perm = 0 :: perm1.map (· + 1) → ks = p0 :: ks1 → KBn W.K (W.lk.fd g) (W.lk.pn g) 1 ks1 (fun us ws => us ++ perm1.map fun k => ws.getD k .none) (fun vs zs => vs ++ perm1.map fun k => zs.getD k .non)
  flj : ∀ a b, W.lk.fl a = true → W.lk.fl b = true → W.P.nm a = W.P.nm b → a = b
  fln : ∀ c a, W.lk.hasC c = true → W.lk.fl a = true → NoAttr W.K (W.lk.ca c) (W.P.nm a)
  kit : ∀ t1 t2 b, tyHas W.lk.toChk t1 = true → tyHas W.lk.toChk t2 = true → isTy t1 t2 = some b → PySem.W.kitOne W.K (tyVal W.lk t1) (tyVal W.lk t2) = some b
  con : ∀ (x : Nat) (d : D), W.P.con x = some d → ∃ (u : Value) (v : V), mg (W.P.nm x) = some u ∧ RelV v u ∧ ∀ Z μ H, VR (W.z Z) μ H d v
  exn : ∀ c, W.lk.hasX c = true → mg (W.P.nm c) = some (.ref (W.lk.ca c)) ∧ (W.P.xf c = none → XCls W.K (W.lk.ca c)) ∧ (∀ n, W.P.xf c = some n → XVal W.K (W.lk.ca c) (W.P.nm n)) ∧ ExcC W.K (W.lk.ca c)
  sub : ∀ c h b, W.P.sub c h = some b → XSub W c h b
  tks : ∀ g T, W.lk.hasT g = true → W.P.tk g = some T → TkOk W mg g T
  sms : ∀ c m g, W.lk.sm c m g = true → mg (W.P.nm c) = some (.ref (W.lk.ca c)) ∧ SMet W.K (W.lk.ca c) (W.P.nm m) (W.lk.fa g)
  dks : ∀ x tb, W.lk.dk x tb = true → ∃ a, mg (W.P.nm x) = some (.ref a) ∧ KTb W.K pr a tb
theorem Cxt.z {W : Wd} {C : Orc} {X : Cx} (cx : Cxt W C X) (Z : Addr → Prop) : Cxt (W.z Z) C X :=
  ⟨cx.calm, cx.nd, cx.kk, cx.blt, cx.room, cx.bind, cx.gm, cx.gc, cx.fns, cx.cls, cx.mks, cx.prs, cx.sts, cx.isc, cx.kwb, cx.flj, cx.fln, cx.kit, cx.con, cx.exn, cx.sub, cx.tks, cx.lam, cx.tak, cx.sms, cx.dks⟩
section
variable {P0 : Program} {w : World} {mg : Str → Option Value} {base : Heap} {W : Wd}
/-- where lambdas are made -/
def LamF (W : Wd) (X : Cx) : Prop := (∃ g, W.P.tk g ≠ none) → X.N = W.lk.lamN → X.env.code = .ref W.lk.lamC ∧ (W.lk.lamP, X.env.qual ++ "<lambda>") ∈ W.lk.T ∧ ∀ p ∈ W.lk.T, p.1 = W.lk.lamP → p.2 = X.env.qual ++ "<lambda>"
/-- a body over calls that are kept -/
def Body (P0 : Program) (w : World) (mg : Str → Option Value) (base : Heap) (W : Wd) (C : Orc) (k : Nat) : Prop := ∀ X : Cx, X.prog = P0 → X.w = w → X.mg = mg → X.base = base → X.K = W.K → X.calm = true → X.N.Nodup → RoomG k X.A → Cxt W C.noT X ∧ (LamF W X → Cxt W C X)
theorem fr_start {W : Wd} {μ : List Addr} {H : Hp} {ds : List D} {vs : List V} {N : List Str} {ns : Nat} (r : VRs W μ H ds vs) (hn : ns = N.length) : FR W none μ H ⟨ds.map some ++ List.replicate (ns - ds.length) none, []⟩ (L2.start N vs) := by
  subst hn
  refine ⟨by simp [L2.start, r.len], fun i d h => ?_, rfl⟩
  have h' : (ds.map some ++ List.replicate (N.length - ds.length) none)[i]? = some (some d) := h
  by_cases hi : i < ds.length
  · rw [List.getElem?_append_left (by simpa using hi), List.getElem?_map] at h'
    cases hd : ds[i]? with
    | none => rw [hd] at h'; cases h'
    | some e =>
      rw [hd] at h'
      cases h'
      obtain ⟨v, h1, h2⟩ := r.get hd
      refine ⟨v, ?_, h2⟩
      show (vs.map some ++ List.replicate (N.length - vs.length) none)[i]? = _
      rw [List.getElem?_append_left (by rw [List.length_map, ← r.len]; exact hi), List.getElem?_map, h1]
      rfl
  · rw [List.getElem?_append_right (by simpa using hi), List.getElem?_replicate] at h'
    split at h' <;> cases h'
theorem fn_kept {C : Orc} {k : Nat} (hb : Body P0 w mg base W C k) {g : Nat} {F : Fn} (hF : W.P.fn g = some F) (hd : DefOk W false g F) : FnG P0 w W.K mg base (k + 1) (W.lk.fa g) (W.lk.fd g) (W.lk.pn g) (SpOk W (callF W.P C g)) := by
  obtain ⟨x, qual, st, N, fu, sc, h1, h2, h3, h4⟩ := hd.ex
  have hcall : ∀ ds S, callF W.P C g ds S = runF W.P C F ds S := fun ds S => by unfold callF; rw [hF]
  refine fun_okG fu sc (fun vs H Q E ⟨Z, μ, S, ds, R, V1, hk⟩ => ?_) (fun cdv hcv A outer s H vs Q E hr ⟨Z, μ, S, ds, R, V1, hk⟩ => ?_)
  · rw [hcall] at hk
    unfold runF at hk
    split at hk
    · next hl => rw [← V1.len, hl, h2]
    · exact hk.elim
  · rw [hcall] at hk
    unfold runF at hk
    split at hk
    · next hl =>
      have cx := ((hb (cxOf (L2.CX P0 w) P0 w W.K mg base N qual (defScope st) (W.lk.fa g) cdv A outer s H E) rfl rfl rfl rfl rfl rfl sc.nd hr).2 fun t1 t2 => by
        have q := h4 t1 t2
        rw [hcv] at q
        exact q).z Z
      refine ⟨USs _ (defBody st), USs.pss _, ?_⟩
      refine allSs C F.body (W.z Z) _ false none (defBody st) _ S (L2.start N vs) H μ _ cx (passes_of rfl) (fun _ => rfl) h3 rfl R (fr_start V1 h1) ?_
      cases hx : exs (W.z Z).P C F.body ⟨ds.map some ++ List.replicate (F.ns - ds.length) none, []⟩ S with
      | nx f1 S1 =>
        have hx' : exs W.P C F.body ⟨ds.map some ++ List.replicate (F.ns - ds.length) none, []⟩ S = _ := hx
        rw [hx'] at hk
        exact fun μ' H' σ' R' E' F' => (show OkP (W.z Z) μ H Q .non S1 from hk) μ' H' .non R' ⟨E'.pre, fun a o h n nt => E'.keep a o h n (fun ⟨o, ho, _⟩ => (by cases ho)) nt, E'.kin⟩ .non
      | rt d S1 =>
        have hx' : exs W.P C F.body ⟨ds.map some ++ List.replicate (F.ns - ds.length) none, []⟩ S = _ := hx
        rw [hx'] at hk
        exact fun μ' H' v R' E' V' => (show OkP (W.z Z) μ H Q d S1 from hk) μ' H' v R' ⟨E'.pre, fun a o h n nt => E'.keep a o h n (fun ⟨o, ho, _⟩ => (by cases ho)) nt, E'.kin⟩ V'
      | ex y f1 S1 =>
        have hx' : exs W.P C F.body ⟨ds.map some ++ List.replicate (F.ns - ds.length) none, []⟩ S = _ := hx
        rw [hx'] at hk
        refine ⟨fun cls d _ H' => E cls d H', takes_of rfl rfl rfl rfl, fun μ' H' σ' cls dd R' E' F' xr => ?_⟩
        exact (show ∀ μ' H' cls dd, SR (W.z Z) μ' S1 H' → Ext μ H μ' H' → XR (W.z Z) μ' H' y cls dd → E cls dd H' from hk) μ' H' cls dd R' ⟨E'.pre, fun a o h n nt => E'.keep a o h n (fun ⟨o, ho, _⟩ => (by cases ho)) nt, E'.kin⟩ xr
      | bk f1 S1 =>
        have hx' : exs W.P C F.body ⟨ds.map some ++ List.replicate (F.ns - ds.length) none, []⟩ S = _ := hx
        rw [hx'] at hk
        exact hk.elim
      | ct f1 S1 =>
        have hx' : exs W.P C F.body ⟨ds.map some ++ List.replicate (F.ns - ds.length) none, []⟩ S = _ := hx
        rw [hx'] at hk
        exact hk.elim
      | bad =>
        have hx' : exs W.P C F.body ⟨ds.map some ++ List.replicate (F.ns - ds.length) none, []⟩ S = _ := hx
        rw [hx'] at hk
        exact hk.elim
    · exact hk.elim
theorem XR.weak {W : Wd} {Z : Addr → Prop} (q : ∀ b, Z b → W.Z b) {μ : List Addr} {H : Hp} {y : Exn} {cls : Value} {dd : Option Addr} (h : XR W μ H y cls dd) : XR (W.z Z) μ H y cls dd := by
  obtain ⟨h1, h2⟩ := h
  refine ⟨h1, ?_⟩
  cases dd with
  | none => exact h2
  | some a =>
    obtain ⟨n, e, v, g1, g2, g3, g4, g5, g6⟩ := h2
    exact ⟨n, e, v, g1, g2, g3, g4, fun z => g5 (q _ z), g6.weak q⟩
theorem init_kept {C : Orc} {k : Nat} (hb : Body P0 w mg base W C k) {c : Nat} {kl : Cl} {F : Fn} (hc : W.lk.hasC c = true) (hcl : W.P.cl c = some kl) (hF : W.P.fn kl.init = some F) (hd : DefOk W true kl.init F) : FnG P0 w W.K mg base (k + 1) (W.lk.fa kl.init) (W.lk.fd kl.init) (W.lk.pn kl.init) (SpIn W c (callI W.P C c)) := by
  obtain ⟨x, qual, st, N, fu, sc, h1, h2, h3, h4⟩ := hd.ex
  have hcall : ∀ ds S, callI W.P C c ds S = runI W.P C c kl F ds S := fun ds S => by
    unfold callI
    simp only [hcl, hF]
  refine fun_okG fu sc (fun vs H Q E ⟨Z, μ, S, ds, a, dx, ws, hv, ha, hm, hz, R, V1, hk⟩ => ?_) (fun cdv hcv A outer s H vs Q E hr ⟨Z, μ, S, ds, a, dx, ws, hv, ha, hm, hz, R, V1, hk⟩ => ?_)
  · rw [hcall] at hk
    unfold runI at hk
    split at hk
    · next hl => rw [hv, List.length_cons, ← V1.len, hl, h2]
    · exact hk.elim
  · rw [hcall] at hk
    unfold runI at hk
    split at hk
    · next hl =>
      have cx := ((hb (cxOf (L2.CX P0 w) P0 w W.K mg base N qual (defScope st) (W.lk.fa kl.init) cdv A outer s H E) rfl rfl rfl rfl rfl rfl sc.nd hr).2 fun t1 t2 => by
        have q := h4 t1 t2
        rw [hcv] at q
        exact q).z (fun b => Z b ∨ b = a)
      refine ⟨USs _ (defBody st), USs.pss _, ?_⟩
      subst hv
      have F0 : FR (W.z fun b => Z b ∨ b = a) (some ⟨a, dx, c⟩) μ H ⟨none :: ds.map some ++ List.replicate (F.ns - (ds.length + 1)) none, []⟩ (L2.start N (.ref a :: ws)) := by
        refine ⟨?_, fun i d h => ?_, .inr rfl, rfl, rfl, ⟨[], ha, rfl, .nil⟩, ⟨hc, kl, hcl⟩, fun b hb => by simp at hb⟩
        · simp [L2.start, V1.len, h1]
        · have h' : (none :: (ds.map some ++ List.replicate (F.ns - (ds.length + 1)) none) : List (Option D))[i]? = some (some d) := h
          cases i with
          | zero => simp at h'
          | succ i =>
            rw [List.getElem?_cons_succ] at h'
            by_cases hi : i < ds.length
            · rw [List.getElem?_append_left (by simpa using hi), List.getElem?_map] at h'
              cases hd : ds[i]? with
              | none => rw [hd] at h'; cases h'
              | some e =>
                rw [hd] at h'
                cases h'
                obtain ⟨v, g1, g2⟩ := V1.get hd
                refine ⟨v, ?_, g2⟩
                show (some (V.ref a) :: (ws.map some ++ List.replicate (N.length - (ws.length + 1)) none) : List (Option V))[i + 1]? = _
                rw [List.getElem?_cons_succ, List.getElem?_append_left (by rw [List.length_map, ← V1.len]; exact hi), List.getElem?_map, g1]
                rfl
            · rw [List.getElem?_append_right (by simpa using hi), List.getElem?_replicate] at h'
              split at h' <;> cases h'
      have exm : ∀ {μ' H'}, ExtM (some ⟨a, dx, c⟩) μ H μ' H' → ExtZ (· = a) μ H μ' H' := fun e => e.mono fun b ⟨o, ho, hb⟩ => by cases ho; exact hb
      refine allSs C F.body (W.z fun b => Z b ∨ b = a) _ true (some ⟨a, dx, c⟩) (defBody st) _ S _ H μ _ cx (passes_of rfl) (fun _ => rfl) h3 rfl R F0 ?_
      cases hx : exs (W.z fun b => Z b ∨ b = a).P C F.body ⟨none :: ds.map some ++ List.replicate (F.ns - (ds.length + 1)) none, []⟩ S with
      | nx f1 S1 =>
        have hx' : exs W.P C F.body ⟨none :: ds.map some ++ List.replicate (F.ns - (ds.length + 1)) none, []⟩ S = _ := hx
        rw [hx'] at hk
        have hk' : K1 (if f1.φ.map (·.1) = kl.flds then .ok (.obj c (f1.φ.map (·.2))) S1 else .bad) (fun d S' => ∀ μ' H', SR (W.z Z) μ' S' H' → ExtZ (· = a) μ H μ' H' → a ∉ μ' → VR (W.z Z) μ' H' d (.ref a) → Q .non H') _ := hk
        split at hk'
        · next hf =>
          intro μ' H' σ' R' E' F'
          obtain ⟨z, s0, r0, ⟨fs, g1, g2, g3⟩, _⟩ := F'.own
          refine (show ∀ μ' H', SR (W.z Z) μ' S1 H' → ExtZ (· = a) μ H μ' H' → a ∉ μ' → VR (W.z Z) μ' H' (.obj c (f1.φ.map (·.2))) (.ref a) → Q .non H' from hk') μ' H' (SR.less (W := W.z Z) R') (exm E') (R'.zm a (.inr rfl)) ?_
          refine .obj (k := kl) g1 (R'.zm a (.inr rfl)) hz hcl hc ?_ (VRs.weak (W := W.z fun b => Z b ∨ b = a) (Z := Z) (fun b hb => .inl hb) g3)
          rw [g2, ← hf, List.map_map]
          rfl
        · exact hk'.elim
      | rt d S1 =>
        have hx' : exs W.P C F.body ⟨none :: ds.map some ++ List.replicate (F.ns - (ds.length + 1)) none, []⟩ S = _ := hx
        rw [hx'] at hk
        exact hk.elim
      | ex y f1 S1 =>
        have hx' : exs W.P C F.body ⟨none :: ds.map some ++ List.replicate (F.ns - (ds.length + 1)) none, []⟩ S = _ := hx
        rw [hx'] at hk
        refine ⟨fun cls d _ H' => E cls d H', takes_of rfl rfl rfl rfl, fun μ' H' σ' cls dd R' E' F' xr => ?_⟩
        exact (show ∀ μ' H' cls dd, SR (W.z Z) μ' S1 H' → ExtZ (· = a) μ H μ' H' → XR (W.z Z) μ' H' y cls dd → E cls dd H' from hk) μ' H' cls dd (SR.less (W := W.z Z) R') (exm E') (XR.weak (W := W.z fun b => Z b ∨ b = a) (Z := Z) (fun b hb => .inl hb) xr)
      | bk f1 S1 =>
        have hx' : exs W.P C F.body ⟨none :: ds.map some ++ List.replicate (F.ns - (ds.length + 1)) none, []⟩ S = _ := hx
        rw [hx'] at hk
        exact hk.elim
      | ct f1 S1 =>
        have hx' : exs W.P C F.body ⟨none :: ds.map some ++ List.replicate (F.ns - (ds.length + 1)) none, []⟩ S = _ := hx
        rw [hx'] at hk
        exact hk.elim
      | bad =>
        have hx' : exs W.P C F.body ⟨none :: ds.map some ++ List.replicate (F.ns - (ds.length + 1)) none, []⟩ S = _ := hx
        rw [hx'] at hk
        exact hk.elim
    · exact hk.elim
theorem kept_of {e : Ex} {f : Fr} {C' : Orc} {X : Cx} {k : Nat} (hb : ∀ X' : Cx, X'.prog = X.prog → X'.w = X.w → X'.mg = X.mg → X'.base = X.base → X'.K = W.K → X'.calm = true → X'.N.Nodup → RoomG k X'.A → Cxt W C' X') : Kept W C' X k e f := by
  intro X' a1 a2 a3 a4 a5 a6 a7 a8 Z e0 Sx σ H μ Q h R F hk
  exact allE C' e (W.z Z) X' false none e0 f Sx σ H μ Q ((hb X' a1 a2 a3 a4 a5 a6 a7 a8).z Z) h rfl R F hk
/-- with lambdas -/
theorem Cxt.withT {C : Orc} {X : Cx} (cx : Cxt W C.noT X) (tks : (∃ g e f S, C.take g e f S ≠ .bad) → ∀ g T, W.lk.hasT g = true → W.P.tk g = some T → TkOk W X.mg g T)
    (lam : (∃ g e f S, C.take g e f S ≠ .bad) → X.N = W.lk.lamN → X.env.code = .ref W.lk.lamC ∧ LamX.TabB X.base X.mg W.lk.lamC W.lk.lamP ∧ (W.lk.lamP, X.env.qual ++ "<lambda>") ∈ W.lk.T ∧ ∀ p ∈ W.lk.T, p.1 = W.lk.lamP → p.2 = X.env.qual ++ "<lambda>")
    (tak : ∀ g e f S, C.take g e f S ≠ .bad → ∃ (C' : Orc) (k : Nat), 2 ≤ k ∧ RoomG (k + 2) X.A ∧ C.take g e f S = callT W.P C' (fun S' => ev W.P C' e f S') g S ∧ Kept W C' X k e f ∧ ∀ T, W.P.tk g = some T → ∀ e ∈ T.fin, ∀ f, Kept W C' X k e f) : Cxt W C X :=
  ⟨cx.calm, cx.nd, cx.kk, cx.blt, cx.room, cx.bind, cx.gm, cx.gc, cx.fns, cx.cls, cx.mks, cx.prs, cx.sts, cx.isc, cx.kwb, cx.flj, cx.fln, cx.kit, cx.con, cx.exn, cx.sub, tks, lam, tak, cx.sms, cx.dks⟩
/-- every level -/
theorem kept (G : Glob mg w.params W) (TB : (∃ g, W.P.tk g ≠ none) → LamX.TabB base mg W.lk.lamC W.lk.lamP) : ∀ d : Nat, Body P0 w mg base W (orc W.P d) (d + 2) := by
  intro d
  induction d using Nat.strongRecOn with
  | _ d ih =>
  intro X hp hw hm hba hK hca hnd hr
  have noT : Cxt W (orc W.P d).noT X := by
   have r0 : RoomG 2 X.A := hr.mono (by omega)
   subst hm
   refine ⟨hca, hnd, hK, G.blt, r0, G.bind, G.gm, G.gc, ?_, G.cls, ?_, ?_, ?_, G.isc, G.kwb, G.flj, G.fln, G.kit, G.con, G.exn, G.sub, fun ⟨_, _, _, _, z⟩ => absurd rfl z, fun ⟨_, _, _, _, z⟩ => absurd rfl z, fun _ _ _ _ z => absurd rfl z, G.sms, by subst hw; exact G.dks⟩
   · intro g hg hx
     cases d with
     | zero => exact absurd rfl (hx.choose_spec.choose_spec)
     | succ d =>
       have e : (orc W.P (d + 1)).noT.fn g = callF W.P (orc W.P d) g := by cases d <;> rfl
       rw [e] at hx ⊢
       obtain ⟨ds, S, hx⟩ := hx
       cases hF : W.P.fn g with
       | none => exact absurd (by unfold callF; rw [hF]) hx
       | some F =>
         refine ⟨d + 3, hr, ?_⟩
         have := fn_kept (ih d (Nat.lt_succ_self _)) hF (G.fns g F hg hF)
         rw [← hp, ← hw, ← hba, ← hK] at this
         exact this
   · intro c hc hx
     cases d with
     | zero => exact absurd rfl (hx.choose_spec.choose_spec)
     | succ d =>
       cases d with
       | zero => exact absurd rfl (hx.choose_spec.choose_spec)
       | succ d =>
         have e : (orc W.P (d + 2)).noT.make c = callI W.P (orc W.P d) c := rfl
         rw [e] at hx ⊢
         obtain ⟨ds, S, hx⟩ := hx
         cases hcl : W.P.cl c with
         | none => exact absurd (by unfold callI; rw [hcl]) hx
         | some kl =>
           cases hF : W.P.fn kl.init with
           | none => exact absurd (by unfold callI; simp only [hcl, hF]) hx
           | some F =>
             obtain ⟨m1, m2, m3⟩ := G.inis c kl F hc hcl hF
             refine ⟨d + 3, kl, rfl, hr, m1, m2, ?_⟩
             have := init_kept (ih d (by omega)) hc hcl hF m3
             rw [← hp, ← hw, ← hba, ← hK] at this
             exact this
   · intro g hg hx
     cases d with
     | zero => exact absurd rfl (hx.choose_spec.choose_spec)
     | succ d =>
       cases d with
       | zero => exact absurd rfl (hx.choose_spec.choose_spec)
       | succ d =>
         have e : (orc W.P (d + 2)).noT.prop g = callF W.P (orc W.P d) g := rfl
         rw [e] at hx ⊢
         obtain ⟨ds, S, hx⟩ := hx
         cases hF : W.P.fn g with
         | none => exact absurd (by unfold callF; rw [hF]) hx
         | some F =>
           refine ⟨d + 3, hr, ?_⟩
           have := fn_kept (ih d (by omega)) hF (G.fns g F hg hF)
           rw [← hp, ← hw, ← hba, ← hK] at this
           exact this
   · intro g hg hx
     cases d with
     | zero => exact absurd rfl (hx.choose_spec.choose_spec)
     | succ d =>
       cases d with
       | zero => exact absurd rfl (hx.choose_spec.choose_spec)
       | succ d =>
         cases d with
         | zero => exact absurd rfl (hx.choose_spec.choose_spec)
         | succ d =>
           have e : (orc W.P (d + 3)).noT.str g = callF W.P (orc W.P d) g := by cases d <;> rfl
           rw [e] at hx ⊢
           obtain ⟨ds, S, hx⟩ := hx
           cases hF : W.P.fn g with
           | none => exact absurd (by unfold callF; rw [hF]) hx
           | some F =>
             refine ⟨d + 3, hr, ?_⟩
             have := fn_kept (ih d (by omega)) hF (G.fns g F hg hF)
             rw [← hp, ← hw, ← hba, ← hK] at this
             exact this
  refine ⟨noT, fun lf => noT.withT ?_ ?_ ?_⟩
  · rintro ⟨g0, e0, f0, S0, hne⟩ g T hg hT
    rw [hm]; exact G.tks g T hg hT
  · rintro ⟨g, e, f, S, hne⟩ hN
    have hx : ∃ g, W.P.tk g ≠ none := by
      refine ⟨g, fun z => hne ?_⟩
      cases d with
      | zero => rfl
      | succ d =>
        cases d with
        | zero => rfl
        | succ d =>
          show callT W.P _ _ g S = .bad
          unfold callT
          rw [z]
    obtain ⟨q1, q2, q3⟩ := lf hx hN
    exact ⟨q1, by rw [hba, hm]; exact TB hx, q2, q3⟩
  · intro g e f S hne
    cases d with
    | zero => exact absurd rfl hne
    | succ d =>
      cases d with
      | zero => exact absurd rfl hne
      | succ d =>
        have kp : ∀ e f, Kept W (orc W.P d).noT X (d + 2) e f := fun e f => kept_of fun X' a1 a2 a3 a4 a5 a6 a7 a8 => (ih d (by omega) X' (a1.trans hp) (a2.trans hw) (a3.trans hm) (a4.trans hba) a5 a6 a7 a8).1
        exact ⟨(orc W.P d).noT, d + 2, by omega, hr, rfl, kp e f, fun T _ e _ f => kp e f⟩
end
end Th
namespace Th
open PySem PySem.Spec PyProof.Rows L2
theorem zip_look {n : Str} : ∀ {ps : List Str} {us : List Value}, us.length = ps.length → n ∈ ps → ((ps.zip us).lookup n).isSome = true
  | [], _, _, h => by cases h
  | p :: ps, [], h, _ => by simp at h
  | p :: ps, u :: us, h, hm => by
    simp only [List.zip_cons_cons, List.lookup_cons]
    cases e : n == p with
    | true => rfl
    | false =>
      rcases List.mem_cons.mp hm with q | q
      · rw [q] at e; simp at e
      · exact zip_look (by simpa using h) q
theorem fm_congr {α β : Type} {f g : α → Option β} : ∀ {l : List α}, (∀ a ∈ l, f a = g a) → l.filterMap f = l.filterMap g
  | [], _ => rfl
  | a :: l, h => by
    rw [List.filterMap_cons, List.filterMap_cons, h a List.mem_cons_self, fm_congr fun b hb => h b (List.mem_cons_of_mem _ hb)]
theorem zip_self : ∀ {ps : List Str} {us : List Value}, us.length = ps.length → ps.Nodup → (ps.filterMap fun n => ((ps.zip us).lookup n).map (n, ·)) = ps.zip us
  | [], _, _, _ => rfl
  | p :: ps, [], h, _ => by simp at h
  | p :: ps, u :: us, h, hn => by
    obtain ⟨h1, h2⟩ := List.nodup_cons.mp hn
    have e : (p :: ps).filterMap (fun n => (((p :: ps).zip (u :: us)).lookup n).map (n, ·)) = (p, u) :: ps.filterMap (fun n => ((ps.zip us).lookup n).map (n, ·)) := by
      rw [List.filterMap_cons]
      simp only [List.zip_cons_cons, List.lookup_cons, beq_self_eq_true, Option.map_some]
      congr 1
      refine fm_congr fun n hm => ?_
      have : (n == p) = false := by
        cases q : n == p with
        | false => rfl
        | true => exact absurd (by rw [← beq_iff_eq.mp q]; exact hm) h1
      rw [this]
    rw [e, zip_self (by simpa using h) h2]
    rfl
theorem bind_plain {fd : FuncData} {as : List Arg} (hp : fd.params = { posonlyargs := [], args := as, vararg := none, kwonlyargs := [], kw_defaults := [], kwarg := none, defaults := [] }) (hd : fd.defaults = .none) (hn : (as.map (·.arg)).Nodup) (us : List Value) (hl : us.length = (as.map (·.arg)).length) :
    bindArgs fd ⟨us, []⟩ = pure ((as.map (·.arg)).zip us) := by
  unfold bindArgs
  rw [hp, hd]
  have e1 : seqItems? Value.none = pure none := rfl
  simp only [e1, List.nil_append, List.map_nil, List.append_nil]
  have hle : ¬ us.length > (as.map (·.arg)).length := by omega
  have hf : ∀ k, List.filter (fun n => (List.lookup n ((List.map (fun x => x.arg) as).zip us)).isNone) (List.take k (List.map (fun x => x.arg) as)) = [] := fun k => by
    rw [List.filter_eq_nil_iff]
    intro n hm
    have := zip_look hl (List.mem_of_mem_take hm)
    cases e : List.lookup n ((List.map (fun x => x.arg) as).zip us) with
    | none => rw [e] at this; cases this
    | some v => simp
  have hz := zip_self hl hn
  rw [List.filterMap_map] at hz
  have hl' : ¬ as.length < us.length := by
    have : us.length = as.length := by simpa using hl
    omega
  simp
  rw [if_neg hl']
  simp only [hf]
  simp [hz]
theorem look_none {k : Str} : ∀ {l : List (Str × Value)}, k ∉ l.map (·.1) → l.lookup k = none
  | [], _ => rfl
  | (a, v) :: l, h => by
    simp only [List.map_cons, List.mem_cons, not_or] at h
    rw [List.lookup_cons]
    have : (k == a) = false := by
      cases e : k == a with
      | false => rfl
      | true => exact absurd (beq_iff_eq.mp e) h.1
    rw [this]
    exact look_none h.2
theorem kw_loop {ps : List Str} {f : Str × Value → List (Str × Value) × List (Str × Value) → Sem (ForInStep (List (Str × Value) × List (Str × Value)))} (hf : ∀ k v acc, k ∈ ps → acc.1.lookup k = none → f (k, v) acc = pure (.yield (acc.1 ++ [(k, v)], acc.2))) :
    ∀ (kws : List (Str × Value)) (a b : List (Str × Value)), (∀ p ∈ kws, p.1 ∈ ps) → (a.map (·.1) ++ kws.map (·.1)).Nodup → forIn kws (a, b) f = pure (a ++ kws, b)
  | [], a, b, _, _ => by rw [List.forIn_nil, List.append_nil]
  | (k, v) :: kws, a, b, hm, hn => by
    have hk : k ∉ a.map (·.1) := fun z => by
      have := (List.nodup_append.mp hn).2.2 k z k (by simp)
      exact this rfl
    rw [List.forIn_cons, hf k v (a, b) (hm (k, v) List.mem_cons_self) (look_none hk), pure_bind]
    have := kw_loop hf kws (a ++ [(k, v)]) b (fun p hp => hm p (List.mem_cons_of_mem _ hp)) (by simpa using hn)
    rw [List.append_assoc] at this
    exact this
theorem look_at : ∀ {ks : List Str} {ws : List Value} {j : Nat}, ks.Nodup → ws.length = ks.length → j < ks.length → (ks.zip ws).lookup (ks.getD j "") = some (ws.getD j .none)
  | [], _, _, _, _, h => by cases h
  | k :: ks, [], _, _, h, _ => by simp at h
  | k :: ks, w :: ws, 0, _, _, _ => by simp
  | k :: ks, w :: ws, j + 1, hn, hl, hj => by
    obtain ⟨h1, h2⟩ := List.nodup_cons.mp hn
    have hj' : j < ks.length := by simpa using hj
    have : ((ks.getD j "") == k) = false := by
      cases e : (ks.getD j "") == k with
      | false => rfl
      | true =>
        refine absurd ?_ h1
        rw [← beq_iff_eq.mp e, List.getD_eq_getElem?_getD, List.getElem?_eq_getElem hj']
        exact List.getElem_mem hj'
    show List.lookup (ks.getD j "") ((k, w) :: ks.zip ws) = some (ws.getD j .none)
    rw [List.lookup_cons, this]
    exact look_at h2 (by simpa using hl) hj'
theorem bind_kw {fd : FuncData} {as : List Arg} {ks : List Str} {perm : List Nat} {ws : List Value} (hp : fd.params = { posonlyargs := [], args := as, vararg := none, kwonlyargs := [], kw_defaults := [], kwarg := none, defaults := [] }) (hd : fd.defaults = .none) (hn : ks.Nodup) (hl : ws.length = ks.length)
    (hps : as.map (·.arg) = perm.map fun j => ks.getD j "") (hj : ∀ j ∈ perm, j < ks.length) (hin : ∀ k ∈ ks, k ∈ as.map (·.arg)) : bindArgs fd ⟨[], ks.zip ws⟩ = pure ((as.map (·.arg)).zip (perm.map fun j => ws.getD j .none)) := by
  have hmem : ∀ p ∈ ks.zip ws, p.1 ∈ as.map (·.arg) := fun p hp => hin _ (List.of_mem_zip (show (p.1, p.2) ∈ ks.zip ws from hp)).1
  have hnd : (([] : List (Str × Value)).map (·.1) ++ (ks.zip ws).map (·.1)).Nodup := by
    rw [List.map_nil, List.nil_append, List.map_fst_zip (by omega)]
    exact hn
  have hlook : ∀ n ∈ as.map (·.arg), ((ks.zip ws).lookup n).isSome = true := fun n hm => by
    rw [hps] at hm
    obtain ⟨j, hj1, rfl⟩ := List.mem_map.mp hm
    rw [look_at hn hl (hj j hj1)]
    rfl
  have hf : ∀ k, List.filter (fun n => (List.lookup n (ks.zip ws)).isNone) (List.take k (List.map (fun x => x.arg) as)) = [] := fun k => by
    rw [List.filter_eq_nil_iff]
    intro n hm
    have := hlook n (List.mem_of_mem_take hm)
    cases e : List.lookup n (ks.zip ws) with
    | none => rw [e] at this; cases this
    | some v => simp
  have hz : (as.map (·.arg)).filterMap (fun n => ((ks.zip ws).lookup n).map (n, ·)) = (as.map (·.arg)).zip (perm.map fun j => ws.getD j .none) := by
    rw [hps]
    clear hps
    induction perm with
    | nil => rfl
    | cons j js ih =>
      rw [List.map_cons, List.filterMap_cons, look_at hn hl (hj j List.mem_cons_self)]
      show _ :: _ = _
      rw [ih fun i hi => hj i (List.mem_cons_of_mem _ hi)]
      rfl
  rw [List.filterMap_map] at hz
  unfold bindArgs
  rw [hp, hd]
  have e1 : seqItems? Value.none = pure none := rfl
  simp only [e1, List.nil_append, List.map_nil, List.append_nil]
  simp
  rw [kw_loop (ps := as.map (·.arg)) (fun k v acc hk hn => ?_) (ks.zip ws) [] [] hmem hnd]
  · simp only [List.nil_append, pure_bind]
    simp only [hf]
    simp [hz]
  · have : ∃ a, a ∈ as ∧ a.arg = k := by simpa using hk
    simp only [if_pos this, hn]
    simp
theorem bind_kw1 {fd : FuncData} {as : List Arg} {p0 : Str} {u0 : Value} {ks : List Str} {perm : List Nat} {ws : List Value} (hp : fd.params = { posonlyargs := [], args := as, vararg := none, kwonlyargs := [], kw_defaults := [], kwarg := none, defaults := [] }) (hd : fd.defaults = .none) (hn : (p0 :: ks).Nodup) (hl : ws.length = ks.length)
    (hps : as.map (·.arg) = p0 :: perm.map fun j => ks.getD j "") (hj : ∀ j ∈ perm, j < ks.length) (hin : ∀ k ∈ ks, k ∈ as.map (·.arg)) : bindArgs fd ⟨[u0], ks.zip ws⟩ = pure ((as.map (·.arg)).zip (u0 :: perm.map fun j => ws.getD j .none)) := by
  obtain ⟨n0, n1⟩ := List.nodup_cons.mp hn
  have hmem : ∀ p ∈ ks.zip ws, p.1 ∈ as.map (·.arg) := fun p hp => hin _ (List.of_mem_zip (show (p.1, p.2) ∈ ks.zip ws from hp)).1
  have hnd : (([(p0, u0)] : List (Str × Value)).map (·.1) ++ (ks.zip ws).map (·.1)).Nodup := by
    rw [List.map_fst_zip (by omega)]
    simpa using hn
  have at0 : ((p0, u0) :: ks.zip ws).lookup p0 = some u0 := by simp
  have at1 : ∀ j, j < ks.length → ((p0, u0) :: ks.zip ws).lookup (ks.getD j "") = some (ws.getD j .none) := fun j hj => by
    have : ((ks.getD j "") == p0) = false := by
      cases e : (ks.getD j "") == p0 with
      | false => rfl
      | true =>
        refine absurd ?_ n0
        rw [← beq_iff_eq.mp e, List.getD_eq_getElem?_getD, List.getElem?_eq_getElem hj]
        exact List.getElem_mem hj
    rw [List.lookup_cons, this]
    exact look_at n1 hl hj
  have hlook : ∀ n ∈ as.map (·.arg), (((p0, u0) :: ks.zip ws).lookup n).isSome = true := fun n hm => by
    rw [hps] at hm
    rcases List.mem_cons.mp hm with rfl | hm
    · rw [at0]; rfl
    · obtain ⟨j, hj1, rfl⟩ := List.mem_map.mp hm
      rw [at1 j (hj j hj1)]
      rfl
  have hf : ∀ k, List.filter (fun n => (List.lookup n ((p0, u0) :: ks.zip ws)).isNone) (List.take k (List.map (fun x => x.arg) as)) = [] := fun k => by
    rw [List.filter_eq_nil_iff]
    intro n hm
    have := hlook n (List.mem_of_mem_take hm)
    cases e : List.lookup n ((p0, u0) :: ks.zip ws) with
    | none => rw [e] at this; cases this
    | some v => simp
  have hz : (as.map (·.arg)).filterMap (fun n => (((p0, u0) :: ks.zip ws).lookup n).map (n, ·)) = (as.map (·.arg)).zip (u0 :: perm.map fun j => ws.getD j .none) := by
    rw [hps, List.filterMap_cons, at0]
    show (p0, u0) :: _ = (p0, u0) :: _
    congr 1
    clear hps hlook hf
    induction perm with
    | nil => rfl
    | cons j js ih =>
      rw [List.map_cons, List.filterMap_cons, at1 j (hj j List.mem_cons_self)]
      show _ :: _ = _
      rw [ih fun i hi => hj i (List.mem_cons_of_mem _ hi)]
      rfl
  obtain ⟨a0, ar, rfl⟩ : ∃ a0 ar, as = a0 :: ar := by
    cases as with
    | nil => cases hps
    | cons a0 ar => exact ⟨a0, ar, rfl⟩
  have e0 : a0.arg = p0 := by simpa using (List.cons.inj hps).1
  unfold bindArgs
  rw [hp, hd]
  have e1 : seqItems? Value.none = pure none := rfl
  simp only [e1, List.nil_append, List.map_nil, List.append_nil]
  simp
  rw [e0]
  rw [kw_loop (ps := (a0 :: ar).map (·.arg)) (fun k v acc hk hn => ?_) (ks.zip ws) [(p0, u0)] [] hmem hnd]
  · simp only [List.cons_append, List.nil_append, pure_bind]
    rw [List.map_cons, e0, List.zip_cons_cons] at hz
    rw [hf, hz]
    simp
  · have hk' : k = p0 ∨ ∃ a, a ∈ ar ∧ a.arg = k := by
      rcases List.mem_map.mp hk with ⟨a, ha, rfl⟩
      rcases List.mem_cons.mp ha with rfl | ha
      · exact .inl e0
      · exact .inr ⟨a, ha, rfl⟩
    simp only [if_pos hk', hn]
    simp
end Th
namespace Th
open PySem PySem.Spec PyProof.Rows L2
inductive At where
  | top | meth (c m : Nat) | prop (c a : Nat) | init (c : Nat) | stat (c m : Nat)
  deriving DecidableEq
structure FnE where
  g : Nat
  at_ : At
  N : List Str
  ps : List Str
/-- a def that is handed a lambda -/
structure TkE where
  g : Nat
  N : List Str
  a : Str
def At.isInit : At → Bool
  | .init _ => true
  | _ => false
/-- a law's program, by number -/
structure Stat where
  nm : Nat → Str
  fnl : List (Nat × Fn)
  cll : List (Nat × Cl)
  col : List (Nat × D)
  fns : List FnE
  fls : List Nat
  tkl : List (Nat × Tk) := []
  tke : List TkE := []
  exl : List Nat := []
  subs : List (Nat × Nat × Bool) := []
  lamg : Nat := 0
  xfl : List (Nat × Nat) := []
  sml : List (Nat × Nat × Nat) := []
  dks : List (Nat × List (Str × Int)) := []
def subOf (c h : Nat) : List (Nat × Nat × Bool) → Option Bool
  | [] => none
  | (a, b, q) :: r => if a = c ∧ b = h then some q else subOf c h r
def Stat.P (st : Stat) : Pr := ⟨fun g => st.fnl.lookup g, fun c => st.cll.lookup c, fun x => st.col.lookup x, st.nm, fun g => st.tkl.lookup g, fun c h => subOf c h st.subs, fun c => st.xfl.lookup c⟩
/-- the names of the def that makes lambdas -/
def Stat.lamN (st : Stat) : List Str := match st.fns.find? fun e => e.g == st.lamg with
  | some e => e.N
  | none => []
def kwOk (st : Stat) (g : Nat) (perm : List Nat) (ks : List Str) : Bool := match st.fns.find? fun e => e.g == g with
  | some e => decide (perm.map (fun j => ks.getD j "") = e.ps) && perm.all (fun j => decide (j < ks.length)) && decide ks.Nodup && ks.all (fun k => e.ps.contains k) && decide (ks.length = perm.length)
  | none => false
def Stat.chk (st : Stat) : Chk := ⟨fun g => st.fns.any fun e => e.g == g && !e.at_.isInit, fun a => st.fls.contains a, fun g => st.fns.any fun e => e.g == g && decide (e.at_ = .top), fun c => st.cll.any fun e => e.1 == c, kwOk st, fun g => st.tke.any fun e => e.g == g, fun c => st.exl.contains c, st.lamN, fun c m g => st.sml.contains (c, m, g), fun x tb => st.dks.contains (x, tb)⟩
def refOf : Option (Option Value) → Option Addr
  | some (some (.ref a)) => some a
  | _ => none
theorem refOf_eq {x : Option (Option Value)} {a : Addr} (h : refOf x = some a) : x = some (some (.ref a)) := by
  unfold refOf at h
  split at h
  · cases h; rfl
  · cases h
section
variable (K : PySem.W.Frag) (st : Stat)
def caK (c : Nat) : Addr := (refOf (PySem.W.nsIn K mainGlobals (st.nm c))).getD 0
def whK1 (g : Nat) : At → Option Addr
  | .top => refOf (PySem.W.nsIn K mainGlobals (st.nm g))
  | .meth c m => refOf (PySem.W.findIn K (.ref (caK K st c)) (st.nm m))
  | .init c => refOf (PySem.W.findIn K (.ref (caK K st c)) "__init__")
  | .prop c a => match refOf (PySem.W.findIn K (.ref (caK K st c)) (st.nm a)) with
    | some p => match PySem.W.recIn K p "property" with
      | some (.ref g :: _) => some g
      | _ => none
    | none => none
  | .stat c m => match refOf (PySem.W.findIn K (.ref (caK K st c)) (st.nm m)) with
    | some p => match PySem.W.recIn K p "staticmethod" with
      | some (.ref g :: _) => some g
      | _ => none
    | none => none
def entry (g : Nat) : Option FnE := st.fns.find? fun e => e.g == g
def faK (g : Nat) : Addr := match entry st g with
  | some e => (whK1 K st g e.at_).getD 0
  | none => 0
def fdAt (f : Addr) : Option FuncData := match K.lookup f with
  | some ⟨_, _, .func fd, _⟩ => some fd
  | _ => none
def fdK (g : Nat) : FuncData := (fdAt K (faK K st g)).getD default
def pnK (g : Nat) : List Str := match entry st g with
  | some e => e.ps
  | none => []
def lamC : Addr := match (fdK K st st.lamg).code with
  | .ref c => c
  | _ => 0
def lamP : Addr := match K.lookup (lamC K st) with
  | some ⟨_, _, .fields vs, _⟩ => (match (vs[11]? : Option Value) with
    | some (.ref P) => P
    | _ => 0)
  | _ => 0
def lamT : List (Addr × Str) := if st.tkl.isEmpty = true then [] else [(lamP K st, (fdK K st st.lamg).qualname ++ ".<locals>." ++ "<lambda>")]
def lkK : Lnk := { st.chk with ca := caK K st, fa := faK K st, fd := fdK K st, pn := pnK st, T := lamT K st, lamC := lamC K st, lamP := lamP K st }
def isCode (v : Value) (c : Addr) : Bool := match v with
  | .ref a => a == c
  | _ => false
def isNoneV : Value → Bool
  | .none => true
  | _ => false
def plainPar (p : Arguments) : Option (List Str) := match p with
  | ⟨[], as, none, [], [], none, []⟩ => some (as.map (·.arg))
  | _ => none
def bodyOf : FuncBody → Option (List Stmt)
  | .stmts b => some b
  | _ => none
def notFree : NameKind → Bool
  | .free => false
  | _ => true
def visP (sc : Scope) (x : Str) : Bool := match sc.names.lookup x with
  | some .local => true
  | some .cell => true
  | _ => false
def isFunK : ScopeKind → Bool
  | .function => true
  | _ => false
def scopeOk (N ps : List Str) (sc : Scope) : Bool := isFunK sc.kind && !sc.isCoroutine && !sc.isGenerator && decide N.Nodup && decide (N.take ps.length = ps) && ps.all (visP sc) && sc.names.all fun y => notFree y.2
def chkF (e : FnE) : Bool := match st.fnl.lookup e.g with
  | none => false
  | some F => match whK1 K st e.g e.at_ with
    | none => false
    | some f => match fdAt K f with
      | none => false
      | some fd => (fd.globals == mainGlobals) && fd.closure.isEmpty && (fd.builtins == builtinsNs) && isNoneV fd.defaults && decide (plainPar fd.params = some e.ps) && decide e.ps.Nodup && PySem.W.codeIn K fd.code fd.qualname && PySem.W.keepIn K (.ref f) &&
          scopeOk e.N e.ps fd.scope && decide (F.ns = e.N.length) && decide (F.np = e.ps.length) && (st.tkl.isEmpty || !decide (e.N = st.lamN) || (isCode fd.code (lamC K st) && decide (fd.qualname = (fdK K st st.lamg).qualname))) && match bodyOf fd.body with
            | some b => okSs st.P st.chk e.N e.at_.isInit fd.scope F.body b
            | none => false
def chkT (e : TkE) : Bool := match st.tkl.lookup e.g with
  | none => false
  | some T => match refOf (PySem.W.nsIn K mainGlobals (st.nm e.g)) with
    | none => false
    | some f => match fdAt K f with
      | none => false
      | some fd => (fd.globals == mainGlobals) && fd.closure.isEmpty && (fd.builtins == builtinsNs) && isNoneV fd.defaults && decide (plainPar fd.params = some [e.a]) && PySem.W.codeIn K fd.code fd.qualname && PySem.W.keepIn K (.ref f) &&
          scopeOk e.N [e.a] fd.scope && decide (T.ns = e.N.length) && decide (fd.name = st.nm e.g) && decide (fd.qualname = st.nm e.g) && plainN (st.nm e.g) && plainN e.a && match bodyOf fd.body with
            | some b => okTk st.P st.chk e.N fd.scope T b
            | none => false
def isTyV (v : Option Value) (s : String) : Bool := match v with
  | some (.type n) => n == s
  | _ => false
abbrev aeTail : List Value := [.type "ArithmeticError", .type "Exception", .type "BaseException", .type "object"]
/-- own classes over ArithmeticError -/
def refsAE : List Value → Bool
  | [] => false
  | v :: r => match v with
    | .ref _ => refsAE r
    | _ => v :: r == aeTail
/-- an own class over ValueError or ArithmeticError whose __init__ keeps its argument -/
def oexB (K : PySem.W.Frag) (C : Addr) : Bool := match K.lookup C with
  | some ⟨.type "type", _, .cls cd, sl⟩ => (match cd.mro, sl.toList with
    | .ref C' :: bm, [_, _, _, _, some (.builtin n), _] => C' == C && !cd.hasDel && cd.hasDict && ((n == "ValueError.__new__" && PySem.HandSPX.refsVE bm) || (n == "ArithmeticError.__new__" && refsAE bm))
    | _, _ => false)
  | _ => false
def chkXV (a : Addr) (f : Str) : Bool := oexB K a && (match PySem.W.findIn K (.ref a) "__setattr__" with | some (some (.builtin n)) => n == "object.__setattr__" | _ => false) && (PySem.W.subIn K (.ref a) (.type "BaseException") == some true) && isTyV (PySem.W.typeIn K (.ref a)) "type" && PySem.W.keepIn K (.ref a) &&
  (match PySem.W.findIn K (.ref a) f with | some none => true | _ => false) && L2.xfB K a && (match refOf (PySem.W.findIn K (.ref a) "__init__") with
    | none => false
    | some fI => isTyV (PySem.W.typeIn K (.ref fI)) "function" && (match fdAt K fI with
      | none => false
      | some fd => (fd.globals == mainGlobals) && fd.closure.isEmpty && (fd.builtins == builtinsNs) && isNoneV fd.defaults && PySem.W.codeIn K fd.code fd.qualname && PySem.W.keepIn K (.ref fI) && (match plainPar fd.params with
        | some [p0, p1] => decide (p0 ≠ p1) && scopeOk [p0, p1] [p0, p1] fd.scope && plainN p0 && plainN p1 && (match bodyOf fd.body with
          | some b => decide (asKeep b = some (p0, f, p1))
          | none => false)
        | _ => false)))
def isBlt (v : Option (Option Value)) (s : String) : Bool := match v with
  | some (some (.builtin n)) => n == s
  | _ => false
def isNo (v : Option (Option Value)) : Bool := match v with
  | some none => true
  | _ => false
def isRef (v : Option (Option Value)) (a : Addr) : Bool := match v with
  | some (some (.ref b)) => b == a
  | _ => false
def recTo (r : Option (List Value)) (a : Addr) : Bool := match r with
  | some (.ref b :: _) => b == a
  | _ => false
def excCB (D : Addr) : Bool := isBlt (PySem.W.findIn K (.ref D) "__getattribute__") "BaseException.__getattribute__" && isNo (PySem.W.findIn K (.ref D) "__getattr__") && (PySem.W.subIn K (.ref D) (.type "BaseException") == some true) && PySem.W.hasDictIn K D &&
  isBlt (PySem.W.findIn K (.ref D) "__class__") "object.__class__" && isBlt (PySem.W.specialIn K (.builtin "object.__class__") "__get__") "getset_descriptor.__get__" && (PySem.W.takesIn K (.builtin "object.__class__") == some true) && (PySem.W.mroIn K D (.type "object") == some true)
def chkX (c : Nat) : Bool :=
  let a := caK K st c
  (match PySem.W.nsIn K mainGlobals (st.nm c) with | some (some (.ref b)) => b == a | _ => false) && (match st.xfl.lookup c with
    | none => PySem.W.keepIn K (.ref a) && (PySem.W.excIn K a [.type "ArithmeticError", .type "Exception", .type "BaseException", .type "object"] "ArithmeticError.__new__" || PySem.W.excIn K a [.type "ValueError", .type "Exception", .type "BaseException", .type "object"] "ValueError.__new__" || PySem.W.excIn K a [.type "LookupError", .type "Exception", .type "BaseException", .type "object"] "LookupError.__new__") &&
      (PySem.W.subIn K (.ref a) (.type "BaseException") == some true) && isTyV (PySem.W.typeIn K (.ref a)) "type"
    | some n => chkXV K a (st.nm n)) && excCB K a
def chkC (c : Nat) (kl : Cl) : Bool :=
  let a := caK K st c
  isRef (PySem.W.nsIn K mainGlobals (st.nm c)) a && PySem.W.keepIn K (.ref a) && PySem.W.plainGet K a Str.empty && PySem.W.hasDictIn K a && PySem.W.plainOver K a && isBlt (PySem.W.findIn K (.ref a) "__setattr__") "object.__setattr__" &&
    (kl.meths.all fun p => st.chk.has p.2 && isRef (PySem.W.findIn K (.ref a) (st.nm p.1)) (faK K st p.2) && PySem.W.isFn K (.ref (faK K st p.2)) && PySem.W.keepIn K (.ref (faK K st p.2)) && !(kl.flds.map st.nm).contains (st.nm p.1)) &&
    (kl.props.all fun p => st.chk.has p.2 && match refOf (PySem.W.findIn K (.ref a) (st.nm p.1)) with
      | some q => isBlt (PySem.W.specialIn K (.ref q) "__get__") "property.__get__" && (PySem.W.takesIn K (.ref q) == some true) && recTo (PySem.W.recIn K q "property") (faK K st p.2)
      | none => false) &&
    (kl.flds.all fun x => isNo (PySem.W.findIn K (.ref a) (st.nm x))) && decide (kl.flds.map st.nm).Nodup && decide (kl.flds.length < 900) &&
    PySem.W.makesIn K a && isRef (PySem.W.findIn K (.ref a) "__init__") (faK K st kl.init) && PySem.W.isFn K (.ref (faK K st kl.init)) &&
    (st.fns.any fun e => e.g == kl.init && e.at_.isInit) && (st.fls.all fun x => isNo (PySem.W.findIn K (.ref a) (st.nm x))) &&
    isBlt (PySem.W.findIn K (.ref a) "__class__") "object.__class__" && isBlt (PySem.W.specialIn K (.builtin "object.__class__") "__get__") "getset_descriptor.__get__" &&
    (PySem.W.takesIn K (.builtin "object.__class__") == some true) && (PySem.W.mroIn K a (.type "object") == some true) && isBlt (PySem.W.findIn K (.ref a) "__ne__") "object.__ne__" && isNo (PySem.W.findIn K (.ref a) "__bool__")
def allTys : List Ty := (["NoneType", "int", "bool", "str", "tuple", "list", "dict"].map Ty.ty) ++ st.cll.map fun e => Ty.cls e.1
def chkKit : Bool := (allTys st).all fun t1 => (allTys st).all fun t2 => match isTy t1 t2 with
  | some b => PySem.W.kitOne K (tyVal (lkK K st) t1) (tyVal (lkK K st) t2) == some b
  | none => true
mutual
def conOk : D → Value → Bool
  | .non, u => isNoneV u
  | .bl b, u => match u with
    | .bool c => b == c
    | _ => false
  | .int i, u => match u with
    | .int j _ => i == j
    | _ => false
  | .str x, u => match u with
    | .str y _ => x == y
    | _ => false
  | .tup ds, u => match u with
    | .ref a => match K.lookup a with
      | some ⟨.type n, _, .seq its _, _⟩ => n == "tuple" && decide (its.size ≤ sizeLine) && conOks ds its.toList
      | _ => false
    | _ => false
  | _, _ => false
def conOks : List D → List Value → Bool
  | [], us => us.isEmpty
  | d :: ds, us => match us with
    | [] => false
    | u :: us => conOk d u && conOks ds us
end
/-- C.m is a staticmethod -/
def chkS (q : Nat × Nat × Nat) : Bool :=
  let a := caK K st q.1
  isRef (PySem.W.nsIn K mainGlobals (st.nm q.1)) a && isBlt (PySem.W.specialIn K (.ref a) "__getattribute__") "type.__getattribute__" && PySem.W.keepIn K (.ref (faK K st q.2.2)) && match PySem.W.typeIn K (.ref a) with
    | some mc => PySem.W.readsIn K a mc && match PySem.W.findCls K (.ref a) mc (st.nm q.2.1) with
      | some (.get (.builtin n) (.ref p) .none (.ref b)) => n == "staticmethod.__get__" && b == a && recTo (PySem.W.recIn K p "staticmethod") (faK K st q.2.2)
      | _ => false
    | none => false
/-- the written tables, as they stand -/
def dkRow (o : Option Obj) : List (Option (Str × Int × Int)) := match o with
  | some ⟨.type n, none, .dict es _, sl⟩ => if (n == "dict" && sl.isEmpty) = true then es.toList.map entD else [none]
  | _ => [none]
def dkAll (K : PySem.W.Frag) (st : Stat) : List (List (Option (Str × Int × Int))) := st.dks.map fun q => match refOf (PySem.W.nsIn K mainGlobals (st.nm q.1)) with
  | some a => if (a == sysModules) = true then [none] else dkRow (K.lookup a)
  | none => [none]
def dkDue (pr : Params) (st : Stat) : List (List (Option (Str × Int × Int))) := st.dks.map fun q => q.2.map fun p => some (p.1, PyData.keyHash pr p.1, p.2)
def chkAll0 : Bool := (bltNames.all fun x => isNo (PySem.W.nsIn K mainGlobals x)) && st.fns.all (chkF K st) && (st.cll.all fun e => chkC K st e.1 e.2) && chkKit K st &&
  (st.col.all fun e => match PySem.W.nsIn K mainGlobals (st.nm e.1) with
    | some (some u) => conOk K e.2 u
    | _ => false) && st.fls.all (fun a => st.fls.all fun b => !(st.nm a == st.nm b) || a == b) && decide (st.fns.map (·.g)).Nodup && (st.tke.all (chkT K st) && st.exl.all (chkX K st) && st.subs.all fun p => st.exl.contains p.1 && (PySem.W.exmOne K (.ref (caK K st p.1)) (.ref (caK K st p.2.1)) == some p.2.2) && (PySem.W.kitOne K (.ref (caK K st p.1)) (.ref (caK K st p.2.1)) == some p.2.2))
def chkAll : Bool := chkAll0 K st && st.sml.all (chkS K st)
end
end Th
namespace Th
open PySem PySem.Spec PyProof.Rows L2
theorem isNo_eq {v : Option (Option Value)} (h : isNo v = true) : v = some none := by
  unfold isNo at h
  split at h
  · rfl
  · cases h
theorem isRef_eq {v : Option (Option Value)} {a : Addr} (h : isRef v a = true) : v = some (some (.ref a)) := by
  unfold isRef at h
  split at h
  · rw [beq_iff_eq.mp h]
  · cases h
theorem isBlt_eq {v : Option (Option Value)} {s : String} (h : isBlt v s = true) : v = some (some (.builtin s)) := by
  unfold isBlt at h
  split at h
  · rw [beq_iff_eq.mp h]
  · cases h
theorem recTo_eq {r : Option (List Value)} {a : Addr} (h : recTo r a = true) : ∃ rest, r = some (.ref a :: rest) := by
  unfold recTo at h
  split at h
  · rw [beq_iff_eq.mp h]; exact ⟨_, rfl⟩
  · cases h
theorem isNoneV_eq {v : Value} (h : isNoneV v = true) : v = .none := by
  unfold isNoneV at h
  split at h
  · rfl
  · cases h
theorem plainPar_eq {p : Arguments} {ps : List Str} (h : plainPar p = some ps) : ∃ as, p = { posonlyargs := [], args := as, vararg := none, kwonlyargs := [], kw_defaults := [], kwarg := none, defaults := [] } ∧ ps = as.map (·.arg) := by
  unfold plainPar at h
  split at h
  · cases h; exact ⟨_, rfl, rfl⟩
  · cases h
theorem bodyOf_eq {b : FuncBody} {l : List Stmt} (h : bodyOf b = some l) : b = .stmts l := by
  unfold bodyOf at h
  split at h
  · cases h; rfl
  · cases h
theorem isFunK_eq {k : ScopeKind} (h : isFunK k = true) : k = .function := by
  unfold isFunK at h
  split at h
  · rfl
  · cases h
theorem fdAt_eq {K : PySem.W.Frag} {f : Addr} {fd : FuncData} (h : fdAt K f = some fd) : ∃ oc od sl, K.lookup f = some ⟨oc, od, .func fd, sl⟩ := by
  unfold fdAt at h
  split at h
  · next e => cases h; exact ⟨_, _, _, e⟩
  · cases h
theorem scopeOk_scope {N ps : List Str} {sc : Scope} (h : scopeOk N ps sc = true) : FnScope N ps sc := by
  unfold scopeOk at h
  simp only [Bool.and_eq_true, Bool.not_eq_true', decide_eq_true_eq, List.all_eq_true] at h
  obtain ⟨⟨⟨⟨⟨⟨h1, h2⟩, h3⟩, h4⟩, h5⟩, h6⟩, h7⟩ := h
  refine ⟨isFunK_eq h1, h2, h3, h4, h5, fun x hx => ?_, fun y hy hf => ?_⟩
  · have := h6 x hx
    unfold visP at this
    split at this
    · next e => exact .inl e
    · next e => exact .inr e
    · cases this
  · have := h7 y hy
    rw [hf] at this
    cases this
section
variable {K : PySem.W.Frag} {st : Stat}
theorem vals_at {vs : List V} {us : List Value} (r : Vals vs us) : ∀ j : Nat, RelV (vs.getD j .non) (us.getD j .none) := by
  induction r with
  | nil => exact fun j => rfl
  | cons h _ ih =>
    intro j
    cases j with
    | zero => exact h
    | succ j => exact ih j
theorem vals_perm {vs : List V} {us : List Value} (r : Vals vs us) : ∀ perm : List Nat, Vals (perm.map fun j => vs.getD j .non) (perm.map fun j => us.getD j .none)
  | [] => .nil
  | j :: js => .cons (vals_at r j) (vals_perm r js)
/-- what is known of a def -/
structure FnFact (K : PySem.W.Frag) (st : Stat) (e : FnE) (F : Fn) (f : Addr) (fd : FuncData) : Prop where
  wh : whK1 K st e.g e.at_ = some f
  at_ : fdAt K f = some fd
  kp : PySem.W.keepIn K (.ref f) = true
  bind : Binds K fd e.ps []
  kw : ∀ (perm : List Nat) (ks : List Str), perm.map (fun j => ks.getD j "") = e.ps → (∀ j ∈ perm, j < ks.length) → ks.Nodup → (∀ k ∈ ks, k ∈ e.ps) → KBn K fd e.ps 0 ks (fun _ ws => perm.map fun j => ws.getD j .none) (fun _ zs => perm.map fun j => zs.getD j .non)
  kw1 : ∀ (p0 : Str) (perm : List Nat) (ks : List Str), e.ps = p0 :: perm.map (fun j => ks.getD j "") → (∀ j ∈ perm, j < ks.length) → (p0 :: ks).Nodup → (∀ k ∈ ks, k ∈ e.ps) → KBn K fd e.ps 1 ks (fun us ws => us ++ perm.map fun j => ws.getD j .none) (fun vs zs => vs ++ perm.map fun j => zs.getD j .non)
  plain : ∀ us : List Value, us.length = e.ps.length → bindArgs fd ⟨us, []⟩ = pure (e.ps.zip us)
  ok : ∃ (x qual : Str) (s : Stmt) (N : List Str), Fun K x qual s f fd ∧ FnScope N e.ps (defScope s) ∧ F.ns = N.length ∧ F.np = e.ps.length ∧ okSs st.P st.chk N e.at_.isInit (defScope s) F.body (defBody s) = true ∧
    (st.tkl.isEmpty = false → N = st.lamN → fd.code = .ref (lamC K st) ∧ qual = (fdK K st st.lamg).qualname)
theorem isCode_eq {v : Value} {c : Addr} (h : isCode v c = true) : v = .ref c := by
  unfold isCode at h
  split at h
  · rw [beq_iff_eq.mp h]
  · cases h
theorem chkF_ok {e : FnE} (h : chkF K st e = true) : ∃ F f fd, st.fnl.lookup e.g = some F ∧ FnFact K st e F f fd := by
  unfold chkF at h
  split at h
  · cases h
  · next F hF =>
    split at h
    · cases h
    · next f hf =>
      split at h
      · cases h
      · next fd hfd =>
        simp only [Bool.and_eq_true, decide_eq_true_eq, beq_iff_eq, List.isEmpty_iff] at h
        obtain ⟨⟨⟨⟨⟨⟨⟨⟨⟨⟨⟨⟨h1, h2⟩, h3⟩, h4⟩, h5⟩, h6⟩, h7⟩, h8⟩, h9⟩, h10⟩, h11⟩, h13⟩, h12⟩ := h
        split at h12
        · next b hb =>
          obtain ⟨as, ep, eps⟩ := plainPar_eq h5
          have ed := isNoneV_eq h4
          have ebd := bodyOf_eq hb
          have pl : ∀ us : List Value, us.length = e.ps.length → bindArgs fd ⟨us, []⟩ = pure (e.ps.zip us) := fun us hl => by
            rw [eps] at hl ⊢
            exact bind_plain ep ed (by rw [← eps]; exact h6) us hl
          refine ⟨F, f, fd, hF, hf, hfd, h8, .all pl, fun perm ks k1 k2 k3 k4 => ?_, fun p0 perm ks k1 k2 k3 k4 => ?_, pl, ?_⟩
          · refine ⟨fun s us ws _ hl hw => ?_, fun _ r => vals_perm r perm⟩
            have hu : us = [] := List.eq_nil_of_length_eq_zero hl
            subst hu
            have hb := bind_kw (ws := ws) ep ed k3 hw (by rw [← eps, k1]) k2 (by rw [← eps]; exact k4)
            rw [← eps] at hb
            exact .of_eq hb
          · refine ⟨fun s us ws _ hl hw => ?_, fun r0 r => r0.append (vals_perm r perm)⟩
            obtain ⟨u0, hu⟩ : ∃ u0, us = [u0] := by
              match us, hl with
              | [u0], _ => exact ⟨u0, rfl⟩
            subst hu
            have hb := bind_kw1 (u0 := u0) (ws := ws) ep ed k3 hw (by rw [← eps, k1]) k2 (by rw [← eps]; exact k4)
            rw [← eps] at hb
            exact .of_eq hb
          · obtain ⟨oc, od, sl, lk⟩ := fdAt_eq hfd
            refine ⟨fd.name, fd.qualname, .FunctionDef fd.name fd.params b [] none [] fd.scope none fd.name ⟨0, 0, 0, 0⟩, e.N, ⟨⟨oc, od, fd.kwdefaults, fd.doc, fd.pyModule, fd.annotations, fd.code, fd.closureTuple, sl, ?_, lk, h7⟩, h8⟩, scopeOk_scope h9, h10, h11, h12, fun t1 t2 => ?hlam⟩
            obtain ⟨a1, a2, a3, a4, a5, a6, a7, a8, a9, a10, a11, a12, a13, a14, a15⟩ := fd
            simp only at h1 h2 h3 ed ebd
            subst h1 h2 h3 ed ebd
            rfl
            rw [t1, t2] at h13
            simp only [Bool.false_or, decide_true, Bool.not_true, Bool.and_eq_true, decide_eq_true_eq] at h13
            exact ⟨isCode_eq h13.1, h13.2⟩
        · cases h12
theorem find_nodup {fns : List FnE} {e : FnE} (hn : (fns.map (·.g)).Nodup) (he : e ∈ fns) : fns.find? (fun x => x.g == e.g) = some e := by
  induction fns with
  | nil => cases he
  | cons a l ih =>
    rw [List.map_cons, List.nodup_cons] at hn
    rw [List.find?_cons]
    rcases List.mem_cons.mp he with rfl | he
    · simp
    · have : (a.g == e.g) = false := by
        cases q : a.g == e.g with
        | false => rfl
        | true => exact absurd (List.mem_map.mpr ⟨e, he, (beq_iff_eq.mp q).symm⟩) hn.1
      rw [this]
      exact ih hn.2 he
mutual
theorem conOk_vr {P : Pr} {lk : Lnk} : ∀ {d : D} {u : Value}, conOk K d u = true → ∃ v, RelV v u ∧ ∀ Z μ H, VR ⟨P, K, lk, Z⟩ μ H d v
  | .non, u, h => by
    rw [conOk] at h
    rw [isNoneV_eq h]
    exact ⟨.non, rfl, fun _ _ _ => .non⟩
  | .bl b, u, h => by
    cases u <;> first | (simp [conOk] at h; done) | skip
    simp only [conOk, beq_iff_eq] at h
    rw [← h]
    exact ⟨.bl _, rfl, fun _ _ _ => .bl _⟩
  | .int i, u, h => by
    cases u <;> first | (simp [conOk] at h; done) | skip
    simp only [conOk, beq_iff_eq] at h
    rw [← h]
    exact ⟨.int _, ⟨_, rfl⟩, fun _ _ _ => .int _⟩
  | .str x, u, h => by
    cases u <;> first | (simp [conOk] at h; done) | skip
    simp only [conOk, beq_iff_eq] at h
    rw [← h]
    exact ⟨.str _, ⟨_, rfl⟩, fun _ _ _ => .str _⟩
  | .tup ds, u, h => by
    cases u <;> first | (simp [conOk] at h; done) | skip
    next a =>
    simp only [conOk] at h
    split at h
    · next n d its m sl hl =>
      simp only [Bool.and_eq_true, beq_iff_eq, decide_eq_true_eq] at h
      obtain ⟨⟨h1, h2⟩, h3⟩ := h
      obtain ⟨vs, r1, r2⟩ := conOks_vr (P := P) (lk := lk) h3
      exact ⟨.ref a, rfl, fun Z μ H => .tupK ⟨_, its, m, hl, by rw [h1], rfl, h2, r1⟩ (r2 Z μ H)⟩
    · cases h
  | .lst _, _, h => by simp [conOk] at h
  | .frz _, _, h => by simp [conOk] at h
  | .obj _ _, _, h => by simp [conOk] at h
  | .loc _, _, h => by simp [conOk] at h
theorem conOks_vr {P : Pr} {lk : Lnk} : ∀ {ds : List D} {us : List Value}, conOks K ds us = true → ∃ vs, Vals vs us ∧ ∀ Z μ H, VRs ⟨P, K, lk, Z⟩ μ H ds vs
  | [], us, h => by
    rw [conOks, List.isEmpty_iff] at h
    rw [h]
    exact ⟨[], .nil, fun _ _ _ => .nil⟩
  | d :: ds, [], h => by simp [conOks] at h
  | d :: ds, u :: us, h => by
    rw [conOks, Bool.and_eq_true] at h
    obtain ⟨v, h1, h2⟩ := conOk_vr (P := P) (lk := lk) h.1
    obtain ⟨vs, h3, h4⟩ := conOks_vr (P := P) (lk := lk) h.2
    exact ⟨v :: vs, .cons h1 h3, fun Z μ H => .cons (h2 Z μ H) (h4 Z μ H)⟩
end
theorem isTyV_eq {v : Option Value} {n : String} (h : isTyV v n = true) : v = some (.type n) := by
  unfold isTyV at h
  split at h
  · rw [beq_iff_eq.mp h]
  · cases h
theorem refsAE_cases {v : Value} {r : List Value} (h : refsAE (v :: r) = true) : (∃ c, v = .ref c ∧ refsAE r = true) ∨ v :: r = aeTail := by
  unfold refsAE at h
  split at h
  · exact .inl ⟨_, rfl, h⟩
  · exact .inr (beq_iff_eq.mp h)
theorem refsAE_pass (self : Value) : ∀ l : List Value, refsAE l = true → PySem.refuseLoop self "__setattr__" l = pure ()
  | [], h => absurd h (by decide)
  | v :: r, h => by
    rcases refsAE_cases h with ⟨c, rfl, h⟩ | h
    · rw [PySem.refuseLoop_ref]; exact refsAE_pass self r h
    · rw [h]; kernel_rfl
theorem refsAE_has (X : String) : ∀ l : List Value, refsAE l = true → l.contains (.type X) = aeTail.contains (.type X)
  | [], h => absurd h (by decide)
  | v :: r, h => by
    rcases refsAE_cases h with ⟨c, rfl, h⟩ | h
    · rw [List.contains_cons, refsAE_has X r h]; rfl
    · rw [h]
theorem oexB_cls {C : Addr} (h : oexB K C = true) : ∃ (B newId initId : String) (bmB : List Value), ∃ nm q N bs bm sn sub ab col dd k0 k1 k2 k3 k5, ExcBaseFacts B newId initId bmB ∧ K.lookup C = some (excClassObj nm q C N bs bm true sn sub ab col dd k0 k1 k2 k3 k5 newId) ∧
    (∀ self, PySem.refuseLoop self "__setattr__" (.ref C :: bm) = pure ()) ∧ (∀ X : String, bm.contains (.type X) = bmB.contains (.type X)) ∧ bmB.contains (.type "object") = true := by
  unfold oexB at h
  split at h
  · rename_i dd cd sl ho
    split at h
    · rename_i C' bm k0 k1 k2 k3 n k5 hm hs
      simp only [Bool.and_eq_true, beq_iff_eq, Bool.not_eq_true', Bool.or_eq_true] at h
      obtain ⟨⟨⟨rfl, hdel⟩, hdi⟩, hv⟩ := h
      obtain ⟨nm, bs, mro, ns, qn, hd, sn, sub, ab, col, del⟩ := cd
      dsimp only at hm hdel hdi
      subst hm hdel hdi
      have hsl : sl = #[k0, k1, k2, k3, some (.builtin n), k5] := by
        obtain ⟨l⟩ := sl
        simp only at hs
        rw [hs]
      subst hsl
      rcases hv with ⟨rfl, hv⟩ | ⟨rfl, hv⟩
      · exact ⟨_, _, _, _, nm, qn, ns, bs, bm, sn, sub, ab, col, dd, k0, k1, k2, k3, k5, PySem.F.excBase_ValueError, ho, fun self => by rw [PySem.refuseLoop_ref]; exact PySem.HandSPX.refsVE_pass self bm hv, fun X => PySem.HandSPX.refsVE_contains X bm hv, by decide +kernel⟩
      · exact ⟨_, _, _, _, nm, qn, ns, bs, bm, sn, sub, ab, col, dd, k0, k1, k2, k3, k5, PySem.F.excBase_ArithmeticError, ho, fun self => by rw [PySem.refuseLoop_ref]; exact refsAE_pass self bm hv, fun X => refsAE_has X bm hv, by decide +kernel⟩
    · cases h
  · cases h
theorem excCB_ok {D : Addr} (h : excCB K D = true) : ExcC K D := by
  unfold excCB at h
  simp only [Bool.and_eq_true, beq_iff_eq] at h
  obtain ⟨⟨⟨⟨⟨⟨⟨h1, h2⟩, h3⟩, h4⟩, h5⟩, h6⟩, h7⟩, h8⟩ := h
  exact ⟨isBlt_eq h1, isNo_eq h2, h3, h4, isBlt_eq h5, isBlt_eq h6, h7, h8⟩
theorem chkXV_ok {a : Addr} {f : Str} (h : chkXV K a f = true) : XVal K a f := by
  unfold chkXV at h
  simp only [Bool.and_eq_true, beq_iff_eq] at h
  obtain ⟨⟨⟨⟨⟨⟨⟨h1, h2⟩, h3⟩, h4⟩, h5⟩, h6⟩, h7⟩, h8⟩ := h
  have sa : PySem.W.findIn K (.ref a) "__setattr__" = some (some (.builtin "object.__setattr__")) := by
    split at h2
    · next n e => rw [e, beq_iff_eq.mp h2]
    · cases h2
  have no : PySem.W.findIn K (.ref a) f = some none := by
    split at h6
    · next e => exact e
    · cases h6
  refine ⟨⟨oexB_cls h1, sa, h3, isTyV_eq h4, h5⟩, no, L2.xfB_ok h7, ?_⟩
  split at h8
  · cases h8
  · next fI hI =>
    simp only [Bool.and_eq_true] at h8
    obtain ⟨i1, i2⟩ := h8
    split at i2
    · cases i2
    · next fd hfd =>
      simp only [Bool.and_eq_true, beq_iff_eq, List.isEmpty_iff] at i2
      obtain ⟨⟨⟨⟨⟨⟨g1, g2⟩, g3⟩, g4⟩, g5⟩, g6⟩, g7⟩ := i2
      split at g7
      · next p0 p1 hp =>
        simp only [Bool.and_eq_true, decide_eq_true_eq] at g7
        obtain ⟨⟨⟨⟨j1, j2⟩, j3⟩, j4⟩, j5⟩ := g7
        split at j5
        · next b hb =>
          have j6 := of_decide_eq_true j5
          obtain ⟨as, ep, eps⟩ := plainPar_eq hp
          have ed := isNoneV_eq g4
          have ebd := bodyOf_eq hb
          have pl : ∀ us : List Value, us.length = [p0, p1].length → bindArgs fd ⟨us, []⟩ = pure ([p0, p1].zip us) := fun us hl => by
            rw [eps] at hl ⊢
            exact bind_plain ep ed (by rw [← eps]; simp [j1]) us hl
          obtain ⟨oc, od, sl, lk⟩ := fdAt_eq hfd
          refine ⟨fI, fd, fd.name, fd.qualname, .FunctionDef fd.name fd.params b [] none [] fd.scope none fd.name ⟨0, 0, 0, 0⟩, [p0, p1], p0, p1, refOf_eq hI, isTyV_eq i1, ?_, scopeOk_scope j2, .all pl, j6, j3, j4⟩
          refine ⟨⟨oc, od, fd.kwdefaults, fd.doc, fd.pyModule, fd.annotations, fd.code, fd.closureTuple, sl, ?_, lk, g5⟩, g6⟩
          obtain ⟨a1, a2, a3, a4, a5, a6, a7, a8, a9, a10, a11, a12, a13, a14, a15⟩ := fd
          simp only at g1 g2 g3 ed ebd
          subst g1 g2 g3 ed ebd
          rfl
        · cases j5
      · cases g7
theorem lookup_mem {β : Type} {x : Nat} {y : β} : ∀ {l : List (Nat × β)}, l.lookup x = some y → (x, y) ∈ l
  | [], h => by cases h
  | (a, b) :: l, h => by
    rw [List.lookup_cons] at h
    cases e : x == a with
    | true => rw [e] at h; cases h; rw [beq_iff_eq.mp e]; exact List.mem_cons_self
    | false => rw [e] at h; exact List.mem_cons_of_mem _ (lookup_mem h)
theorem glob_of {h : Heap} {mg : Str → Option Value} (KX : K.In h) (G : h.Ns mainGlobals mg) (hc : chkAll K st = true) {pr : Params} (hd : dkAll K st = dkDue pr st) : Glob mg pr ⟨st.P, K, lkK K st, fun _ => False⟩ := by
  unfold chkAll at hc
  rw [Bool.and_eq_true] at hc
  obtain ⟨hc, cS⟩ := hc
  unfold chkAll0 at hc
  simp only [Bool.and_eq_true, decide_eq_true_eq, List.all_eq_true] at hc
  obtain ⟨⟨⟨⟨⟨⟨⟨c1, c2⟩, c3⟩, c4⟩, c5⟩, c6⟩, c7⟩, ⟨c8, c9⟩, c10⟩ := hc
  have lamF : ∀ {code : Value} {N : List Str} {qual : Str}, (st.tkl.isEmpty = false → N = st.lamN → code = .ref (lamC K st) ∧ qual = (fdK K st st.lamg).qualname) → (∃ g, st.tkl.lookup g ≠ none) → N = st.lamN →
      code = .ref (lamC K st) ∧ (lamP K st, qual ++ ".<locals>." ++ "<lambda>") ∈ lamT K st ∧ ∀ p ∈ lamT K st, p.1 = lamP K st → p.2 = qual ++ ".<locals>." ++ "<lambda>" := fun {code N qual} h ⟨g, hg⟩ hN => by
    have he : st.tkl.isEmpty = false := by
      cases hq : st.tkl with
      | nil => rw [hq] at hg; exact absurd rfl hg
      | cons a l => rfl
    obtain ⟨q1, q2⟩ := h he hN
    have eT : lamT K st = [(lamP K st, (fdK K st st.lamg).qualname ++ ".<locals>." ++ "<lambda>")] := by
      unfold lamT
      rw [he]
      rfl
    rw [eT, q2]
    refine ⟨q1, List.mem_singleton.mpr rfl, fun p hp _ => ?_⟩
    rw [List.mem_singleton.mp hp]
  have mgr : ∀ {x : Str} {a : Addr}, isRef (PySem.W.nsIn K mainGlobals x) a = true → mg x = some (.ref a) := fun hx => PySem.W.mg_of KX G (isRef_eq hx)
  -- a def by its number
  have fact : ∀ e ∈ st.fns, ∃ F, st.fnl.lookup e.g = some F ∧ FnFact K st e F (faK K st e.g) (fdK K st e.g) ∧ pnK st e.g = e.ps := fun e he => by
    obtain ⟨F, f, fd, hF, hfa⟩ := chkF_ok (c2 e he)
    have hen : entry st e.g = some e := find_nodup c7 he
    have e1 : faK K st e.g = f := by
      unfold faK
      rw [hen]
      show (whK1 K st e.g e.at_).getD 0 = f
      rw [hfa.wh]
      rfl
    have e2 : fdK K st e.g = fd := by
      unfold fdK
      rw [e1, hfa.at_]
      rfl
    refine ⟨F, hF, by rw [e1, e2]; exact hfa, ?_⟩
    unfold pnK
    rw [hen]
  have hasE : ∀ g, st.chk.has g = true → ∃ e ∈ st.fns, e.g = g ∧ e.at_.isInit = false := fun g hg => by
    obtain ⟨e, he, h1⟩ := List.any_eq_true.mp hg
    simp only [Bool.and_eq_true, beq_iff_eq, Bool.not_eq_true'] at h1
    exact ⟨e, he, h1.1, h1.2⟩
  have clsE : ∀ c, st.chk.hasC c = true → ∃ kl, (c, kl) ∈ st.cll := fun c hg => by
    obtain ⟨e, he, h1⟩ := List.any_eq_true.mp hg
    obtain ⟨a, kl⟩ := e
    have : a = c := beq_iff_eq.mp h1
    subst this
    exact ⟨kl, he⟩
  have clsF : ∀ c kl, (c, kl) ∈ st.cll → chkC K st c kl = true := fun c kl hm => c3 (c, kl) hm
  refine ⟨fun x hx => PySem.W.mg_none_of KX G (isNo_eq (c1 x hx)), fun g hg => ?_, fun g hg => ?_, fun c hg => ?_, fun c kl hg hk => ?_, fun g F hg hF => ?_, fun c kl F hg hk hF => ?_, fun c hg => ?_, fun g perm ks hg hk => ?_, fun a b ha hb hn => ?_, fun c a hg ha => ?_, fun t1 t2 b h1 h2 hb => ?_, fun x d hd => ?_, fun c hc => ?_, fun c h b hb => ?_, fun g T hg hT => ?_, fun c m g hm => ?_, fun x tb hx => ?_⟩
  · obtain ⟨e, he, rfl, _⟩ := hasE g hg
    obtain ⟨F, _, hf, hp⟩ := fact e he
    show Binds K (fdK K st e.g) (pnK st e.g) []
    rw [hp]
    exact hf.bind
  · obtain ⟨e, he, h1⟩ := List.any_eq_true.mp (show (st.fns.any fun e => e.g == g && decide (e.at_ = .top)) = true from hg)
    simp only [Bool.and_eq_true, beq_iff_eq, decide_eq_true_eq] at h1
    obtain ⟨rfl, h2⟩ := h1
    obtain ⟨F, _, hf, hp⟩ := fact e he
    have w := hf.wh
    rw [h2] at w
    exact ⟨PySem.W.mg_of KX G (refOf_eq w), hf.kp⟩
  · obtain ⟨kl, hm⟩ := clsE c hg
    have q := clsF c kl hm
    unfold chkC at q
    simp only [Bool.and_eq_true] at q
    obtain ⟨⟨⟨⟨⟨⟨⟨⟨⟨⟨⟨⟨⟨⟨⟨⟨⟨⟨⟨⟨⟨q1, q2⟩, q3⟩, q4⟩, q5⟩, q6⟩, q7⟩, q8⟩, q9⟩, q10⟩, q11⟩, q12⟩, q13⟩, q14⟩, q15⟩, q16⟩, q17⟩, q18⟩, q19⟩, q20⟩, q21⟩, q22⟩ := q
    exact ⟨mgr q1, q2⟩
  · have hm := lookup_mem (show st.cll.lookup c = some kl from hk)
    have q := clsF c kl hm
    unfold chkC at q
    simp only [Bool.and_eq_true] at q
    obtain ⟨⟨⟨⟨⟨⟨⟨⟨⟨⟨⟨⟨⟨⟨⟨⟨⟨⟨⟨⟨⟨q1, q2⟩, q3⟩, q4⟩, q5⟩, q6⟩, q7⟩, q8⟩, q9⟩, q10⟩, q11⟩, q12⟩, q13⟩, q14⟩, q15⟩, q16⟩, q17⟩, q18⟩, q19⟩, q20⟩, q21⟩, q22⟩ := q
    refine ⟨⟨q3, q4, q5, isBlt_eq q6⟩, fun m g hl => ?_, fun a g hl => ?_, fun a ha => ?_, of_decide_eq_true q10, of_decide_eq_true q11⟩
    · have := List.all_eq_true.mp q7 _ (lookup_mem hl)
      simp only [Bool.and_eq_true, Bool.not_eq_true'] at this
      obtain ⟨⟨⟨⟨a1, a2⟩, a3⟩, a4⟩, a5⟩ := this
      exact ⟨a1, ⟨isRef_eq a2, a3, a4⟩, fun z => by rw [show (List.map st.nm kl.flds).contains (st.nm m) = true from List.contains_iff_mem.mpr z] at a5; cases a5⟩
    · have := List.all_eq_true.mp q8 _ (lookup_mem hl)
      rw [Bool.and_eq_true] at this
      obtain ⟨a1, a2⟩ := this
      split at a2
      · next p hp =>
        simp only [Bool.and_eq_true, beq_iff_eq] at a2
        exact ⟨a1, p, ⟨refOf_eq hp, isBlt_eq a2.1.1, a2.1.2, recTo_eq a2.2⟩⟩
      · cases a2
    · exact isNo_eq (List.all_eq_true.mp q9 a ha)
  · obtain ⟨e, he, rfl, hi⟩ := hasE g hg
    obtain ⟨F', hF', hf, hp⟩ := fact e he
    have hF2 : st.fnl.lookup e.g = some F := hF
    rw [hF2] at hF'
    cases hF'
    obtain ⟨x, qual, s, N, a1, a2, a3, a4, a5⟩ := hf.ok
    rw [hi] at a5
    exact ⟨x, qual, s, N, a1, by show FnScope N (pnK st e.g) _; rw [hp]; exact a2, a3, by show F.np = (pnK st e.g).length; rw [hp]; exact a4, a5.1, lamF a5.2⟩
  · have hm := lookup_mem (show st.cll.lookup c = some kl from hk)
    have q := clsF c kl hm
    unfold chkC at q
    simp only [Bool.and_eq_true] at q
    obtain ⟨⟨⟨⟨⟨⟨⟨⟨⟨⟨⟨⟨⟨⟨⟨⟨⟨⟨⟨⟨⟨q1, q2⟩, q3⟩, q4⟩, q5⟩, q6⟩, q7⟩, q8⟩, q9⟩, q10⟩, q11⟩, q12⟩, q13⟩, q14⟩, q15⟩, q16⟩, q17⟩, q18⟩, q19⟩, q20⟩, q21⟩, q22⟩ := q
    obtain ⟨e, he, h1⟩ := List.any_eq_true.mp q15
    simp only [Bool.and_eq_true, beq_iff_eq] at h1
    obtain ⟨F', hF', hf, hp⟩ := fact e he
    rw [h1.1] at hf hp hF'
    have hF2 : st.fnl.lookup kl.init = some F := hF
    rw [hF2] at hF'
    cases hF'
    obtain ⟨x, qual, s, N, a1, a2, a3, a4, a5⟩ := hf.ok
    rw [h1.2] at a5
    refine ⟨⟨q12, isRef_eq q13, q14, q2⟩, ?_, ⟨x, qual, s, N, a1, by show FnScope N (pnK st kl.init) _; rw [hp]; exact a2, a3, by show F.np = (pnK st kl.init).length; rw [hp]; exact a4, a5.1, lamF a5.2⟩⟩
    show Binds K (fdK K st kl.init) (pnK st kl.init) []
    rw [hp]
    exact hf.bind
  · obtain ⟨kl, hm⟩ := clsE c hg
    have q := clsF c kl hm
    unfold chkC at q
    simp only [Bool.and_eq_true] at q
    obtain ⟨⟨⟨⟨⟨⟨⟨⟨⟨⟨⟨⟨⟨⟨⟨⟨⟨⟨⟨⟨⟨q1, q2⟩, q3⟩, q4⟩, q5⟩, q6⟩, q7⟩, q8⟩, q9⟩, q10⟩, q11⟩, q12⟩, q13⟩, q14⟩, q15⟩, q16⟩, q17⟩, q18⟩, q19⟩, q20⟩, q21⟩, q22⟩ := q
    exact ⟨isBlt_eq q17, isBlt_eq q18, beq_iff_eq.mp q19, beq_iff_eq.mp q20, isBlt_eq q21, isNo_eq q22⟩
  · obtain ⟨e, he, rfl, _⟩ := hasE g (by assumption)
    have hen : st.fns.find? (fun x => x.g == e.g) = some e := find_nodup c7 he
    have hk2 : kwOk st e.g perm ks = true := hk
    unfold kwOk at hk2
    rw [hen] at hk2
    simp only [Bool.and_eq_true, decide_eq_true_eq, List.all_eq_true] at hk2
    obtain ⟨⟨⟨⟨k1, k2⟩, k3⟩, k4⟩, k5⟩ := hk2
    obtain ⟨F, _, hf, hp⟩ := fact e he
    refine ⟨?_, k5, k2, fun p0 perm1 ks1 e1 e2 => ?_⟩
    show KBn K (fdK K st e.g) (pnK st e.g) 0 ks _ _
    rw [hp]
    exact hf.kw perm ks k1 k2 k3 fun k hk => List.contains_iff_mem.mp (k4 k hk)
    subst e1 e2
    show KBn K (fdK K st e.g) (pnK st e.g) 1 ks1 _ _
    rw [hp]
    refine hf.kw1 p0 perm1 ks1 ?_ (fun j hj => ?_) k3 fun k hk => List.contains_iff_mem.mp (k4 k (List.mem_cons_of_mem _ hk))
    · rw [← k1, List.map_cons, List.map_map]
      rfl
    · have := k2 (j + 1) (List.mem_cons_of_mem _ (List.mem_map.mpr ⟨j, hj, rfl⟩))
      simpa using this
  · have h1 := c6 a (List.contains_iff_mem.mp ha) b (List.contains_iff_mem.mp hb)
    have hn' : st.nm a = st.nm b := hn
    rw [hn'] at h1
    simpa using h1
  · obtain ⟨kl, hm⟩ := clsE c hg
    have q := clsF c kl hm
    unfold chkC at q
    simp only [Bool.and_eq_true] at q
    obtain ⟨⟨⟨⟨⟨⟨⟨⟨⟨⟨⟨⟨⟨⟨⟨⟨⟨⟨⟨⟨⟨q1, q2⟩, q3⟩, q4⟩, q5⟩, q6⟩, q7⟩, q8⟩, q9⟩, q10⟩, q11⟩, q12⟩, q13⟩, q14⟩, q15⟩, q16⟩, q17⟩, q18⟩, q19⟩, q20⟩, q21⟩, q22⟩ := q
    exact isNo_eq (List.all_eq_true.mp q16 a (List.contains_iff_mem.mp ha))
  · have tyM : ∀ t, tyHas st.chk t = true → t ∈ allTys st := fun t ht => by
      cases t with
      | ty n =>
        refine List.mem_append_left _ (List.mem_map.mpr ⟨n, ?_, rfl⟩)
        simpa [tyHas] using ht
      | cls c =>
        obtain ⟨kl, hm⟩ := clsE c ht
        exact List.mem_append_right _ (List.mem_map.mpr ⟨(c, kl), hm, rfl⟩)
    have h3 := List.all_eq_true.mp (List.all_eq_true.mp c4 t1 (tyM t1 h1)) t2 (tyM t2 h2)
    rw [hb] at h3
    simpa using h3
  · have h1 := c5 _ (lookup_mem (show st.col.lookup x = some d from hd))
    split at h1
    · next u hu =>
      obtain ⟨v, r1, r2⟩ := conOk_vr (P := st.P) (lk := lkK K st) h1
      exact ⟨u, v, PySem.W.mg_of KX G hu, r1, r2⟩
    · cases h1
  · have q := c9 c (List.contains_iff_mem.mp hc)
    unfold chkX at q
    simp only [Bool.and_eq_true] at q
    obtain ⟨⟨q1, q2⟩, q9⟩ := q
    have q1' : isRef (PySem.W.nsIn K mainGlobals (st.nm c)) (caK K st c) = true := q1
    refine ⟨mgr q1', fun hx => ?_, fun n hx => ?_, excCB_ok q9⟩
    · rw [show st.xfl.lookup c = none from hx] at q2
      simp only [Bool.and_eq_true, Bool.or_eq_true, beq_iff_eq] at q2
      obtain ⟨⟨⟨q2, q3⟩, q4⟩, q5⟩ := q2
      rcases q3 with (q3 | q3) | q3
      · exact ⟨_, _, _, _, PySem.F.excBase_ArithmeticError, q3, q2, q4, isTyV_eq q5⟩
      · exact ⟨_, _, _, _, PySem.F.excBase_ValueError, q3, q2, q4, isTyV_eq q5⟩
      · exact ⟨_, _, _, _, PySem.F.excBase_LookupError, q3, q2, q4, isTyV_eq q5⟩
    · rw [show st.xfl.lookup c = some n from hx] at q2
      exact chkXV_ok q2
  · have key : ∀ {l : List (Nat × Nat × Bool)}, subOf c h l = some b → (c, h, b) ∈ l := by
      intro l
      induction l with
      | nil => intro z; cases z
      | cons p l ih =>
        obtain ⟨x, y, q⟩ := p
        intro z
        unfold subOf at z
        split at z
        · next e => cases z; rw [← e.1, ← e.2]; exact List.mem_cons_self
        · exact List.mem_cons_of_mem _ (ih z)
    have q := c10 _ (key hb)
    simp only [Bool.and_eq_true, beq_iff_eq] at q
    exact ⟨q.1.1, q.1.2, q.2⟩
  · obtain ⟨e, he, h1⟩ := List.any_eq_true.mp (show (st.tke.any fun e => e.g == g) = true from hg)
    have h1 := beq_iff_eq.mp h1
    subst h1
    have q := c8 e he
    unfold chkT at q
    rw [show st.tkl.lookup e.g = some T from hT] at q
    simp only at q
    split at q
    · cases q
    · next f hf =>
      split at q
      · cases q
      · next fd hfd =>
        simp only [Bool.and_eq_true, decide_eq_true_eq, beq_iff_eq, List.isEmpty_iff] at q
        obtain ⟨⟨⟨⟨⟨⟨⟨⟨⟨⟨⟨⟨⟨h1, h2⟩, h3⟩, h4⟩, h5⟩, h7⟩, h8⟩, h9⟩, h10⟩, h11⟩, h12⟩, h13⟩, h14⟩, h15⟩ := q
        split at h15
        · next b hb =>
          obtain ⟨as, ep, eps⟩ := plainPar_eq h5
          have ed := isNoneV_eq h4
          have ebd := bodyOf_eq hb
          have pl : ∀ us : List Value, us.length = [e.a].length → bindArgs fd ⟨us, []⟩ = pure ([e.a].zip us) := fun us hl => by
            rw [eps] at hl ⊢
            exact bind_plain ep ed (by rw [← eps]; simp) us hl
          obtain ⟨oc, od, sl, lk⟩ := fdAt_eq hfd
          refine ⟨f, fd, .FunctionDef fd.name fd.params b [] none [] fd.scope none fd.name ⟨0, 0, 0, 0⟩, e.N, e.a, PySem.W.mg_of KX G (refOf_eq hf), h8, ?_, .all pl, scopeOk_scope h9, h13, h14, h10, h15⟩
          refine ⟨⟨oc, od, fd.kwdefaults, fd.doc, fd.pyModule, fd.annotations, fd.code, fd.closureTuple, sl, ?_, lk, ?_⟩, h8⟩
          · obtain ⟨a1, a2, a3, a4, a5, a6, a7, a8, a9, a10, a11, a12, a13, a14, a15⟩ := fd
            simp only at h1 h2 h3 ed ebd h11 h12
            subst h1 h2 h3 ed ebd h11
            rw [h12]
            rfl
          · show PySem.W.codeIn K fd.code (st.nm e.g) = true
            rw [← h12]
            exact h7
        · cases h15
  · have q := List.all_eq_true.mp cS (c, m, g) (List.contains_iff_mem.mp hm)
    unfold chkS at q
    simp only [Bool.and_eq_true] at q
    obtain ⟨⟨⟨q1, q2⟩, q3⟩, q4⟩ := q
    refine ⟨mgr q1, ⟨?_, q3⟩⟩
    split at q4
    · next mc hmc =>
      rw [Bool.and_eq_true] at q4
      obtain ⟨q4, q5⟩ := q4
      split at q5
      · next n p b hf =>
        simp only [Bool.and_eq_true, beq_iff_eq] at q5
        obtain ⟨⟨q5, q6⟩, q7⟩ := q5
        obtain ⟨rest, q7⟩ := recTo_eq q7
        subst q5 q6
        exact ⟨mc, p, rest, q4, isBlt_eq q2, hf, q7⟩
      · cases q5
    · cases q4
  · have q := List.map_inj_left.mp hd (x, tb) (List.contains_iff_mem.mp hx)
    have no : ∀ {l : List (Str × Int)}, ([none] : List (Option (Str × Int × Int))) = l.map (fun p => some (p.1, PyData.keyHash pr p.1, p.2)) → False := fun {l} z => by
      cases l with
      | nil => cases z
      | cons a l => simp at z
    simp only at q
    split at q
    · next a ha =>
      split at q
      · exact (no q).elim
      · next hs =>
        unfold dkRow at q
        split at q
        · next n es m sl ho =>
          split at q
          · next hh =>
            simp only [Bool.and_eq_true, beq_iff_eq, Array.isEmpty_iff] at hh
            obtain ⟨rfl, rfl⟩ := hh
            exact ⟨a, PySem.W.mg_of KX G (refOf_eq ha), es, m, ho, by simpa using hs, q⟩
          · exact (no q).elim
        · exact (no q).elim
    · exact (no q).elim
end
end Th
namespace Th
open PySem PySem.Spec PyProof.Rows L2
/-- the law's promise -/
def spLaw (K : PySem.W.Frag) : Sp := fun vs H Q _ => ∃ (a : Addr) (ns : List Int), vs = [.ref a] ∧ (ns.length ≤ 63 ∧ ∀ z ∈ ns, Builtin.Int.intBits z ≤ 1048576) ∧ SqL K H a (ns.map V.int) ∧ ∀ H', Q (.bl true) H'
section
variable {P : Program} {w : World} {K : PySem.W.Frag} {mg mb : Str → Option Value} {k : Nat} {fa a : Addr} {fd : FuncData} {x : Str} {s1 : Shared} {vs : List Value} {ns : List Int}
theorem call_core (KX : K.In s1.heap) (gns : s1.heap.Ns mainGlobals mg) (bns : s1.heap.Ns builtinsNs mb) (hbb : ∀ y : Str, y ≠ "__name__" → mb y = bootBuiltins y) (nl : s1.heap.NoLimit) (gens : s1.gens = #[])
    (obj : s1.heap.get? a = some { cls := .type "list", data := .seq vs.toArray }) (room : RoomG k callerA) (F : ∀ base : Heap, K.In base → base.Ns mainGlobals mg → FnG P w K mg base k fa fd [x] (spLaw K))
    (bd : ∀ (s : Shared) (u : Value), BindsTo s fd ⟨[u], []⟩ [(x, u)]) (n63 : ns.length ≤ 63 ∧ ∀ z ∈ ns, Builtin.Int.intBits z ≤ 1048576) (H : Hp) (only : Only H) (sq : SqL K H a (ns.map V.int)) (hok : HOk P w H s1.heap) (one : ∀ b, H b ≠ none → b = a) (notK : H a ≠ none → K.lookup a = none) :
    codeAny (model P w) callerA (.call (.ref fa) ⟨[.ref a], []⟩) (fun r s' => r = .ok (.ret (.bool true)) ∧ OldK s1.heap s'.heap ∧ s'.os = s1.os ∧ AllBare s'.gens) s1 := by
  have down : ∀ {b : Addr} {o : Obj}, s1.heap.get? b = some o → H b = none → (hidT s1.heap H).get? b = some o := fun p q => hidT_get p q
  have notA : ∀ {b : Addr} {o : Obj} {es : Array DictEntry} {ep : Nat}, s1.heap.get? b = some o → o.data = .dict es ep → H b = none := by
    intro b o es ep p dd
    cases q : H b with
    | none => rfl
    | some u =>
      have hb : b = a := one b (by simp [q])
      rw [hb, obj] at p
      cases p
      cases (show Data.seq vs.toArray _ = Data.dict es ep from dd)
  have nsD : ∀ {b : Addr} {m : Str → Option Value}, s1.heap.Ns b m → (hidT s1.heap H).Ns b m := by
    rintro b m ⟨o, es, ep, p, dd, rest⟩
    exact ⟨o, es, ep, down p (notA p dd), dd, rest⟩
  have kinD : K.In (hidT s1.heap H) := by
    intro b o p
    refine down (KX b o p) ?_
    cases q : H b with
    | none => rfl
    | some u =>
      have hb : b = a := one b (by simp [q])
      rw [hb] at p q
      rw [notK (by simp [q])] at p
      cases p
  have mod : Mod K mg (hidT s1.heap H) := ⟨kinD, nsD gns, ⟨mb, nsD bns, hbb⟩, nl.elim fun mc h => ⟨mc, nsD h.1, h.2⟩⟩
  have e0 : Env0 P w K mg (hidT s1.heap H) callerA [] s1 H :=
    ⟨rfl, mod, fun b o p => of_hidT p, Nat.le_of_eq (hidT_size _ _), trivial, fun b hb => absurd (show b ∈ ([] : List Addr) from hb) (List.not_mem_nil), hok, .of_eq gens⟩
  have sp : spLaw K [V.ref a] H (fun v _ => v = .bl true) (fun _ _ _ => False) := ⟨a, ns, rfl, n63, sq, fun _ => rfl⟩
  refine codeAny_mono ((F _ kinD (nsD gns)).go callerA [] s1 H ⟨[.ref a], []⟩ [.ref a] [.ref a] _ _ room e0 (bd s1 (.ref a)) (.cons rfl .nil) sp) fun r s' out => ?_
  cases r with
  | error e =>
    obtain ⟨_, _, _, _, _, _, _, _, _, _, _, _, z⟩ := out
    exact z.elim
  | ok fl =>
    cases fl <;> first | exact False.elim out | skip
    obtain ⟨v, H', os, bare, un, hok', rv, q⟩ := out
    have qv : v = .bl true := q
    subst qv
    obtain rfl := (show _ = Value.bool true from rv)
    refine ⟨rfl, OldK.of_keep fun b o p => ?_, os, bare⟩
    cases hb : H b with
    | none => exact un.keep b o p hb (fun z => absurd (show b ∈ ([] : List Addr) from z) (List.not_mem_nil)) (List.not_mem_nil)
    | some u =>
      rcases only b with z | ⟨ob, xs, z⟩
      · rw [hb] at z; cases z
      · have g1 := (hok b _ z).1
        have g2 := (hok' b _ (un.frzs b ob _ z)).1
        rw [p] at g1; cases g1
        exact g2
theorem call_law (KX : K.In s1.heap) (gns : s1.heap.Ns mainGlobals mg) (bns : s1.heap.Ns builtinsNs mb) (hbb : ∀ y : Str, y ≠ "__name__" → mb y = bootBuiltins y) (nl : s1.heap.NoLimit) (gens : s1.gens = #[])
    (obj : s1.heap.get? a = some { cls := .type "list", data := .seq vs.toArray }) (ia : IntsAre vs ns) (room : RoomG k callerA) (F : ∀ base : Heap, K.In base → base.Ns mainGlobals mg → FnG P w K mg base k fa fd [x] (spLaw K))
    (bd : ∀ (s : Shared) (u : Value), BindsTo s fd ⟨[u], []⟩ [(x, u)]) (n63 : ns.length ≤ 63 ∧ ∀ z ∈ ns, Builtin.Int.intBits z ≤ 1048576) :
    codeAny (model P w) callerA (.call (.ref fa) ⟨[.ref a], []⟩) (fun r s' => r = .ok (.ret (.bool true)) ∧ OldK s1.heap s'.heap ∧ s'.os = s1.os ∧ AllBare s'.gens) s1 := by
  have rv := vals_ints ia
  have lv := ia.length
  have small : ns.length ≤ sizeLine := Nat.le_trans n63.1 (by decide)
  have go := call_core (vs := vs) (ns := ns) (mb := mb) (x := x) (k := k) KX gns bns hbb nl gens obj room F bd n63
  cases hk : K.lookup a with
  | some o =>
    have p := KX a o hk
    rw [obj] at p
    cases p
    exact go (fun _ => none) (fun _ => .inl rfl) (.inr ⟨_, vs.toArray, _, hk, rfl, rfl, rfl, by rw [List.size_toArray, lv]; exact small, by simpa using rv⟩)
      (fun b u z => by cases (show (none : Option HO) = some u from z)) (fun b z => absurd rfl z) fun z => absurd rfl z
  | none =>
    refine go (fun b => if b = a then some (.frz { cls := .type "list", data := .seq vs.toArray } (.lst (ns.map V.int))) else none) (fun b => ?_)
      (.inl (.inr ⟨{ cls := .type "list", data := .seq vs.toArray }, if_pos rfl⟩)) (fun b u z => ?_) (fun b z => ?_) fun _ => hk
    · by_cases e : b = a
      · exact .inr ⟨_, _, if_pos e⟩
      · exact .inl (if_neg e)
    · by_cases e : b = a
      · have z2 := (if_pos e).symm.trans z
        cases z2
        rw [e]
        exact ⟨obj, by simpa using small, vs, _, rv, obj⟩
      · have z2 := (if_neg e).symm.trans z
        cases z2
    · by_cases e : b = a
      · exact e
      · exact absurd (if_neg e) z
end
/-- the goal behind k_head -/
theorem walk_G {l : PySem.W.OpenLaw} {k : Nat} {q : Program} {loose : List Str} {XP : (Str → Option Value) → Heap → Prop} {YP : World → Heap → Prop} {d : DefRec} {K : Params → PySem.W.Frag} {x : Str} (hn : l.most = some 63) (hdf : d.params.defaults = []) (room : RoomG k callerA)
    (hY : ∀ (w : World) (h : Heap), YP w h → (K w.params).In h)
    (F : ∀ (w : World) (mg : Str → Option Value) (fa : Addr) (h : Heap), (K w.params).In h → h.Ns mainGlobals mg → mg d.name = some (.ref fa) → ∃ fd : FuncData, (∀ (s : Shared) (u : Value), BindsTo s fd ⟨[u], []⟩ [(x, u)]) ∧
      ∀ base : Heap, (K w.params).In base → base.Ns mainGlobals mg → FnG l.prog w (K w.params) mg base k fa fd [x] (spLaw (K w.params))) :
    PySem.W.WalkO q loose XP YP l.row.toRowW d [] (fun f vs => PySem.call f vs) := by
  refine Att.attach_callB hn hdf fun w s₀ s₁ mg mb fa o pm cd doc a vs ns G Y ho hd hcd hmg hobj hints hlen hbits hg => ?_
  obtain ⟨fd, hb, hF⟩ := F w mg fa _ (hY w _ Y) G.T.g hmg
  exact call_law (hY w _ Y) G.T.g G.T.b G.T.builtins G.T.nolimit hg hobj hints room hF hb ⟨hlen, hbits⟩
/-- .. where a table is known -/
def spLawT (K : PySem.W.Frag) (T : List (Addr × Str)) : Sp := fun vs H Q _ => ∃ (a : Addr) (ns : List Int), vs = [.ref a] ∧ (ns.length ≤ 63 ∧ ∀ z ∈ ns, Builtin.Int.intBits z ≤ 1048576) ∧ SqL K H a (ns.map V.int) ∧ LamX.Tabs T H ∧ ∀ H', Q (.bl true) H'
section
variable {K : PySem.W.Frag} {st : Stat}
/-- the law's def, from its meaning -/
theorem law_fnT {P0 : Program} {w : World} {h : Heap} {mg : Str → Option Value} {fa : Addr} {e : FnE} {x : Str} (d : Nat) (KX : K.In h) (G : h.Ns mainGlobals mg) (hc : chkAll K st = true) (he : e ∈ st.fns) (hat : e.at_ = .top) (hps : e.ps = [x])
    (hmg : mg (st.nm e.g) = some (.ref fa)) (math : ∀ ns : List Int, ns.length ≤ 63 → (∀ z ∈ ns, Builtin.Int.intBits z ≤ 1048576) → ∃ S', (orc st.P (d + 1)).fn e.g [.frz (ns.map .int)] [] = .ok (.bl true) S') (hd : dkAll K st = dkDue w.params st) :
    ∃ fd : FuncData, (∀ (s : Shared) (u : Value), BindsTo s fd ⟨[u], []⟩ [(x, u)]) ∧ ∀ base : Heap, K.In base → base.Ns mainGlobals mg → ((∃ g, st.P.tk g ≠ none) → LamX.TabB base mg (lamC K st) (lamP K st)) → FnG P0 w K mg base (d + 3) fa fd [x] (spLawT K (lamT K st)) := by
  have GL := glob_of KX G hc hd
  have hc2 := hc
  unfold chkAll at hc2
  rw [Bool.and_eq_true] at hc2
  obtain ⟨hc2, _⟩ := hc2
  unfold chkAll0 at hc2
  simp only [Bool.and_eq_true, decide_eq_true_eq, List.all_eq_true] at hc2
  obtain ⟨⟨⟨⟨⟨⟨⟨_, c2⟩, _⟩, _⟩, _⟩, _⟩, c7⟩, _⟩ := hc2
  obtain ⟨F, f, fd, hF, hfa⟩ := chkF_ok (c2 e he)
  have hen : entry st e.g = some e := find_nodup c7 he
  have w1 := hfa.wh
  rw [hat] at w1
  have e1 : f = fa := by
    have := PySem.W.mg_of KX G (refOf_eq w1)
    rw [hmg] at this
    cases this
    rfl
  subst e1
  have e2 : faK K st e.g = f := by
    unfold faK
    rw [hen]
    show (whK1 K st e.g e.at_).getD 0 = f
    rw [hfa.wh]
    rfl
  have e3 : fdK K st e.g = fd := by
    unfold fdK
    rw [e2, hfa.at_]
    rfl
  have hhas : st.chk.has e.g = true := List.any_eq_true.mpr ⟨e, he, by simp [hat, At.isInit]⟩
  refine ⟨fd, fun s u => ?_, fun base _ _ TB => ?_⟩
  · have hb := hfa.plain [u] (by rw [hps]; rfl)
    rw [hps] at hb
    exact .of_eq hb
  · have hk := fn_kept (P0 := P0) (w := w) (base := base) (kept GL TB d) hF (GL.fns e.g F hhas hF)
    have eo : callF st.P (orc st.P d) e.g = (orc st.P (d + 1)).fn e.g := by cases d <;> rfl
    have hk2 : FnG P0 w K mg base (d + 3) f fd [x] (SpOk ⟨st.P, K, lkK K st, fun _ => False⟩ ((orc st.P (d + 1)).fn e.g)) := by
      rw [← eo, ← e2, ← e3]
      have : pnK st e.g = [x] := by
        unfold pnK
        rw [hen]
        exact hps
      rw [← this]
      exact hk
    refine hk2.imp fun vs H Q E ⟨a, ns, ev, hl, sq, tb, q⟩ => ?_
    obtain ⟨S', hm⟩ := math ns hl.1 hl.2
    refine ⟨fun _ => False, [], [], [.frz (ns.map .int)], ⟨rfl, List.nodup_nil, fun n o a h1 _ => by simp at h1, fun _ z => z.elim, fun _ z => z.elim, tb⟩, ?_, ?_⟩
    · rw [ev]
      rcases sq with sq | sq
      · exact .cons (.frz sq (List.not_mem_nil) (fun z => z) VRs.ofInts) .nil
      · exact .cons (.frzK sq VRs.ofInts) .nil
    · rw [hm]
      intro μ' H' v R E' V'
      cases V'
      exact q H'
theorem law_fn {P0 : Program} {w : World} {h : Heap} {mg : Str → Option Value} {fa : Addr} {e : FnE} {x : Str} (d : Nat) (KX : K.In h) (G : h.Ns mainGlobals mg) (hc : chkAll K st = true) (he : e ∈ st.fns) (hat : e.at_ = .top) (hps : e.ps = [x])
    (hmg : mg (st.nm e.g) = some (.ref fa)) (math : ∀ ns : List Int, ns.length ≤ 63 → (∀ z ∈ ns, Builtin.Int.intBits z ≤ 1048576) → ∃ S', (orc st.P (d + 1)).fn e.g [.frz (ns.map .int)] [] = .ok (.bl true) S') (ht : st.tkl = [] := by rfl) (hd : dkAll K st = dkDue w.params st := by rfl) :
    ∃ fd : FuncData, (∀ (s : Shared) (u : Value), BindsTo s fd ⟨[u], []⟩ [(x, u)]) ∧ ∀ base : Heap, K.In base → base.Ns mainGlobals mg → FnG P0 w K mg base (d + 3) fa fd [x] (spLaw K) := by
  obtain ⟨fd, h1, h2⟩ := law_fnT (P0 := P0) (w := w) d KX G hc he hat hps hmg math hd
  refine ⟨fd, h1, fun base b1 b2 => (h2 base b1 b2 fun ⟨g, hg⟩ => absurd (by show st.tkl.lookup g = none; rw [ht]; rfl) hg).imp fun vs H Q E q => ?_⟩
  obtain ⟨a, ns, q1, q2, q3, q4⟩ := q
  refine ⟨a, ns, q1, q2, q3, ?_, q4⟩
  unfold lamT
  rw [ht]
  exact fun p hp => absurd hp List.not_mem_nil
end
end Th
namespace Th
open PySem
theorem orc_fn (P : Pr) (d g : Nat) (ds : List D) (S : Store) : (orc P (d + 1)).fn g ds S = callF P (orc P d) g ds S := by cases d <;> rfl
theorem orc_prop (P : Pr) (d g : Nat) (ds : List D) (S : Store) : (orc P (d + 2)).prop g ds S = callF P (orc P d) g ds S := rfl
theorem orc_make (P : Pr) (d c : Nat) (ds : List D) (S : Store) : (orc P (d + 2)).make c ds S = callI P (orc P d) c ds S := rfl
theorem callF_of {P : Pr} {C : Orc} {g : Nat} {F : Fn} (h : P.fn g = some F) (ds : List D) (S : Store) : callF P C g ds S = runF P C F ds S := by unfold callF; rw [h]
def Ok {α : Type} (o : Out α) (Q : α → Store → Prop) : Prop := ∃ a S, o = .ok a S ∧ Q a S
theorem Ok.ret {α : Type} {a : α} {S : Store} {Q : α → Store → Prop} (h : Q a S) : Ok (.ok a S) Q := ⟨a, S, rfl, h⟩
theorem Ok.bnd {α β : Type} {o : Out α} {k : α → Store → Out β} {Q : β → Store → Prop} {R : α → Store → Prop} (h : Ok o R) (n : ∀ a S, R a S → Ok (k a S) Q) : Ok (o.bind k) Q := by
  obtain ⟨a, S, e, r⟩ := h
  rw [e]
  exact n a S r
theorem Ok.imp {α : Type} {o : Out α} {Q R : α → Store → Prop} (h : Ok o R) (n : ∀ a S, R a S → Q a S) : Ok o Q := by
  obtain ⟨a, S, e, r⟩ := h
  exact ⟨a, S, e, n a S r⟩
theorem Ok.eq {α : Type} {o : Out α} {a : α} {S : Store} {Q : α → Store → Prop} (e : o = .ok a S) (h : Q a S) : Ok o Q := ⟨a, S, e, h⟩
/-- a statement goes well -/
def GoM (r : SO) (nx : Fr → Store → Prop) (rt : D → Store → Prop) (bk ct : Fr → Store → Prop) : Prop := match r with
  | .nx f S => nx f S
  | .rt d S => rt d S
  | .bk f S => bk f S
  | .ct f S => ct f S
  | _ => False
def noF : Fr → Store → Prop := fun _ _ => False
def noD : D → Store → Prop := fun _ _ => False
theorem GoM.so {α : Type} {o : Out α} {f : Fr} {k : α → Store → SO} {nx : Fr → Store → Prop} {rt : D → Store → Prop} {bk ct : Fr → Store → Prop} {R : α → Store → Prop} (h : Ok o R) (n : ∀ a S, R a S → GoM (k a S) nx rt bk ct) : GoM (o.so f k) nx rt bk ct := by
  obtain ⟨a, S, e, r⟩ := h
  rw [e]
  exact n a S r
theorem GoM.imp {r : SO} {nx nx' : Fr → Store → Prop} {rt rt' : D → Store → Prop} {bk bk' ct ct' : Fr → Store → Prop} (h : GoM r nx rt bk ct) (h1 : ∀ f S, nx f S → nx' f S) (h2 : ∀ d S, rt d S → rt' d S) (h3 : ∀ f S, bk f S → bk' f S) (h4 : ∀ f S, ct f S → ct' f S) : GoM r nx' rt' bk' ct' := by
  cases r with
  | nx f S => exact h1 _ _ h
  | rt d S => exact h2 _ _ h
  | bk f S => exact h3 _ _ h
  | ct f S => exact h4 _ _ h
  | ex _ _ _ => exact h
  | bad => exact h
theorem GoM.cons {P : Pr} {C : Orc} {s : Sm} {ss : List Sm} {f : Fr} {S : Store} {nx : Fr → Store → Prop} {rt : D → Store → Prop} {bk ct : Fr → Store → Prop} {R : Fr → Store → Prop} (h : GoM (ex P C s f S) R rt bk ct) (n : ∀ f' S', R f' S' → GoM (exs P C ss f' S') nx rt bk ct) : GoM (exs P C (s :: ss) f S) nx rt bk ct := by
  rw [exs]
  cases e : ex P C s f S with
  | nx f1 S1 => rw [e] at h; exact n _ _ h
  | rt d S1 => rw [e] at h; exact h
  | bk f1 S1 => rw [e] at h; exact h
  | ct f1 S1 => rw [e] at h; exact h
  | ex _ _ _ => rw [e] at h; exact h
  | bad => rw [e] at h; exact h
theorem GoM.nil {P : Pr} {C : Orc} {f : Fr} {S : Store} {nx : Fr → Store → Prop} {rt : D → Store → Prop} {bk ct : Fr → Store → Prop} (h : nx f S) : GoM (exs P C [] f S) nx rt bk ct := by
  rw [exs]
  exact h
/-- a call goes well -/
theorem Ok.runM {P : Pr} {C : Orc} {F : Fn} {ds : List D} {S : Store} {Q : D → Store → Prop} (hl : ds.length = F.np) (h : GoM (exs P C F.body ⟨ds.map some ++ List.replicate (F.ns - ds.length) none, []⟩ S) (fun _ S' => Q .non S') Q noF noF) : Ok (runF P C F ds S) Q := by
  unfold runF
  rw [if_pos hl]
  cases e : exs P C F.body ⟨ds.map some ++ List.replicate (F.ns - ds.length) none, []⟩ S with
  | nx f S1 => rw [e] at h; exact ⟨_, _, rfl, h⟩
  | rt d S1 => rw [e] at h; exact ⟨_, _, rfl, h⟩
  | bk f1 S1 => rw [e] at h; exact h.elim
  | ct f1 S1 => rw [e] at h; exact h.elim
  | ex _ _ _ => rw [e] at h; exact h.elim
  | bad => rw [e] at h; exact h.elim
/-- a for's turns; I by what is left -/
theorem GoM.for {held : List (Nat × List D)} {tg : D → Fr → Store → Out Fr} {body : Fr → Store → SO} {nx : Fr → Store → Prop} {rt : D → Store → Prop} {bk ct : Fr → Store → Prop} (I : List D → Fr → Store → Prop)
    (step : ∀ x xs f S, I (x :: xs) f S → Src.still held S ∧ ∃ f1 S1, tg x f S = .ok f1 S1 ∧ GoM (body f1 S1) (I xs) rt nx (I xs)) (done : ∀ f S, I [] f S → Src.still held S ∧ nx f S) :
    ∀ (xs : List D) (f : Fr) (S : Store), I xs f S → GoM (forL held tg body xs f S) nx rt bk ct
  | [], f, S, h => by
    obtain ⟨h1, h2⟩ := done f S h
    unfold forL
    rw [if_pos h1]
    exact h2
  | x :: xs, f, S, h => by
    obtain ⟨h1, f1, S1, h2, h3⟩ := step x xs f S h
    unfold forL
    rw [if_pos h1, h2]
    show GoM (match body f1 S1 with
      | .nx f2 S2 => forL held tg body xs f2 S2
      | .ct f2 S2 => forL held tg body xs f2 S2
      | .bk f2 S2 => .nx f2 S2
      | r => r) nx rt bk ct
    cases e : body f1 S1 with
    | nx f2 S2 => rw [e] at h3; exact GoM.for I step done xs f2 S2 h3
    | ct f2 S2 => rw [e] at h3; exact GoM.for I step done xs f2 S2 h3
    | bk f2 S2 => rw [e] at h3; exact h3
    | rt d S2 => rw [e] at h3; exact h3
    | ex _ _ _ => rw [e] at h3; exact h3.elim
    | bad => rw [e] at h3; exact h3.elim
/-- .. as a statement that does not run by itself -/
def Go (r : SO) (nx : Fr → Store → Prop) (rt : D → Store → Prop) (bk ct : Fr → Store → Prop) : Prop := ∃ _ : Unit, GoM r nx rt bk ct
theorem Go.m {r : SO} {nx : Fr → Store → Prop} {rt : D → Store → Prop} {bk ct : Fr → Store → Prop} (h : Go r nx rt bk ct) : GoM r nx rt bk ct := h.elim fun _ q => q
theorem Go.so {α : Type} {o : Out α} {f : Fr} {k : α → Store → SO} {nx : Fr → Store → Prop} {rt : D → Store → Prop} {bk ct : Fr → Store → Prop} {R : α → Store → Prop} (h : Ok o R) (n : ∀ a S, R a S → Go (k a S) nx rt bk ct) : Go (o.so f k) nx rt bk ct := ⟨(), GoM.so h fun a S r => (n a S r).m⟩
theorem Go.imp {r : SO} {nx nx' : Fr → Store → Prop} {rt rt' : D → Store → Prop} {bk bk' ct ct' : Fr → Store → Prop} (h : Go r nx rt bk ct) (h1 : ∀ f S, nx f S → nx' f S) (h2 : ∀ d S, rt d S → rt' d S) (h3 : ∀ f S, bk f S → bk' f S) (h4 : ∀ f S, ct f S → ct' f S) : Go r nx' rt' bk' ct' := ⟨(), GoM.imp h.m h1 h2 h3 h4⟩
theorem Go.cons {P : Pr} {C : Orc} {s : Sm} {ss : List Sm} {f : Fr} {S : Store} {nx : Fr → Store → Prop} {rt : D → Store → Prop} {bk ct : Fr → Store → Prop} {R : Fr → Store → Prop} (h : Go (ex P C s f S) R rt bk ct) (n : ∀ f' S', R f' S' → Go (exs P C ss f' S') nx rt bk ct) : Go (exs P C (s :: ss) f S) nx rt bk ct := ⟨(), GoM.cons h.m fun f' S' r => (n f' S' r).m⟩
theorem Go.nil {P : Pr} {C : Orc} {f : Fr} {S : Store} {nx : Fr → Store → Prop} {rt : D → Store → Prop} {bk ct : Fr → Store → Prop} (h : nx f S) : Go (exs P C [] f S) nx rt bk ct := ⟨(), GoM.nil h⟩
theorem Ok.run {P : Pr} {C : Orc} {F : Fn} {ds : List D} {S : Store} {Q : D → Store → Prop} (hl : ds.length = F.np) (h : Go (exs P C F.body ⟨ds.map some ++ List.replicate (F.ns - ds.length) none, []⟩ S) (fun _ S' => Q .non S') Q noF noF) : Ok (runF P C F ds S) Q := Ok.runM hl h.m
theorem Go.for {held : List (Nat × List D)} {tg : D → Fr → Store → Out Fr} {body : Fr → Store → SO} {nx : Fr → Store → Prop} {rt : D → Store → Prop} {bk ct : Fr → Store → Prop} (I : List D → Fr → Store → Prop)
    (step : ∀ x xs f S, I (x :: xs) f S → Src.still held S ∧ ∃ f1 S1, tg x f S = .ok f1 S1 ∧ Go (body f1 S1) (I xs) rt nx (I xs)) (done : ∀ f S, I [] f S → Src.still held S ∧ nx f S) (xs : List D) (f : Fr) (S : Store) (h : I xs f S) : Go (forL held tg body xs f S) nx rt bk ct :=
  ⟨(), GoM.for I (fun x xs f S h => by
    obtain ⟨q1, f1, S1, q2, q3⟩ := step x xs f S h
    exact ⟨q1, f1, S1, q2, q3.m⟩) done xs f S h⟩
/-- .. with one; I by what is done and what is left -/
theorem Ok.comp {held : List (Nat × List D)} {turn : D → Store → Out (Option D)} {Q : List D → Store → Prop} (I : List D → List D → Store → Prop)
    (step : ∀ x xs acc S, I (x :: xs) acc S → Src.still held S ∧ Ok (turn x S) (fun o S' => match o with
      | some y => acc.length < sizeLine ∧ I xs (acc ++ [y]) S'
      | none => I xs acc S')) (done : ∀ acc S, I [] acc S → Src.still held S ∧ Q acc S) : ∀ (xs acc : List D) (S : Store), I xs acc S → Ok (compL held turn xs acc S) Q
  | [], acc, S, h => by
    obtain ⟨h1, h2⟩ := done acc S h
    unfold compL
    rw [if_pos h1]
    exact .ret h2
  | x :: xs, acc, S, h => by
    obtain ⟨h1, o, S1, h2, h3⟩ := step x xs acc S h
    unfold compL
    rw [if_pos h1, h2]
    cases o with
    | none => exact Ok.comp I step done xs acc S1 h3
    | some y =>
      show Ok (if acc.length < sizeLine then compL held turn xs (acc ++ [y]) S1 else .bad) Q
      rw [if_pos h3.1]
      exact Ok.comp I step done xs (acc ++ [y]) S1 h3.2
theorem still_nil {S : Store} : Src.still [] S := fun p h => by cases h
end Th
namespace Th
open PySem
theorem cop_eqD (S : Store) (x y : D) {p q : PyData} (h1 : pd S x = some p) (h2 : pd S y = some q) : cop S .eq x y = some (p.eqv q) := by
  show (match pd S x, pd S y with
    | some p, some q => some (p.eqv q)
    | _, _ => none) = _
  rw [h1, h2]
theorem cop_neD (S : Store) (x y : D) {p q : PyData} (h1 : pd S x = some p) (h2 : pd S y = some q) : cop S .ne x y = some (!p.eqv q) := by
  show (match pd S x, pd S y with
    | some p, some q => some (!p.eqv q)
    | _, _ => none) = _
  rw [h1, h2]
theorem pd_notStr {S : Store} {y : D} {q : List PyData} (h : pd S y = some (.tuple q) ∨ pd S y = some (.list q)) (z : Str) : y ≠ .str z := fun e => by
  subst e
  unfold pd at h
  simp only [toP] at h
  split at h <;> simp at h
theorem cop_inD (S : Store) (x y : D) {p : PyData} {q : List PyData} (h1 : pd S x = some p) (h2 : pd S y = some (.tuple q) ∨ pd S y = some (.list q)) : cop S .in_ x y = some (q.any fun z => z.eqv p) := by
  have ns := pd_notStr h2
  have e : cop S .in_ x y = (match pd S x, pd S y with
    | some p, some (.list q) => some (q.any fun z => z.eqv p)
    | some p, some (.tuple q) => some (q.any fun z => z.eqv p)
    | _, _ => none) := by
    cases y <;> first | (exact absurd rfl (ns _); done) | (cases x <;> rfl)
  rw [e]
  rcases h2 with h2 | h2 <;> rw [h1, h2]
theorem cop_ninD (S : Store) (x y : D) {p : PyData} {q : List PyData} (h1 : pd S x = some p) (h2 : pd S y = some (.tuple q) ∨ pd S y = some (.list q)) : cop S .notIn x y = some (!q.any fun z => z.eqv p) := by
  have ns := pd_notStr h2
  have e : cop S .notIn x y = (match pd S x, pd S y with
    | some p, some (.list q) => some (!q.any fun z => z.eqv p)
    | some p, some (.tuple q) => some (!q.any fun z => z.eqv p)
    | _, _ => none) := by
    cases y <;> first | (exact absurd rfl (ns _); done) | (cases x <;> rfl)
  rw [e]
  rcases h2 with h2 | h2 <;> rw [h1, h2]
/-- a type whose values stand as plain data -/
structure Enc (α : Type) [DecidableEq α] where
  e : α → D
  p : α → PyData
  dp : Nat
  to : ∀ (h : Nat → Option PyData) (a : α), toP h (e a) = some (p a)
  lay : ∀ a, (p a).canLay0 = true
  dep : ∀ a, (p a).depth ≤ dp
  eqv : ∀ a b, PyData.eqv (p a) (p b) = decide (a = b)
namespace Enc
def int : Enc Int := ⟨.int, .int, 0, fun _ _ => rfl, fun _ => by simp [PyData.canLay0], fun _ => by simp [PyData.depth], fun a b => by
  rw [PyData.eqv]
  exact Bool.eq_iff_iff.mpr ⟨fun h => decide_eq_true (beq_iff_eq.mp h), fun h => beq_iff_eq.mpr (of_decide_eq_true h)⟩⟩
def bl : Enc Bool := ⟨.bl, .bool, 0, fun _ _ => rfl, fun _ => by simp [PyData.canLay0], fun _ => by simp [PyData.depth], fun a b => by
  rw [PyData.eqv]
  exact Bool.eq_iff_iff.mpr ⟨fun h => decide_eq_true (beq_iff_eq.mp h), fun h => beq_iff_eq.mpr (of_decide_eq_true h)⟩⟩
section
variable {α : Type} [DecidableEq α] (E : Enc α)
theorem tos (h : Nat → Option PyData) : ∀ l : List α, toPs h (l.map E.e) = some (l.map E.p)
  | [] => by simp [toPs]
  | a :: l => by simp [toPs, E.to h a, tos h l]
theorem lays : ∀ l : List α, PyData.canLayAll0 (l.map E.p) = true
  | [] => by simp [PyData.canLayAll0]
  | a :: l => by simp [PyData.canLayAll0, E.lay a, lays l]
theorem deps : ∀ l : List α, PyData.depthAll (l.map E.p) ≤ E.dp
  | [] => by simp [PyData.depthAll]
  | a :: l => by
    simp only [List.map_cons, PyData.depthAll]
    exact Nat.max_le.mpr ⟨E.dep a, deps l⟩
theorem eqvs : ∀ l m : List α, PyData.eqvAll (l.map E.p) (m.map E.p) = decide (l = m)
  | [], [] => by simp [PyData.eqvAll]
  | [], _ :: _ => by simp [PyData.eqvAll]
  | _ :: _, [] => by simp [PyData.eqvAll]
  | a :: l, b :: m => by simp [PyData.eqvAll, E.eqv a b, eqvs l m]
def tup : Enc (List α) := ⟨fun l => .tup (l.map E.e), fun l => .tuple (l.map E.p), E.dp + 1, fun h l => by simp [toP, E.tos h l], fun l => by simp [PyData.canLay0, E.lays l], fun l => by
  simp only [PyData.depth]
  exact Nat.succ_le_succ (E.deps l), fun l m => by rw [PyData.eqv, E.eqvs]⟩
def lst : Enc (List α) := ⟨fun l => .lst (l.map E.e), fun l => .list (l.map E.p), E.dp + 1, fun h l => by simp [toP, E.tos h l], fun l => by simp [PyData.canLay0, E.lays l], fun l => by
  simp only [PyData.depth]
  exact Nat.succ_le_succ (E.deps l), fun l m => by rw [PyData.eqv, E.eqvs]⟩
variable {β : Type} [DecidableEq β] (F : Enc β)
def pair : Enc (α × β) := ⟨fun x => .tup [E.e x.1, F.e x.2], fun x => .tuple [E.p x.1, F.p x.2], max E.dp F.dp + 1, fun h x => by simp [toP, toPs, E.to h, F.to h], fun x => by simp [PyData.canLay0, PyData.canLayAll0, E.lay, F.lay], fun x => by
  simp only [PyData.depth, PyData.depthAll]
  have h1 := E.dep x.1
  have h2 := F.dep x.2
  omega, fun x y => by
  obtain ⟨a, b⟩ := x
  obtain ⟨c, d⟩ := y
  simp [PyData.eqv, PyData.eqvAll, E.eqv, F.eqv]⟩
theorem pd_eq (hd : E.dp ≤ 64) (S : Store) (a : α) : pd S (E.e a) = some (E.p a) := by
  unfold pd
  rw [E.to]
  have h1 : SeqAt.shaped (E.p a) = true := by
    unfold SeqAt.shaped
    rw [E.lay a, Bool.true_and, decide_eq_true_eq]
    exact Nat.le_trans (E.dep a) hd
  simp [h1]
theorem cop_eq (hd : E.dp ≤ 64) (S : Store) (a b : α) (x y : D) (hx : x = E.e a) (hy : y = E.e b) : cop S .eq x y = some (decide (a = b)) := by
  subst hx hy
  rw [cop_eqD S _ _ (E.pd_eq hd S a) (E.pd_eq hd S b), E.eqv]
theorem cop_ne (hd : E.dp ≤ 64) (S : Store) (a b : α) (x y : D) (hx : x = E.e a) (hy : y = E.e b) : cop S .ne x y = some (!decide (a = b)) := by
  subst hx hy
  rw [cop_neD S _ _ (E.pd_eq hd S a) (E.pd_eq hd S b), E.eqv]
theorem any_eq (l : List α) (a : α) : ((l.map E.p).any fun z => PyData.eqv z (E.p a)) = decide (a ∈ l) := by
  induction l with
  | nil => simp
  | cons b l ih =>
    rw [List.map_cons, List.any_cons, ih, E.eqv]
    by_cases h : b = a
    · subst h; simp
    · have h2 : ¬ a = b := fun z => h z.symm
      simp [h, h2]
theorem cop_inT (hd : E.dp + 1 ≤ 64) (S : Store) (a : α) (l : List α) (x y : D) (hx : x = E.e a) (hy : y = .tup (l.map E.e)) : cop S .in_ x y = some (decide (a ∈ l)) := by
  subst hx hy
  rw [cop_inD S (E.e a) (.tup (l.map E.e)) (E.pd_eq (Nat.le_of_succ_le hd) S a) (.inl (E.tup.pd_eq hd S l)), E.any_eq]
theorem cop_ninT (hd : E.dp + 1 ≤ 64) (S : Store) (a : α) (l : List α) (x y : D) (hx : x = E.e a) (hy : y = .tup (l.map E.e)) : cop S .notIn x y = some (!decide (a ∈ l)) := by
  subst hx hy
  rw [cop_ninD S (E.e a) (.tup (l.map E.e)) (E.pd_eq (Nat.le_of_succ_le hd) S a) (.inl (E.tup.pd_eq hd S l)), E.any_eq]
theorem cop_inL (hd : E.dp + 1 ≤ 64) (S : Store) (a : α) (l : List α) (x y : D) (hx : x = E.e a) (hy : pd S y = some (.list (l.map E.p))) : cop S .in_ x y = some (decide (a ∈ l)) := by
  subst hx
  rw [cop_inD S _ _ (E.pd_eq (Nat.le_of_succ_le hd) S a) (.inr hy), E.any_eq]
/-- a list of the store -/
theorem pd_loc (hd : E.dp + 1 ≤ 64) (S : Store) (n : Nat) (l : List α) (h : S[n]? = some (.lst (l.map E.e))) : pd S (.loc n) = some (.list (l.map E.p)) := by
  have h1 : SeqAt.shaped (.list (l.map E.p)) = true := by
    unfold SeqAt.shaped
    rw [show (PyData.list (l.map E.p)).canLay0 = true from E.lst.lay l, Bool.true_and, decide_eq_true_eq]
    exact Nat.le_trans (E.lst.dep l) hd
  unfold pd
  simp only [toP, locP, h, E.tos]
  simp [h1]
end
end Enc
theorem comp_map {α : Type} {held : List (Nat × List D)} {turn : D → Store → Out (Option D)} {S : Store} {c h : α → D} {l : List α} (st : Src.still held S) (ht : ∀ a ∈ l, turn (c a) S = .ok (some (h a)) S) (hl : l.length ≤ sizeLine) : compL held turn (l.map c) [] S = .ok (l.map h) S := by
  have key : ∀ (l : List α) (acc : List D), (∀ a ∈ l, turn (c a) S = .ok (some (h a)) S) → acc.length + l.length ≤ sizeLine → compL held turn (l.map c) acc S = .ok (acc ++ l.map h) S := by
    intro l
    induction l with
    | nil =>
      intro acc _ _
      unfold compL
      simp [st]
    | cons a l ih =>
      intro acc ht hl
      rw [List.map_cons]
      unfold compL
      rw [if_pos st, ht a List.mem_cons_self]
      simp only [List.length_cons] at hl
      simp only
      rw [if_pos (by omega), ih _ (fun b hb => ht b (List.mem_cons_of_mem _ hb)) (by simp; omega)]
      simp
  simpa using key l [] ht (by simpa using hl)
theorem comp_filter {α : Type} {held : List (Nat × List D)} {turn : D → Store → Out (Option D)} {S : Store} {c h : α → D} {p : α → Bool} {l : List α} (st : Src.still held S) (ht : ∀ a ∈ l, turn (c a) S = .ok (if p a = true then some (h a) else none) S) (hl : l.length ≤ sizeLine) : compL held turn (l.map c) [] S = .ok ((l.filter p).map h) S := by
  have key : ∀ (l : List α) (acc : List D), (∀ a ∈ l, turn (c a) S = .ok (if p a = true then some (h a) else none) S) → acc.length + l.length ≤ sizeLine → compL held turn (l.map c) acc S = .ok (acc ++ (l.filter p).map h) S := by
    intro l
    induction l with
    | nil =>
      intro acc _ _
      unfold compL
      simp [st]
    | cons a l ih =>
      intro acc ht hl
      rw [List.map_cons]
      unfold compL
      rw [if_pos st, ht a List.mem_cons_self]
      simp only [List.length_cons] at hl
      cases hp : p a with
      | true =>
        simp only [if_pos]
        rw [if_pos (by omega), ih _ (fun b hb => ht b (List.mem_cons_of_mem _ hb)) (by simp; omega)]
        simp [hp]
      | false =>
        simp only [Bool.false_eq_true, if_false]
        rw [ih _ (fun b hb => ht b (List.mem_cons_of_mem _ hb)) (by omega)]
        simp [hp]
  simpa using key l [] ht (by simpa using hl)
theorem bls_map {α : Type} (l : List α) (p : α → Bool) : blsOf (l.map fun a => D.bl (p a)) = some (l.map p) := by
  induction l with
  | nil => rfl
  | cons a l ih =>
    unfold blsOf at ih ⊢
    simp [List.mapM_cons, blOf, ih]
theorem ints_map {α : Type} (l : List α) (p : α → Int) : intsOf (l.map fun a => D.int (p a)) = some (l.map p) := by
  induction l with
  | nil => rfl
  | cons a l ih =>
    unfold intsOf at ih ⊢
    simp [List.mapM_cons, intOf, ih]
end Th
namespace Th
open PySem
section
variable {P : Pr} {C : Orc} {f : Fr} {S : Store}
theorem bind_ok {α β : Type} (a : α) (S : Store) (k : α → Store → Out β) : (Out.ok a S).bind k = k a S := (rfl)
theorem of_some {α : Type} (a : α) (S : Store) : Out.of (some a) S = .ok a S := (rfl)
theorem so_ok {α : Type} (a : α) (S : Store) (f : Fr) (k : α → Store → SO) : (Out.ok a S).so f k = k a S := (rfl)
theorem calm_ok {α : Type} (a : α) (S : Store) : (Out.ok a S).calm = .ok a S := (rfl)
theorem fresh_f (d : D) (S : Store) : fresh false d S = .ok d S := (rfl)
theorem fresh_t (xs : List D) (S : Store) : fresh true (.lst xs) S = .ok (.loc S.length) (S ++ [.lst xs]) := (rfl)
theorem ev_non : ev P C .non f S = .ok .non S := by rw [ev]
theorem ev_bl (b : Bool) : ev P C (.bl b) f S = .ok (.bl b) S := by rw [ev]
theorem ev_int (i : Int) : ev P C (.int i) f S = .ok (.int i) S := by rw [ev]
theorem ev_str (x : Str) : ev P C (.str x) f S = .ok (.str x) S := by rw [ev]
theorem ev_v (i : Nat) : ev P C (.v i) f S = Out.of (getV f i) S := by rw [ev]
theorem ev_g (x : Nat) : ev P C (.g x) f S = Out.of (P.con x) S := by rw [ev]
theorem ev_bin (m : Bool) (o : Bop) (a b : Ex) : ev P C (.bin m o a b) f S = (ev P C a f S).bind fun x S1 => (ev P C b f S1).bind fun y S2 => (Out.of (bop S2 o x y) S2).bind fun z S3 => fresh m z S3 := by rw [ev]
theorem ev_neg (a : Ex) : ev P C (.neg a) f S = (ev P C a f S).bind fun x S1 => match x with | .int i => .ok (.int (-i)) S1 | _ => .bad := by rw [ev] <;> rfl
theorem ev_not (a : Ex) : ev P C (.not a) f S = (ev P C a f S).bind fun x S1 => (Out.of (truth S1 x) S1).bind fun b S2 => .ok (.bl (!b)) S2 := by rw [ev]
theorem ev_and (es : List Ex) : ev P C (.and es) f S = evAnd P C es f S := by rw [ev]
theorem ev_or (es : List Ex) : ev P C (.or es) f S = evOr P C es f S := by rw [ev]
theorem ev_cmp (o : Cop) (a b : Ex) : ev P C (.cmp o a b) f S = (ev P C a f S).bind fun x S1 => (ev P C b f S1).bind fun y S2 => (Out.of (cop S2 o x y) S2).bind fun z S3 => .ok (.bl z) S3 := by rw [ev]
theorem ev_chain (o o' : Cop) (a b c : Ex) : ev P C (.chain o o' a b c) f S = (ev P C a f S).bind fun x S1 => (ev P C b f S1).bind fun y S2 => (Out.of (cop S2 o x y) S2).bind fun z S3 => match z with
    | true => (ev P C c f S3).bind fun w S4 => (Out.of (cop S4 o' y w) S4).bind fun z' S5 => .ok (.bl z') S5
    | false => .ok (.bl false) S3 := by rw [ev] <;> rfl
theorem ev_ite (t : Te) (a b : Ex) : ev P C (.ite t a b) f S = (evT P C t f S).bind fun c S1 => match c with | true => ev P C a f S1 | false => ev P C b f S1 := by rw [ev] <;> rfl
theorem ev_idx (a i : Ex) : ev P C (.idx a i) f S = (ev P C a f S).bind fun x S1 => (ev P C i f S1).bind fun k S2 => Out.of (itemAt S2 x k) S2 := by rw [ev]
theorem ev_slc (m : Bool) (a : Ex) (lo hi : List Ex) : ev P C (.slc m a lo hi) f S = (ev P C a f S).bind fun x S1 => (evPart P C lo f S1).bind fun l S2 => (evPart P C hi f S2).bind fun h S3 => (Out.of (sliceOf S3 x l h) S3).bind fun z S4 => fresh m z S4 := by rw [ev]
theorem ev_tup (es : List Ex) : ev P C (.tup es) f S = (evs P C es f S).bind fun ds S1 => if ds.length ≤ sizeLine then .ok (.tup ds) S1 else .bad := by rw [ev]
theorem ev_lst (m : Bool) (es : List Ex) : ev P C (.lst m es) f S = (evs P C es f S).bind fun ds S1 => if ds.length ≤ sizeLine then fresh m (.lst ds) S1 else .bad := by rw [ev]
theorem ev_cB (m : Bool) (b : Bi) (es : List Ex) : ev P C (.cB m b es) f S = (evs P C es f S).bind fun ds S1 => (Out.of (bi S1 b ds) S1).bind fun z S2 => fresh m z S2 := by rw [ev]
theorem ev_trg1 (l m : Bool) (a : Ex) : ev P C (.trg1 l m a) f S = (ev P C a f S).bind fun x S1 => match x with | .int n => (Out.of (rgI 0 n) S1).bind fun xs S2 => rgO l m xs S2 | _ => .bad := by rw [ev] <;> rfl
theorem ev_trg2 (l m : Bool) (a b : Ex) : ev P C (.trg2 l m a b) f S = (ev P C a f S).bind fun x S1 => (ev P C b f S1).bind fun y S2 => match x, y with | .int i, .int j => (Out.of (rgI i j) S2).bind fun xs S3 => rgO l m xs S3 | _, _ => .bad := by rw [ev] <;> rfl
theorem ev_isi (ts : List Ty) (e : Ex) : ev P C (.isi ts e) f S = (ev P C e f S).bind fun x S1 => match tyN S1 x with | some t => (Out.of (isTys t ts) S1).bind fun b S2 => .ok (.bl b) S2 | none => .bad := by rw [ev] <;> rfl
theorem ev_cF (g : Nat) (es : List Ex) : ev P C (.cF g es) f S = (evs P C es f S).bind fun ds S1 => C.fn g ds S1 := by rw [ev]
theorem ev_cK (g : Nat) (ks : List Nat) (es : List Ex) : ev P C (.cK g ks es) f S = (evs P C es f S).bind fun ds S1 => C.fn g (ks.map fun k => ds.getD k .non) S1 := by rw [ev]
theorem ev_mk (c : Nat) (es : List Ex) : ev P C (.mk c es) f S = (evs P C es f S).bind fun ds S1 => C.make c ds S1 := by rw [ev]
theorem ev_mth (m : Nat) (o : Ex) (es : List Ex) : ev P C (.mth m o es) f S = (ev P C o f S).bind fun x S1 => match x with
    | .obj c fs => match P.cl c with
      | some k => match k.meths.lookup m with
        | some g => (evs P C es f S1).bind fun ds S2 => C.fn g (.obj c fs :: ds) S2
        | none => .bad
      | none => .bad
    | _ => .bad := by rw [ev] <;> rfl
theorem ev_app (o e : Ex) : ev P C (.app o e) f S = (ev P C o f S).bind fun x S1 => match x with
    | .loc n => (ev P C e f S1).bind fun y S2 => match push S2 n y with | some S3 => .ok .non S3 | none => .bad
    | _ => .bad := by rw [ev] <;> rfl
theorem ev_popA (o i : Ex) : ev P C (.popA o i) f S = (ev P C o f S).bind fun x S1 => match x with
    | .loc n => (ev P C i f S1).bind fun y S2 => popO S2 n y
    | _ => .bad := by rw [ev] <;> rfl
theorem ev_idxA (o a : Ex) : ev P C (.idxA o a) f S = (ev P C o f S).bind fun x S1 => match seqAt S1 x with
    | some _ => (ev P C a f S1).bind fun y S2 => Out.of (idxO S2 x y) S2
    | none => .bad := by rw [ev] <;> rfl
theorem ev_dnew : ev P C .dnew f S = .ok (.dic S.length) (S ++ [.dct []]) := by rw [ev]
theorem ev_cS (c m g : Nat) (es : List Ex) : ev P C (.cS c m g es) f S = (evs P C es f S).bind fun ds S1 => C.fn g ds S1 := by rw [ev]
theorem ev_kget (x : Nat) (tb : List (Str × Int)) (k d : Ex) : ev P C (.kget x tb k d) f S = (ev P C k f S).bind fun y S1 => (ev P C d f S1).bind fun z S2 => match y with
    | .str s => .ok (kgetD tb s z) S2
    | _ => .bad := by rw [ev] <;> rfl
theorem ev_dzip (a b : Ex) : ev P C (.dzip a b) f S = (ev P C a f S).bind fun x S1 => (ev P C b f S1).bind fun y S2 => (Out.of (zipO S2 x y) S2).bind fun kvs S3 => .ok (.dic S3.length) (S3 ++ [.dct kvs]) := by rw [ev]
theorem ev_dgd (o k d : Ex) : ev P C (.dgd o k d) f S = (ev P C o f S).bind fun x S1 => match dctAt S1 x with
    | some _ => (ev P C k f S1).bind fun y S2 => (ev P C d f S2).bind fun z S3 => match dctAt S3 x, y with
      | some kvs, .int i => .ok ((getI kvs i).getD z) S3
      | _, _ => .bad
    | none => .bad := by rw [ev] <;> rfl
theorem ev_dval (m : Bool) (o : Ex) : ev P C (.dval m o) f S = (ev P C o f S).bind fun x S1 => match dctAt S1 x with
    | some kvs => fresh m (.lst (kvs.map (·.2))) S1
    | none => .bad := by rw [ev] <;> rfl
theorem ev_dget (o k : Ex) : ev P C (.dget o k) f S = (ev P C o f S).bind fun x S1 => (ev P C k f S1).bind fun y S2 => match dctAt S2 x, y with
    | some kvs, .int i => Out.of (getI kvs i) S2
    | _, _ => .bad := by rw [ev] <;> rfl
theorem ev_dupd (o a : Ex) : ev P C (.dupd o a) f S = (ev P C o f S).bind fun x S1 => match dctAt S1 x with
    | some _ => (ev P C a f S1).bind fun y S2 => match updO S2 x y with
      | some S3 => .ok .non S3
      | none => .bad
    | none => .bad := by rw [ev] <;> rfl
theorem ev_stp (m : Bool) (a : Ex) (lo : List Ex) (st : Ex) : ev P C (.stp m a lo st) f S = (ev P C a f S).bind fun x S1 => (evPart P C lo f S1).bind fun l S2 => (ev P C st f S2).bind fun k S3 => match k with
    | .int c => (Out.of (stepOf S3 x l c) S3).bind fun z S4 => fresh m z S4
    | _ => .bad := by rw [ev] <;> rfl
theorem ev_fmI (x : Str) (a : Ex) (y : Str) : ev P C (.fmI x a y) f S = if (Str.empty ++ x).length ≤ sizeLine then (ev P C a f S).bind fun d S1 => Out.of (fmO x y d) S1 else .bad := by rw [ev]
theorem ev_dlit (k v : Int) : ev P C (.dlit k v) f S = .ok (.dic S.length) (S ++ [.dct [(k, .int v)]]) := by rw [ev]
theorem ev_lnO (w m : Nat) (a : Ex) : ev P C (.lnO w m a) f S = (ev P C a f S).bind fun x S1 => match x with
    | .obj c fs => match P.cl c with
      | some k => match k.meths.lookup m with
        | some g => (C.str g [.obj c fs] S1).calm.bind fun y S2 => dunO w y S2
        | none => .bad
      | none => .bad
    | _ => .bad := by rw [ev] <;> rfl
theorem ev_oeqV (ng : Bool) (m : Nat) (a b : Ex) : ev P C (.oeqV ng m a b) f S = (ev P C a f S).bind fun x S1 => (ev P C b f S1).bind fun y S2 => (oeqO P C ng m x y S2).bind fun r S3 => .ok (.bl r) S3 := by rw [ev]
theorem ev_mthK (m g : Nat) (p0 : Str) (o : Ex) (perm : List Nat) (es : List Ex) : ev P C (.mthK m g p0 o perm es) f S = (ev P C o f S).bind fun x S1 => match x with
    | .obj c ds => match P.cl c with
      | some k => if k.meths.lookup m = some g then (evs P C es f S1).bind fun es' S2 => C.fn g (.obj c ds :: perm.map fun k => es'.getD k .non) S2 else .bad
      | none => .bad
    | _ => .bad := by rw [ev] <;> rfl
theorem evT_dinT (neg : Bool) (k o : Ex) : evT P C (.dinT neg k o) f S = (ev P C k f S).bind fun y S1 => (ev P C o f S1).bind fun x S2 => match dctAt S2 x, y with
    | some kvs, .int i => .ok (if neg = true then !(getI kvs i).isSome else (getI kvs i).isSome) S2
    | _, _ => .bad := by rw [evT] <;> rfl
theorem ev_cntA (o a : Ex) : ev P C (.cntA o a) f S = (ev P C o f S).bind fun x S1 => match seqAt S1 x with
    | some _ => (ev P C a f S1).bind fun y S2 => Out.of (cntO S2 x y) S2
    | none => .bad := by rw [ev] <;> rfl
theorem ev_srS (m : Bool) (a : Ex) : ev P C (.srS m a) f S = (ev P C a f S).bind fun x S1 => (Out.of (srSO x) S1).bind fun z S2 => fresh m z S2 := by rw [ev]
theorem ev_spl (l m : Bool) (fl : List Bool) (es : List Ex) : ev P C (.spl l m fl es) f S = (evSp P C es fl f S).bind fun ds S1 => if ds.length ≤ sizeLine then rgO l m ds S1 else .bad := by rw [ev]
theorem evSp_nil (fl : List Bool) : evSp P C [] fl f S = .ok [] S := by rw [evSp]
theorem evSp_cons (b : Bool) (fl : List Bool) (e : Ex) (es : List Ex) : evSp P C (e :: es) (b :: fl) f S = (ev P C e f S).bind fun x S1 => (Out.of (splI S1 b x) S1).bind fun xs S2 => (evSp P C es fl f S2).bind fun ys S3 => .ok (xs ++ ys) S3 := by rw [evSp]
theorem ev_atr (a : Nat) (o : Ex) : ev P C (.atr a o) f S = (ev P C o f S).bind fun x S1 => match x with
    | .obj c fs => match P.cl c with
      | some k => match k.props.lookup a with
        | some g => (C.prop g [.obj c fs] S1).calm
        | none => Out.of (fldOf P a (.obj c fs)) S1
      | none => .bad
    | _ => .bad := by rw [ev] <;> rfl
theorem ev_sX (m : Nat) (a : Ex) : ev P C (.sX m a) f S = (ev P C a f S).bind fun x S1 => match x with
    | .int i => if i.natAbs.log2 < 1920 then .ok (.str (toString i)) S1 else .bad
    | .obj c fs => match P.cl c with
      | some k => match k.meths.lookup m with
        | some g => (C.str g [.obj c fs] S1).calm.bind fun y S2 => match y with
          | .str t => .ok (.str t) S2
          | _ => .bad
        | none => .bad
      | none => .bad
    | _ => .bad := by rw [ev] <;> rfl
theorem ev_join (a b : Ex) : ev P C (.join a b) f S = (ev P C a f S).bind fun x S1 => match x with
    | .str s => (ev P C b f S1).bind fun y S2 => Out.of (joinO S2 s y) S2
    | _ => .bad := by rw [ev] <;> rfl
theorem ev_spt (m : Bool) (a b : Ex) : ev P C (.spt m a b) f S = (ev P C a f S).bind fun x S1 => match x with
    | .str s => (ev P C b f S1).bind fun y S2 => (Out.of (splO s y) S2).bind fun z S3 => fresh m z S3
    | _ => .bad := by rw [ev] <;> rfl
theorem evIt_sgn (e : Ex) : evIt P C (.sgn e) f S = (ev P C e f S).bind fun x S1 => Out.of (signsO x) S1 := by rw [evIt]
theorem ev_fst (a : Ex) (t : Str) (b : Ex) : ev P C (.fst a t b) f S = (ev P C a f S).bind fun x S1 => match x with
    | .str s => if s.length ≤ sizeLine ∧ (Str.empty ++ s).length ≤ sizeLine ∧ (Str.empty ++ s ++ t).length ≤ sizeLine then (ev P C b f S1).bind fun y S2 => Out.of (fstO s t y) S2 else .bad
    | _ => .bad := by rw [ev] <;> rfl
theorem ev_fld (a : Nat) : ev P C (.fld a) f S = Out.of (f.φ.lookup a) S := by rw [ev]
/-- a comprehension -/
theorem ev_comp (m : Bool) (elt : Ex) (tg : Tg) (it : It) (ifs : List Te) (own : List Nat) : ev P C (.comp m elt tg it ifs own) f S = (evIt P C it f S).bind fun s S1 =>
      (compL s.held (fun x S2 => (evTg P C tg x (wipeV f own) S2).bind fun f1 S3 => (evTs P C ifs f1 S3).bind fun b S4 =>
        match b with
        | true => (ev P C elt f1 S4).bind fun y S5 => .ok (some y) S5
        | false => .ok none S4) s.items [] S1).bind fun ds S2 => fresh m (.lst ds) S2 := by rw [ev] <;> rfl
theorem evT_of (e : Ex) : evT P C (.of e) f S = (ev P C e f S).bind fun x S1 => Out.of (truth S1 x) S1 := by rw [evT]
theorem evT_cmp (o : Cop) (a b : Ex) : evT P C (.cmp o a b) f S = (ev P C a f S).bind fun x S1 => (ev P C b f S1).bind fun y S2 => Out.of (cop S2 o x y) S2 := by rw [evT]
theorem evT_chain (o o' : Cop) (a b c : Ex) : evT P C (.chain o o' a b c) f S = (ev P C a f S).bind fun x S1 => (ev P C b f S1).bind fun y S2 => (Out.of (cop S2 o x y) S2).bind fun z S3 => match z with
    | true => (ev P C c f S3).bind fun w S4 => Out.of (cop S4 o' y w) S4
    | false => .ok false S3 := by rw [evT] <;> rfl
theorem evT_not (t : Te) : evT P C (.not t) f S = (evT P C t f S).bind fun b S1 => .ok (!b) S1 := by rw [evT]
theorem evT_and (ts : List Te) : evT P C (.and ts) f S = evAll P C ts f S := by rw [evT]
theorem evT_or (ts : List Te) : evT P C (.or ts) f S = evAny P C ts f S := by rw [evT]
theorem evs_nil : evs P C [] f S = .ok [] S := by rw [evs]
theorem evs_cons (e : Ex) (es : List Ex) : evs P C (e :: es) f S = (ev P C e f S).bind fun x S1 => (evs P C es f S1).bind fun xs S2 => .ok (x :: xs) S2 := by rw [evs]
theorem evPart_nil : evPart P C [] f S = .ok none S := by rw [evPart]
theorem evPart_one (e : Ex) (es : List Ex) : evPart P C (e :: es) f S = (ev P C e f S).bind fun x S1 => match x with | .int i => .ok (some i) S1 | _ => .bad := by rw [evPart] <;> rfl
theorem evAll_one (t : Te) : evAll P C [t] f S = (evT P C t f S).bind fun b S1 => .ok b S1 := by
  rw [evAll]
  congr 1
  funext b S1
  cases b <;> rfl
theorem evAll_cons (t u : Te) (ts : List Te) : evAll P C (t :: u :: ts) f S = (evT P C t f S).bind fun b S1 => match b with | true => evAll P C (u :: ts) f S1 | false => .ok false S1 := by
  rw [evAll]
  congr 1
theorem evAny_one (t : Te) : evAny P C [t] f S = (evT P C t f S).bind fun b S1 => .ok b S1 := by
  rw [evAny]
  congr 1
  funext b S1
  cases b <;> rfl
theorem evAny_cons (t u : Te) (ts : List Te) : evAny P C (t :: u :: ts) f S = (evT P C t f S).bind fun b S1 => match b with | false => evAny P C (u :: ts) f S1 | true => .ok true S1 := by
  rw [evAny]
  congr 1
theorem evAnd_one (e : Ex) : evAnd P C [e] f S = (ev P C e f S).bind fun x S1 => .ok x S1 := by
  rw [evAnd]
  congr 1
theorem evAnd_cons (e u : Ex) (es : List Ex) : evAnd P C (e :: u :: es) f S = (ev P C e f S).bind fun x S1 => match x with | .bl true => evAnd P C (u :: es) f S1 | .bl false => .ok (.bl false) S1 | _ => .bad := by
  rw [evAnd]
  congr 1
theorem evOr_one (e : Ex) : evOr P C [e] f S = (ev P C e f S).bind fun x S1 => .ok x S1 := by
  rw [evOr]
  congr 1
theorem evOr_cons (e u : Ex) (es : List Ex) : evOr P C (e :: u :: es) f S = (ev P C e f S).bind fun x S1 => match x with | .bl false => evOr P C (u :: es) f S1 | .bl true => .ok (.bl true) S1 | _ => .bad := by
  rw [evOr]
  congr 1
theorem evTs_nil : evTs P C [] f S = .ok true S := by rw [evTs]
theorem evTs_one (t : Te) (ts : List Te) : evTs P C (t :: ts) f S = evT P C t f S := by rw [evTs]
theorem evIt_of (e : Ex) : evIt P C (.of e) f S = (ev P C e f S).bind fun x S1 => Out.of (srcOf S1 x) S1 := by rw [evIt]
theorem evIt_rng1 (a : Ex) : evIt P C (.rng1 a) f S = (ev P C a f S).bind fun x S1 => match x with | .int n => Out.of (rngD 0 n) S1 | _ => .bad := by rw [evIt] <;> rfl
theorem evIt_rng2 (a b : Ex) : evIt P C (.rng2 a b) f S = (ev P C a f S).bind fun x S1 => (ev P C b f S1).bind fun y S2 => match x, y with | .int i, .int j => Out.of (rngD i j) S2 | _, _ => .bad := by rw [evIt] <;> rfl
theorem evIt_enm (e : Ex) : evIt P C (.enm e) f S = (ev P C e f S).bind fun x S1 => (Out.of (srcOf S1 x) S1).bind fun s S2 => .ok ⟨s.items.mapIdx fun (i : Nat) d => D.tup [.int i, d], s.held, true⟩ S2 := by rw [evIt]
theorem evIt_zip (a b : Ex) : evIt P C (.zip a b) f S = (ev P C a f S).bind fun x S1 => (ev P C b f S1).bind fun y S2 => (Out.of (srcOf S2 x) S2).bind fun s S3 => (Out.of (srcOf S3 y) S3).bind fun t S4 =>
      .ok ⟨List.zipWith (fun d e => D.tup [d, e]) s.items t.items, s.held ++ t.held, true⟩ S4 := by rw [evIt]
theorem evTg_nm (i : Nat) (d : D) : evTg P C (.nm i) d f S = .ok (setV f i d) S := by rw [evTg]
theorem evTg_tup (ts : List Tg) (ds : List D) : evTg P C (.tup ts) (.tup ds) f S = if ds.length = ts.length then evTgs P C ts ds f S else .bad := by rw [evTg]
theorem evTg_tupL (ts : List Tg) (ds : List D) : evTg P C (.tup ts) (.lst ds) f S = if ds.length = ts.length then evTgs P C ts ds f S else .bad := by rw [evTg]
theorem evTg_sub (o i : Ex) (d : D) : evTg P C (.sub o i) d f S = (ev P C o f S).bind fun x S1 => (ev P C i f S1).bind fun k S2 => match store S2 x k d with | some S3 => .ok f S3 | none => .bad := by rw [evTg] <;> rfl
theorem evTgs_nil (ds : List D) : evTgs P C [] ds f S = .ok f S := by rw [evTgs]
theorem evTgs_cons (t : Tg) (ts : List Tg) (d : D) (ds : List D) : evTgs P C (t :: ts) (d :: ds) f S = (evTg P C t d f S).bind fun f1 S1 => evTgs P C ts ds f1 S1 := by rw [evTgs]
theorem ex_asg (t : Tg) (e : Ex) : ex P C (.asg t e) f S = (ev P C e f S).so f fun d S1 => match evTg P C t d f S1 with | .ok f1 S2 => .nx f1 S2 | .exc x S2 => .bad | .bad => .bad := by rw [ex] <;> rfl
theorem ex_par (is : List Nat) (es : List Ex) : ex P C (.par is es) f S = (evs P C es f S).so f fun ds S1 => if ds.length = is.length then .nx (setVs f is ds) S1 else .bad := by rw [ex]
theorem ex_fset (a : Nat) (e : Ex) : ex P C (.fset a e) f S = (ev P C e f S).so f fun d S1 => if f.φ.length < 900 then .nx ⟨f.ρ, putN a d f.φ⟩ S1 else .bad := by rw [ex]
theorem ex_expr (e : Ex) : ex P C (.expr e) f S = (ev P C e f S).so f fun _ S1 => .nx f S1 := by rw [ex]
theorem ex_ret (e : Ex) : ex P C (.ret e) f S = (ev P C e f S).so f fun d S1 => .rt d S1 := by rw [ex]
theorem ex_ifs (c : Te) (a b : List Sm) : ex P C (.ifs c a b) f S = (evT P C c f S).so f fun t S1 => match t with | true => exs P C a f S1 | false => exs P C b f S1 := by rw [ex] <;> rfl
theorem ex_fors (t : Tg) (it : It) (body : List Sm) : ex P C (.fors t it body) f S = (evIt P C it f S).so f fun s S1 => forL s.held (fun d f1 S2 => evTg P C t d f1 S2) (fun f1 S2 => exs P C body f1 S2) s.items f S1 := by rw [ex]
theorem ex_whiles (c : Te) (body : List Sm) : ex P C (.whiles c body) f S = whl (fun f1 S1 => evT P C c f1 S1) (fun f1 S1 => exs P C body f1 S1) f S := by rw [ex]
theorem ex_tryD (body : List Sm) : ex P C (.tryD body) f S = (exs P C body f S).still := by rw [ex]
theorem ex_brk : ex P C .brk f S = .bk f S := by rw [ex]
theorem ex_pass : ex P C .pass f S = .nx f S := by rw [ex]
theorem exs_nil : exs P C [] f S = .nx f S := by rw [exs]
theorem exs_nx {s : Sm} {ss : List Sm} {f1 : Fr} {S1 : Store} (h : ex P C s f S = .nx f1 S1) : exs P C (s :: ss) f S = exs P C ss f1 S1 := by rw [exs, h]
theorem exs_rt {s : Sm} {ss : List Sm} {d : D} {S1 : Store} (h : ex P C s f S = .rt d S1) : exs P C (s :: ss) f S = .rt d S1 := by rw [exs, h]
theorem runF_rt {F : Fn} {ds : List D} {d : D} {S1 : Store} (hl : ds.length = F.np) (h : exs P C F.body ⟨ds.map some ++ List.replicate (F.ns - ds.length) none, []⟩ S = .rt d S1) : runF P C F ds S = .ok d S1 := by
  unfold runF
  rw [if_pos hl, h]
theorem runF_nx {F : Fn} {ds : List D} {f1 : Fr} {S1 : Store} (hl : ds.length = F.np) (h : exs P C F.body ⟨ds.map some ++ List.replicate (F.ns - ds.length) none, []⟩ S = .nx f1 S1) : runF P C F ds S = .ok .non S1 := by
  unfold runF
  rw [if_pos hl, h]
end
end Th
namespace Th
open PySem
section
variable {S : Store}
theorem seqOf_tup (xs : List D) : seqOf S (.tup xs) = some xs := (rfl)
theorem seqOf_lst (xs : List D) : seqOf S (.lst xs) = some xs := (rfl)
theorem seqOf_frz (xs : List D) : seqOf S (.frz xs) = some xs := (rfl)
theorem seqAt_lst (xs : List D) : seqAt S (.lst xs) = some xs := (rfl)
theorem seqAt_loc {n : Nat} {xs : List D} (h : S[n]? = some (.lst xs)) : seqAt S (.loc n) = some xs := by simp only [seqAt, h]
theorem seqOf_loc {n : Nat} {xs : List D} (h : S[n]? = some (.lst xs)) : seqOf S (.loc n) = some xs := seqAt_loc h
theorem bi_len {d : D} {xs : List D} (h : seqOf S d = some xs) : bi S .len [d] = some (.int xs.length) := by
  cases d with
  | tup ys => cases h; rfl
  | lst ys => cases h; rfl
  | frz ys => cases h; rfl
  | loc n => show (seqOf S (.loc n)).map _ = _; rw [h]; rfl
  | _ => cases h
theorem bi_all {d : D} {xs : List D} {bs : List Bool} (h : seqAt S d = some xs) (hn : blsOf xs = some bs) : bi S .all [d] = some (.bl (bs.all id)) := by
  show (match seqAt S d with
    | some xs => (blsOf xs).map fun (bs : List Bool) => D.bl (bs.all id)
    | none => none) = _
  rw [h]
  show (blsOf xs).map _ = _
  rw [hn]; rfl
theorem bi_any {d : D} {xs : List D} {bs : List Bool} (h : seqAt S d = some xs) (hn : blsOf xs = some bs) : bi S .any [d] = some (.bl (bs.any id)) := by
  show (match seqAt S d with
    | some xs => (blsOf xs).map fun (bs : List Bool) => D.bl (bs.any id)
    | none => none) = _
  rw [h]
  show (blsOf xs).map _ = _
  rw [hn]; rfl
theorem bi_sorted {d : D} {xs : List D} {ns : List Int} (h : seqOf S d = some xs) (hn : intsOf xs = some ns) : bi S .sorted [d] = some (.lst ((sortI ns).map .int)) := by
  show (match seqOf S d with
    | some xs => match intsOf xs with
      | some ns => some (D.lst ((sortI ns).map .int))
      | none => (xs.mapM rowOf).map fun (ts : List (List Int)) => D.lst ((sortL ts).map fun (t : List Int) => .tup (t.map .int))
    | none => none) = _
  rw [h]
  simp only [hn]
theorem bi_tuple {d : D} {xs : List D} (h : seqOf S d = some xs) : bi S .tuple [d] = some (.tup xs) := by
  show (seqOf S d).map D.tup = _
  rw [h]; rfl
theorem bi_list {d : D} {xs : List D} (h : seqOf S d = some xs) : bi S .list [d] = some (.lst xs) := by
  show (seqOf S d).map D.lst = _
  rw [h]; rfl
theorem bi_divmod {i j : Int} (h : 0 < j ∧ j < 1073741824) : bi S .divmod [.int i, .int j] = some (.tup [.int (i / j), .int (i % j)]) := by
  show (if 0 < j ∧ j < 1073741824 then some (D.tup [.int (i / j), .int (i % j)]) else none) = _
  rw [if_pos h]
theorem bop_sub (i j : Int) : bop S .sub (.int i) (.int j) = some (.int (i - j)) := (rfl)
theorem bop_mul {i j : Int} (h : i.natAbs.log2 + j.natAbs.log2 < 100000000) : bop S .mul (.int i) (.int j) = some (.int (i * j)) := by
  show (if i.natAbs.log2 + j.natAbs.log2 < 100000000 then some (D.int (i * j)) else none) = _
  rw [if_pos h]
theorem bop_fdiv {i j : Int} (h : 0 < j ∧ j.natAbs.log2 < 9000) : bop S .fdiv (.int i) (.int j) = some (.int (i / j)) := by
  show (if 0 < j ∧ j.natAbs.log2 < 9000 then some (D.int (i / j)) else none) = _
  rw [if_pos h]
theorem bop_mod {i j : Int} (h : 0 < j) : bop S .mod (.int i) (.int j) = some (.int (i % j)) := by
  show (if 0 < j then some (D.int (i % j)) else none) = _
  rw [if_pos h]
theorem bop_addT {xs ys : List D} (h : xs.length + ys.length ≤ sizeLine) : bop S .add (.tup xs) (.tup ys) = some (.tup (xs ++ ys)) := by
  show (if xs.length + ys.length ≤ sizeLine then some (D.tup (xs ++ ys)) else none) = _
  rw [if_pos h]
theorem bop_addL {xs ys : List D} (h : xs.length + ys.length ≤ sizeLine) : bop S .add (.lst xs) (.lst ys) = some (.lst (xs ++ ys)) := by
  show (if xs.length + ys.length ≤ sizeLine then some (D.lst (xs ++ ys)) else none) = _
  rw [if_pos h]
theorem itemAt_of {d : D} {xs : List D} {k : Int} (h : seqOf S d = some xs) : itemAt S d (.int k) = L2.atI xs k := by
  unfold itemAt
  simp only [h]
theorem itemAt_tup (xs : List D) (k : Int) : itemAt S (.tup xs) (.int k) = L2.atI xs k := (rfl)
theorem cop_lt (i j : Int) : cop S .lt (.int i) (.int j) = some (decide (i < j)) := (rfl)
theorem cop_le (i j : Int) : cop S .le (.int i) (.int j) = some (decide (i ≤ j)) := (rfl)
theorem cop_eqI (i j : Int) : cop S .eq (.int i) (.int j) = some (decide (i = j)) := Enc.int.cop_eq (by decide) S i j _ _ rfl rfl
theorem cop_neI (i j : Int) : cop S .ne (.int i) (.int j) = some (!decide (i = j)) := Enc.int.cop_ne (by decide) S i j _ _ rfl rfl
theorem srcOf_tup (xs : List D) : srcOf S (.tup xs) = some ⟨xs, [], true⟩ := (rfl)
theorem srcOf_loc {n : Nat} {xs : List D} (h : S[n]? = some (.lst xs)) : srcOf S (.loc n) = some ⟨xs, [(n, xs)], false⟩ := by simp only [srcOf, h]
theorem truth_bl (b : Bool) : truth S (.bl b) = some b := (rfl)
theorem small_size {n : Nat} (h : n ≤ 100000) : n ≤ sizeLine := by
  have := sizeLine_eq
  omega
theorem rngD_nat {lo : Int} {n : Nat} (h1 : 0 ≤ lo) (h2 : lo ≤ 100000) (hn : n ≤ 100000) : rngD lo (lo + n) = some ⟨(List.range n).map fun (i : Nat) => D.int (lo + (i : Int)), [], true⟩ := by
  unfold rngD
  rw [if_pos ⟨by omega, by omega, by omega, by omega⟩, show (lo + (n : Int) - lo).toNat = n by omega]
theorem rngD_0 {n : Nat} (hn : n ≤ 100000) : rngD 0 (n : Int) = some ⟨(List.range n).map fun (i : Nat) => D.int (i : Int), [], true⟩ := by
  have := rngD_nat (lo := 0) (n := n) (by omega) (by omega) hn
  rw [Int.zero_add] at this
  rw [this]
  simp
theorem atI_map {α : Type} {xs : List α} {c : α → D} {i : Nat} (h : i < xs.length) {k : Int} (hk : k = (i : Int)) : L2.atI (xs.map c) k = some (c xs[i]) := by
  rw [hk]
  exact L2.atI_nat (by rw [List.getElem?_map, List.getElem?_eq_getElem h]; rfl)
theorem mapIdx_zip {α β : Type} (f : Nat → α → β) (l : List α) : l.mapIdx f = l.zipIdx.map fun p => f p.2 p.1 := by
  rw [List.mapIdx_eq_zipIdx_map]
/-- a for whose turns leave no trace but in the frame -/
theorem forL_each {held : List (Nat × List D)} {tg : D → Fr → Store → Out Fr} {body : Fr → Store → SO} {J : Fr → Prop} (st : Src.still held S) : ∀ (xs : List D) (f : Fr), (∀ x ∈ xs, ∀ f, J f → ∃ f1, tg x f S = .ok f1 S ∧ ∃ f2, body f1 S = .nx f2 S ∧ J f2) → J f → ∃ f', forL held tg body xs f S = .nx f' S ∧ J f'
  | [], f, _, j => ⟨f, by unfold forL; rw [if_pos st], j⟩
  | x :: xs, f, h, j => by
    obtain ⟨f1, e1, f2, e2, j2⟩ := h x List.mem_cons_self f j
    obtain ⟨f', e3, j3⟩ := forL_each st xs f2 (fun y hy => h y (List.mem_cons_of_mem _ hy)) j2
    refine ⟨f', ?_, j3⟩
    unfold forL
    rw [if_pos st, e1]
    show (match body f1 S with
      | .nx f2 S2 => forL held tg body xs f2 S2
      | .ct f2 S2 => forL held tg body xs f2 S2
      | .bk f2 S2 => .nx f2 S2
      | r => r) = _
    rw [e2]
    exact e3
theorem evs_two {P : Pr} {C : Orc} {f : Fr} {a b : Ex} {x y : D} {S1 S2 : Store} (h1 : ev P C a f S = .ok x S1) (h2 : ev P C b f S1 = .ok y S2) : evs P C [a, b] f S = .ok [x, y] S2 := by
  rw [evs_cons, h1, bind_ok, evs_cons, h2, bind_ok, evs_nil, bind_ok, bind_ok]
theorem evs_one {P : Pr} {C : Orc} {f : Fr} {a : Ex} {x : D} {S1 : Store} (h1 : ev P C a f S = .ok x S1) : evs P C [a] f S = .ok [x] S1 := by
  rw [evs_cons, h1, bind_ok, evs_nil, bind_ok]
theorem ev_tup_of {P : Pr} {C : Orc} {f : Fr} {es : List Ex} {ds : List D} {S1 : Store} (h : evs P C es f S = .ok ds S1) (hl : ds.length ≤ 100000) : ev P C (.tup es) f S = .ok (.tup ds) S1 := by
  rw [ev_tup, h, bind_ok, if_pos (small_size hl)]
theorem ev_at {P : Pr} {C : Orc} {f : Fr} {i : Nat} {d : D} (h : getV f i = some d) : ev P C (.v i) f S = .ok d S := by
  rw [ev_v, h, of_some]
end
end Th
namespace Th
open PySem
/-- a value there is, and it is right -/
def Oo {α : Type} (o : Option α) (Q : α → Prop) : Prop := ∃ a, o = some a ∧ Q a
theorem o_is {α : Type} {o : Option α} {a : α} {Q : α → Prop} (e : o = some a) (h : Q a) : Oo o Q := ⟨a, e, h⟩
theorem w_of {α : Type} {o : Option α} {S : Store} {Q : α → Store → Prop} (h : Oo o fun a => Q a S) : Ok (Out.of o S) Q := by
  obtain ⟨a, e, q⟩ := h
  rw [e]
  exact ⟨a, S, rfl, q⟩
theorem w_ok {α : Type} {a : α} {S : Store} {Q : α → Store → Prop} (h : Q a S) : Ok (.ok a S) Q := ⟨a, S, rfl, h⟩
theorem w_bind {α β : Type} {o : Out α} {k : α → Store → Out β} {Q : β → Store → Prop} (h : Ok o fun a S1 => Ok (k a S1) Q) : Ok (o.bind k) Q := Ok.bnd h fun _ _ r => r
theorem ok_of_eq {α : Type} {o : Out α} {a : α} {S : Store} (h : Ok o fun b S' => b = a ∧ S' = S) : o = .ok a S := by
  obtain ⟨b, S', e, h1, h2⟩ := h
  rw [e, h1, h2]
theorem w_eq {α : Type} {o : Out α} {a : α} {S : Store} {Q : α → Store → Prop} (e : o = .ok a S) (h : Q a S) : Ok o Q := ⟨a, S, e, h⟩
section
variable {P : Pr} {C : Orc} {f : Fr} {S : Store} {Q : D → Store → Prop}
theorem w_fresh_f {d : D} (h : Q d S) : Ok (fresh false d S) Q := ⟨d, S, rfl, h⟩
theorem w_fresh_t {xs : List D} (h : Q (.loc S.length) (S ++ [.lst xs])) : Ok (fresh true (.lst xs) S) Q := ⟨_, _, rfl, h⟩
theorem w_non (h : Q .non S) : Ok (ev P C .non f S) Q := by rw [ev_non]; exact .ret h
theorem w_bl {b : Bool} (h : Q (.bl b) S) : Ok (ev P C (.bl b) f S) Q := by rw [ev_bl]; exact .ret h
theorem w_int {i : Int} (h : Q (.int i) S) : Ok (ev P C (.int i) f S) Q := by rw [ev_int]; exact .ret h
theorem w_str {x : Str} (h : Q (.str x) S) : Ok (ev P C (.str x) f S) Q := by rw [ev_str]; exact .ret h
theorem w_v {i : Nat} {d : D} (e : getV f i = some d) (h : Q d S) : Ok (ev P C (.v i) f S) Q := by rw [ev_v, e]; exact .ret h
theorem w_bin {m : Bool} {o : Bop} {a b : Ex} (h : Ok (ev P C a f S) fun x S1 => Ok (ev P C b f S1) fun y S2 => Oo (bop S2 o x y) fun z => Ok (fresh m z S2) Q) : Ok (ev P C (.bin m o a b) f S) Q := by
  rw [ev_bin]
  exact Ok.bnd h fun _ _ r => Ok.bnd r fun _ _ ⟨z, e, q⟩ => by rw [e]; exact q
theorem w_neg {a : Ex} (h : Ok (ev P C a f S) fun x S1 => ∃ i, x = .int i ∧ Q (.int (-i)) S1) : Ok (ev P C (.neg a) f S) Q := by
  rw [ev_neg]
  exact Ok.bnd h fun _ _ ⟨i, e, q⟩ => by rw [e]; exact .ret q
theorem w_not {a : Ex} (h : Ok (ev P C a f S) fun x S1 => Oo (truth S1 x) fun b => Q (.bl (!b)) S1) : Ok (ev P C (.not a) f S) Q := by
  rw [ev_not]
  exact Ok.bnd h fun _ _ ⟨b, e, q⟩ => by rw [e]; exact .ret q
theorem w_and {es : List Ex} (h : Ok (evAnd P C es f S) Q) : Ok (ev P C (.and es) f S) Q := by rw [ev_and]; exact h
theorem w_or {es : List Ex} (h : Ok (evOr P C es f S) Q) : Ok (ev P C (.or es) f S) Q := by rw [ev_or]; exact h
theorem w_and1 {e : Ex} (h : Ok (ev P C e f S) Q) : Ok (evAnd P C [e] f S) Q := by rw [evAnd_one]; exact Ok.bnd h fun _ _ q => .ret q
theorem w_andC {e u : Ex} {es : List Ex} (h : Ok (ev P C e f S) fun x S1 => ∃ b, x = .bl b ∧ (b = true → Ok (evAnd P C (u :: es) f S1) Q) ∧ (b = false → Q (.bl false) S1)) : Ok (evAnd P C (e :: u :: es) f S) Q := by
  rw [evAnd_cons]
  refine Ok.bnd h fun _ _ ⟨b, e, q1, q2⟩ => ?_
  rw [e]
  cases b with
  | true => exact q1 rfl
  | false => exact .ret (q2 rfl)
theorem w_or1 {e : Ex} (h : Ok (ev P C e f S) Q) : Ok (evOr P C [e] f S) Q := by rw [evOr_one]; exact Ok.bnd h fun _ _ q => .ret q
theorem w_orC {e u : Ex} {es : List Ex} (h : Ok (ev P C e f S) fun x S1 => ∃ b, x = .bl b ∧ (b = false → Ok (evOr P C (u :: es) f S1) Q) ∧ (b = true → Q (.bl true) S1)) : Ok (evOr P C (e :: u :: es) f S) Q := by
  rw [evOr_cons]
  refine Ok.bnd h fun _ _ ⟨b, e, q1, q2⟩ => ?_
  rw [e]
  cases b with
  | true => exact .ret (q2 rfl)
  | false => exact q1 rfl
theorem w_cmp {o : Cop} {a b : Ex} (h : Ok (ev P C a f S) fun x S1 => Ok (ev P C b f S1) fun y S2 => Oo (cop S2 o x y) fun z => Q (.bl z) S2) : Ok (ev P C (.cmp o a b) f S) Q := by
  rw [ev_cmp]
  exact Ok.bnd h fun _ _ r => Ok.bnd r fun _ _ ⟨z, e, q⟩ => by rw [e]; exact .ret q
theorem w_chain {o o' : Cop} {a b c : Ex} (h : Ok (ev P C a f S) fun x S1 => Ok (ev P C b f S1) fun y S2 => Oo (cop S2 o x y) fun z => (z = true → Ok (ev P C c f S2) fun w S3 => Oo (cop S3 o' y w) fun z' => Q (.bl z') S3) ∧ (z = false → Q (.bl false) S2)) : Ok (ev P C (.chain o o' a b c) f S) Q := by
  rw [ev_chain]
  refine Ok.bnd h fun _ _ r => Ok.bnd r fun _ _ ⟨z, e, q1, q2⟩ => ?_
  rw [e, of_some, bind_ok]
  cases z with
  | true => exact Ok.bnd (q1 rfl) fun _ _ ⟨z', e', q⟩ => by rw [e']; exact .ret q
  | false => exact .ret (q2 rfl)
theorem w_ite {t : Te} {a b : Ex} (h : Ok (evT P C t f S) fun c S1 => (c = true → Ok (ev P C a f S1) Q) ∧ (c = false → Ok (ev P C b f S1) Q)) : Ok (ev P C (.ite t a b) f S) Q := by
  rw [ev_ite]
  refine Ok.bnd h fun c _ ⟨q1, q2⟩ => ?_
  cases c with
  | true => exact q1 rfl
  | false => exact q2 rfl
theorem w_idx {a i : Ex} (h : Ok (ev P C a f S) fun x S1 => Ok (ev P C i f S1) fun k S2 => Oo (itemAt S2 x k) fun d => Q d S2) : Ok (ev P C (.idx a i) f S) Q := by
  rw [ev_idx]
  exact Ok.bnd h fun _ _ r => Ok.bnd r fun _ _ ⟨z, e, q⟩ => by rw [e]; exact .ret q
theorem w_slc {m : Bool} {a : Ex} {lo hi : List Ex} (h : Ok (ev P C a f S) fun x S1 => Ok (evPart P C lo f S1) fun l S2 => Ok (evPart P C hi f S2) fun u S3 => Oo (sliceOf S3 x l u) fun z => Ok (fresh m z S3) Q) : Ok (ev P C (.slc m a lo hi) f S) Q := by
  rw [ev_slc]
  exact Ok.bnd h fun _ _ r => Ok.bnd r fun _ _ r => Ok.bnd r fun _ _ ⟨z, e, q⟩ => by rw [e]; exact q
theorem w_part0 {Q : Option Int → Store → Prop} (h : Q none S) : Ok (evPart P C [] f S) Q := by rw [evPart_nil]; exact .ret h
theorem w_part1 {Q : Option Int → Store → Prop} {e : Ex} {es : List Ex} (h : Ok (ev P C e f S) fun x S1 => ∃ i, x = .int i ∧ Q (some i) S1) : Ok (evPart P C (e :: es) f S) Q := by
  rw [evPart_one]
  exact Ok.bnd h fun _ _ ⟨i, e, q⟩ => by rw [e]; exact .ret q
theorem w_tup {es : List Ex} (h : Ok (evs P C es f S) fun ds S1 => ds.length ≤ 100000 ∧ Q (.tup ds) S1) : Ok (ev P C (.tup es) f S) Q := by
  rw [ev_tup]
  exact Ok.bnd h fun _ _ ⟨l, q⟩ => by rw [if_pos (small_size l)]; exact .ret q
theorem w_lst {m : Bool} {es : List Ex} (h : Ok (evs P C es f S) fun ds S1 => ds.length ≤ 100000 ∧ Ok (fresh m (.lst ds) S1) Q) : Ok (ev P C (.lst m es) f S) Q := by
  rw [ev_lst]
  exact Ok.bnd h fun _ _ ⟨l, q⟩ => by rw [if_pos (small_size l)]; exact q
theorem w_cB {m : Bool} {b : Bi} {es : List Ex} (h : Ok (evs P C es f S) fun ds S1 => Oo (bi S1 b ds) fun z => Ok (fresh m z S1) Q) : Ok (ev P C (.cB m b es) f S) Q := by
  rw [ev_cB]
  exact Ok.bnd h fun _ _ ⟨z, e, q⟩ => by rw [e]; exact q
theorem rgI_nat {lo : Int} {n : Nat} (h1 : 0 ≤ lo) (h2 : lo ≤ 100000) (hn : n ≤ 100000) : rgI lo (lo + n) = some (((List.range n).map fun (i : Nat) => lo + (i : Int)).map D.int) := by
  unfold rgI
  rw [if_pos ⟨by omega, by omega, by omega, by omega, by omega⟩, show (lo + (n : Int) - lo).toNat = n by omega]
/-- list(range(n)), tuple(range(n)) -/
theorem w_trg1 {l m : Bool} {a : Ex} (h : Ok (ev P C a f S) fun x S1 => ∃ n : Nat, x = .int n ∧ n ≤ 100000 ∧ Ok (rgO l m (((List.range n).map fun (i : Nat) => (i : Int)).map D.int) S1) Q) : Ok (ev P C (.trg1 l m a) f S) Q := by
  rw [ev_trg1]
  refine Ok.bnd h fun _ _ ⟨n, e, b, q⟩ => ?_
  have := rgI_nat (lo := 0) (n := n) (by decide) (by decide) b
  rw [Int.zero_add] at this
  rw [e]
  simp only
  rw [this, of_some, bind_ok]
  simp only [Int.zero_add]
  exact q
theorem w_trg2 {l m : Bool} {a b : Ex} (h : Ok (ev P C a f S) fun x S1 => Ok (ev P C b f S1) fun y S2 => ∃ (lo : Int) (n : Nat), x = .int lo ∧ y = .int (lo + n) ∧ 0 ≤ lo ∧ lo ≤ 100000 ∧ n ≤ 100000 ∧ Ok (rgO l m (((List.range n).map fun (i : Nat) => lo + (i : Int)).map D.int) S2) Q) : Ok (ev P C (.trg2 l m a b) f S) Q := by
  rw [ev_trg2]
  refine Ok.bnd h fun _ _ r => Ok.bnd r fun _ _ ⟨lo, n, e1, e2, b1, b2, b3, q⟩ => ?_
  rw [e1, e2]
  simp only
  rw [rgI_nat b1 b2 b3, of_some, bind_ok]
  exact q
theorem w_rgO_t {m : Bool} {xs : List D} (h : Q (.tup xs) S) : Ok (rgO false m xs S) Q := ⟨_, _, rfl, h⟩
theorem w_rgO_l {m : Bool} {xs : List D} (h : Ok (fresh m (.lst xs) S) Q) : Ok (rgO true m xs S) Q := h
theorem w_isi {ts : List Ty} {e : Ex} (h : Ok (ev P C e f S) fun x S1 => Oo (tyN S1 x) fun t => Oo (isTys t ts) fun b => Q (.bl b) S1) : Ok (ev P C (.isi ts e) f S) Q := by
  rw [ev_isi]
  refine Ok.bnd h fun _ _ ⟨t, e, b, e2, q⟩ => ?_
  rw [e]
  simp only
  rw [e2]
  exact .ret q
theorem w_cF {g : Nat} {es : List Ex} (h : Ok (evs P C es f S) fun ds S1 => Ok (C.fn g ds S1) Q) : Ok (ev P C (.cF g es) f S) Q := by rw [ev_cF]; exact w_bind h
theorem w_cK {g : Nat} {ks : List Nat} {es : List Ex} (h : Ok (evs P C es f S) fun ds S1 => Ok (C.fn g (ks.map fun k => ds.getD k .non) S1) Q) : Ok (ev P C (.cK g ks es) f S) Q := by rw [ev_cK]; exact w_bind h
theorem w_mk {g : Nat} {es : List Ex} (h : Ok (evs P C es f S) fun ds S1 => Ok (C.make g ds S1) Q) : Ok (ev P C (.mk g es) f S) Q := by rw [ev_mk]; exact w_bind h
theorem w_mth {m : Nat} {o : Ex} {es : List Ex} (h : Ok (ev P C o f S) fun x S1 => ∃ c fs, x = .obj c fs ∧ ∃ k, P.cl c = some k ∧ ∃ g, k.meths.lookup m = some g ∧ Ok (evs P C es f S1) fun ds S2 => Ok (C.fn g (.obj c fs :: ds) S2) Q) : Ok (ev P C (.mth m o es) f S) Q := by
  rw [ev_mth]
  refine Ok.bnd h fun _ _ ⟨c, fs, e, k, e2, g, e3, q⟩ => ?_
  rw [e]
  simp only [e2, e3]
  exact w_bind q
theorem w_app {o e : Ex} (h : Ok (ev P C o f S) fun x S1 => ∃ n, x = .loc n ∧ Ok (ev P C e f S1) fun y S2 => Oo (push S2 n y) fun S3 => Q .non S3) : Ok (ev P C (.app o e) f S) Q := by
  rw [ev_app]
  refine Ok.bnd h fun _ _ ⟨n, e, q⟩ => ?_
  rw [e]
  refine Ok.bnd q fun _ _ ⟨S3, e2, q2⟩ => ?_
  rw [e2]
  exact .ret q2
theorem w_popA {o i : Ex} (h : Ok (ev P C o f S) fun x S1 => ∃ n, x = .loc n ∧ Ok (ev P C i f S1) fun y S2 => Ok (popO S2 n y) Q) : Ok (ev P C (.popA o i) f S) Q := by
  rw [ev_popA]
  refine Ok.bnd h fun _ _ ⟨n, e, q⟩ => ?_
  rw [e]
  exact w_bind q
theorem w_idxA {o a : Ex} (h : Ok (ev P C o f S) fun x S1 => ∃ xs, seqAt S1 x = some xs ∧ Ok (ev P C a f S1) fun y S2 => Oo (idxO S2 x y) fun z => Q z S2) : Ok (ev P C (.idxA o a) f S) Q := by
  rw [ev_idxA]
  refine Ok.bnd h fun _ _ ⟨n, e, q⟩ => ?_
  rw [e]
  exact Ok.bnd q fun _ _ ⟨z, e, q⟩ => by rw [e]; exact .ret q
theorem w_dnew (h : Q (.dic S.length) (S ++ [.dct []])) : Ok (ev P C .dnew f S) Q := by
  rw [ev_dnew]
  exact ⟨_, _, rfl, h⟩
theorem w_cS {c m g : Nat} {es : List Ex} (h : Ok (evs P C es f S) fun ds S1 => Ok (C.fn g ds S1) Q) : Ok (ev P C (.cS c m g es) f S) Q := by rw [ev_cS]; exact w_bind h
theorem w_kget {x : Nat} {tb : List (Str × Int)} {k d : Ex} (h : Ok (ev P C k f S) fun y S1 => Ok (ev P C d f S1) fun z S2 => ∃ s, y = .str s ∧ Q (kgetD tb s z) S2) : Ok (ev P C (.kget x tb k d) f S) Q := by
  rw [ev_kget]
  refine Ok.bnd h fun y S1 r => Ok.bnd r fun z S2 ⟨s, e, q⟩ => ?_
  rw [e]
  exact .ret q
theorem w_dzip {a b : Ex} (h : Ok (ev P C a f S) fun x S1 => Ok (ev P C b f S1) fun y S2 => ∃ (ns : List Int) (ys : List D), seqAt S2 x = some (ns.map .int) ∧ seqAt S2 y = some ys ∧ ns.length ≤ 100000 ∧ Q (.dic S2.length) (S2 ++ [.dct (updI [] (ns.zip ys))])) : Ok (ev P C (.dzip a b) f S) Q := by
  rw [ev_dzip]
  refine Ok.bnd h fun x S1 r => Ok.bnd r fun y S2 ⟨ns, ys, e1, e2, e3, q⟩ => ?_
  have e : zipO S2 x y = some (updI [] (ns.zip ys)) := by
    have ei : ∀ l : List Int, intsOf (l.map .int) = some l := fun l => by
      induction l with
      | nil => rfl
      | cons a l ih =>
        unfold intsOf at ih ⊢
        rw [List.map_cons, List.mapM_cons, ih]
        rfl
    unfold zipO
    simp only [e1, e2, ei, e3, if_true]
  rw [e]
  exact .ret q
theorem w_dgd {o k d : Ex} (h : Ok (ev P C o f S) fun x S1 => (∃ kvs, dctAt S1 x = some kvs) ∧ Ok (ev P C k f S1) fun y S2 => Ok (ev P C d f S2) fun z S3 => ∃ kvs i, dctAt S3 x = some kvs ∧ y = .int i ∧ Q ((getI kvs i).getD z) S3) : Ok (ev P C (.dgd o k d) f S) Q := by
  rw [ev_dgd]
  refine Ok.bnd h fun x S1 ⟨⟨kv0, e0⟩, r⟩ => ?_
  rw [e0]
  refine Ok.bnd r fun y S2 r => Ok.bnd r fun z S3 ⟨kvs, i, e1, e2, q⟩ => ?_
  subst e2
  rw [e1]
  exact .ret q
theorem w_dval {m : Bool} {o : Ex} (h : Ok (ev P C o f S) fun x S1 => ∃ kvs, dctAt S1 x = some kvs ∧ Ok (fresh m (.lst (kvs.map (·.2))) S1) Q) : Ok (ev P C (.dval m o) f S) Q := by
  rw [ev_dval]
  refine Ok.bnd h fun x S1 ⟨kvs, e, q⟩ => ?_
  rw [e]
  exact q
theorem w_dget {o k : Ex} (h : Ok (ev P C o f S) fun x S1 => Ok (ev P C k f S1) fun y S2 => ∃ kvs i d, dctAt S2 x = some kvs ∧ y = .int i ∧ getI kvs i = some d ∧ Q d S2) : Ok (ev P C (.dget o k) f S) Q := by
  rw [ev_dget]
  refine Ok.bnd h fun x S1 r => Ok.bnd r fun y S2 ⟨kvs, i, d, e1, e2, e3, q⟩ => ?_
  subst e2
  rw [e1]
  exact ⟨d, S2, by show Out.of (getI kvs i) S2 = _; rw [e3]; rfl, q⟩
theorem w_cntA {o a : Ex} (h : Ok (ev P C o f S) fun x S1 => ∃ xs, seqAt S1 x = some xs ∧ Ok (ev P C a f S1) fun y S2 => Oo (cntO S2 x y) fun z => Q z S2) : Ok (ev P C (.cntA o a) f S) Q := by
  rw [ev_cntA]
  refine Ok.bnd h fun x S1 r => ?_
  obtain ⟨xs, e, r⟩ := r
  rw [e]
  exact Ok.bnd r fun _ _ q => w_of q
theorem intsOf_self : ∀ l : List Int, intsOf (l.map D.int) = some l
  | [] => rfl
  | n :: ns => by
    have ih := intsOf_self ns
    simp only [intsOf, List.map_cons, List.mapM_cons, intOf] at ih ⊢
    rw [ih]
    rfl
theorem w_srS {m : Bool} {a : Ex} (h : Ok (ev P C a f S) fun x S1 => ∃ ns : List Int, x = .tup (ns.map .int) ∧ ns.length < 60 ∧ Ok (fresh m (.lst ((sortI (dedI ns)).map .int)) S1) Q) : Ok (ev P C (.srS m a) f S) Q := by
  rw [ev_srS]
  refine Ok.bnd h fun x S1 r => ?_
  obtain ⟨ns, rfl, hl, r⟩ := r
  refine Ok.bnd (w_of (Q := fun z S2 => Ok (fresh m z S2) Q) ⟨D.lst ((sortI (dedI ns)).map .int), ?_, r⟩) fun _ _ q => q
  unfold srSO
  simp only
  rw [intsOf_self ns]
  simp only
  rw [if_pos hl]
theorem w_spl {l m : Bool} {fl : List Bool} {es : List Ex} (h : Ok (evSp P C es fl f S) fun ds S1 => ds.length ≤ 100000 ∧ Ok (rgO l m ds S1) Q) : Ok (ev P C (.spl l m fl es) f S) Q := by
  rw [ev_spl]
  refine Ok.bnd h fun ds S1 r => ?_
  rw [if_pos (small_size r.1)]
  exact r.2
theorem w_sp0 {fl : List Bool} {Q : List D → Store → Prop} (h : Q [] S) : Ok (evSp P C [] fl f S) Q := by rw [evSp_nil]; exact .ret h
theorem w_spF {fl : List Bool} {e : Ex} {es : List Ex} {Q : List D → Store → Prop} (h : Ok (ev P C e f S) fun x S1 => Ok (evSp P C es fl f S1) fun ys S2 => Q (x :: ys) S2) : Ok (evSp P C (e :: es) (false :: fl) f S) Q := by
  rw [evSp_cons]
  refine Ok.bnd h fun x S1 r => ?_
  exact Ok.bnd (w_of (Q := fun xs S2 => xs = [x] ∧ S2 = S1) ⟨[x], rfl, rfl, rfl⟩) fun xs S2 q => by
    obtain ⟨rfl, rfl⟩ := q
    exact Ok.bnd r fun ys S3 q => .ret q
theorem w_spT {fl : List Bool} {e : Ex} {es : List Ex} {Q : List D → Store → Prop} (h : Ok (ev P C e f S) fun x S1 => ∃ xs, seqOf S1 x = some xs ∧ Ok (evSp P C es fl f S1) fun ys S2 => Q (xs ++ ys) S2) : Ok (evSp P C (e :: es) (true :: fl) f S) Q := by
  rw [evSp_cons]
  refine Ok.bnd h fun x S1 r => ?_
  obtain ⟨xs, e, r⟩ := r
  exact Ok.bnd (w_of (Q := fun zs S2 => zs = xs ∧ S2 = S1) ⟨xs, e, rfl, rfl⟩) fun zs S2 q => by
    obtain ⟨rfl, rfl⟩ := q
    exact Ok.bnd r fun ys S3 q => .ret q
theorem w_dupd {o a : Ex} (h : Ok (ev P C o f S) fun x S1 => ∃ kvs, dctAt S1 x = some kvs ∧ Ok (ev P C a f S1) fun y S2 => ∃ S3, updO S2 x y = some S3 ∧ Q .non S3) : Ok (ev P C (.dupd o a) f S) Q := by
  rw [ev_dupd]
  refine Ok.bnd h fun x S1 ⟨kvs, e, r⟩ => ?_
  rw [e]
  refine Ok.bnd r fun y S2 ⟨S3, e2, q⟩ => ?_
  rw [e2]
  exact .ret q
theorem w_stp {m : Bool} {a st : Ex} {lo : List Ex} (h : Ok (ev P C a f S) fun x S1 => Ok (evPart P C lo f S1) fun l S2 => Ok (ev P C st f S2) fun k S3 => ∃ c, k = .int c ∧ Oo (stepOf S3 x l c) fun z => Ok (fresh m z S3) Q) : Ok (ev P C (.stp m a lo st) f S) Q := by
  rw [ev_stp]
  refine Ok.bnd h fun x S1 r => Ok.bnd r fun l S2 r => Ok.bnd r fun k S3 ⟨c, e, z, e2, q⟩ => ?_
  rw [e]
  simp only
  rw [e2]
  exact q
theorem w_sX {m : Nat} {a : Ex} (h : Ok (ev P C a f S) fun x S1 => ∃ c fs, x = .obj c fs ∧ ∃ k, P.cl c = some k ∧ ∃ g, k.meths.lookup m = some g ∧ Ok (C.str g [.obj c fs] S1) fun y S2 => ∃ t, y = .str t ∧ Q (.str t) S2) : Ok (ev P C (.sX m a) f S) Q := by
  rw [ev_sX]
  refine Ok.bnd h fun _ _ ⟨c, fs, e, k, e2, g, e3, q⟩ => ?_
  rw [e]
  simp only [e2, e3]
  obtain ⟨y, S2, e4, t, e5, q⟩ := q
  rw [e4, e5]
  exact ⟨_, _, rfl, q⟩
theorem w_sI {m : Nat} {a : Ex} (h : Ok (ev P C a f S) fun x S1 => ∃ i : Int, x = .int i ∧ i.natAbs.log2 < 1920 ∧ Q (.str (toString i)) S1) : Ok (ev P C (.sX m a) f S) Q := by
  rw [ev_sX]
  refine Ok.bnd h fun _ _ ⟨i, e, l, q⟩ => ?_
  rw [e]
  simp only
  rw [if_pos l]
  exact .ret q
theorem w_join {a b : Ex} (h : Ok (ev P C a f S) fun x S1 => ∃ s, x = .str s ∧ Ok (ev P C b f S1) fun y S2 => Oo (joinO S2 s y) fun z => Q z S2) : Ok (ev P C (.join a b) f S) Q := by
  rw [ev_join]
  refine Ok.bnd h fun _ _ ⟨s, e, q⟩ => ?_
  rw [e]
  exact Ok.bnd q fun _ _ ⟨z, e, q⟩ => by rw [e]; exact .ret q
theorem w_spt {m : Bool} {a b : Ex} (h : Ok (ev P C a f S) fun x S1 => ∃ s, x = .str s ∧ Ok (ev P C b f S1) fun y S2 => Oo (splO s y) fun z => Ok (fresh m z S2) Q) : Ok (ev P C (.spt m a b) f S) Q := by
  rw [ev_spt]
  refine Ok.bnd h fun _ _ ⟨s, e, q⟩ => ?_
  rw [e]
  exact Ok.bnd q fun _ _ ⟨z, e, q⟩ => by rw [e]; exact q
theorem w_fst {a b : Ex} {t : Str} (h : Ok (ev P C a f S) fun x S1 => ∃ s, x = .str s ∧ (s.length ≤ sizeLine ∧ (Str.empty ++ s).length ≤ sizeLine ∧ (Str.empty ++ s ++ t).length ≤ sizeLine) ∧ Ok (ev P C b f S1) fun y S2 => Oo (fstO s t y) fun z => Q z S2) : Ok (ev P C (.fst a t b) f S) Q := by
  rw [ev_fst]
  refine Ok.bnd h fun _ _ ⟨s, e, l, q⟩ => ?_
  rw [e]
  simp only
  rw [if_pos l]
  exact Ok.bnd q fun _ _ ⟨z, e, q⟩ => by rw [e]; exact .ret q
theorem w_fld {a : Nat} {d : D} (e : f.φ.lookup a = some d) (h : Q d S) : Ok (ev P C (.fld a) f S) Q := by rw [ev_fld, e]; exact .ret h
theorem w_comp {m : Bool} {elt : Ex} {tg : Tg} {it : It} {ifs : List Te} {own : List Nat} (h : Ok (evIt P C it f S) fun s S1 => Ok (compL s.held (fun x S2 => (evTg P C tg x (wipeV f own) S2).bind fun f1 S3 => (evTs P C ifs f1 S3).bind fun b S4 =>
        match b with
        | true => (ev P C elt f1 S4).bind fun y S5 => .ok (some y) S5
        | false => .ok none S4) s.items [] S1) fun ds S2 => Ok (fresh m (.lst ds) S2) Q) : Ok (ev P C (.comp m elt tg it ifs own) f S) Q := by
  rw [ev_comp]
  exact Ok.bnd h fun _ _ r => Ok.bnd r fun _ _ q => q
theorem w_turn {elt : Ex} {tg : Tg} {ifs : List Te} {x : D} {fw : Fr} {Q : Option D → Store → Prop} (h : Ok (evTg P C tg x fw S) fun f1 S3 => Ok (evTs P C ifs f1 S3) fun b S4 => (b = true → Ok (ev P C elt f1 S4) fun y S5 => Q (some y) S5) ∧ (b = false → Q none S4)) : Ok ((evTg P C tg x fw S).bind fun f1 S3 => (evTs P C ifs f1 S3).bind fun b S4 =>
        match b with
        | true => (ev P C elt f1 S4).bind fun y S5 => .ok (some y) S5
        | false => .ok none S4) Q := by
  refine Ok.bnd h fun f1 S3 r => Ok.bnd r fun b S4 ⟨q1, q2⟩ => ?_
  cases b with
  | true => exact Ok.bnd (q1 rfl) fun _ _ q => .ret q
  | false => exact .ret (q2 rfl)
theorem w_turn0 {elt : Ex} {tg : Tg} {x : D} {fw : Fr} {Q : Option D → Store → Prop} (h : Ok (evTg P C tg x fw S) fun f1 S3 => Ok (ev P C elt f1 S3) fun y S5 => Q (some y) S5) : Ok ((evTg P C tg x fw S).bind fun f1 S3 => (evTs P C [] f1 S3).bind fun b S4 =>
        match b with
        | true => (ev P C elt f1 S4).bind fun y S5 => .ok (some y) S5
        | false => .ok none S4) Q := by
  refine w_turn (h.imp fun f1 S3 r => ?_)
  rw [evTs_nil]
  exact .ret ⟨fun _ => r, fun z => by cases z⟩
theorem w_evs0 {Q : List D → Store → Prop} (h : Q [] S) : Ok (evs P C [] f S) Q := by rw [evs_nil]; exact .ret h
theorem w_evs {Q : List D → Store → Prop} {e : Ex} {es : List Ex} (h : Ok (ev P C e f S) fun x S1 => Ok (evs P C es f S1) fun xs S2 => Q (x :: xs) S2) : Ok (evs P C (e :: es) f S) Q := by
  rw [evs_cons]
  exact Ok.bnd h fun _ _ r => Ok.bnd r fun _ _ q => .ret q
end
section
variable {P : Pr} {C : Orc} {f : Fr} {S : Store} {Q : Bool → Store → Prop}
theorem w_T_of {e : Ex} (h : Ok (ev P C e f S) fun x S1 => Oo (truth S1 x) fun b => Q b S1) : Ok (evT P C (.of e) f S) Q := by
  rw [evT_of]
  exact Ok.bnd h fun _ _ ⟨z, e, q⟩ => by rw [e]; exact .ret q
theorem w_T_cmp {o : Cop} {a b : Ex} (h : Ok (ev P C a f S) fun x S1 => Ok (ev P C b f S1) fun y S2 => Oo (cop S2 o x y) fun z => Q z S2) : Ok (evT P C (.cmp o a b) f S) Q := by
  rw [evT_cmp]
  exact Ok.bnd h fun _ _ r => Ok.bnd r fun _ _ ⟨z, e, q⟩ => by rw [e]; exact .ret q
theorem w_oeqO {ng : Bool} {m : Nat} {x y : D} {Q : Bool → Store → Prop} (h : ∃ c ds k g, x = .obj c ds ∧ eqArg S c y = true ∧ P.cl c = some k ∧ k.meths.lookup m = some g ∧ Ok (C.str g [.obj c ds, y] S) fun z S3 => ∃ r, z = .bl r ∧ Q (if ng = true then !r else r) S3) : Ok (oeqO P C ng m x y S) Q := by
  obtain ⟨c, ds, k, g, e1, e2, e3, e4, z, S3, e5, r, e6, q⟩ := h
  subst e1
  unfold oeqO
  simp only [e2, e3, e4, if_true]
  rw [e5, e6]
  exact .ret q
theorem w_oeqV {ng : Bool} {m : Nat} {a b : Ex} {Q : D → Store → Prop} (h : Ok (ev P C a f S) fun x S1 => Ok (ev P C b f S1) fun y S2 => ∃ c ds k g, x = .obj c ds ∧ eqArg S2 c y = true ∧ P.cl c = some k ∧ k.meths.lookup m = some g ∧
    Ok (C.str g [.obj c ds, y] S2) fun z S3 => ∃ r, z = .bl r ∧ Q (.bl (if ng = true then !r else r)) S3) : Ok (ev P C (.oeqV ng m a b) f S) Q := by
  rw [ev_oeqV]
  exact Ok.bnd h fun x S1 r => Ok.bnd r fun y S2 q => Ok.bnd (w_oeqO (Q := fun r S3 => Q (.bl r) S3) q) fun _ _ q => .ret q
theorem w_lnO {w m : Nat} {a : Ex} {Q : D → Store → Prop} (h : Ok (ev P C a f S) fun x S1 => ∃ c fs k g, x = .obj c fs ∧ P.cl c = some k ∧ k.meths.lookup m = some g ∧ Ok (C.str g [.obj c fs] S1) fun y S2 => Ok (dunO w y S2) Q) : Ok (ev P C (.lnO w m a) f S) Q := by
  rw [ev_lnO]
  refine Ok.bnd h fun x S1 ⟨c, fs, k, g, e1, e2, e3, y, S2, e4, q⟩ => ?_
  subst e1
  simp only [e2, e3]
  rw [e4]
  exact q
theorem w_fmI {x y : Str} {a : Ex} {Q : D → Store → Prop} (h0 : (Str.empty ++ x).length ≤ sizeLine) (h : Ok (ev P C a f S) fun d S1 => Oo (fmO x y d) fun z => Q z S1) : Ok (ev P C (.fmI x a y) f S) Q := by
  rw [ev_fmI, if_pos h0]
  exact Ok.bnd h fun _ _ ⟨z, e, q⟩ => by rw [e]; exact .ret q
theorem w_dlit {k v : Int} {Q : D → Store → Prop} (h : Q (.dic S.length) (S ++ [.dct [(k, .int v)]])) : Ok (ev P C (.dlit k v) f S) Q := by
  rw [ev_dlit]
  exact .ret h
theorem w_mthK {m g : Nat} {p0 : Str} {o : Ex} {perm : List Nat} {es : List Ex} {Q : D → Store → Prop} (h : Ok (ev P C o f S) fun x S1 => ∃ c ds k, x = .obj c ds ∧ P.cl c = some k ∧ k.meths.lookup m = some g ∧ Ok (evs P C es f S1) fun es' S2 => Ok (C.fn g (.obj c ds :: perm.map fun k => es'.getD k .non) S2) Q) : Ok (ev P C (.mthK m g p0 o perm es) f S) Q := by
  rw [ev_mthK]
  refine Ok.bnd h fun x S1 ⟨c, ds, k, e1, e2, e3, q⟩ => ?_
  subst e1
  simp only [e2, e3, if_true]
  exact w_bind q
theorem w_T_din {neg : Bool} {k o : Ex} {Q : Bool → Store → Prop} (h : Ok (ev P C k f S) fun y S1 => Ok (ev P C o f S1) fun x S2 => ∃ kvs i, dctAt S2 x = some kvs ∧ y = .int i ∧ Q (if neg = true then !(getI kvs i).isSome else (getI kvs i).isSome) S2) : Ok (evT P C (.dinT neg k o) f S) Q := by
  rw [evT_dinT]
  refine Ok.bnd h fun y S1 r => Ok.bnd r fun x S2 ⟨kvs, i, e1, e2, q⟩ => ?_
  subst e2
  rw [e1]
  exact ⟨_, S2, rfl, q⟩
theorem w_T_chain {o o' : Cop} {a b c : Ex} (h : Ok (ev P C a f S) fun x S1 => Ok (ev P C b f S1) fun y S2 => Oo (cop S2 o x y) fun z => (z = true → Ok (ev P C c f S2) fun w S3 => Oo (cop S3 o' y w) fun z' => Q z' S3) ∧ (z = false → Q false S2)) : Ok (evT P C (.chain o o' a b c) f S) Q := by
  rw [evT_chain]
  refine Ok.bnd h fun _ _ r => Ok.bnd r fun _ _ ⟨z, e, q1, q2⟩ => ?_
  rw [e, of_some, bind_ok]
  cases z with
  | true => exact Ok.bnd (q1 rfl) fun _ _ ⟨z', e', q⟩ => by rw [e']; exact .ret q
  | false => exact .ret (q2 rfl)
theorem w_T_not {t : Te} (h : Ok (evT P C t f S) fun b S1 => Q (!b) S1) : Ok (evT P C (.not t) f S) Q := by
  rw [evT_not]
  exact Ok.bnd h fun _ _ q => .ret q
theorem w_T_and {es : List Te} (h : Ok (evAll P C es f S) Q) : Ok (evT P C (.and es) f S) Q := by rw [evT_and]; exact h
theorem w_T_or {es : List Te} (h : Ok (evAny P C es f S) Q) : Ok (evT P C (.or es) f S) Q := by rw [evT_or]; exact h
theorem w_all1 {e : Te} (h : Ok (evT P C e f S) Q) : Ok (evAll P C [e] f S) Q := by rw [evAll_one]; exact Ok.bnd h fun _ _ q => .ret q
theorem w_any1 {e : Te} (h : Ok (evT P C e f S) Q) : Ok (evAny P C [e] f S) Q := by rw [evAny_one]; exact Ok.bnd h fun _ _ q => .ret q
theorem w_allC {e u : Te} {es : List Te} (h : Ok (evT P C e f S) fun b S1 => (b = true → Ok (evAll P C (u :: es) f S1) Q) ∧ (b = false → Q false S1)) : Ok (evAll P C (e :: u :: es) f S) Q := by
  rw [evAll_cons]
  refine Ok.bnd h fun b _ ⟨q1, q2⟩ => ?_
  cases b with
  | true => exact q1 rfl
  | false => exact .ret (q2 rfl)
theorem w_anyC {e u : Te} {es : List Te} (h : Ok (evT P C e f S) fun b S1 => (b = false → Ok (evAny P C (u :: es) f S1) Q) ∧ (b = true → Q true S1)) : Ok (evAny P C (e :: u :: es) f S) Q := by
  rw [evAny_cons]
  refine Ok.bnd h fun b _ ⟨q1, q2⟩ => ?_
  cases b with
  | true => exact .ret (q2 rfl)
  | false => exact q1 rfl
theorem w_ts0 (h : Q true S) : Ok (evTs P C [] f S) Q := by rw [evTs_nil]; exact .ret h
theorem w_ts1 {t : Te} {ts : List Te} (h : Ok (evT P C t f S) Q) : Ok (evTs P C (t :: ts) f S) Q := by rw [evTs_one]; exact h
end
section
variable {P : Pr} {C : Orc} {f : Fr} {S : Store} {Q : Src → Store → Prop}
theorem w_it {e : Ex} (h : Ok (ev P C e f S) fun x S1 => Oo (srcOf S1 x) fun s => Q s S1) : Ok (evIt P C (.of e) f S) Q := by
  rw [evIt_of]
  exact Ok.bnd h fun _ _ ⟨z, e, q⟩ => by rw [e]; exact .ret q
theorem w_sgn {e : Ex} (h : Ok (ev P C e f S) fun x S1 => ∃ s, x = .str s ∧ Q ⟨s.cps.toList.map fun c => .str ⟨#[c]⟩, [], true⟩ S1) : Ok (evIt P C (.sgn e) f S) Q := by
  rw [evIt_sgn]
  exact Ok.bnd h fun _ _ ⟨s, e, q⟩ => by rw [e]; exact .ret q
theorem w_rng1 {a : Ex} (h : Ok (ev P C a f S) fun x S1 => ∃ n, x = .int n ∧ Oo (rngD 0 n) fun s => Q s S1) : Ok (evIt P C (.rng1 a) f S) Q := by
  rw [evIt_rng1]
  exact Ok.bnd h fun _ _ ⟨n, e, s, e2, q⟩ => by rw [e]; simp only; rw [e2]; exact .ret q
theorem w_rng2 {a b : Ex} (h : Ok (ev P C a f S) fun x S1 => ∃ i, x = .int i ∧ Ok (ev P C b f S1) fun y S2 => ∃ j, y = .int j ∧ Oo (rngD i j) fun s => Q s S2) : Ok (evIt P C (.rng2 a b) f S) Q := by
  rw [evIt_rng2]
  exact Ok.bnd h fun _ _ ⟨n, e, q⟩ => Ok.bnd q fun _ _ ⟨m, e1, s, e2, q⟩ => by rw [e, e1]; simp only; rw [e2]; exact .ret q
theorem w_zip {a b : Ex} (h : Ok (ev P C a f S) fun x S1 => Ok (ev P C b f S1) fun y S2 => Oo (srcOf S2 x) fun s => Oo (srcOf S2 y) fun t => Q ⟨List.zipWith (fun d e => D.tup [d, e]) s.items t.items, s.held ++ t.held, true⟩ S2) : Ok (evIt P C (.zip a b) f S) Q := by
  rw [evIt_zip]
  refine Ok.bnd h fun _ _ r => Ok.bnd r fun _ _ ⟨s, e, t, e2, q⟩ => ?_
  rw [e, of_some, bind_ok, e2]
  exact .ret q
theorem w_enm {e : Ex} (h : Ok (ev P C e f S) fun x S1 => Oo (srcOf S1 x) fun s => Q ⟨s.items.mapIdx fun (i : Nat) d => D.tup [.int i, d], s.held, true⟩ S1) : Ok (evIt P C (.enm e) f S) Q := by
  rw [evIt_enm]
  exact Ok.bnd h fun _ _ ⟨z, e, q⟩ => by rw [e]; exact .ret q
end
section
variable {P : Pr} {C : Orc} {f : Fr} {S : Store} {Q : Fr → Store → Prop}
theorem w_tgN {i : Nat} {d : D} (h : Q (setV f i d) S) : Ok (evTg P C (.nm i) d f S) Q := by rw [evTg_nm]; exact .ret h
theorem w_tgT {ts : List Tg} {ds : List D} (l : ds.length = ts.length) (h : Ok (evTgs P C ts ds f S) Q) : Ok (evTg P C (.tup ts) (.tup ds) f S) Q := by rw [evTg_tup, if_pos l]; exact h
theorem w_tgL {ts : List Tg} {ds : List D} (l : ds.length = ts.length) (h : Ok (evTgs P C ts ds f S) Q) : Ok (evTg P C (.tup ts) (.lst ds) f S) Q := by rw [evTg_tupL, if_pos l]; exact h
theorem w_tgS {o i : Ex} {d : D} (h : Ok (ev P C o f S) fun x S1 => Ok (ev P C i f S1) fun k S2 => Oo (store S2 x k d) fun S3 => Q f S3) : Ok (evTg P C (.sub o i) d f S) Q := by
  rw [evTg_sub]
  refine Ok.bnd h fun _ _ r => Ok.bnd r fun _ _ ⟨S3, e, q⟩ => ?_
  rw [e]
  exact .ret q
theorem w_tgs0 {ds : List D} (h : Q f S) : Ok (evTgs P C [] ds f S) Q := by rw [evTgs_nil]; exact .ret h
theorem w_tgsC {t : Tg} {ts : List Tg} {d : D} {ds : List D} (h : Ok (evTg P C t d f S) fun f1 S1 => Ok (evTgs P C ts ds f1 S1) Q) : Ok (evTgs P C (t :: ts) (d :: ds) f S) Q := by rw [evTgs_cons]; exact w_bind h
end
section
variable {P : Pr} {C : Orc} {f : Fr} {S : Store} {nx : Fr → Store → Prop} {rt : D → Store → Prop} {bk ct : Fr → Store → Prop}
theorem w_seq {s : Sm} {ss : List Sm} (h : Go (ex P C s f S) (fun f1 S1 => Go (exs P C ss f1 S1) nx rt bk ct) rt bk ct) : Go (exs P C (s :: ss) f S) nx rt bk ct := Go.cons h fun _ _ r => r
theorem w_last {s : Sm} (h : Go (ex P C s f S) nx rt bk ct) : Go (exs P C [s] f S) nx rt bk ct := Go.cons h fun _ _ r => by rw [exs_nil]; exact ⟨(), r⟩
theorem w_nil (h : nx f S) : Go (exs P C [] f S) nx rt bk ct := Go.nil h
theorem w_asgN {i : Nat} {e : Ex} (h : Ok (ev P C e f S) fun d S1 => nx (setV f i d) S1) : Go (ex P C (.asg (.nm i) e) f S) nx rt bk ct := by
  rw [ex_asg]
  refine Go.so h fun d S1 q => ?_
  rw [evTg_nm]
  exact ⟨(), q⟩
theorem w_asg {t : Tg} {e : Ex} (h : Ok (ev P C e f S) fun d S1 => Ok (evTg P C t d f S1) nx) : Go (ex P C (.asg t e) f S) nx rt bk ct := by
  rw [ex_asg]
  refine Go.so h fun d S1 ⟨f1, S2, e, q⟩ => ?_
  rw [e]
  exact ⟨(), q⟩
theorem w_par {is : List Nat} {es : List Ex} (h : Ok (evs P C es f S) fun ds S1 => ds.length = is.length ∧ nx (setVs f is ds) S1) : Go (ex P C (.par is es) f S) nx rt bk ct := by
  rw [ex_par]
  refine Go.so h fun d S1 ⟨l, q⟩ => ?_
  rw [if_pos l]
  exact ⟨(), q⟩
theorem w_augX {o i : Ex} {b : Bop} {e : Ex} (h : Ok (ev P C o f S) fun x S1 => Ok (ev P C i f S1) fun k S2 => ∃ a, numAt S2 x k = some a ∧ Ok (ev P C e f S2) fun y S3 => ∃ z, augI b a y = some z ∧ ∃ S4, store S3 x k z = some S4 ∧ nx f S4) : Go (ex P C (.augX o i b e) f S) nx rt bk ct := by
  rw [ex]
  refine Go.so h fun x S1 h1 => Go.so h1 fun k S2 ⟨a, ea, h2⟩ => ?_
  rw [ea]
  refine Go.so h2 fun y S3 ⟨z, ez, S4, es, q⟩ => ?_
  rw [ez]
  show Go (match store S3 x k z with | some S4 => .nx f S4 | none => .bad) nx rt bk ct
  rw [es]
  exact ⟨(), q⟩
theorem w_fset {a : Nat} {e : Ex} (h : Ok (ev P C e f S) fun d S1 => f.φ.length < 900 ∧ nx ⟨f.ρ, putN a d f.φ⟩ S1) : Go (ex P C (.fset a e) f S) nx rt bk ct := by
  rw [ex_fset]
  refine Go.so h fun d S1 ⟨l, q⟩ => ?_
  rw [if_pos l]
  exact ⟨(), q⟩
theorem w_expr {e : Ex} (h : Ok (ev P C e f S) fun _ S1 => nx f S1) : Go (ex P C (.expr e) f S) nx rt bk ct := by
  rw [ex_expr]
  exact Go.so h fun _ _ q => ⟨(), q⟩
theorem w_ret {e : Ex} (h : Ok (ev P C e f S) rt) : Go (ex P C (.ret e) f S) nx rt bk ct := by
  rw [ex_ret]
  exact Go.so h fun _ _ q => ⟨(), q⟩
theorem w_retN (h : rt .non S) : Go (ex P C .retN f S) nx rt bk ct := by
  rw [ex]
  exact ⟨(), h⟩
theorem w_ifs {c : Te} {a b : List Sm} (h : Ok (evT P C c f S) fun t S1 => (t = true → Go (exs P C a f S1) nx rt bk ct) ∧ (t = false → Go (exs P C b f S1) nx rt bk ct)) : Go (ex P C (.ifs c a b) f S) nx rt bk ct := by
  rw [ex_ifs]
  refine Go.so h fun t S1 ⟨q1, q2⟩ => ?_
  cases t with
  | true => exact q1 rfl
  | false => exact q2 rfl
theorem w_fors {t : Tg} {it : It} {body : List Sm} (h : Ok (evIt P C it f S) fun s S1 => Go (forL s.held (fun d f1 S2 => evTg P C t d f1 S2) (fun f1 S2 => exs P C body f1 S2) s.items f S1) nx rt bk ct) : Go (ex P C (.fors t it body) f S) nx rt bk ct := by
  rw [ex_fors]
  exact Go.so h fun _ _ q => q
theorem w_whiles {c : Te} {body : List Sm} (h : Go (whl (fun f1 S1 => evT P C c f1 S1) (fun f1 S1 => exs P C body f1 S1) f S) nx rt bk ct) : Go (ex P C (.whiles c body) f S) nx rt bk ct := by
  rw [ex_whiles]
  exact h
theorem w_brk (h : bk f S) : Go (ex P C .brk f S) nx rt bk ct := by rw [ex_brk]; exact ⟨(), h⟩
theorem w_cont (h : ct f S) : Go (ex P C .cont f S) nx rt bk ct := by rw [ex]; exact ⟨(), h⟩
theorem w_tryD {body : List Sm} (h : Go (exs P C body f S) nx rt bk ct) : Go (ex P C (.tryD body) f S) nx rt bk ct := by
  have h := h.m
  refine ⟨(), ?_⟩
  rw [ex_tryD]
  cases e : exs P C body f S with
  | nx f1 S1 => rw [e] at h; exact h
  | rt d S1 => rw [e] at h; exact h
  | bk f1 S1 => rw [e] at h; exact h
  | ct f1 S1 => rw [e] at h; exact h
  | ex x f1 S1 => rw [e] at h; exact h.elim
  | bad => rw [e] at h; exact h.elim
theorem w_pass (h : nx f S) : Go (ex P C .pass f S) nx rt bk ct := by rw [ex_pass]; exact ⟨(), h⟩
/-- a function from its body -/
theorem w_fn {d g : Nat} {F : Fn} {ds : List D} {Q : D → Store → Prop} {fr : Fr} (h : P.fn g = some F) (hl : ds.length = F.np) (hf : (⟨ds.map some ++ List.replicate (F.ns - ds.length) none, []⟩ : Fr) = fr) (q : Go (exs P (orc P d) F.body fr S) (fun _ S' => Q .non S') Q noF noF) : Ok ((orc P (d + 1)).fn g ds S) Q := by
  rw [orc_fn, callF_of h]
  refine Ok.run hl ?_
  rw [hf]
  exact q
end
theorem e_int {i : Int} {R : Int → Prop} (h : R i) : ∃ n, D.int i = .int n ∧ R n := ⟨i, rfl, h⟩
theorem e_loc {i : Nat} {R : Nat → Prop} (h : R i) : ∃ n, D.loc i = .loc n ∧ R n := ⟨i, rfl, h⟩
theorem e_bl {b : Bool} {R : Bool → Prop} (h : R b) : ∃ n, D.bl b = .bl n ∧ R n := ⟨b, rfl, h⟩
theorem e_t {A : Prop} {B : Prop} (h : A) : ((true = true) → A) ∧ ((true = false) → B) := ⟨fun _ => h, fun z => by cases z⟩
theorem e_f {A : Prop} {B : Prop} (h : B) : ((false = true) → A) ∧ ((false = false) → B) := ⟨fun z => (by cases z), fun _ => h⟩
theorem e_t' {A : Prop} {B : Prop} (h : B) : ((true = false) → A) ∧ ((true = true) → B) := ⟨fun z => (by cases z), fun _ => h⟩
theorem e_f' {A : Prop} {B : Prop} (h : A) : ((false = false) → A) ∧ ((false = true) → B) := ⟨fun _ => h, fun z => by cases z⟩
theorem e_nt {A : Prop} {B : Prop} (h : B) : ((!true) = true → A) ∧ ((!true) = false → B) := ⟨fun z => (by cases z), fun _ => h⟩
theorem e_nf {A : Prop} {B : Prop} (h : A) : ((!false) = true → A) ∧ ((!false) = false → B) := ⟨fun _ => h, fun z => by cases z⟩
theorem e_nt' {A : Prop} {B : Prop} (h : A) : ((!true) = false → A) ∧ ((!true) = true → B) := ⟨fun _ => h, fun z => by cases z⟩
theorem e_nf' {A : Prop} {B : Prop} (h : B) : ((!false) = false → A) ∧ ((!false) = true → B) := ⟨fun z => (by cases z), fun _ => h⟩
section
variable {S : Store} {Q : D → Prop}
theorem o_add {i j : Int} (h : Q (.int (i + j))) : Oo (bop S .add (.int i) (.int j)) Q := ⟨_, rfl, h⟩
theorem o_sub {i j : Int} (h : Q (.int (i - j))) : Oo (bop S .sub (.int i) (.int j)) Q := ⟨_, rfl, h⟩
theorem o_mul {i j : Int} (h : (i.natAbs.log2 + j.natAbs.log2 < 100000000) ∧ Q (.int (i * j))) : Oo (bop S .mul (.int i) (.int j)) Q := ⟨_, bop_mul h.1, h.2⟩
theorem o_fdiv {i j : Int} (h : (0 < j ∧ j.natAbs.log2 < 9000) ∧ Q (.int (i / j))) : Oo (bop S .fdiv (.int i) (.int j)) Q := ⟨_, bop_fdiv h.1, h.2⟩
theorem o_mod {i j : Int} (h : (0 < j) ∧ Q (.int (i % j))) : Oo (bop S .mod (.int i) (.int j)) Q := ⟨_, bop_mod h.1, h.2⟩
theorem o_addT {xs ys : List D} (h : (xs.length + ys.length ≤ 100000) ∧ Q (.tup (xs ++ ys))) : Oo (bop S .add (.tup xs) (.tup ys)) Q := ⟨_, bop_addT (small_size h.1), h.2⟩
theorem o_addL {xs ys : List D} (h : (xs.length + ys.length ≤ 100000) ∧ Q (.lst (xs ++ ys))) : Oo (bop S .add (.lst xs) (.lst ys)) Q := ⟨_, bop_addL (small_size h.1), h.2⟩
theorem o_itemL {x : D} {xs : List D} {k : Int} {d : D} (e : seqOf S x = some xs) (e2 : L2.atI xs k = some d) (h : Q d) : Oo (itemAt S x (.int k)) Q := ⟨d, by rw [itemAt_of e, e2], h⟩
theorem o_itemT {α : Type} {c : α → D} {l : List α} {i : Nat} {k : Int} (hi : i < l.length) (hk : k = (i : Int)) (h : Q (c l[i])) : Oo (itemAt S (.tup (l.map c)) (.int k)) Q := o_itemL rfl (atI_map hi hk) h
theorem o_itemM {α : Type} {c : α → D} {l : List α} {i : Nat} {k : Int} {x : D} (e : seqOf S x = some (l.map c)) (hi : i < l.length) (hk : k = (i : Int)) (h : Q (c l[i])) : Oo (itemAt S x (.int k)) Q := o_itemL e (atI_map hi hk) h
theorem o_lenM {α : Type} {c : α → D} {l : List α} (h : Q (.int l.length)) : Oo (bi S .len [.tup (l.map c)]) Q := ⟨_, bi_len (seqOf_tup _), by rw [List.length_map]; exact h⟩
theorem o_len {x : D} {xs : List D} (e : seqOf S x = some xs) (h : Q (.int xs.length)) : Oo (bi S .len [x]) Q := ⟨_, bi_len e, h⟩
theorem o_abs {i : Int} (h : Q (.int (if i < 0 then -i else i))) : Oo (bi S .abs [.int i]) Q := ⟨_, rfl, h⟩
theorem o_int {i : Int} (h : Q (.int i)) : Oo (bi S .int [.int i]) Q := ⟨_, rfl, h⟩
theorem o_addS {a b : Str} (h : a.length + b.length ≤ 100000 ∧ Q (.str (a ++ b))) : Oo (bop S .add (.str a) (.str b)) Q := ⟨.str (a ++ b), if_pos (small_size h.1), h.2⟩
theorem o_rev {xs : List D} (h : Q (.tup xs.reverse)) : Oo (stepOf S (.tup xs) none (-1)) Q := ⟨.tup xs.reverse, by
  show (if (none : Option Int) = none ∧ (-1 : Int) = -1 then some (D.tup xs.reverse) else none) = _
  exact if_pos ⟨rfl, rfl⟩, h⟩
theorem o_max2 {i j : Int} (h : Q (.int (if j > i then j else i))) : Oo (bi S .max2 [.int i, .int j]) Q := ⟨_, rfl, h⟩
theorem o_min2 {i j : Int} (h : Q (.int (if j < i then j else i))) : Oo (bi S .min2 [.int i, .int j]) Q := ⟨_, rfl, h⟩
theorem ints_self (l : List Int) : intsOf (l.map D.int) = some l := by
  have := ints_map l (fun x => x)
  simpa using this
theorem o_all {α : Type} {l : List α} {p : α → Bool} (h : Q (.bl (l.all p))) : Oo (bi S .all [.lst (l.map fun a => D.bl (p a))]) Q := ⟨_, bi_all (seqAt_lst _) (bls_map l p), by rw [List.all_map]; exact h⟩
theorem o_any {α : Type} {l : List α} {p : α → Bool} (h : Q (.bl (l.any p))) : Oo (bi S .any [.lst (l.map fun a => D.bl (p a))]) Q := ⟨_, bi_any (seqAt_lst _) (bls_map l p), by rw [List.any_map]; exact h⟩
theorem o_sorted {x : D} {l : List Int} (e : seqOf S x = some (l.map D.int)) (h : Q (.lst ((sortI l).map .int))) : Oo (bi S .sorted [x]) Q := ⟨_, bi_sorted e (ints_self l), h⟩
theorem o_tuple {x : D} {xs : List D} (e : seqOf S x = some xs) (h : Q (.tup xs)) : Oo (bi S .tuple [x]) Q := ⟨_, bi_tuple e, h⟩
theorem o_list {x : D} {xs : List D} (e : seqOf S x = some xs) (h : Q (.lst xs)) : Oo (bi S .list [x]) Q := ⟨_, bi_list e, h⟩
theorem o_divmod {i j : Int} (h : (0 < j ∧ j < 1073741824) ∧ Q (.tup [.int (i / j), .int (i % j)])) : Oo (bi S .divmod [.int i, .int j]) Q := ⟨_, bi_divmod h.1, h.2⟩
end
section
variable {S : Store} {Q : Bool → Prop}
theorem o_lt {i j : Int} (h : Q (decide (i < j))) : Oo (cop S .lt (.int i) (.int j)) Q := ⟨_, rfl, h⟩
theorem o_le {i j : Int} (h : Q (decide (i ≤ j))) : Oo (cop S .le (.int i) (.int j)) Q := ⟨_, rfl, h⟩
theorem o_gt {i j : Int} (h : Q (decide (j < i))) : Oo (cop S .gt (.int i) (.int j)) Q := ⟨_, rfl, h⟩
theorem o_ge {i j : Int} (h : Q (decide (j ≤ i))) : Oo (cop S .ge (.int i) (.int j)) Q := ⟨_, rfl, h⟩
theorem o_eqI {i j : Int} (h : Q (decide (i = j))) : Oo (cop S .eq (.int i) (.int j)) Q := ⟨_, cop_eqI i j, h⟩
theorem o_neI {i j : Int} (h : Q (!decide (i = j))) : Oo (cop S .ne (.int i) (.int j)) Q := ⟨_, cop_neI i j, h⟩
theorem o_eq {α : Type} [DecidableEq α] (E : Enc α) (hd : E.dp ≤ 64) (a b : α) (x y : D) (hx : x = E.e a) (hy : y = E.e b) (h : Q (decide (a = b))) : Oo (cop S .eq x y) Q := ⟨_, E.cop_eq hd S a b x y hx hy, h⟩
theorem o_inI {i : Int} {l : List Int} {x : D} (e : x = .tup (l.map .int)) (h : Q (decide (i ∈ l))) : Oo (cop S .in_ (.int i) x) Q := ⟨_, Enc.int.cop_inT (by decide) S i l _ _ rfl e, h⟩
theorem o_ninI {i : Int} {l : List Int} {x : D} (e : x = .tup (l.map .int)) (h : Q (!decide (i ∈ l))) : Oo (cop S .notIn (.int i) x) Q := ⟨_, Enc.int.cop_ninT (by decide) S i l _ _ rfl e, h⟩
theorem o_trB {b : Bool} (h : Q b) : Oo (truth S (.bl b)) Q := ⟨_, rfl, h⟩
theorem o_trI {i : Int} (h : Q (i != 0)) : Oo (truth S (.int i)) Q := ⟨_, rfl, h⟩
end
section
variable {S : Store} {Q : Src → Prop}
theorem o_srcT {xs : List D} (h : Q ⟨xs, [], true⟩) : Oo (srcOf S (.tup xs)) Q := ⟨_, rfl, h⟩
theorem o_srcL {xs : List D} (h : Q ⟨xs, [], false⟩) : Oo (srcOf S (.lst xs)) Q := ⟨_, rfl, h⟩
theorem o_srcF {xs : List D} (h : Q ⟨xs, [], false⟩) : Oo (srcOf S (.frz xs)) Q := ⟨_, rfl, h⟩
theorem o_srcM {n : Nat} {xs : List D} (e : S[n]? = some (.lst xs)) (h : Q ⟨xs, [(n, xs)], false⟩) : Oo (srcOf S (.loc n)) Q := ⟨_, srcOf_loc e, h⟩
theorem o_rng {n : Nat} {k : Int} (hk : k = (n : Int)) (hn : n ≤ 100000) (h : Q ⟨(List.range n).map fun (i : Nat) => D.int (i : Int), [], true⟩) : Oo (rngD 0 k) Q := by
  subst hk
  exact ⟨_, rngD_0 hn, h⟩
end
theorem o_push {S : Store} {n : Nat} {xs : List D} {y : D} {Q : Store → Prop} (e : S[n]? = some (.lst xs)) (l : xs.length < 100000) (h : Q (S.set n (.lst (xs ++ [y])))) : Oo (push S n y) Q := by
  refine ⟨_, ?_, h⟩
  unfold push
  rw [e]
  simp only
  rw [if_pos (by have := sizeLine_eq; omega)]
theorem o_store {S : Store} {n : Nat} {xs : List D} {k : Int} {j : Nat} {y : D} {Q : Store → Prop} (e : S[n]? = some (.lst xs)) (l : j < xs.length) (hk : k = (j : Int)) (h : Q (S.set n (.lst (xs.set j y)))) : Oo (store S (.loc n) (.int k) y) Q := by
  refine ⟨_, ?_, h⟩
  subst hk
  unfold store
  simp only [e]
  rw [show L2.ixN xs.length (j : Int) = some j from by unfold L2.ixN; rw [if_pos (by omega), if_pos (by omega)]; simp]
theorem w_use {r : SO} {nx nx' : Fr → Store → Prop} {rt : D → Store → Prop} {bk ct : Fr → Store → Prop} (h : Go r nx noD noF noF) (k : ∀ f S, nx f S → nx' f S) : Go r nx' rt bk ct := h.imp k (fun _ _ z => z.elim) (fun _ _ z => z.elim) (fun _ _ z => z.elim)
theorem o_pow {S : Store} {i j k : Int} {Q : D → Prop} (h : 0 ≤ j ∧ j ≤ 1000000 ∧ i.natAbs < 2 ^ 64) (e : i ^ j.toNat = k) (q : Q (.int k)) : Oo (bop S .pow (.int i) (.int j)) Q := by
  refine ⟨_, ?_, q⟩
  show (if 0 ≤ j ∧ j ≤ 1000000 ∧ i.natAbs < 2 ^ 64 then some (D.int (i ^ j.toNat)) else none) = _
  rw [if_pos h, e]
theorem w_for {α : Type} {c : α → D} {l : List α} {held : List (Nat × List D)} {tg : D → Fr → Store → Out Fr} {body : Fr → Store → SO} {nx : Fr → Store → Prop} {rt : D → Store → Prop} {bk ct : Fr → Store → Prop} {f : Fr} {S : Store} (I : List α → Fr → Store → Prop) (h0 : I [] f S)
    (step : ∀ done a left f S, done ++ a :: left = l → I done f S → Src.still held S ∧ Ok (tg (c a) f S) fun f1 S1 => Go (body f1 S1) (fun f2 S2 => I (done ++ [a]) f2 S2) rt nx (fun f2 S2 => I (done ++ [a]) f2 S2)) (fin : ∀ f S, I l f S → Src.still held S ∧ nx f S) : Go (forL held tg body (l.map c) f S) nx rt bk ct := by
  refine Go.for (fun xs f S => ∃ done left, done ++ left = l ∧ xs = left.map c ∧ I done f S) (fun x xs f S h => ?_) (fun f S h => ?_) (l.map c) f S ⟨[], l, rfl, rfl, h0⟩
  · obtain ⟨done, left, e1, e2, i⟩ := h
    cases left with
    | nil => cases e2
    | cons a left =>
      cases e2
      obtain ⟨q1, f1, S1, q2, q3⟩ := step done a left f S e1 i
      refine ⟨q1, f1, S1, q2, q3.imp (fun f2 S2 j => ⟨done ++ [a], left, by simp [e1], rfl, j⟩) (fun _ _ h => h) (fun _ _ h => h) (fun f2 S2 j => ⟨done ++ [a], left, by simp [e1], rfl, j⟩)⟩
  · obtain ⟨done, left, e1, e2, i⟩ := h
    cases left with
    | nil =>
      rw [List.append_nil] at e1
      exact fin f S (e1 ▸ i)
    | cons a left => cases e2
theorem w_for0 {α : Type} {c : α → D} {l : List α} {tg : D → Fr → Store → Out Fr} {body : Fr → Store → SO} {nx : Fr → Store → Prop} {rt : D → Store → Prop} {bk ct : Fr → Store → Prop} {f : Fr} {S : Store} (I : List α → Fr → Store → Prop) (h0 : I [] f S)
    (step : ∀ done a left f S, done ++ a :: left = l → I done f S → Ok (tg (c a) f S) fun f1 S1 => Go (body f1 S1) (fun f2 S2 => I (done ++ [a]) f2 S2) rt nx (fun f2 S2 => I (done ++ [a]) f2 S2)) (fin : ∀ f S, I l f S → nx f S) : Go (forL [] tg body (l.map c) f S) nx rt bk ct :=
  w_for I h0 (fun done a left f S e i => ⟨still_nil, step done a left f S e i⟩) (fun f S i => ⟨still_nil, fin f S i⟩)
theorem w_cmap {α : Type} {held : List (Nat × List D)} {turn : D → Store → Out (Option D)} {S : Store} {c h : α → D} {l : List α} {Q : List D → Store → Prop} (st : Src.still held S) (hl : l.length ≤ 100000) (ht : ∀ a ∈ l, Ok (turn (c a) S) fun o S' => o = some (h a) ∧ S' = S) (q : Q (l.map h) S) : Ok (compL held turn (l.map c) [] S) Q :=
  w_eq (comp_map st (fun a ha => ok_of_eq (ht a ha)) (small_size hl)) q
theorem w_cfil {α : Type} {held : List (Nat × List D)} {turn : D → Store → Out (Option D)} {S : Store} {c h : α → D} {p : α → Bool} {l : List α} {Q : List D → Store → Prop} (st : Src.still held S) (hl : l.length ≤ 100000) (ht : ∀ a ∈ l, Ok (turn (c a) S) fun o S' => o = (if p a = true then some (h a) else none) ∧ S' = S) (q : Q ((l.filter p).map h) S) : Ok (compL held turn (l.map c) [] S) Q :=
  w_eq (comp_filter st (fun a ha => ok_of_eq (ht a ha)) (small_size hl)) q
theorem w_compI {α : Type} {held : List (Nat × List D)} {turn : D → Store → Out (Option D)} {S : Store} {c : α → D} {l : List α} {Q : List D → Store → Prop} (I : List α → List D → Store → Prop) (hl : l.length ≤ 100000) (h0 : I [] [] S)
    (step : ∀ done a left acc S, done ++ a :: left = l → I done acc S → Src.still held S ∧ Ok (turn (c a) S) fun o S' => match o with
      | some y => I (done ++ [a]) (acc ++ [y]) S'
      | none => I (done ++ [a]) acc S') (fin : ∀ acc S, I l acc S → Src.still held S ∧ Q acc S) : Ok (compL held turn (l.map c) [] S) Q := by
  refine Ok.comp (fun xs acc S => ∃ done left, done ++ left = l ∧ xs = left.map c ∧ acc.length ≤ done.length ∧ I done acc S) (fun x xs acc S h => ?_) (fun acc S h => ?_) (l.map c) [] S ⟨[], l, rfl, rfl, Nat.le_refl _, h0⟩
  · obtain ⟨done, left, e1, e2, l1, i⟩ := h
    cases left with
    | nil => cases e2
    | cons a left =>
      cases e2
      obtain ⟨q1, q2⟩ := step done a left acc S e1 i
      refine ⟨q1, q2.imp fun o S' q => ?_⟩
      have hd : done.length < l.length := by rw [← e1]; simp
      cases o with
      | none => exact ⟨done ++ [a], left, by simp [e1], rfl, by simp; omega, q⟩
      | some y => exact ⟨by have := sizeLine_eq; omega, done ++ [a], left, by simp [e1], rfl, by simp; omega, q⟩
  · obtain ⟨done, left, e1, e2, l1, i⟩ := h
    cases left with
    | nil =>
      rw [List.append_nil] at e1
      exact fin acc S (e1 ▸ i)
    | cons a left => cases e2
theorem o_storeA {S : Store} {n : Nat} {xs : List D} {k : Int} {y : D} {Q : Store → Prop} (e : S[n]? = some (.lst xs)) (l : 0 ≤ k ∧ k.toNat < xs.length) (h : Q (S.set n (.lst (xs.set k.toNat y)))) : Oo (store S (.loc n) (.int k) y) Q := o_store e l.2 (by omega) h
section
variable {p : Prop} [Decidable p] {A B : Prop}
theorem c_nt (h : p) (a : B) : ((!decide p) = true → A) ∧ ((!decide p) = false → B) := by
  rw [decide_eq_true h]
  exact ⟨fun z => (by cases z), fun _ => a⟩
/-- both ways -/
theorem c_by (a : p → A) (b : ¬ p → B) : (decide p = true → A) ∧ (decide p = false → B) := ⟨fun z => a (of_decide_eq_true z), fun z => b (of_decide_eq_false z)⟩
theorem c_nby (a : ¬ p → A) (b : p → B) : ((!decide p) = true → A) ∧ ((!decide p) = false → B) := by
  by_cases h : p
  · rw [decide_eq_true h]; exact ⟨fun z => (by cases z), fun _ => b h⟩
  · rw [decide_eq_false h]; exact ⟨fun _ => a h, fun z => by cases z⟩
end
theorem e_len {α : Type} {l : List α} {A : Prop} (h : l.length ≤ 100000) (a : A) : l.length ≤ 100000 ∧ A := ⟨h, a⟩
theorem e_leq {α β : Type} {l : List α} {m : List β} {A : Prop} (h : l.length = m.length) (a : A) : l.length = m.length ∧ A := ⟨h, a⟩
theorem ok_iff {α : Type} {o : Out α} {Q : α → Store → Prop} : Ok o Q ↔ ∃ a S, o = .ok a S ∧ Q a S := Iff.rfl
end Th
namespace Th
open PySem
open PySem.StrLaws TL
/-- the signs of a joined text -/
def joinC (s : List Nat) : List (List Nat) → List Nat
  | [] => []
  | [p] => p
  | p :: q :: r => p ++ s ++ joinC s (q :: r)
theorem tl_join (y : Str) : ∀ ps : List Str, tl (Str.join y ps) = joinC (tl y) (ps.map tl)
  | [] => rfl
  | [p] => rfl
  | p :: q :: r => by
    show tl (p ++ y ++ Str.join y (q :: r)) = _
    rw [tl_append, tl_append, tl_join y (q :: r)]
    rfl
theorem join_gl (y : Str) (ps : List Str) : Txt.join y ps = Str.join y ps := StrLaws.glued_eq_join y ps
theorem take_free {c : Nat} : ∀ {p r : List Nat}, c ∉ p → (p ++ c :: r).takeWhile (fun x => decide (x ≠ c)) = p ∧ (p ++ c :: r).dropWhile (fun x => decide (x ≠ c)) = c :: r
  | [], r, _ => by simp
  | a :: p, r, h => by
    have ha : a ≠ c := fun e => h (e ▸ List.mem_cons_self)
    have ih := take_free (p := p) (r := r) fun e => h (List.mem_cons_of_mem _ e)
    rw [List.cons_append, List.takeWhile_cons, List.dropWhile_cons]
    simp only [ne_eq, ha, not_false_eq_true, decide_true, if_true]
    exact ⟨by rw [ih.1], ih.2⟩
theorem cut_one {c : Nat} {p q r s : List Nat} (hp : c ∉ p) (hq : c ∉ q) (e : p ++ c :: r = q ++ c :: s) : p = q ∧ r = s := by
  have a := take_free (r := r) hp
  have b := take_free (r := s) hq
  rw [e] at a
  exact ⟨a.1.symm.trans b.1, (List.cons.inj (a.2.symm.trans b.2)).2⟩
theorem joinC_free {c : Nat} {p : List Nat} (hp : c ∉ p) {q q2 : List Nat} {r : List (List Nat)} (e : p = joinC [c] (q :: q2 :: r)) : False := by
  have : c ∈ joinC [c] (q :: q2 :: r) := by
    show c ∈ q ++ [c] ++ joinC [c] (q2 :: r)
    simp
  exact hp (e ▸ this)
theorem joinC_inj {c : Nat} : ∀ {L M : List (List Nat)}, L ≠ [] → M ≠ [] → (∀ p ∈ L, c ∉ p) → (∀ p ∈ M, c ∉ p) → joinC [c] L = joinC [c] M → L = M
  | [], _, h, _, _, _, _ => absurd rfl h
  | _, [], _, h, _, _, _ => absurd rfl h
  | [p], [q], _, _, _, _, e => by rw [show p = q from e]
  | [p], q :: q2 :: r, _, _, hL, _, e => (joinC_free (hL p List.mem_cons_self) e).elim
  | p :: p2 :: r, [q], _, _, _, hM, e => (joinC_free (hM q List.mem_cons_self) e.symm).elim
  | p :: p2 :: r, q :: q2 :: s, _, _, hL, hM, e => by
    have e : p ++ [c] ++ joinC [c] (p2 :: r) = q ++ [c] ++ joinC [c] (q2 :: s) := e
    rw [List.append_assoc, List.append_assoc, List.singleton_append, List.singleton_append] at e
    obtain ⟨e1, e2⟩ := cut_one (hL p List.mem_cons_self) (hM q List.mem_cons_self) e
    have ih := joinC_inj (L := p2 :: r) (M := q2 :: s) (by simp) (by simp) (fun z hz => hL z (List.mem_cons_of_mem _ hz)) (fun z hz => hM z (List.mem_cons_of_mem _ hz)) e2
    rw [e1, ih]
/-- split by a sign gives the parts back -/
theorem split_join {c : Nat} {ps : List Str} (h : ps ≠ []) (f : ∀ p ∈ ps, c ∉ tl p) : Txt.split (Txt.join ⟨#[c]⟩ ps) ⟨#[c]⟩ = ps := by
  have e := StrLaws.join_split (Txt.join ⟨#[c]⟩ ps) ⟨#[c]⟩
  have n := PyProof.Rows.split_pos (Txt.join ⟨#[c]⟩ ps) ⟨#[c]⟩
  have g := StrLaws.split_free (Txt.join ⟨#[c]⟩ ps) c
  generalize Txt.split (Txt.join ⟨#[c]⟩ ps) ⟨#[c]⟩ = M at *
  have e2 := congrArg tl e
  rw [join_gl, tl_join, tl_join] at e2
  refine map_tl_inj (joinC_inj (c := c) ?_ ?_ ?_ ?_ e2)
  · intro z; rw [List.map_eq_nil_iff] at z; rw [z] at n; simp at n
  · intro z; rw [List.map_eq_nil_iff] at z; exact h z
  · intro p hp
    obtain ⟨q, hq, rfl⟩ := List.mem_map.mp hp
    exact g q hq
  · intro p hp
    obtain ⟨q, hq, rfl⟩ := List.mem_map.mp hp
    exact f q hq
theorem joinC_count {s : List Nat} {c : Nat} : ∀ (L : List (List Nat)), L ≠ [] → List.count c (joinC s L) = (L.map (List.count c)).sum + (L.length - 1) * List.count c s
  | [], h => absurd rfl h
  | [p], _ => by simp [joinC]
  | p :: q :: r, _ => by
    have ih := joinC_count (s := s) (c := c) (q :: r) (by simp)
    show List.count c (p ++ s ++ joinC s (q :: r)) = _
    rw [List.count_append, List.count_append, ih]
    simp only [List.map_cons, List.sum_cons, List.length_cons, Nat.add_sub_cancel, Nat.add_mul, Nat.one_mul]
    omega
/-- .. by a colon and a space, of which there is one -/
theorem split_colon {a b : Str} (ha : 58 ∉ tl a) (hb : 58 ∉ tl b) : Txt.split (a ++ (": " : Str) ++ b) (": " : Str) = [a, b] := by
  have ty : tl (": " : Str) = [58, 32] := rfl
  have hx : tl (a ++ (": " : Str) ++ b) = tl a ++ 58 :: 32 :: tl b := by
    rw [tl_append, tl_append, ty, List.append_assoc]
    rfl
  have e := StrLaws.join_split (a ++ (": " : Str) ++ b) (": " : Str)
  have n2 : 2 ≤ (Txt.split (a ++ (": " : Str) ++ b) (": " : Str)).length := by
    have l2 : (": " : Str).length = 2 := rfl
    have lx : (a ++ (": " : Str) ++ b).length = a.length + 2 + b.length := by rw [Str.length_append, Str.length_append, l2]
    unfold Txt.split
    rw [if_neg]
    · obtain ⟨f, h1, h2⟩ := StrLaws.occ_tight (a ++ (": " : Str) ++ b) (": " : Str) (by decide)
      generalize Builtin.Str.occurrences (a ++ (": " : Str) ++ b) (": " : Str) 0 (a ++ (": " : Str) ++ b).length ((a ++ (": " : Str) ++ b).length + 1) = cs at *
      cases cs with
      | nil =>
        have : f = 0 := h1
        subst this
        refine absurd ?_ (h2 a.length (Nat.zero_le _))
        refine ⟨by omega, ?_⟩
        rw [StrLaws.subAt_eq]
        have e3 : (a ++ (": " : Str) ++ b).cps.toList = tl a ++ 58 :: 32 :: tl b := hx
        rw [e3, l2, len_tl, List.drop_left]
        rfl
      | cons q r =>
        rw [if_neg (by simp), PyProof.Rows.len_partsBetween]
        simp
    · intro z
      rw [Bool.or_eq_true, decide_eq_true_eq, decide_eq_true_eq] at z
      have k1 : Builtin.Str.strKind (": " : Str) = 1 := by decide +kernel
      have k2 := PyProof.Rows.strKind_pos (a ++ (": " : Str) ++ b)
      omega
  generalize Txt.split (a ++ (": " : Str) ++ b) (": " : Str) = M at *
  have e2 := congrArg tl e
  rw [tl_join, hx, ty] at e2
  have cnt := congrArg (List.count 58) e2
  rw [joinC_count _ (by intro z; rw [List.map_eq_nil_iff] at z; rw [z] at n2; simp at n2), List.length_map] at cnt
  have c0 : List.count 58 [58, 32] = 1 := by decide
  have c1 : List.count 58 (tl a ++ 58 :: 32 :: tl b) = 1 := by
    rw [List.count_append, List.count_cons_self, List.count_cons_of_ne (by decide), List.count_eq_zero.mpr ha, List.count_eq_zero.mpr hb]
  rw [c0, c1] at cnt
  have hl : M.length = 2 := by omega
  match M, hl with
  | [p, q], _ =>
    simp only [List.map_cons, List.map_nil, List.sum_cons, List.sum_nil, List.length_cons, List.length_nil] at cnt
    have hp : 58 ∉ tl p := List.count_eq_zero.mp (by omega)
    have e2 : tl p ++ [58, 32] ++ tl q = tl a ++ 58 :: 32 :: tl b := e2
    rw [List.append_assoc] at e2
    obtain ⟨r1, r2⟩ := cut_one hp ha e2
    have r2 : 32 :: tl q = 32 :: tl b := r2
    rw [ext_tl r1, ext_tl (List.cons.inj r2).2]
end Th
namespace Th
open PySem
def f13_check_teller : Fn := ⟨1, 1, [(.ifs (.not (.of (.isi [.cls 10] (.v 0)))) [.dead] [])]⟩
def f14_check_saying : Fn := ⟨2, 2, [(.ifs (.not (.of (.cF 23 [(.v 1), (.int 0), (.bin false .sub (.cB false .len [(.atr 16 (.v 0))]) (.int 1))]))) [.dead] [])]⟩
def f15_check_case : Fn := ⟨2, 2, [(.ifs (.not (.of (.cF 23 [(.v 1), (.int 0), (.bin false .sub (.cB false .len [(.atr 18 (.v 0))]) (.int 1))]))) [.dead] [])]⟩
def f19_check_weights_l0 : Sm := (.fors (.tup [(.nm 1), (.nm 2)]) (.enm (.v 0)) [(.ifs (.or [(.cmp .eq (.v 1) (.g 26)), (.not (.of (.cF 23 [(.v 2), (.int 1), (.g 27)])))]) [.dead] [])])
def f19_check_weights : Fn := ⟨1, 3, [(.ifs (.or [(.not (.of (.isi [.ty "tuple"] (.v 0)))), (.cmp .lt (.cB false .len [(.v 0)]) (.g 25))]) [.dead] []), f19_check_weights_l0]⟩
def f20_check_sayings_l0 : Sm := (.fors (.tup [(.nm 2), (.nm 3)]) (.enm (.v 0)) [(.ifs (.or [(.cmp .eq (.v 2) (.g 28)), (.not (.of (.cF 29 [(.v 3), (.v 1)]))), (.cmp .eq (.v 3) (.tup []))]) [.dead] [])])
def f20_check_sayings_c1 : Ex := (.comp false (.cmp .in_ (.v 4) (.v 3)) (.nm 3) (.of (.v 0)) [] [3])
def f20_check_sayings_c2 : Ex := (.comp false (.cB false .any [f20_check_sayings_c1]) (.nm 4) (.rng1 (.v 1)) [] [4])
def f20_check_sayings : Fn := ⟨2, 5, [(.ifs (.or [(.not (.of (.isi [.ty "tuple"] (.v 0)))), (.cmp .eq (.v 0) (.tup []))]) [.dead] []), f20_check_sayings_l0, (.ifs (.not (.of (.cB false .all [f20_check_sayings_c2]))) [.dead] [])]⟩
def f23_is_between : Fn := ⟨3, 3, [(.ret (.and [(.cF 30 [(.v 0)]), (.chain .le .le (.v 1) (.v 0) (.v 2))]))]⟩
def f29_is_lot_c0 : Ex := (.comp false (.cF 23 [(.v 2), (.int 0), (.bin false .sub (.v 1) (.int 1))]) (.nm 2) (.of (.v 0)) [] [2])
def f29_is_lot : Fn := ⟨2, 3, [(.ifs (.or [(.not (.of (.isi [.ty "tuple"] (.v 0)))), (.not (.of (.cB false .all [f29_is_lot_c0])))]) [(.ret (.bl false))] []), (.ret (.cF 31 [(.v 0)]))]⟩
def f30_is_integer : Fn := ⟨1, 1, [(.ret (.and [(.isi [.ty "int"] (.v 0)), (.not (.isi [.ty "bool"] (.v 0)))]))]⟩
def f31_is_ascending_c0 : Ex := (.comp false (.cmp .lt (.idx (.v 0) (.bin false .sub (.v 1) (.int 1))) (.idx (.v 0) (.v 1))) (.nm 1) (.rng2 (.int 1) (.cB false .len [(.v 0)])) [] [1])
def f31_is_ascending : Fn := ⟨1, 2, [(.ret (.cB false .all [f31_is_ascending_c0]))]⟩
def f33_Teller__init : Fn := ⟨3, 3, [(.expr (.cF 19 [(.v 1)])), (.expr (.cF 20 [(.v 2), (.cB false .len [(.v 1)])])), (.fset 21 (.tup [(.v 1), (.v 2)]))]⟩
def f34_Teller_sayings : Fn := ⟨1, 1, [(.ret (.idx (.atr 21 (.v 0)) (.int 1)))]⟩
def f35_Teller_bound_in_c0 : Ex := (.comp false (.v 2) (.nm 2) (.of (.idx (.idx (.atr 21 (.v 0)) (.int 1)) (.v 1))) [(.cmp .eq (.mth 24 (.v 0) [(.v 2)]) (.tup [(.v 1)]))] [2])
def f35_Teller_bound_in : Fn := ⟨2, 3, [(.ret (.cB false .tuple [f35_Teller_bound_in_c0]))]⟩
def f36_Teller_weights : Fn := ⟨1, 1, [(.ret (.idx (.atr 21 (.v 0)) (.int 0)))]⟩
def f37_Teller_said_in_c0 : Ex := (.comp false (.v 2) (.tup [(.nm 2), (.nm 3)]) (.enm (.idx (.atr 21 (.v 0)) (.int 1))) [(.cmp .in_ (.v 1) (.v 3))] [2, 3])
def f37_Teller_said_in : Fn := ⟨2, 4, [(.ret (.cB false .tuple [f37_Teller_said_in_c0]))]⟩
@[reducible] def tI (xs : List Int) : D := .tup (xs.map .int)
@[reducible] def tT (ss : List (List Int)) : D := .tup (ss.map tI)
@[reducible] def tel (ws : List Int) (ss : List (List Int)) : D := .obj 10 [.tup [tI ws, tT ss]]
structure PkA (P : Pr) (sA : Nat := 2) : Prop where
  h30 : P.fn 30 = some f30_is_integer
  h23 : P.fn 23 = some f23_is_between
  h31 : P.fn 31 = some f31_is_ascending
  h29 : P.fn 29 = some f29_is_lot
  h19 : P.fn 19 = some f19_check_weights
  h20 : P.fn 20 = some f20_check_sayings
  h33 : P.fn 33 = some f33_Teller__init
  h13 : 1 ≤ sA → P.fn 13 = some f13_check_teller
  h14 : 2 ≤ sA → P.fn 14 = some f14_check_saying
  c25 : P.con 25 = some (.int 2)
  c26 : P.con 26 = some (.int 8)
  c27 : P.con 27 = some (.int 1000000)
  c28 : P.con 28 = some (.int 16)
section
variable {P : Pr} {sA : Nat} (K : PkA P sA)
include K
theorem is_integer_ok (d : Nat) (i : Int) (S : Store) : (orc P (d + 1)).fn 30 [.int i] S = .ok (.bl true) S := by
  rw [orc_fn, callF_of K.h30]
  simp [runF, f30_is_integer, bind_ok, of_some, so_ok, calm_ok, fresh_f, fresh_t, ev_non, ev_bl, ev_int, ev_str, ev_v, ev_g, ev_bin, ev_neg, ev_not, ev_and, ev_or, ev_cmp, ev_chain, ev_ite, ev_idx, ev_slc, ev_tup, ev_lst, ev_cB, ev_isi, ev_cF, ev_cK, ev_mk, ev_mth, ev_app, ev_cntA, ev_dnew, ev_dget, ev_dupd, ev_stp, ev_srS, ev_spl, evSp_nil, evSp_cons, ev_atr, ev_fld, evT_of, evT_cmp, evT_chain, evT_dinT, evT_not, evT_and, evT_or, evs_nil, evs_cons, evPart_nil, evPart_one, evAll_one, evAll_cons, evAny_one, evAny_cons, evAnd_one, evAnd_cons, evOr_one, evOr_cons, evTs_nil, evTs_one, evIt_of, evIt_rng1, evIt_rng2, evIt_enm, evIt_zip, evTg_nm, evTg_tup, evTg_sub, evTgs_nil, evTgs_cons, ex_asg, ex_par, ex_fset, ex_expr, ex_ret, ex_ifs, ex_brk, ex_pass, exs, getV, setV, setVs, wipeV, tyN, isTys, isTy, truth]
theorem is_between_ok (d : Nat) (i lo hi : Int) (S : Store) : (orc P (d + 2)).fn 23 [.int i, .int lo, .int hi] S = .ok (.bl (decide (lo ≤ i) && decide (i ≤ hi))) S := by
  rw [orc_fn, callF_of K.h23]
  simp [runF, f23_is_between, bind_ok, of_some, so_ok, calm_ok, fresh_f, fresh_t, ev_non, ev_bl, ev_int, ev_str, ev_v, ev_g, ev_bin, ev_neg, ev_not, ev_and, ev_or, ev_cmp, ev_chain, ev_ite, ev_idx, ev_slc, ev_tup, ev_lst, ev_cB, ev_isi, ev_cF, ev_cK, ev_mk, ev_mth, ev_app, ev_cntA, ev_dnew, ev_dget, ev_dupd, ev_stp, ev_srS, ev_spl, evSp_nil, evSp_cons, ev_atr, ev_fld, evT_of, evT_cmp, evT_chain, evT_dinT, evT_not, evT_and, evT_or, evs_nil, evs_cons, evPart_nil, evPart_one, evAll_one, evAll_cons, evAny_one, evAny_cons, evAnd_one, evAnd_cons, evOr_one, evOr_cons, evTs_nil, evTs_one, evIt_of, evIt_rng1, evIt_rng2, evIt_enm, evIt_zip, evTg_nm, evTg_tup, evTg_sub, evTgs_nil, evTgs_cons, ex_asg, ex_par, ex_fset, ex_expr, ex_ret, ex_ifs, ex_brk, ex_pass, exs, getV, setV, setVs, wipeV, is_integer_ok K, cop_le]
  cases decide (lo ≤ i) <;> simp [bind_ok, so_ok, of_some]
theorem asc_c0 {C : Orc} {xs : List Int} {o : Option D} {φ : List (Nat × D)} (S : Store) (h : xs.Pairwise (· < ·)) (hl : xs.length ≤ 1000) (h0 : 1 ≤ xs.length) : ev P C f31_is_ascending_c0 ⟨[some (tI xs), o], φ⟩ S = .ok (.lst ((List.range (xs.length - 1)).map fun _ => D.bl true)) S := by
  have hr : rngD 1 (xs.length : Int) = some ⟨(List.range (xs.length - 1)).map fun (i : Nat) => D.int (1 + (i : Int)), [], true⟩ := by
    have := rngD_nat (lo := 1) (n := xs.length - 1) (by omega) (by omega) (by omega)
    rw [show (1 : Int) + ((xs.length - 1 : Nat) : Int) = (xs.length : Int) by omega] at this
    exact this
  have hlen : bi S .len [tI xs] = some (.int (xs.length : Int)) := by rw [tI, bi_len (seqOf_tup _), List.length_map]
  unfold f31_is_ascending_c0
  rw [ev_comp]
  simp only [bind_ok, of_some, so_ok, calm_ok, fresh_f, fresh_t, ev_non, ev_bl, ev_int, ev_str, ev_v, ev_g, ev_bin, ev_neg, ev_not, ev_and, ev_or, ev_cmp, ev_chain, ev_ite, ev_idx, ev_slc, ev_tup, ev_lst, ev_cB, ev_isi, ev_cF, ev_cK, ev_mk, ev_mth, ev_app, ev_cntA, ev_dnew, ev_dget, ev_dupd, ev_stp, ev_srS, ev_spl, evSp_nil, evSp_cons, ev_atr, ev_fld, evT_of, evT_cmp, evT_chain, evT_dinT, evT_not, evT_and, evT_or, evs_nil, evs_cons, evPart_nil, evPart_one, evAll_one, evAll_cons, evAny_one, evAny_cons, evAnd_one, evAnd_cons, evOr_one, evOr_cons, evTs_nil, evTs_one, evIt_of, evIt_rng1, evIt_rng2, evIt_enm, evIt_zip, evTg_nm, evTg_tup, evTg_sub, evTgs_nil, evTgs_cons, ex_asg, ex_par, ex_fset, ex_expr, ex_ret, ex_ifs, ex_brk, ex_pass, exs, getV, setV, setVs, wipeV, hlen, hr, List.getElem?_cons_zero]
  rw [comp_map (c := fun (i : Nat) => D.int (1 + (i : Int))) (h := fun _ => D.bl true) still_nil (fun i hi => ?_) (small_size (by rw [List.length_range]; omega))]
  · simp only [bind_ok, fresh_f]
  · have hi' : i < xs.length - 1 := List.mem_range.mp hi
    have h1 : i < xs.length := by omega
    have h2 : i + 1 < xs.length := by omega
    have a1 := atI_map (c := D.int) h1 (k := (1 : Int) + i - 1) (by omega)
    have a2 := atI_map (c := D.int) h2 (k := (1 : Int) + i) (by omega)
    have lt : xs[i] < xs[i + 1] := List.pairwise_iff_getElem.mp h i (i + 1) h1 h2 (Nat.lt_succ_self i)
    simp [bind_ok, of_some, so_ok, calm_ok, fresh_f, fresh_t, ev_non, ev_bl, ev_int, ev_str, ev_v, ev_g, ev_bin, ev_neg, ev_not, ev_and, ev_or, ev_cmp, ev_chain, ev_ite, ev_idx, ev_slc, ev_tup, ev_lst, ev_cB, ev_isi, ev_cF, ev_cK, ev_mk, ev_mth, ev_app, ev_cntA, ev_dnew, ev_dget, ev_dupd, ev_stp, ev_srS, ev_spl, evSp_nil, evSp_cons, ev_atr, ev_fld, evT_of, evT_cmp, evT_chain, evT_dinT, evT_not, evT_and, evT_or, evs_nil, evs_cons, evPart_nil, evPart_one, evAll_one, evAll_cons, evAny_one, evAny_cons, evAnd_one, evAnd_cons, evOr_one, evOr_cons, evTs_nil, evTs_one, evIt_of, evIt_rng1, evIt_rng2, evIt_enm, evIt_zip, evTg_nm, evTg_tup, evTg_sub, evTgs_nil, evTgs_cons, ex_asg, ex_par, ex_fset, ex_expr, ex_ret, ex_ifs, ex_brk, ex_pass, exs, getV, setV, setVs, wipeV, itemAt_tup, tI, bop_sub, a1, a2, cop_lt, lt]
theorem is_ascending_ok (d : Nat) {xs : List Int} (S : Store) (h : xs.Pairwise (· < ·)) (hl : xs.length ≤ 1000) (h0 : 1 ≤ xs.length) : (orc P (d + 1)).fn 31 [tI xs] S = .ok (.bl true) S := by
  rw [orc_fn, callF_of K.h31]
  refine runF_rt rfl ?_
  have hc := asc_c0 K (C := orc P d) (o := none) (φ := []) S h hl h0
  have hb : bi S .all [D.lst ((List.range (xs.length - 1)).map fun _ => D.bl true)] = some (.bl true) := by
    rw [bi_all (seqAt_lst _) (bls_map _ fun _ => true)]
    simp
  show exs P _ f31_is_ascending.body ⟨[some (tI xs), none], []⟩ S = _
  simp [f31_is_ascending, bind_ok, of_some, so_ok, calm_ok, fresh_f, fresh_t, ev_non, ev_bl, ev_int, ev_str, ev_v, ev_g, ev_bin, ev_neg, ev_not, ev_and, ev_or, ev_cmp, ev_chain, ev_ite, ev_idx, ev_slc, ev_tup, ev_lst, ev_cB, ev_isi, ev_cF, ev_cK, ev_mk, ev_mth, ev_app, ev_cntA, ev_dnew, ev_dget, ev_dupd, ev_stp, ev_srS, ev_spl, evSp_nil, evSp_cons, ev_atr, ev_fld, evT_of, evT_cmp, evT_chain, evT_dinT, evT_not, evT_and, evT_or, evs_nil, evs_cons, evPart_nil, evPart_one, evAll_one, evAll_cons, evAny_one, evAny_cons, evAnd_one, evAnd_cons, evOr_one, evOr_cons, evTs_nil, evTs_one, evIt_of, evIt_rng1, evIt_rng2, evIt_enm, evIt_zip, evTg_nm, evTg_tup, evTg_sub, evTgs_nil, evTgs_cons, ex_asg, ex_par, ex_fset, ex_expr, ex_ret, ex_ifs, ex_brk, ex_pass, exs, getV, setV, setVs, wipeV, hc, hb]
theorem lot_c0 {d : Nat} {xs : List Int} {n : Int} {o : Option D} {φ : List (Nat × D)} (S : Store) (h : ∀ x ∈ xs, 0 ≤ x ∧ x < n) (hl : xs.length ≤ 1000) : ev P (orc P (d + 2)) f29_is_lot_c0 ⟨[some (tI xs), some (.int n), o], φ⟩ S = .ok (.lst (xs.map fun _ => D.bl true)) S := by
  unfold f29_is_lot_c0
  rw [ev_comp]
  simp only [bind_ok, of_some, so_ok, calm_ok, fresh_f, fresh_t, ev_non, ev_bl, ev_int, ev_str, ev_v, ev_g, ev_bin, ev_neg, ev_not, ev_and, ev_or, ev_cmp, ev_chain, ev_ite, ev_idx, ev_slc, ev_tup, ev_lst, ev_cB, ev_isi, ev_cF, ev_cK, ev_mk, ev_mth, ev_app, ev_cntA, ev_dnew, ev_dget, ev_dupd, ev_stp, ev_srS, ev_spl, evSp_nil, evSp_cons, ev_atr, ev_fld, evT_of, evT_cmp, evT_chain, evT_dinT, evT_not, evT_and, evT_or, evs_nil, evs_cons, evPart_nil, evPart_one, evAll_one, evAll_cons, evAny_one, evAny_cons, evAnd_one, evAnd_cons, evOr_one, evOr_cons, evTs_nil, evTs_one, evIt_of, evIt_rng1, evIt_rng2, evIt_enm, evIt_zip, evTg_nm, evTg_tup, evTg_sub, evTgs_nil, evTgs_cons, ex_asg, ex_par, ex_fset, ex_expr, ex_ret, ex_ifs, ex_brk, ex_pass, exs, getV, setV, setVs, wipeV, tI, srcOf_tup, List.getElem?_cons_zero]
  rw [comp_map (c := D.int) (h := fun _ => D.bl true) still_nil (fun i hi => ?_) (small_size (by omega))]
  · simp only [bind_ok, fresh_f]
  · have hb := is_between_ok K d i 0 (n - 1) S
    have h2 := h i hi
    have e1 : decide ((0 : Int) ≤ i) = true := decide_eq_true h2.1
    have e2 : decide (i ≤ n - 1) = true := decide_eq_true (by omega)
    rw [e1, e2] at hb
    simp [bind_ok, of_some, so_ok, calm_ok, fresh_f, fresh_t, ev_non, ev_bl, ev_int, ev_str, ev_v, ev_g, ev_bin, ev_neg, ev_not, ev_and, ev_or, ev_cmp, ev_chain, ev_ite, ev_idx, ev_slc, ev_tup, ev_lst, ev_cB, ev_isi, ev_cF, ev_cK, ev_mk, ev_mth, ev_app, ev_cntA, ev_dnew, ev_dget, ev_dupd, ev_stp, ev_srS, ev_spl, evSp_nil, evSp_cons, ev_atr, ev_fld, evT_of, evT_cmp, evT_chain, evT_dinT, evT_not, evT_and, evT_or, evs_nil, evs_cons, evPart_nil, evPart_one, evAll_one, evAll_cons, evAny_one, evAny_cons, evAnd_one, evAnd_cons, evOr_one, evOr_cons, evTs_nil, evTs_one, evIt_of, evIt_rng1, evIt_rng2, evIt_enm, evIt_zip, evTg_nm, evTg_tup, evTg_sub, evTgs_nil, evTgs_cons, ex_asg, ex_par, ex_fset, ex_expr, ex_ret, ex_ifs, ex_brk, ex_pass, exs, getV, setV, setVs, wipeV, bop_sub, hb]
theorem is_lot_ok (d : Nat) {xs : List Int} {n : Int} (S : Store) (h : xs.Pairwise (· < ·)) (hx : ∀ x ∈ xs, 0 ≤ x ∧ x < n) (hl : xs.length ≤ 1000) (h0 : 1 ≤ xs.length) : (orc P (d + 3)).fn 29 [tI xs, .int n] S = .ok (.bl true) S := by
  rw [orc_fn, callF_of K.h29]
  refine runF_rt rfl ?_
  have hc := lot_c0 K (d := d) (o := none) (φ := []) S hx hl
  have hb : bi S .all [D.lst (xs.map fun _ => D.bl true)] = some (.bl true) := by
    rw [bi_all (seqAt_lst _) (bls_map _ fun _ => true)]
    simp
  have ha := is_ascending_ok K (d + 1) S h hl h0
  have ht : tyN S (tI xs) = some (.ty "tuple") := rfl
  have hi : isTys (.ty "tuple") [.ty "tuple"] = some true := by decide
  show exs P _ f29_is_lot.body ⟨[some (tI xs), some (.int n), none], []⟩ S = _
  simp [f29_is_lot, bind_ok, of_some, so_ok, calm_ok, fresh_f, fresh_t, ev_non, ev_bl, ev_int, ev_str, ev_v, ev_g, ev_bin, ev_neg, ev_not, ev_and, ev_or, ev_cmp, ev_chain, ev_ite, ev_idx, ev_slc, ev_tup, ev_lst, ev_cB, ev_isi, ev_cF, ev_cK, ev_mk, ev_mth, ev_app, ev_cntA, ev_dnew, ev_dget, ev_dupd, ev_stp, ev_srS, ev_spl, evSp_nil, evSp_cons, ev_atr, ev_fld, evT_of, evT_cmp, evT_chain, evT_dinT, evT_not, evT_and, evT_or, evs_nil, evs_cons, evPart_nil, evPart_one, evAll_one, evAll_cons, evAny_one, evAny_cons, evAnd_one, evAnd_cons, evOr_one, evOr_cons, evTs_nil, evTs_one, evIt_of, evIt_rng1, evIt_rng2, evIt_enm, evIt_zip, evTg_nm, evTg_tup, evTg_sub, evTgs_nil, evTgs_cons, ex_asg, ex_par, ex_fset, ex_expr, ex_ret, ex_ifs, ex_brk, ex_pass, exs, getV, setV, setVs, wipeV, hc, hb, ha, ht, hi, truth_bl]
theorem check_weights_ok (d : Nat) {ws : List Int} (S : Store) (h2 : 2 ≤ ws.length) (h8 : ws.length ≤ 8) (hw : ∀ w ∈ ws, 1 ≤ w ∧ w ≤ 1000000) : (orc P (d + 3)).fn 19 [tI ws] S = .ok .non S := by
  rw [orc_fn, callF_of K.h19]
  have ht : tyN S (tI ws) = some (.ty "tuple") := rfl
  have hi : isTys (.ty "tuple") [.ty "tuple"] = some true := by decide
  have hlen : bi S .len [tI ws] = some (.int (ws.length : Int)) := by rw [tI, bi_len (seqOf_tup _), List.length_map]
  have e1 : decide ((ws.length : Int) < 2) = false := decide_eq_false (by omega)
  obtain ⟨f', hf, _⟩ : ∃ f', ex P (orc P (d + 2)) f19_check_weights_l0 ⟨[some (tI ws), none, none], []⟩ S = .nx f' S ∧ True := by
    have he : evIt P (orc P (d + 2)) (.enm (.v 0)) ⟨[some (tI ws), none, none], []⟩ S = .ok ⟨(ws.map D.int).mapIdx fun (i : Nat) dd => D.tup [.int i, dd], [], true⟩ S := by
      simp only [bind_ok, of_some, so_ok, calm_ok, fresh_f, fresh_t, ev_non, ev_bl, ev_int, ev_str, ev_v, ev_g, ev_bin, ev_neg, ev_not, ev_and, ev_or, ev_cmp, ev_chain, ev_ite, ev_idx, ev_slc, ev_tup, ev_lst, ev_cB, ev_isi, ev_cF, ev_cK, ev_mk, ev_mth, ev_app, ev_cntA, ev_dnew, ev_dget, ev_dupd, ev_stp, ev_srS, ev_spl, evSp_nil, evSp_cons, ev_atr, ev_fld, evT_of, evT_cmp, evT_chain, evT_dinT, evT_not, evT_and, evT_or, evs_nil, evs_cons, evPart_nil, evPart_one, evAll_one, evAll_cons, evAny_one, evAny_cons, evAnd_one, evAnd_cons, evOr_one, evOr_cons, evTs_nil, evTs_one, evIt_of, evIt_rng1, evIt_rng2, evIt_enm, evIt_zip, evTg_nm, evTg_tup, evTg_sub, evTgs_nil, evTgs_cons, ex_asg, ex_par, ex_fset, ex_expr, ex_ret, ex_ifs, ex_brk, ex_pass, exs, getV, setV, setVs, wipeV, tI, srcOf_tup, List.getElem?_cons_zero]
    unfold f19_check_weights_l0
    rw [ex_fors, he, so_ok]
    have step : ∀ x ∈ (ws.map D.int).mapIdx (fun (i : Nat) dd => D.tup [.int i, dd]), ∀ f : Fr, (∃ a b, f = ⟨[some (tI ws), a, b], []⟩) → ∃ f1, evTg P (orc P (d + 2)) (.tup [.nm 1, .nm 2]) x f S = .ok f1 S ∧
        ∃ f2, exs P (orc P (d + 2)) [(.ifs (.or [(.cmp .eq (.v 1) (.g 26)), (.not (.of (.cF 23 [(.v 2), (.int 1), (.g 27)])))]) [.dead] [])] f1 S = .nx f2 S ∧ ∃ a b, f2 = ⟨[some (tI ws), a, b], []⟩ := by
      rintro x hx f ⟨a, b, rfl⟩
      obtain ⟨i, hi2, rfl⟩ := List.mem_mapIdx.mp hx
      have hi3 : i < ws.length := by simpa using hi2
      have hb := is_between_ok K d ws[i] 1 1000000 S
      have hwi := hw ws[i] (List.getElem_mem hi3)
      rw [decide_eq_true hwi.1, decide_eq_true hwi.2] at hb
      have e8 : decide ((i : Int) = 8) = false := decide_eq_false (by omega)
      refine ⟨⟨[some (tI ws), some (.int i), some (.int ws[i])], []⟩, ?_, ⟨[some (tI ws), some (.int i), some (.int ws[i])], []⟩, ?_, _, _, rfl⟩
      · simp [bind_ok, of_some, so_ok, calm_ok, fresh_f, fresh_t, ev_non, ev_bl, ev_int, ev_str, ev_v, ev_g, ev_bin, ev_neg, ev_not, ev_and, ev_or, ev_cmp, ev_chain, ev_ite, ev_idx, ev_slc, ev_tup, ev_lst, ev_cB, ev_isi, ev_cF, ev_cK, ev_mk, ev_mth, ev_app, ev_cntA, ev_dnew, ev_dget, ev_dupd, ev_stp, ev_srS, ev_spl, evSp_nil, evSp_cons, ev_atr, ev_fld, evT_of, evT_cmp, evT_chain, evT_dinT, evT_not, evT_and, evT_or, evs_nil, evs_cons, evPart_nil, evPart_one, evAll_one, evAll_cons, evAny_one, evAny_cons, evAnd_one, evAnd_cons, evOr_one, evOr_cons, evTs_nil, evTs_one, evIt_of, evIt_rng1, evIt_rng2, evIt_enm, evIt_zip, evTg_nm, evTg_tup, evTg_sub, evTgs_nil, evTgs_cons, ex_asg, ex_par, ex_fset, ex_expr, ex_ret, ex_ifs, ex_brk, ex_pass, exs, getV, setV, setVs, wipeV]
      · simp [bind_ok, of_some, so_ok, calm_ok, fresh_f, fresh_t, ev_non, ev_bl, ev_int, ev_str, ev_v, ev_g, ev_bin, ev_neg, ev_not, ev_and, ev_or, ev_cmp, ev_chain, ev_ite, ev_idx, ev_slc, ev_tup, ev_lst, ev_cB, ev_isi, ev_cF, ev_cK, ev_mk, ev_mth, ev_app, ev_cntA, ev_dnew, ev_dget, ev_dupd, ev_stp, ev_srS, ev_spl, evSp_nil, evSp_cons, ev_atr, ev_fld, evT_of, evT_cmp, evT_chain, evT_dinT, evT_not, evT_and, evT_or, evs_nil, evs_cons, evPart_nil, evPart_one, evAll_one, evAll_cons, evAny_one, evAny_cons, evAnd_one, evAnd_cons, evOr_one, evOr_cons, evTs_nil, evTs_one, evIt_of, evIt_rng1, evIt_rng2, evIt_enm, evIt_zip, evTg_nm, evTg_tup, evTg_sub, evTgs_nil, evTgs_cons, ex_asg, ex_par, ex_fset, ex_expr, ex_ret, ex_ifs, ex_brk, ex_pass, exs, getV, setV, setVs, wipeV, K.c26, K.c27, cop_eqI, e8, hb, truth_bl]
    obtain ⟨f', h1, _⟩ := forL_each (S := S) still_nil _ ⟨[some (tI ws), none, none], []⟩ step ⟨none, none, rfl⟩
    exact ⟨f', h1, trivial⟩
  refine runF_nx (f1 := f') rfl ?_
  show exs P _ f19_check_weights.body ⟨[some (tI ws), none, none], []⟩ S = _
  simp [f19_check_weights, bind_ok, of_some, so_ok, calm_ok, fresh_f, fresh_t, ev_non, ev_bl, ev_int, ev_str, ev_v, ev_g, ev_bin, ev_neg, ev_not, ev_and, ev_or, ev_cmp, ev_chain, ev_ite, ev_idx, ev_slc, ev_tup, ev_lst, ev_cB, ev_isi, ev_cF, ev_cK, ev_mk, ev_mth, ev_app, ev_cntA, ev_dnew, ev_dget, ev_dupd, ev_stp, ev_srS, ev_spl, evSp_nil, evSp_cons, ev_atr, ev_fld, evT_of, evT_cmp, evT_chain, evT_dinT, evT_not, evT_and, evT_or, evs_nil, evs_cons, evPart_nil, evPart_one, evAll_one, evAll_cons, evAny_one, evAny_cons, evAnd_one, evAnd_cons, evOr_one, evOr_cons, evTs_nil, evTs_one, evIt_of, evIt_rng1, evIt_rng2, evIt_enm, evIt_zip, evTg_nm, evTg_tup, evTg_sub, evTgs_nil, evTgs_cons, ex_asg, ex_par, ex_fset, ex_expr, ex_ret, ex_ifs, ex_brk, ex_pass, exs, getV, setV, setVs, wipeV, ht, hi, hlen, truth_bl, K.c25, cop_lt, e1, hf]
omit K
structure GoodS (n : Nat) (ss : List (List Int)) : Prop where
  ne : ss ≠ []
  le : ss.length ≤ 16
  n8 : n ≤ 8
  each : ∀ l ∈ ss, l ≠ [] ∧ l.Pairwise (· < ·) ∧ (∀ x ∈ l, 0 ≤ x ∧ x < (n : Int)) ∧ l.length ≤ 1000
  cov : ∀ c : Nat, c < n → ∃ l ∈ ss, (c : Int) ∈ l
theorem len_pos {α : Type} {l : List α} (h : l ≠ []) : 1 ≤ l.length := by
  cases l with
  | nil => exact absurd rfl h
  | cons _ _ => simp
include K
theorem cs_c1 {C : Orc} {ss : List (List Int)} {c : Int} {a b e : Option D} {φ : List (Nat × D)} (S : Store) (hl : ss.length ≤ 1000) : ev P C f20_check_sayings_c1 ⟨[some (tT ss), a, b, e, some (.int c)], φ⟩ S = .ok (.lst (ss.map fun l => D.bl (decide (c ∈ l)))) S := by
  unfold f20_check_sayings_c1
  have he : evIt P C (.of (.v 0)) ⟨[some (tT ss), a, b, e, some (.int c)], φ⟩ S = .ok ⟨ss.map tI, [], true⟩ S := by
    simp only [bind_ok, of_some, so_ok, calm_ok, fresh_f, fresh_t, ev_non, ev_bl, ev_int, ev_str, ev_v, ev_g, ev_bin, ev_neg, ev_not, ev_and, ev_or, ev_cmp, ev_chain, ev_ite, ev_idx, ev_slc, ev_tup, ev_lst, ev_cB, ev_isi, ev_cF, ev_cK, ev_mk, ev_mth, ev_app, ev_cntA, ev_dnew, ev_dget, ev_dupd, ev_stp, ev_srS, ev_spl, evSp_nil, evSp_cons, ev_atr, ev_fld, evT_of, evT_cmp, evT_chain, evT_dinT, evT_not, evT_and, evT_or, evs_nil, evs_cons, evPart_nil, evPart_one, evAll_one, evAll_cons, evAny_one, evAny_cons, evAnd_one, evAnd_cons, evOr_one, evOr_cons, evTs_nil, evTs_one, evIt_of, evIt_rng1, evIt_rng2, evIt_enm, evIt_zip, evTg_nm, evTg_tup, evTg_sub, evTgs_nil, evTgs_cons, ex_asg, ex_par, ex_fset, ex_expr, ex_ret, ex_ifs, ex_brk, ex_pass, exs, getV, setV, setVs, wipeV, tT, srcOf_tup, List.getElem?_cons_zero]
  rw [ev_comp, he, bind_ok]
  simp only
  rw [comp_map (c := tI) (h := fun l => D.bl (decide (c ∈ l))) still_nil (fun l hl2 => ?_) (small_size (by omega))]
  · simp only [bind_ok, fresh_f]
  · have hin := Enc.int.cop_inT (by decide) S c l (.int c) (tI l) rfl rfl
    simp [bind_ok, of_some, so_ok, calm_ok, fresh_f, fresh_t, ev_non, ev_bl, ev_int, ev_str, ev_v, ev_g, ev_bin, ev_neg, ev_not, ev_and, ev_or, ev_cmp, ev_chain, ev_ite, ev_idx, ev_slc, ev_tup, ev_lst, ev_cB, ev_isi, ev_cF, ev_cK, ev_mk, ev_mth, ev_app, ev_cntA, ev_dnew, ev_dget, ev_dupd, ev_stp, ev_srS, ev_spl, evSp_nil, evSp_cons, ev_atr, ev_fld, evT_of, evT_cmp, evT_chain, evT_dinT, evT_not, evT_and, evT_or, evs_nil, evs_cons, evPart_nil, evPart_one, evAll_one, evAll_cons, evAny_one, evAny_cons, evAnd_one, evAnd_cons, evOr_one, evOr_cons, evTs_nil, evTs_one, evIt_of, evIt_rng1, evIt_rng2, evIt_enm, evIt_zip, evTg_nm, evTg_tup, evTg_sub, evTgs_nil, evTgs_cons, ex_asg, ex_par, ex_fset, ex_expr, ex_ret, ex_ifs, ex_brk, ex_pass, exs, getV, setV, setVs, wipeV, hin]
theorem cs_c2 {C : Orc} {n : Nat} {ss : List (List Int)} {b e g : Option D} {φ : List (Nat × D)} (S : Store) (h : GoodS n ss) : ev P C f20_check_sayings_c2 ⟨[some (tT ss), some (.int n), b, e, g], φ⟩ S = .ok (.lst ((List.range n).map fun _ => D.bl true)) S := by
  unfold f20_check_sayings_c2
  have he : evIt P C (.rng1 (.v 1)) ⟨[some (tT ss), some (.int n), b, e, g], φ⟩ S = .ok ⟨(List.range n).map fun (i : Nat) => D.int (i : Int), [], true⟩ S := by
    have := h.n8
    simp [bind_ok, of_some, so_ok, calm_ok, fresh_f, fresh_t, ev_non, ev_bl, ev_int, ev_str, ev_v, ev_g, ev_bin, ev_neg, ev_not, ev_and, ev_or, ev_cmp, ev_chain, ev_ite, ev_idx, ev_slc, ev_tup, ev_lst, ev_cB, ev_isi, ev_cF, ev_cK, ev_mk, ev_mth, ev_app, ev_cntA, ev_dnew, ev_dget, ev_dupd, ev_stp, ev_srS, ev_spl, evSp_nil, evSp_cons, ev_atr, ev_fld, evT_of, evT_cmp, evT_chain, evT_dinT, evT_not, evT_and, evT_or, evs_nil, evs_cons, evPart_nil, evPart_one, evAll_one, evAll_cons, evAny_one, evAny_cons, evAnd_one, evAnd_cons, evOr_one, evOr_cons, evTs_nil, evTs_one, evIt_of, evIt_rng1, evIt_rng2, evIt_enm, evIt_zip, evTg_nm, evTg_tup, evTg_sub, evTgs_nil, evTgs_cons, ex_asg, ex_par, ex_fset, ex_expr, ex_ret, ex_ifs, ex_brk, ex_pass, exs, getV, setV, setVs, wipeV, rngD_0 (n := n) (by omega)]
  rw [ev_comp, he, bind_ok]
  simp only
  rw [comp_map (c := fun (i : Nat) => D.int (i : Int)) (h := fun _ => D.bl true) still_nil (fun i hi => ?_) (small_size (by rw [List.length_range]; have := h.n8; omega))]
  · simp only [bind_ok, fresh_f]
  · have hi2 : i < n := List.mem_range.mp hi
    have h1 := cs_c1 K (C := C) (ss := ss) (c := (i : Int)) (a := some (.int n)) (b := b) (e := e) (φ := φ) S (by have := h.le; omega)
    have h2 : bi S .any [D.lst (ss.map fun l => D.bl (decide ((i : Int) ∈ l)))] = some (.bl true) := by
      rw [bi_any (seqAt_lst _) (bls_map _ fun l => decide ((i : Int) ∈ l))]
      obtain ⟨l, hl, hm⟩ := h.cov i hi2
      have : (ss.map fun l => decide ((i : Int) ∈ l)).any id = true := List.any_eq_true.mpr ⟨true, List.mem_map.mpr ⟨l, hl, decide_eq_true hm⟩, rfl⟩
      rw [this]
    simp [bind_ok, of_some, so_ok, calm_ok, fresh_f, fresh_t, ev_non, ev_bl, ev_int, ev_str, ev_v, ev_g, ev_bin, ev_neg, ev_not, ev_and, ev_or, ev_cmp, ev_chain, ev_ite, ev_idx, ev_slc, ev_tup, ev_lst, ev_cB, ev_isi, ev_cF, ev_cK, ev_mk, ev_mth, ev_app, ev_cntA, ev_dnew, ev_dget, ev_dupd, ev_stp, ev_srS, ev_spl, evSp_nil, evSp_cons, ev_atr, ev_fld, evT_of, evT_cmp, evT_chain, evT_dinT, evT_not, evT_and, evT_or, evs_nil, evs_cons, evPart_nil, evPart_one, evAll_one, evAll_cons, evAny_one, evAny_cons, evAnd_one, evAnd_cons, evOr_one, evOr_cons, evTs_nil, evTs_one, evIt_of, evIt_rng1, evIt_rng2, evIt_enm, evIt_zip, evTg_nm, evTg_tup, evTg_sub, evTgs_nil, evTgs_cons, ex_asg, ex_par, ex_fset, ex_expr, ex_ret, ex_ifs, ex_brk, ex_pass, exs, getV, setV, setVs, wipeV, h1, h2]
theorem check_sayings_ok (d : Nat) {n : Nat} {ss : List (List Int)} (S : Store) (h : GoodS n ss) : (orc P (d + 4)).fn 20 [tT ss, .int n] S = .ok .non S := by
  rw [orc_fn, callF_of K.h20]
  have ht : tyN S (tT ss) = some (.ty "tuple") := rfl
  have hi : isTys (.ty "tuple") [.ty "tuple"] = some true := by decide
  have hne : cop S .eq (tT ss) (.tup []) = some false := by
    rw [Enc.int.tup.tup.cop_eq (by decide) S ss [] (tT ss) (.tup []) rfl rfl, decide_eq_false h.ne]
  have h0 : ([] : List D).length ≤ sizeLine := Nat.zero_le _
  obtain ⟨f', hf, b, e, g, ef⟩ : ∃ f', ex P (orc P (d + 3)) f20_check_sayings_l0 ⟨[some (tT ss), some (.int n), none, none, none], []⟩ S = .nx f' S ∧ ∃ b e g, f' = ⟨[some (tT ss), some (.int n), b, e, g], []⟩ := by
    have he : evIt P (orc P (d + 3)) (.enm (.v 0)) ⟨[some (tT ss), some (.int n), none, none, none], []⟩ S = .ok ⟨(ss.map tI).mapIdx fun (i : Nat) dd => D.tup [.int i, dd], [], true⟩ S := by
      simp only [bind_ok, of_some, so_ok, calm_ok, fresh_f, fresh_t, ev_non, ev_bl, ev_int, ev_str, ev_v, ev_g, ev_bin, ev_neg, ev_not, ev_and, ev_or, ev_cmp, ev_chain, ev_ite, ev_idx, ev_slc, ev_tup, ev_lst, ev_cB, ev_isi, ev_cF, ev_cK, ev_mk, ev_mth, ev_app, ev_cntA, ev_dnew, ev_dget, ev_dupd, ev_stp, ev_srS, ev_spl, evSp_nil, evSp_cons, ev_atr, ev_fld, evT_of, evT_cmp, evT_chain, evT_dinT, evT_not, evT_and, evT_or, evs_nil, evs_cons, evPart_nil, evPart_one, evAll_one, evAll_cons, evAny_one, evAny_cons, evAnd_one, evAnd_cons, evOr_one, evOr_cons, evTs_nil, evTs_one, evIt_of, evIt_rng1, evIt_rng2, evIt_enm, evIt_zip, evTg_nm, evTg_tup, evTg_sub, evTgs_nil, evTgs_cons, ex_asg, ex_par, ex_fset, ex_expr, ex_ret, ex_ifs, ex_brk, ex_pass, exs, getV, setV, setVs, wipeV, tT, srcOf_tup, List.getElem?_cons_zero]
    unfold f20_check_sayings_l0
    rw [ex_fors, he, so_ok]
    have step : ∀ x ∈ (ss.map tI).mapIdx (fun (i : Nat) dd => D.tup [.int i, dd]), ∀ f : Fr, (∃ a b c, f = ⟨[some (tT ss), some (.int n), a, b, c], []⟩) → ∃ f1, evTg P (orc P (d + 3)) (.tup [.nm 2, .nm 3]) x f S = .ok f1 S ∧
        ∃ f2, exs P (orc P (d + 3)) [(.ifs (.or [(.cmp .eq (.v 2) (.g 28)), (.not (.of (.cF 29 [(.v 3), (.v 1)]))), (.cmp .eq (.v 3) (.tup []))]) [.dead] [])] f1 S = .nx f2 S ∧ ∃ a b c, f2 = ⟨[some (tT ss), some (.int n), a, b, c], []⟩ := by
      rintro x hx f ⟨a, b, c, rfl⟩
      obtain ⟨i, hi2, rfl⟩ := List.mem_mapIdx.mp hx
      have hi3 : i < ss.length := by simpa using hi2
      obtain ⟨g1, g2, g3, g4⟩ := h.each ss[i] (List.getElem_mem hi3)
      have hb := is_lot_ok K d S g2 g3 g4 (len_pos g1)
      have hn2 : cop S .eq (tI ss[i]) (.tup []) = some false := by
        rw [Enc.int.tup.cop_eq (by decide) S ss[i] [] (tI ss[i]) (.tup []) rfl rfl, decide_eq_false g1]
      have e8 : decide ((i : Int) = 16) = false := decide_eq_false (by have := h.le; omega)
      refine ⟨⟨[some (tT ss), some (.int n), some (.int i), some (tI ss[i]), c], []⟩, ?_, ⟨[some (tT ss), some (.int n), some (.int i), some (tI ss[i]), c], []⟩, ?_, _, _, _, rfl⟩
      · simp [bind_ok, of_some, so_ok, calm_ok, fresh_f, fresh_t, ev_non, ev_bl, ev_int, ev_str, ev_v, ev_g, ev_bin, ev_neg, ev_not, ev_and, ev_or, ev_cmp, ev_chain, ev_ite, ev_idx, ev_slc, ev_tup, ev_lst, ev_cB, ev_isi, ev_cF, ev_cK, ev_mk, ev_mth, ev_app, ev_cntA, ev_dnew, ev_dget, ev_dupd, ev_stp, ev_srS, ev_spl, evSp_nil, evSp_cons, ev_atr, ev_fld, evT_of, evT_cmp, evT_chain, evT_dinT, evT_not, evT_and, evT_or, evs_nil, evs_cons, evPart_nil, evPart_one, evAll_one, evAll_cons, evAny_one, evAny_cons, evAnd_one, evAnd_cons, evOr_one, evOr_cons, evTs_nil, evTs_one, evIt_of, evIt_rng1, evIt_rng2, evIt_enm, evIt_zip, evTg_nm, evTg_tup, evTg_sub, evTgs_nil, evTgs_cons, ex_asg, ex_par, ex_fset, ex_expr, ex_ret, ex_ifs, ex_brk, ex_pass, exs, getV, setV, setVs, wipeV]
      · simp [bind_ok, of_some, so_ok, calm_ok, fresh_f, fresh_t, ev_non, ev_bl, ev_int, ev_str, ev_v, ev_g, ev_bin, ev_neg, ev_not, ev_and, ev_or, ev_cmp, ev_chain, ev_ite, ev_idx, ev_slc, ev_tup, ev_lst, ev_cB, ev_isi, ev_cF, ev_cK, ev_mk, ev_mth, ev_app, ev_cntA, ev_dnew, ev_dget, ev_dupd, ev_stp, ev_srS, ev_spl, evSp_nil, evSp_cons, ev_atr, ev_fld, evT_of, evT_cmp, evT_chain, evT_dinT, evT_not, evT_and, evT_or, evs_nil, evs_cons, evPart_nil, evPart_one, evAll_one, evAll_cons, evAny_one, evAny_cons, evAnd_one, evAnd_cons, evOr_one, evOr_cons, evTs_nil, evTs_one, evIt_of, evIt_rng1, evIt_rng2, evIt_enm, evIt_zip, evTg_nm, evTg_tup, evTg_sub, evTgs_nil, evTgs_cons, ex_asg, ex_par, ex_fset, ex_expr, ex_ret, ex_ifs, ex_brk, ex_pass, exs, getV, setV, setVs, wipeV, K.c28, cop_eqI, e8, hb, truth_bl, hn2]
    obtain ⟨f', h1, h2⟩ := forL_each (S := S) still_nil _ ⟨[some (tT ss), some (.int n), none, none, none], []⟩ step ⟨none, none, none, rfl⟩
    exact ⟨f', h1, h2⟩
  subst ef
  have hc := cs_c2 K (C := orc P (d + 3)) (b := b) (e := e) (g := g) (φ := []) S h
  have hall : bi S .all [D.lst ((List.range n).map fun _ => D.bl true)] = some (.bl true) := by
    rw [bi_all (seqAt_lst _) (bls_map _ fun _ => true)]
    simp
  refine runF_nx (f1 := ⟨[some (tT ss), some (.int n), b, e, g], []⟩) rfl ?_
  show exs P _ f20_check_sayings.body ⟨[some (tT ss), some (.int n), none, none, none], []⟩ S = _
  have s1 : ex P (orc P (d + 3)) (.ifs (.or [(.not (.of (.isi [.ty "tuple"] (.v 0)))), (.cmp .eq (.v 0) (.tup []))]) [.dead] []) ⟨[some (tT ss), some (.int n), none, none, none], []⟩ S = .nx ⟨[some (tT ss), some (.int n), none, none, none], []⟩ S := by
    simp [bind_ok, of_some, so_ok, calm_ok, fresh_f, fresh_t, ev_non, ev_bl, ev_int, ev_str, ev_v, ev_g, ev_bin, ev_neg, ev_not, ev_and, ev_or, ev_cmp, ev_chain, ev_ite, ev_idx, ev_slc, ev_tup, ev_lst, ev_cB, ev_isi, ev_cF, ev_cK, ev_mk, ev_mth, ev_app, ev_cntA, ev_dnew, ev_dget, ev_dupd, ev_stp, ev_srS, ev_spl, evSp_nil, evSp_cons, ev_atr, ev_fld, evT_of, evT_cmp, evT_chain, evT_dinT, evT_not, evT_and, evT_or, evs_nil, evs_cons, evPart_nil, evPart_one, evAll_one, evAll_cons, evAny_one, evAny_cons, evAnd_one, evAnd_cons, evOr_one, evOr_cons, evTs_nil, evTs_one, evIt_of, evIt_rng1, evIt_rng2, evIt_enm, evIt_zip, evTg_nm, evTg_tup, evTg_sub, evTgs_nil, evTgs_cons, ex_asg, ex_par, ex_fset, ex_expr, ex_ret, ex_ifs, ex_brk, ex_pass, exs, getV, setV, setVs, wipeV, ht, hi, truth_bl, hne]
  have s3 : ex P (orc P (d + 3)) (.ifs (.not (.of (.cB false .all [f20_check_sayings_c2]))) [.dead] []) ⟨[some (tT ss), some (.int n), b, e, g], []⟩ S = .nx ⟨[some (tT ss), some (.int n), b, e, g], []⟩ S := by
    rw [ex_ifs, evT_not, evT_of, ev_cB, evs_cons, hc, bind_ok, evs_nil, bind_ok, bind_ok, hall, of_some, bind_ok, fresh_f, bind_ok, truth_bl, of_some, bind_ok, so_ok]
    exact exs_nil
  unfold f20_check_sayings
  show exs P _ [_, _, _] _ S = _
  rw [exs_nx s1, exs_nx hf, exs_nx s3, exs_nil]
/-- the class -/
structure PkC (P : Pr) (kl : Cl) : Prop where
  cl : P.cl 10 = some kl
  ini : kl.init = 33
  fl : kl.flds = [21]
theorem teller_made {kl : Cl} (L : PkC P kl) (d : Nat) {ws : List Int} {ss : List (List Int)} (S : Store) (h2 : 2 ≤ ws.length) (h8 : ws.length ≤ 8) (hw : ∀ w ∈ ws, 1 ≤ w ∧ w ≤ 1000000) (h : GoodS ws.length ss) : (orc P (d + 6)).make 10 [tI ws, tT ss] S = .ok (tel ws ss) S := by
  have h1 := check_weights_ok K (d + 1) S h2 h8 hw
  have h3 := check_sayings_ok K d S h
  have hlen : bi S .len [tI ws] = some (.int (ws.length : Int)) := by rw [tI, bi_len (seqOf_tup _), List.length_map]
  rw [orc_make]
  unfold callI
  simp only [L.cl, L.ini, K.h33]
  unfold runI
  rw [if_pos (show ([tI ws, tT ss] : List D).length + 1 = f33_Teller__init.np from rfl)]
  have s1 : ex P (orc P (d + 4)) (.expr (.cF 19 [(.v 1)])) ⟨[none, some (tI ws), some (tT ss)], []⟩ S = .nx ⟨[none, some (tI ws), some (tT ss)], []⟩ S := by
    simp [bind_ok, of_some, so_ok, calm_ok, fresh_f, fresh_t, ev_non, ev_bl, ev_int, ev_str, ev_v, ev_g, ev_bin, ev_neg, ev_not, ev_and, ev_or, ev_cmp, ev_chain, ev_ite, ev_idx, ev_slc, ev_tup, ev_lst, ev_cB, ev_isi, ev_cF, ev_cK, ev_mk, ev_mth, ev_app, ev_cntA, ev_dnew, ev_dget, ev_dupd, ev_stp, ev_srS, ev_spl, evSp_nil, evSp_cons, ev_atr, ev_fld, evT_of, evT_cmp, evT_chain, evT_dinT, evT_not, evT_and, evT_or, evs_nil, evs_cons, evPart_nil, evPart_one, evAll_one, evAll_cons, evAny_one, evAny_cons, evAnd_one, evAnd_cons, evOr_one, evOr_cons, evTs_nil, evTs_one, evIt_of, evIt_rng1, evIt_rng2, evIt_enm, evIt_zip, evTg_nm, evTg_tup, evTg_sub, evTgs_nil, evTgs_cons, ex_asg, ex_par, ex_fset, ex_expr, ex_ret, ex_ifs, ex_brk, ex_pass, exs, getV, setV, setVs, wipeV, h1]
  have s2 : ex P (orc P (d + 4)) (.expr (.cF 20 [(.v 2), (.cB false .len [(.v 1)])])) ⟨[none, some (tI ws), some (tT ss)], []⟩ S = .nx ⟨[none, some (tI ws), some (tT ss)], []⟩ S := by
    simp [bind_ok, of_some, so_ok, calm_ok, fresh_f, fresh_t, ev_non, ev_bl, ev_int, ev_str, ev_v, ev_g, ev_bin, ev_neg, ev_not, ev_and, ev_or, ev_cmp, ev_chain, ev_ite, ev_idx, ev_slc, ev_tup, ev_lst, ev_cB, ev_isi, ev_cF, ev_cK, ev_mk, ev_mth, ev_app, ev_cntA, ev_dnew, ev_dget, ev_dupd, ev_stp, ev_srS, ev_spl, evSp_nil, evSp_cons, ev_atr, ev_fld, evT_of, evT_cmp, evT_chain, evT_dinT, evT_not, evT_and, evT_or, evs_nil, evs_cons, evPart_nil, evPart_one, evAll_one, evAll_cons, evAny_one, evAny_cons, evAnd_one, evAnd_cons, evOr_one, evOr_cons, evTs_nil, evTs_one, evIt_of, evIt_rng1, evIt_rng2, evIt_enm, evIt_zip, evTg_nm, evTg_tup, evTg_sub, evTgs_nil, evTgs_cons, ex_asg, ex_par, ex_fset, ex_expr, ex_ret, ex_ifs, ex_brk, ex_pass, exs, getV, setV, setVs, wipeV, hlen, h3]
  have s3 : ex P (orc P (d + 4)) (.fset 21 (.tup [(.v 1), (.v 2)])) ⟨[none, some (tI ws), some (tT ss)], []⟩ S = .nx ⟨[none, some (tI ws), some (tT ss)], [(21, .tup [tI ws, tT ss])]⟩ S := by
    rw [ex_fset, ev_tup_of (evs_two (ev_at rfl) (ev_at rfl)) (by simp), so_ok]
    rfl
  have hx : exs P (orc P (d + 4)) f33_Teller__init.body ⟨[none, some (tI ws), some (tT ss)], []⟩ S = .nx ⟨[none, some (tI ws), some (tT ss)], [(21, .tup [tI ws, tT ss])]⟩ S := by
    unfold f33_Teller__init
    show exs P _ [_, _, _] _ S = _
    rw [exs_nx s1, exs_nx s2, exs_nx s3, exs_nil]
  show (match exs P (orc P (d + 4)) f33_Teller__init.body ⟨[none, some (tI ws), some (tT ss)], []⟩ S with
    | .nx f S1 => if f.φ.map (·.1) = kl.flds then .ok (.obj 10 (f.φ.map (·.2))) S1 else .bad
    | .ex x f S1 => .exc x S1
    | _ => .bad : Out D) = _
  rw [hx]
  show (if [21] = kl.flds then Out.ok _ S else .bad) = _
  rw [L.fl, if_pos rfl]
  rfl
theorem held_ok {C : Orc} {kl : Cl} (L : PkC P kl) (hp : kl.props.lookup 21 = none) {i : Nat} {f : Fr} {ws : List Int} {ss : List (List Int)} (S : Store) (hf : getV f i = some (tel ws ss)) : ev P C (.atr 21 (.v i)) f S = .ok (.tup [tI ws, tT ss]) S := by
  rw [ev_atr, ev_at hf, bind_ok]
  simp only [tel, L.cl, hp, fldOf, L.fl]
  rfl
/-- the class's readings -/
structure PkR (P : Pr) (kl : Cl) (sR : Bool := true) (sS : Bool := true) : Prop extends PkC P kl where
  noP : kl.props.lookup 21 = none
  p16 : kl.props.lookup 16 = some 34
  p18 : kl.props.lookup 18 = some 36
  m17 : sR = true → kl.meths.lookup 17 = some 35
  m24 : sS = true → kl.meths.lookup 24 = some 37
  h34 : P.fn 34 = some f34_Teller_sayings
  h35 : sR = true → P.fn 35 = some f35_Teller_bound_in
  h36 : P.fn 36 = some f36_Teller_weights
  h37 : sS = true → P.fn 37 = some f37_Teller_said_in
theorem sayings_ok {kl : Cl} {sR sS : Bool} (L : PkR P kl sR sS) (d : Nat) {i : Nat} {f : Fr} {ws : List Int} {ss : List (List Int)} (S : Store) (hf : getV f i = some (tel ws ss)) : ev P (orc P (d + 2)) (.atr 16 (.v i)) f S = .ok (tT ss) S := by
  rw [ev_atr, ev_at hf, bind_ok]
  simp only [tel, L.cl, L.p16]
  have h1 : (orc P (d + 2)).prop 34 [tel ws ss] S = .ok (tT ss) S := by
    rw [orc_prop, callF_of L.h34]
    refine runF_rt rfl ?_
    show exs P _ [_] ⟨[some (tel ws ss)], []⟩ S = _
    refine exs_rt ?_
    rw [ex_ret, ev_idx, held_ok K L.toPkC L.noP S rfl, bind_ok, ev_int, bind_ok, itemAt_tup]
    rfl
  have h2 := congrArg Out.calm h1
  exact h2
theorem weights_ok {kl : Cl} {sR sS : Bool} (L : PkR P kl sR sS) (d : Nat) {i : Nat} {f : Fr} {ws : List Int} {ss : List (List Int)} (S : Store) (hf : getV f i = some (tel ws ss)) : ev P (orc P (d + 2)) (.atr 18 (.v i)) f S = .ok (tI ws) S := by
  rw [ev_atr, ev_at hf, bind_ok]
  simp only [tel, L.cl, L.p18]
  have h1 : (orc P (d + 2)).prop 36 [tel ws ss] S = .ok (tI ws) S := by
    rw [orc_prop, callF_of L.h36]
    refine runF_rt rfl ?_
    show exs P _ [_] ⟨[some (tel ws ss)], []⟩ S = _
    refine exs_rt ?_
    rw [ex_ret, ev_idx, held_ok K L.toPkC L.noP S rfl, bind_ok, ev_int, bind_ok, itemAt_tup]
    rfl
  have h2 := congrArg Out.calm h1
  exact h2
theorem case_checked {kl : Cl} {sR sS : Bool} (L : PkR P kl sR sS) (h15 : P.fn 15 = some f15_check_case) (d : Nat) {ws : List Int} {ss : List (List Int)} {i : Int} (S : Store) (h0 : 0 ≤ i) (h1 : i < ws.length) : (orc P (d + 3)).fn 15 [tel ws ss, .int i] S = .ok .non S := by
  rw [orc_fn, callF_of h15]
  have hs := weights_ok K L d (i := 0) (f := ⟨[some (tel ws ss), some (.int i)], []⟩) (ws := ws) (ss := ss) S rfl
  have hlen : bi S .len [tI ws] = some (.int (ws.length : Int)) := by rw [tI, bi_len (seqOf_tup _), List.length_map]
  have hb := is_between_ok K d i 0 ((ws.length : Int) - 1) S
  rw [decide_eq_true h0, decide_eq_true (show i ≤ (ws.length : Int) - 1 by omega)] at hb
  refine runF_nx (f1 := ⟨[some (tel ws ss), some (.int i)], []⟩) rfl ?_
  show exs P _ f15_check_case.body ⟨[some (tel ws ss), some (.int i)], []⟩ S = _
  simp [f15_check_case, bind_ok, of_some, so_ok, calm_ok, fresh_f, fresh_t, ev_non, ev_bl, ev_int, ev_str, ev_v, ev_g, ev_bin, ev_neg, ev_not, ev_and, ev_or, ev_cmp, ev_chain, ev_ite, ev_idx, ev_slc, ev_tup, ev_lst, ev_cB, ev_isi, ev_cF, ev_cK, ev_mk, ev_mth, ev_app, ev_cntA, ev_dnew, ev_dget, ev_dupd, ev_stp, ev_srS, ev_spl, evSp_nil, evSp_cons, ev_atr, ev_fld, evT_of, evT_cmp, evT_chain, evT_dinT, evT_not, evT_and, evT_or, evs_nil, evs_cons, evPart_nil, evPart_one, evAll_one, evAll_cons, evAny_one, evAny_cons, evAnd_one, evAnd_cons, evOr_one, evOr_cons, evTs_nil, evTs_one, evIt_of, evIt_rng1, evIt_rng2, evIt_enm, evIt_zip, evTg_nm, evTg_tup, evTg_sub, evTgs_nil, evTgs_cons, ex_asg, ex_par, ex_fset, ex_expr, ex_ret, ex_ifs, ex_brk, ex_pass, exs, getV, setV, setVs, wipeV, hlen, bop_sub, hb, truth_bl, hs, -ev_atr]
omit K
/-- the sayings that have a case; the cases that are bound to a saying -/
def saidL (ss : List (List Int)) (c : Int) : List Int := (ss.zipIdx.filter fun p => decide (c ∈ p.1)).map fun p => (p.2 : Int)
def boundL (ss : List (List Int)) (l : List Int) (s : Int) : List Int := l.filter fun c => decide (saidL ss c = [s])
include K
theorem said_c0 {C : Orc} {kl : Cl} {sR : Bool} (L : PkR P kl sR) {ws : List Int} {ss : List (List Int)} {c : Int} {a b : Option D} (S : Store) (hl : ss.length ≤ 1000) : ev P C f37_Teller_said_in_c0 ⟨[some (tel ws ss), some (.int c), a, b], []⟩ S = .ok (.lst ((saidL ss c).map D.int)) S := by
  unfold f37_Teller_said_in_c0
  have he : evIt P C (.enm (.idx (.atr 21 (.v 0)) (.int 1))) ⟨[some (tel ws ss), some (.int c), a, b], []⟩ S = .ok ⟨ss.zipIdx.map fun p => D.tup [.int p.2, tI p.1], [], true⟩ S := by
    rw [evIt_enm, ev_idx, held_ok K L.toPkC L.noP S rfl, bind_ok, ev_int, bind_ok, itemAt_tup, show L2.atI [tI ws, tT ss] 1 = some (tT ss) from rfl, of_some, bind_ok, tT, srcOf_tup, of_some, bind_ok]
    simp only
    rw [mapIdx_zip, List.zipIdx_map, List.map_map]
    rfl
  rw [ev_comp, he, bind_ok]
  simp only
  rw [comp_filter (c := fun (p : List Int × Nat) => D.tup [.int p.2, tI p.1]) (h := fun p => D.int p.2) (p := fun p => decide (c ∈ p.1)) still_nil (fun p hp => ?_) (small_size (by simp; omega))]
  · simp only [bind_ok, fresh_f, saidL, List.map_map]
    rfl
  · have hin := Enc.int.cop_inT (by decide) S c p.1 (.int c) (tI p.1) rfl rfl
    by_cases hc : c ∈ p.1
    · rw [decide_eq_true hc] at hin
      simp [bind_ok, of_some, so_ok, calm_ok, fresh_f, fresh_t, ev_non, ev_bl, ev_int, ev_str, ev_v, ev_g, ev_bin, ev_neg, ev_not, ev_and, ev_or, ev_cmp, ev_chain, ev_ite, ev_idx, ev_slc, ev_tup, ev_lst, ev_cB, ev_isi, ev_cF, ev_cK, ev_mk, ev_mth, ev_app, ev_cntA, ev_dnew, ev_dget, ev_dupd, ev_stp, ev_srS, ev_spl, evSp_nil, evSp_cons, ev_atr, ev_fld, evT_of, evT_cmp, evT_chain, evT_dinT, evT_not, evT_and, evT_or, evs_nil, evs_cons, evPart_nil, evPart_one, evAll_one, evAll_cons, evAny_one, evAny_cons, evAnd_one, evAnd_cons, evOr_one, evOr_cons, evTs_nil, evTs_one, evIt_of, evIt_rng1, evIt_rng2, evIt_enm, evIt_zip, evTg_nm, evTg_tup, evTg_sub, evTgs_nil, evTgs_cons, ex_asg, ex_par, ex_fset, ex_expr, ex_ret, ex_ifs, ex_brk, ex_pass, exs, getV, setV, setVs, wipeV, hin, hc]
    · rw [decide_eq_false hc] at hin
      simp [bind_ok, of_some, so_ok, calm_ok, fresh_f, fresh_t, ev_non, ev_bl, ev_int, ev_str, ev_v, ev_g, ev_bin, ev_neg, ev_not, ev_and, ev_or, ev_cmp, ev_chain, ev_ite, ev_idx, ev_slc, ev_tup, ev_lst, ev_cB, ev_isi, ev_cF, ev_cK, ev_mk, ev_mth, ev_app, ev_cntA, ev_dnew, ev_dget, ev_dupd, ev_stp, ev_srS, ev_spl, evSp_nil, evSp_cons, ev_atr, ev_fld, evT_of, evT_cmp, evT_chain, evT_dinT, evT_not, evT_and, evT_or, evs_nil, evs_cons, evPart_nil, evPart_one, evAll_one, evAll_cons, evAny_one, evAny_cons, evAnd_one, evAnd_cons, evOr_one, evOr_cons, evTs_nil, evTs_one, evIt_of, evIt_rng1, evIt_rng2, evIt_enm, evIt_zip, evTg_nm, evTg_tup, evTg_sub, evTgs_nil, evTgs_cons, ex_asg, ex_par, ex_fset, ex_expr, ex_ret, ex_ifs, ex_brk, ex_pass, exs, getV, setV, setVs, wipeV, hin, hc]
theorem said_in_ok {kl : Cl} {sR : Bool} (L : PkR P kl sR) (d : Nat) {ws : List Int} {ss : List (List Int)} {c : Int} (S : Store) (hl : ss.length ≤ 1000) : (orc P (d + 1)).fn 37 [tel ws ss, .int c] S = .ok (tI (saidL ss c)) S := by
  rw [orc_fn, callF_of (L.h37 rfl)]
  refine runF_rt rfl ?_
  show exs P _ [_] ⟨[some (tel ws ss), some (.int c), none, none], []⟩ S = _
  refine exs_rt ?_
  rw [ex_ret, ev_cB, evs_one (said_c0 K L S hl), bind_ok, bi_tuple (seqOf_lst _), of_some, bind_ok, fresh_f, so_ok]
theorem mth_said {kl : Cl} {sR : Bool} (L : PkR P kl sR) (d : Nat) {ws : List Int} {ss : List (List Int)} {c : Int} {i j : Nat} {f : Fr} (S : Store) (hi : getV f i = some (tel ws ss)) (hj : getV f j = some (.int c)) (hl : ss.length ≤ 1000) : ev P (orc P (d + 1)) (.mth 24 (.v i) [(.v j)]) f S = .ok (tI (saidL ss c)) S := by
  rw [ev_mth, ev_at hi, bind_ok]
  simp only [tel, L.cl, L.m24 rfl]
  rw [evs_one (ev_at hj), bind_ok]
  exact said_in_ok K L d S hl
theorem bound_c0 {kl : Cl} (L : PkR P kl) (d : Nat) {ws : List Int} {ss : List (List Int)} {s : Nat} {a : Option D} (S : Store) (hs : s < ss.length) (hl : ss.length ≤ 1000) (hl2 : ss[s].length ≤ 1000) : ev P (orc P (d + 1)) f35_Teller_bound_in_c0 ⟨[some (tel ws ss), some (.int s), a], []⟩ S = .ok (.lst ((boundL ss ss[s] s).map D.int)) S := by
  unfold f35_Teller_bound_in_c0
  have he : evIt P (orc P (d + 1)) (.of (.idx (.idx (.atr 21 (.v 0)) (.int 1)) (.v 1))) ⟨[some (tel ws ss), some (.int s), a], []⟩ S = .ok ⟨ss[s].map D.int, [], true⟩ S := by
    rw [evIt_of, ev_idx, ev_idx, held_ok K L.toPkC L.noP S rfl, bind_ok, ev_int, bind_ok, itemAt_tup, show L2.atI [tI ws, tT ss] 1 = some (tT ss) from rfl, of_some, bind_ok, ev_at (d := .int s) rfl, bind_ok, tT, itemAt_tup, atI_map hs rfl, of_some, bind_ok, tI, srcOf_tup, of_some]
  rw [ev_comp, he, bind_ok]
  simp only
  rw [comp_filter (c := D.int) (h := D.int) (p := fun c => decide (saidL ss c = [(s : Int)])) still_nil (fun c hc => ?_) (small_size (by omega))]
  · simp only [bind_ok, fresh_f, boundL]
  · have hm := mth_said K L d (i := 0) (j := 2) (f := ⟨[some (tel ws ss), some (.int s), some (.int c)], []⟩) (ws := ws) (ss := ss) (c := c) S rfl rfl hl
    have ht : ev P (orc P (d + 1)) (.tup [(.v 1)]) ⟨[some (tel ws ss), some (.int s), some (.int c)], []⟩ S = .ok (tI [(s : Int)]) S := ev_tup_of (evs_one (ev_at rfl)) (by simp)
    have heq := Enc.int.tup.cop_eq (by decide) S (saidL ss c) [(s : Int)] (tI (saidL ss c)) (tI [(s : Int)]) rfl rfl
    show (evTg P _ (.nm 2) (.int c) ⟨[some (tel ws ss), some (.int s), none], []⟩ S).bind _ = _
    rw [evTg_nm, bind_ok, evTs_one, evT_cmp]
    show (((ev P _ (.mth 24 (.v 0) [(.v 2)]) ⟨[some (tel ws ss), some (.int s), some (.int c)], []⟩ S).bind _).bind _) = _
    rw [hm, bind_ok]
    show (((ev P _ (.tup [(.v 1)]) ⟨[some (tel ws ss), some (.int s), some (.int c)], []⟩ S).bind _).bind _) = _
    rw [ht, bind_ok, heq, of_some, bind_ok]
    by_cases hq : saidL ss c = [(s : Int)]
    · rw [decide_eq_true hq]
      rfl
    · rw [decide_eq_false hq]
      rfl
theorem bound_in_ok {kl : Cl} (L : PkR P kl) (d : Nat) {ws : List Int} {ss : List (List Int)} {s : Nat} (S : Store) (hs : s < ss.length) (hl : ss.length ≤ 1000) (hl2 : ss[s].length ≤ 1000) : (orc P (d + 2)).fn 35 [tel ws ss, .int s] S = .ok (tI (boundL ss ss[s] s)) S := by
  rw [orc_fn, callF_of (L.h35 rfl)]
  refine runF_rt rfl ?_
  show exs P _ [_] ⟨[some (tel ws ss), some (.int s), none], []⟩ S = _
  refine exs_rt ?_
  rw [ex_ret, ev_cB, evs_one (bound_c0 K L d S hs hl hl2), bind_ok, bi_tuple (seqOf_lst _), of_some, bind_ok, fresh_f, so_ok]
end
end Th
namespace Th
/-- the lots by which a saying may be said for sure: parts of l with all bound cases -/
def mixF (bd l : List Int) : List (List Int) := l.foldl (fun fs c => (fs.map fun e => e ++ [c]) ++ fs.filter fun _ => !decide (c ∈ bd)) [[]]
theorem mixF_sound_aux (bd : List Int) : ∀ (l pre : List Int) (fs : List (List Int)), (∀ M ∈ fs, M.Sublist pre ∧ ∀ x ∈ pre, x ∈ bd → x ∈ M) → ∀ M ∈ l.foldl (fun fs c => (fs.map fun e => e ++ [c]) ++ fs.filter fun _ => !decide (c ∈ bd)) fs, M.Sublist (pre ++ l) ∧ ∀ x ∈ pre ++ l, x ∈ bd → x ∈ M
  | [], pre, fs, h, M, hM => by simpa using h M hM
  | c :: l, pre, fs, h, M, hM => by
    have := mixF_sound_aux bd l (pre ++ [c]) _ (fun M' hM' => ?_) M hM
    · simpa using this
    · rcases List.mem_append.mp hM' with h1 | h1
      · obtain ⟨e, he, rfl⟩ := List.mem_map.mp h1
        obtain ⟨a, b⟩ := h e he
        refine ⟨a.append (List.Sublist.refl [c]), fun x hx hb => ?_⟩
        rcases List.mem_append.mp hx with q | q
        · exact List.mem_append_left _ (b x q hb)
        · exact List.mem_append_right _ q
      · obtain ⟨he, hc⟩ := List.mem_filter.mp h1
        obtain ⟨a, b⟩ := h M' he
        refine ⟨a.trans (List.sublist_append_left _ _), fun x hx hb => ?_⟩
        rcases List.mem_append.mp hx with q | q
        · exact b x q hb
        · have : x = c := by simpa using q
          subst this
          simp [hb] at hc
theorem mixF_sound {bd l M : List Int} (h : M ∈ mixF bd l) : M.Sublist l ∧ ∀ x ∈ l, x ∈ bd → x ∈ M := by
  have := mixF_sound_aux bd l [] [[]] (fun M hM => by simp at hM; subst hM; simp) M h
  simpa using this
def insideW (w : Int → Int) (M : List Int) (lot : List Int) : Int := ((M.filter fun c => decide (c ∈ lot)).map w).sum
theorem mem_insI {x y : Int} : ∀ {l : List Int}, y ∈ insI x l ↔ y = x ∨ y ∈ l
  | [] => by simp [insI]
  | z :: l => by
    unfold insI
    split
    · simp
    · simp only [List.mem_cons, mem_insI (l := l)]
      constructor
      · rintro (h | h | h) <;> simp [h]
      · rintro (h | h | h) <;> simp [h]
theorem mem_sortI {y : Int} : ∀ {l : List Int}, y ∈ sortI l ↔ y ∈ l
  | [] => by simp [sortI]
  | z :: l => by rw [sortI, mem_insI, mem_sortI (l := l), List.mem_cons]
theorem length_insI {x : Int} : ∀ l : List Int, (insI x l).length = l.length + 1
  | [] => rfl
  | z :: l => by
    unfold insI
    split
    · simp
    · simp [length_insI l]
theorem length_sortI : ∀ l : List Int, (sortI l).length = l.length
  | [] => rfl
  | z :: l => by rw [sortI, length_insI, length_sortI l, List.length_cons]
theorem insI_lt {x : Int} : ∀ {l : List Int}, l.Pairwise (· < ·) → x ∉ l → (insI x l).Pairwise (· < ·)
  | [], _, _ => by simp [insI]
  | z :: l, h, hx => by
    obtain ⟨h1, h2⟩ := List.pairwise_cons.mp h
    have hxz : x ≠ z := fun q => hx (q ▸ List.mem_cons_self)
    unfold insI
    split
    · refine List.pairwise_cons.mpr ⟨fun y hy => ?_, h⟩
      rcases List.mem_cons.mp hy with rfl | hy
      · omega
      · have := h1 y hy; omega
    · refine List.pairwise_cons.mpr ⟨fun y hy => ?_, insI_lt h2 fun q => hx (List.mem_cons_of_mem _ q)⟩
      rcases mem_insI.mp hy with rfl | hy
      · omega
      · exact h1 y hy
theorem sortI_lt : ∀ {l : List Int}, l.Nodup → (sortI l).Pairwise (· < ·)
  | [], _ => by simp [sortI]
  | z :: l, h => by
    obtain ⟨h1, h2⟩ := List.nodup_cons.mp h
    exact insI_lt (sortI_lt h2) (fun q => h1 (mem_sortI.mp q))
theorem lt_nodup {l : List Int} (h : l.Pairwise (· < ·)) : l.Nodup := h.imp fun q => by omega
/-- few numbers below a bound -/
theorem nodup_len {n : Nat} : ∀ {l : List Int}, l.Nodup → (∀ x ∈ l, 0 ≤ x ∧ x < (n : Int)) → l.length ≤ n := by
  induction n with
  | zero =>
    intro l _ h
    cases l with
    | nil => simp
    | cons a l => have := h a List.mem_cons_self; omega
  | succ n ih =>
    intro l hl h
    have h1 := ih (l := l.filter fun x => decide (x ≠ (n : Int))) (hl.filter _) (fun x hx => by
      obtain ⟨q1, q2⟩ := List.mem_filter.mp hx
      have := h x q1
      have : x ≠ n := of_decide_eq_true q2
      omega)
    have h2 : ∀ {l : List Int}, l.Nodup → l.length ≤ (l.filter fun x => decide (x ≠ (n : Int))).length + 1 := by
      intro l hl
      induction l with
      | nil => simp
      | cons a l ih2 =>
        obtain ⟨q1, q2⟩ := List.nodup_cons.mp hl
        by_cases e : a = (n : Int)
        · have : l.filter (fun x => decide (x ≠ (n : Int))) = l := List.filter_eq_self.mpr fun x hx => decide_eq_true fun z => q1 (by rw [e, ← z]; exact hx)
          rw [List.filter_cons_of_neg (by simp [e]), this]
          simp
        · rw [List.filter_cons_of_pos (by simp [e])]
          have := ih2 q2
          simp only [List.length_cons]
          omega
    have := h2 hl
    omega
theorem zip_range {α : Type} (l : List (List α)) : l.zipIdx = (List.range l.length).map fun i => (l.getD i [], i) := by
  refine List.ext_getElem (by simp) fun i h1 h2 => ?_
  simp at h1
  simp [h1]
/-- the sayings of a case by their places -/
theorem saidL_range (ss : List (List Int)) (c : Int) : saidL ss c = ((List.range ss.length).filter fun i => decide (c ∈ ss.getD i [])).map fun (i : Nat) => (i : Int) := by
  unfold saidL
  rw [zip_range, List.filter_map, List.map_map]
  rfl
end Th
namespace Th
open PySem
theorem set_here {S : Store} {n : Nat} {o o' : Ob} (h : S[n]? = some o) : (S.set n o')[n]? = some o' := by
  rw [List.getElem?_set_self (List.getElem?_eq_some_iff.mp h).1]
theorem push_here {S : Store} {o : Ob} : (S ++ [o])[S.length]? = some o := by simp
local macro_rules | `(tactic| fail "gt") => `(tactic| first | assumption | exact set_here (by assumption) | exact set_here (set_here (by assumption)) | exact set_here (set_here (set_here (by assumption))) | exact push_here)
local macro_rules | `(tactic| fail "g0") => `(tactic| first
  | ((with_reducible apply w_v); exact rfl) | (with_reducible first | apply w_int | apply w_bin | apply w_idx | apply w_evs | apply w_evs0 | apply w_cF | apply w_cB | apply w_fresh_f | apply w_fresh_t | apply w_tup))
local macro_rules | `(tactic| fail "g1") => `(tactic| first
  | (with_reducible first | apply w_lst | apply w_T_cmp | apply w_T_of | apply w_T_not | apply w_T_and | apply w_T_or | apply w_T_chain | apply w_T_din | apply w_all1 | apply w_any1 | apply w_allC))
local macro_rules | `(tactic| fail "g2") => `(tactic| first
  | (with_reducible first | apply w_anyC | apply w_ts0 | apply w_ts1 | apply w_cmp | apply w_not | apply w_and | apply w_or | apply w_and1 | apply w_andC | apply w_or1 | apply w_orC))
local macro_rules | `(tactic| fail "g3") => `(tactic| first
  | (with_reducible first | apply w_chain | apply w_ite | apply w_neg | apply w_slc | apply w_part0 | apply w_part1 | apply w_bl | apply w_non | apply w_str | apply w_cK | apply w_mk))
local macro_rules | `(tactic| fail "g4") => `(tactic| first
  | (with_reducible first | apply w_isi | apply w_trg1 | apply w_trg2 | apply w_rgO_t | apply w_rgO_l | apply w_mth | apply w_app | apply w_popA | apply w_idxA | apply w_cntA | apply w_dnew))
local macro_rules | `(tactic| fail "g5") => `(tactic| first
  | (with_reducible first | apply w_dget | apply w_dupd | apply w_stp | apply w_srS | apply w_spl | apply w_sp0 | apply w_spT | apply w_spF | apply w_comp) | ((with_reducible apply w_fld); exact rfl) | (with_reducible apply w_turn0))
local macro_rules | `(tactic| fail "g6") => `(tactic| first
  | (with_reducible first | apply w_turn | apply w_it | apply w_rng1 | apply w_rng2 | apply w_enm | apply w_zip | apply w_tgN) | ((with_reducible apply w_tgT); exact rfl) | ((with_reducible apply w_tgL); exact rfl) | (with_reducible first | apply w_tgS | apply w_tgs0))
local macro_rules | `(tactic| fail "g7") => `(tactic| first
  | (with_reducible first | apply w_tgsC | apply w_of | apply w_ok | apply o_add | apply o_sub | apply o_mul) | ((with_reducible apply o_fdiv); refine And.intro (by decide) ?_) | ((with_reducible apply o_mod); refine And.intro (by decide) ?_) | (with_reducible first | apply o_addT | apply o_addL | apply o_int))
local macro_rules | `(tactic| fail "g8") => `(tactic| first
  | (with_reducible first | apply o_lt | apply o_le | apply o_gt | apply o_ge | apply o_eqI | apply o_neI | apply o_trB | apply o_trI | apply o_srcT | apply o_srcL | apply o_srcF))
local macro_rules | `(tactic| fail "g9") => `(tactic| first
  | ((with_reducible apply o_itemL); exact rfl; exact rfl) | (with_reducible first | apply o_lenM | apply o_abs | apply o_max2 | apply o_min2) | ((with_reducible apply o_tuple); exact rfl) | ((with_reducible apply o_list); exact rfl) | (with_reducible first | apply o_all | apply o_any) | ((with_reducible apply o_inI); exact rfl) | ((with_reducible apply o_ninI); exact rfl))
local macro_rules | `(tactic| fail "g10") => `(tactic| first
  | (with_reducible first | apply w_last | apply w_seq | apply w_nil | apply w_asgN | apply w_asg | apply w_par | apply w_augX | apply w_expr | apply w_ret | apply w_retN | apply w_ifs))
local macro_rules | `(tactic| fail "g11") => `(tactic| first
  | (with_reducible first | apply w_fors | apply w_whiles | apply w_brk | apply w_cont | apply w_pass | apply w_fset | apply e_int | apply e_loc | apply e_bl | apply e_t | apply e_f))
local macro_rules | `(tactic| fail "g12") => `(tactic| first
  | (with_reducible first | apply e_t' | apply e_f' | apply e_nt | apply e_nf | apply e_nt' | apply e_nf') | ((with_reducible apply e_len); focus (simp; done)) | ((with_reducible apply e_leq); exact rfl) | ((with_reducible apply o_itemL); ((with_reducible apply seqOf_loc); fail "gt"); exact rfl) | ((with_reducible apply o_storeA); fail "gt"; exact ⟨by decide, by simp⟩) | ((with_reducible apply o_srcM); fail "gt"))
local macro_rules | `(tactic| fail "g13") => `(tactic| first
  | (with_reducible first | apply w_spt | apply w_sgn | apply w_cS | apply w_kget | apply w_dzip | apply w_dgd | apply w_dval | apply w_tryD | apply o_addS | apply o_rev))
local macro_rules | `(tactic| fail "s1") => `(tactic| first
  | fail "g0" | fail "g1" | fail "g2" | fail "g3" | fail "g4" | fail "g5" | fail "g6" | fail "g7" | fail "g8" | fail "g9" | fail "g10" | fail "g11" | fail "g12" | fail "g13")
local macro_rules | `(tactic| fail "stl") => `(tactic| repeat fail "s1")
section
open PySem
/-- only the cells of A change, the store grows -/
def Kp (A : List Nat) (S S' : Store) : Prop := S.length ≤ S'.length ∧ ∀ j, j < S.length → j ∉ A → S'[j]? = S[j]?
theorem Kp.refl {A : List Nat} {S : Store} : Kp A S S := ⟨Nat.le_refl _, fun _ _ _ => rfl⟩
theorem Kp.trans {A : List Nat} {S S1 S2 : Store} (h : Kp A S S1) (k : Kp A S1 S2) : Kp A S S2 := ⟨Nat.le_trans h.1 k.1, fun j hj ha => (k.2 j (Nat.lt_of_lt_of_le hj h.1) ha).trans (h.2 j hj ha)⟩
theorem Kp.mono {A B : List Nat} {S S' : Store} (h : Kp A S S') (k : ∀ a ∈ A, a ∈ B) : Kp B S S' := ⟨h.1, fun j hj ha => h.2 j hj fun z => ha (k j z)⟩
theorem Kp.set {A : List Nat} {S : Store} {n : Nat} {o : Ob} (h : n ∈ A) : Kp A S (S.set n o) := ⟨by rw [List.length_set]; exact Nat.le_refl _, fun j _ ha => by rw [List.getElem?_set_ne (fun (z : n = j) => ha (by rw [← z]; exact h))]⟩
theorem Kp.push {A : List Nat} {S : Store} {o : Ob} : Kp A S (S ++ [o]) := ⟨by simp, fun j hj _ => by rw [List.getElem?_append_left hj]⟩
theorem Kp.at {A : List Nat} {S S' : Store} {n : Nat} {o : Ob} (h : Kp A S S') (k : S[n]? = some o) (ha : n ∉ A) : S'[n]? = some o := by
  rw [h.2 n (List.getElem?_eq_some_iff.mp k).1 ha, k]
/-- cells below n alone change only by A: from the view of an earlier store -/
theorem Kp.late {A : List Nat} {B : List Nat} {S0 S S' : Store} (h : Kp A S0 S) (k : Kp B S S') (hb : ∀ n ∈ B, n ∈ A ∨ S0.length ≤ n) : Kp A S0 S' := ⟨Nat.le_trans h.1 k.1, fun j hj ha => by
  rw [k.2 j (Nat.lt_of_lt_of_le hj h.1) (fun z => (hb j z).elim ha fun q => by omega), h.2 j hj ha]⟩
/-- a basket: its place holds three numbers -/
def Bsk (S : Store) (b n : Nat) : Prop := ∃ x y z : Int, S[b]? = some (.lst [.int x, .int y, .int z]) ∧ 0 ≤ y ∧ y < 2147483648 ∧ 0 ≤ z ∧ z ≤ n
theorem Bsk.mono {S : Store} {b n m : Nat} (h : Bsk S b n) (k : n ≤ m) : Bsk S b m := by
  obtain ⟨x, y, z, h1, h2, h3, h4, h5⟩ := h
  exact ⟨x, y, z, h1, h2, h3, h4, by omega⟩
theorem Bsk.lt {S : Store} {b n : Nat} (h : Bsk S b n) : b < S.length := by
  obtain ⟨x, y, z, h1, _⟩ := h
  exact (List.getElem?_eq_some_iff.mp h1).1
theorem Bsk.keep {A : List Nat} {S S' : Store} {b n : Nat} (h : Bsk S b n) (k : Kp A S S') (ha : b ∉ A) : Bsk S' b n := by
  obtain ⟨x, y, z, h1, h2⟩ := h
  exact ⟨x, y, z, k.at h1 ha, h2⟩
def f9_law_grab : Fn := ⟨2, 4, [(.ifs (.cmp .gt (.idx (.v 0) (.int 0)) (.int 0)) [(.asg (.tup [(.sub (.v 0) (.int 0)), (.nm 2)]) (.cB false .divmod [(.idx (.v 0) (.int 0)), (.v 1)])), (.ret (.v 2))] []), (.asg (.sub (.v 0) (.int 2)) (.bin false .add (.idx (.v 0) (.int 2)) (.int 1))), (.asg (.nm 3) (.bin false .mod (.cB false .int [(.bin false .add (.bin false .add (.bin false .mul (.idx (.v 0) (.int 1)) (.int 43013)) (.bin false .mul (.bin false .mul (.idx (.v 0) (.int 2)) (.idx (.v 0) (.int 2))) (.int 131))) (.int 57))]) (.int 2147480969))), (.asg (.sub (.v 0) (.int 1)) (.bin false .mod (.cB false .int [(.bin false .add (.bin false .mul (.v 3) (.bin false .add (.int 37019) (.bin false .mod (.cB false .int [(.v 3)]) (.int 5021)))) (.int 83))]) (.int 2147481071))), (.ret (.bin false .mod (.cB false .int [(.bin false .fdiv (.idx (.v 0) (.int 1)) (.int 512))]) (.v 1)))]⟩
theorem log2_lt {i : Int} {k : Nat} (h : i.natAbs < 2 ^ k) (hk : 0 < k) : i.natAbs.log2 < k := by
  by_cases hz : i.natAbs = 0
  · rw [hz]
    simpa using hk
  · exact (Nat.log2_lt hz).mpr h
theorem small_mul {i j : Int} (h1 : i.natAbs < 2 ^ 64) (h2 : j.natAbs < 2 ^ 64) : i.natAbs.log2 + j.natAbs.log2 < 100000000 := by
  have a := log2_lt h1 (by decide)
  have b := log2_lt h2 (by decide)
  omega
theorem emod_in {a m : Int} (h : 0 < m) : 0 ≤ a % m ∧ a % m < m := ⟨Int.emod_nonneg _ (by omega), Int.emod_lt_of_pos _ h⟩
theorem grab_ok {P : Pr} (h9 : P.fn 9 = some f9_law_grab) (d : Nat) {b n : Nat} {m : Int} {S : Store} (hB : Bsk S b n) (hn : n ≤ 1000000) (h0 : 0 < m) (h1 : m < 1073741824) : Ok ((orc P (d + 1)).fn 9 [.loc b, .int m] S) fun v S' => ∃ k : Nat, v = .int k ∧ (k : Int) < m ∧ Kp [b] S S' ∧ Bsk S' b (n + 1) := by
  obtain ⟨x, y, z, hS, y0, y1, z0, z1⟩ := hB
  refine w_fn h9 rfl rfl ?_
  show Go (exs _ _ (_ :: _) _ _) _ _ _ _
  fail "stl"
  refine c_by (fun hx => ?_) (fun hx => ?_)
  · fail "stl"
    refine o_divmod ⟨⟨h0, h1⟩, ?_⟩
    fail "stl"
    obtain ⟨q1, q2⟩ := emod_in (a := x) h0
    refine ⟨(x % m).toNat, by rw [Int.toNat_of_nonneg q1], by omega, .set (by simp), x / m, y, z, set_here hS, y0, y1, z0, by omega⟩
  · have z2 : (z + 1).natAbs < 2 ^ 64 := by omega
    have z3 : ((z + 1) * (z + 1)).natAbs < 2 ^ 64 := by
      rw [Int.natAbs_mul]
      refine Nat.lt_of_le_of_lt (Nat.mul_le_mul (show (z + 1).natAbs ≤ 1000001 by omega) (show (z + 1).natAbs ≤ 1000001 by omega)) (by decide)
    fail "stl"
    refine ⟨small_mul (by omega) (by omega), ?_⟩
    fail "stl"
    refine ⟨small_mul z2 z2, ?_⟩
    fail "stl"
    refine ⟨small_mul z3 (by omega), ?_⟩
    fail "stl"
    refine ⟨small_mul (by omega) (by omega), ?_⟩
    fail "stl"
    refine o_mod ⟨h0, ?_⟩
    fail "stl"
    generalize hv : ((y * 43013 + (z + 1) * (z + 1) * 131 + 57) % 2147480969 * (37019 + (y * 43013 + (z + 1) * (z + 1) * 131 + 57) % 2147480969 % 5021) + 83) % 2147481071 = v
    have v1 := emod_in (a := (y * 43013 + (z + 1) * (z + 1) * 131 + 57) % 2147480969 * (37019 + (y * 43013 + (z + 1) * (z + 1) * 131 + 57) % 2147480969 % 5021) + 83) (m := 2147481071) (by decide)
    rw [hv] at v1
    obtain ⟨q1, q2⟩ := emod_in (a := v / 512) h0
    exact ⟨(v / 512 % m).toNat, by rw [Int.toNat_of_nonneg q1], by omega, .trans (.set (by simp)) (.set (by simp)), x, v, z + 1, set_here (set_here hS), v1.1, by omega, by omega, by omega⟩
@[reducible] def castV (ws : List Int) (ss : List (List Int)) : D := .tup [tI ws, tT ss]
@[reducible] def f22_law_said_c0 : Ex := (.comp false (.v 2) (.nm 2) (.rng1 (.cB false .len [(.idx (.v 0) (.int 1))])) [(.cmp .in_ (.v 1) (.idx (.idx (.v 0) (.int 1)) (.v 2)))] [2])
def f22_law_said : Fn := ⟨2, 3, [(.ret (.cB false .tuple [f22_law_said_c0]))]⟩
theorem said_ok {P : Pr} (h22 : P.fn 22 = some f22_law_said) (d : Nat) {ws : List Int} {ss : List (List Int)} {c : Int} {S : Store} (hl : ss.length ≤ 1000) : (orc P (d + 1)).fn 22 [castV ws ss, .int c] S = .ok (tI (saidL ss c)) S := by
  refine ok_of_eq ?_
  refine w_fn h22 rfl rfl ?_
  show Go (exs _ _ (_ :: _) _ _) _ _ _ _
  fail "stl"

  refine o_rng rfl (by omega) ?_
  refine w_cfil (h := fun (i : Nat) => .int i) (p := fun i => decide (c ∈ ss.getD i [])) still_nil (by simp; omega) (fun i hi => ?_) ?_
  · have hi2 : i < ss.length := List.mem_range.mp hi
    have e : ss.getD i [] = ss[i] := by simp [hi2]
    fail "stl"
    refine o_itemT hi2 rfl ?_
    fail "stl"
    rw [e]
    refine c_by (fun h => ?_) (fun h => ?_)
    · fail "stl"
      simp [h]
    · fail "stl"
      simp [h]
  · fail "stl"
    refine ⟨?_, rfl⟩
    rw [saidL_range, tI, List.map_map]
    rfl
@[reducible] def f11_law_bound_c0 : Ex := (.comp false (.v 2) (.nm 2) (.of (.idx (.idx (.v 0) (.int 1)) (.v 1))) [(.cmp .eq (.cF 22 [(.v 0), (.v 2)]) (.tup [(.v 1)]))] [2])
def f11_law_bound : Fn := ⟨2, 3, [(.ret (.cB false .tuple [f11_law_bound_c0]))]⟩
theorem bound_ok {P : Pr} (h11 : P.fn 11 = some f11_law_bound) (h22 : P.fn 22 = some f22_law_said) (d : Nat) {ws : List Int} {ss : List (List Int)} {s : Nat} {S : Store} (hs : s < ss.length) (hl : ss.length ≤ 1000) (hl2 : ss[s].length ≤ 1000) : (orc P (d + 2)).fn 11 [castV ws ss, .int s] S = .ok (tI (boundL ss ss[s] s)) S := by
  refine ok_of_eq ?_
  refine w_fn h11 rfl rfl ?_
  show Go (exs _ _ (_ :: _) _ _) _ _ _ _
  fail "stl"
  refine o_itemT hs rfl ?_
  fail "stl"
  refine w_cfil (h := D.int) (p := fun c => decide (saidL ss c = [(s : Int)])) still_nil (by omega) (fun c hc => ?_) ?_
  · fail "stl"
    refine w_eq (said_ok h22 d hl) ?_
    fail "stl"
    refine o_eq Enc.int.tup (by decide) (saidL ss c) [(s : Int)] _ _ rfl rfl ?_
    refine c_by (fun h => ?_) (fun h => ?_)
    · fail "stl"
      simp [h]
    · fail "stl"
      simp [h]
  · fail "stl"
    exact ⟨rfl, rfl⟩
def wAt (ws : List Int) (c : Int) : Int := ws.getD c.toNat 0
theorem wAt_get {ws : List Int} {c : Int} (h0 : 0 ≤ c) (h1 : c < ws.length) : wAt ws c = ws[c.toNat]'(by omega) := by
  unfold wAt
  rw [List.getD_eq_getElem?_getD, List.getElem?_eq_getElem (by omega)]
  rfl
theorem sum_nonneg {α : Type} (w : α → Int) : ∀ l : List α, (∀ x ∈ l, 0 ≤ w x) → 0 ≤ (l.map w).sum
  | [], _ => by simp
  | a :: l, h => by
    have := sum_nonneg w l fun x hx => h x (List.mem_cons_of_mem _ hx)
    have := h a List.mem_cons_self
    simp
    omega
theorem sum_le {α : Type} (w : α → Int) (B : Int) : ∀ l : List α, (∀ x ∈ l, w x ≤ B) → (l.map w).sum ≤ l.length * B
  | [], _ => by simp
  | a :: l, h => by
    have := sum_le w B l fun x hx => h x (List.mem_cons_of_mem _ hx)
    have := h a List.mem_cons_self
    simp [Int.add_mul]
    omega
theorem sum_ge {α : Type} (w : α → Int) : ∀ l : List α, (∀ x ∈ l, 1 ≤ w x) → (l.length : Int) ≤ (l.map w).sum
  | [], _ => by simp
  | a :: l, h => by
    have := sum_ge w l fun x hx => h x (List.mem_cons_of_mem _ hx)
    have := h a List.mem_cons_self
    simp
    omega
end
section
open PySem
def f3_law_cast_l0 : Sm := (.fors (.nm 7) (.rng1 (.v 3)) [(.expr (.app (.v 6) (.idx (.lst false [(.int 1), (.bin false .add (.int 1) (.cF 9 [(.v 0), (.int 3)])), (.bin false .add (.int 1) (.cF 9 [(.v 0), (.int 9)])), (.bin false .sub (.bin false .pow (.int 10) (.int 6)) (.cF 9 [(.v 0), (.int 5)]))]) (.v 5))))])
@[reducible] def f3_law_cast_c1 : Ex := (.comp true (.v 9) (.nm 9) (.rng1 (.v 3)) [(.cmp .eq (.cF 9 [(.v 0), (.int 2)]) (.int 0))] [9])
def f3_law_cast_l2 : Sm := (.fors (.nm 7) (.rng1 (.v 4)) [(.expr (.app (.v 8) f3_law_cast_c1))])
@[reducible] def f3_law_cast_c3 : Ex := (.comp false (.v 10) (.nm 10) (.of (.v 8)) [(.cmp .in_ (.v 9) (.v 10))] [10])
def f3_law_cast_l4 : Sm := (.fors (.nm 9) (.rng1 (.v 3)) [(.ifs (.cmp .eq f3_law_cast_c3 (.lst false [])) [(.expr (.app (.idx (.v 8) (.cF 9 [(.v 0), (.v 4)])) (.v 9)))] [])])
def f3_law_cast_l5 : Sm := (.fors (.nm 10) (.of (.v 8)) [(.expr (.app (.v 11) (.ite (.cmp .ne (.v 10) (.lst false [])) (.cB false .tuple [(.cB false .sorted [(.v 10)])]) (.tup [(.cF 9 [(.v 0), (.v 3)])]))))])
def f3_law_cast : Fn := ⟨3, 12, [(.par [3, 4] [(.bin false .add (.int 2) (.cF 9 [(.v 0), (.bin false .sub (.v 1) (.int 1))])), (.bin false .add (.int 1) (.cF 9 [(.v 0), (.v 2)]))]), (.asg (.nm 5) (.cF 9 [(.v 0), (.int 4)])), (.asg (.nm 6) (.lst true [])), f3_law_cast_l0, (.asg (.nm 8) (.lst true [])), f3_law_cast_l2, f3_law_cast_l4, (.asg (.nm 11) (.lst true [])), f3_law_cast_l5, (.ret (.tup [(.cB false .tuple [(.v 6)]), (.cB false .tuple [(.v 11)])]))]⟩
theorem range_at {done left : List Nat} {a n : Nat} (e : done ++ a :: left = List.range n) : a = done.length ∧ a < n := by
  have hl := congrArg List.length e
  simp at hl
  have h1 : done.length < (done ++ a :: left).length := by simp
  have h2 : (done ++ a :: left)[done.length]'h1 = a := by simp
  have h3 : (List.range n)[done.length]'(by rw [← e]; exact h1) = a := by simp only [← e]; exact h2
  rw [List.getElem_range] at h3
  omega
theorem grab_use {P : Pr} (h9 : P.fn 9 = some f9_law_grab) (d : Nat) {b n : Nat} {m : Int} {S : Store} {Q : D → Store → Prop} (hB : Bsk S b n) (hn : n ≤ 1000000) (h0 : 0 < m) (h1 : m < 1073741824) (q : ∀ (k : Nat) (S' : Store), (k : Int) < m → Kp [b] S S' → Bsk S' b (n + 1) → Q (.int k) S') : Ok ((orc P (d + 1)).fn 9 [.loc b, .int m] S) Q := by
  refine (grab_ok h9 d hB hn h0 h1).imp ?_
  rintro _ S' ⟨k, rfl, h2, h3, h4⟩
  exact q k S' h2 h3 h4
theorem heap_pick {S : Store} {form : Nat} (hf : form < 4) {a b c : Nat} (ha : a < 3) (hb : b < 9) (hc : c < 5) : ∃ w : Int, itemAt S (.lst [.int 1, .int (1 + (a : Int)), .int (1 + (b : Int)), .int (1000000 - (c : Int))]) (.int form) = some (.int w) ∧ 1 ≤ w ∧ w ≤ 1000000 := by
  match form, hf with
  | 0, _ => exact ⟨1, rfl, by omega, by omega⟩
  | 1, _ => exact ⟨_, rfl, by omega, by omega⟩
  | 2, _ => exact ⟨_, rfl, by omega, by omega⟩
  | 3, _ => exact ⟨_, rfl, by omega, by omega⟩
theorem heaps_ok {P : Pr} (h9 : P.fn 9 = some f9_law_grab) (d : Nat) {b n0 n m form h : Nat} {mc mw : Int} {a8 a9 a10 a11 : Option D} {S0 S : Store} (hf : form < 4) (hn : n ≤ 8) (hB : Bsk S b n0) (h0 : n0 ≤ 999000) (hh : S[h]? = some (.lst [])) (hs : S0.length ≤ h) (hb : b < h) (hK : Kp [b] S0 S) :
    Go (ex P (orc P (d + 1)) f3_law_cast_l0 ⟨[some (.loc b), some (.int mc), some (.int mw), some (.int n), some (.int m), some (.int form), some (.loc h), none, a8, a9, a10, a11], []⟩ S)
      (fun f S' => ∃ (ws : List Int) (x : Option D), f = ⟨[some (.loc b), some (.int mc), some (.int mw), some (.int n), some (.int m), some (.int form), some (.loc h), x, a8, a9, a10, a11], []⟩ ∧ S'[h]? = some (.lst (ws.map .int)) ∧ ws.length = n ∧ (∀ w ∈ ws, 1 ≤ w ∧ w ≤ 1000000) ∧ Kp [b] S0 S' ∧ Bsk S' b (n0 + 24)) noD noF noF := by
  refine w_fors ?_
  fail "stl"
  refine o_rng rfl (by omega) ?_
  refine w_for0 (fun done f S' => ∃ (ws : List Int) (x : Option D), f = ⟨[some (.loc b), some (.int mc), some (.int mw), some (.int n), some (.int m), some (.int form), some (.loc h), x, a8, a9, a10, a11], []⟩ ∧ S'[h]? = some (.lst (ws.map .int)) ∧ ws.length = done.length ∧ (∀ w ∈ ws, 1 ≤ w ∧ w ≤ 1000000) ∧ Kp [b] S0 S' ∧ Bsk S' b (n0 + 3 * done.length)) ⟨[], none, rfl, hh, rfl, by simp, hK, hB⟩ (fun done c left f S' e hi => ?_) (fun f S' hi => ?_)
  · obtain ⟨ws, x, rfl, hw, hl, hwb, hK1, hB1⟩ := hi
    have hd := range_at e
    have hbh : h ∉ [b] := by simp; omega
    fail "stl"
    refine grab_use h9 d hB1 (by omega) (by decide) (by decide) fun g1 S1 l1 k1 B1 => ?_
    fail "stl"
    refine grab_use h9 d B1 (by omega) (by decide) (by decide) fun g2 S2 l2 k2 B2 => ?_
    fail "stl"
    refine o_pow (k := 1000000) (by decide) (by decide) ?_
    fail "stl"
    refine grab_use h9 d B2 (by omega) (by decide) (by decide) fun g3 S3 l3 k3 B3 => ?_
    fail "stl"
    obtain ⟨w, e1, w1, w2⟩ := heap_pick (S := S3) hf (a := g1) (b := g2) (c := g3) (by omega) (by omega) (by omega)
    refine o_is e1 ?_
    have hk := (k1.trans k2).trans k3
    refine o_push (hk.at hw hbh) (by simp; omega) ?_
    fail "stl"
    refine ⟨ws ++ [w], _, rfl, ?_, by simp [hl], ?_, ?_, ?_⟩
    · rw [set_here (hk.at hw hbh)]
      simp
    · intro v hv
      rcases List.mem_append.mp hv with q | q
      · exact hwb v q
      · have : v = w := by simpa using q
        omega
    · refine (hK1.trans hk).late (B := [h]) (.set (by simp)) (by simp; omega)
    · refine (B3.keep (A := [h]) (.set (by simp)) (by simp; omega)).mono ?_
      simp
      omega
  · obtain ⟨ws, x, rfl, hw, hl, hwb, hK1, hB1⟩ := hi
    fail "stl"
    refine ⟨ws, x, rfl, hw, by simpa using hl, hwb, hK1, hB1.mono ?_⟩
    simp
    omega
/-- the numbers of a cell -/
def cellI (S : Store) (k : Nat) : List Int := match S[k]? with
  | some (.lst xs) => (intsOf xs).getD []
  | _ => []
theorem cellI_of {S : Store} {k : Nat} {cs : List Int} (h : S[k]? = some (.lst (cs.map .int))) : cellI S k = cs := by
  unfold cellI
  rw [h]
  simp [ints_self]
theorem cellI_congr {S S' : Store} {k : Nat} (h : S'[k]? = S[k]?) : cellI S' k = cellI S k := by
  unfold cellI
  rw [h]
structure CellG (S : Store) (B n k : Nat) : Prop where
  lt : B < k
  at_ : S[k]? = some (.lst ((cellI S k).map .int))
  nd : (cellI S k).Nodup
  rg : ∀ x ∈ cellI S k, 0 ≤ x ∧ x < (n : Int)
theorem CellG.congr {S S' : Store} {B n k : Nat} (h : CellG S B n k) (e : S'[k]? = S[k]?) : CellG S' B n k := by
  have ec := cellI_congr e
  exact ⟨h.lt, by rw [ec, e]; exact h.at_, by rw [ec]; exact h.nd, by rw [ec]; exact h.rg⟩
theorem CellG.of {S : Store} {B n k : Nat} {cs : List Int} (lt : B < k) (h : S[k]? = some (.lst (cs.map .int))) (nd : cs.Nodup) (rg : ∀ x ∈ cs, 0 ≤ x ∧ x < (n : Int)) : CellG S B n k := by
  have ec := cellI_of h
  exact ⟨lt, by rw [ec]; exact h, by rw [ec]; exact nd, by rw [ec]; exact rg⟩
theorem CellG.below {S : Store} {B n k : Nat} (h : CellG S B n k) : k < S.length := (List.getElem?_eq_some_iff.mp h.at_).1
theorem CellG.keep {A : List Nat} {S S' : Store} {B n k : Nat} (h : CellG S B n k) (hk : Kp A S S') (ha : k ∉ A) : CellG S' B n k := h.congr (hk.2 k h.below ha)
theorem CellG.len {S : Store} {B n k : Nat} (h : CellG S B n k) : (cellI S k).length ≤ n := nodup_len h.nd h.rg
theorem found_ok {P : Pr} (h9 : P.fn 9 = some f9_law_grab) (d : Nat) {b n0 n m B : Nat} {a1 a2 a5 a6 a7 a10 a11 : Option D} {S0 S : Store} (hn : n ≤ 8) (hm : m ≤ 16) (hB : Bsk S b n0) (h0 : n0 ≤ 999000) (hh : S[B]? = some (.lst [])) (hs : S0.length ≤ B) (hb : b < B) (hK : Kp [b] S0 S) :
    Go (ex P (orc P (d + 1)) f3_law_cast_l2 ⟨[some (.loc b), a1, a2, some (.int n), some (.int m), a5, a6, a7, some (.loc B), none, a10, a11], []⟩ S)
      (fun f S' => ∃ (ls : List Nat) (x : Option D), f = ⟨[some (.loc b), a1, a2, some (.int n), some (.int m), a5, a6, x, some (.loc B), none, a10, a11], []⟩ ∧ S'[B]? = some (.lst (ls.map .loc)) ∧ ls.length = m ∧ (∀ k ∈ ls, CellG S' B n k) ∧ Kp [b] S0 S' ∧ Bsk S' b (n0 + 128)) noD noF noF := by
  refine w_fors ?_
  fail "stl"
  refine o_rng rfl (by omega) ?_
  refine w_for0 (fun done f S' => ∃ (ls : List Nat) (x : Option D), f = ⟨[some (.loc b), a1, a2, some (.int n), some (.int m), a5, a6, x, some (.loc B), none, a10, a11], []⟩ ∧ S'[B]? = some (.lst (ls.map .loc)) ∧ ls.length = done.length ∧ (∀ k ∈ ls, CellG S' B n k) ∧ Kp [b] S0 S' ∧ Bsk S' b (n0 + 8 * done.length)) ⟨[], a7, rfl, hh, rfl, by simp, hK, hB⟩ (fun done c left f S' e hi => ?_) (fun f S' hi => ?_)
  · obtain ⟨ls, x, rfl, hw, hl, hc, hK1, hB1⟩ := hi
    have hd := range_at e
    fail "stl"
    refine o_rng rfl (by omega) ?_
    refine w_compI (fun dn acc S2 => ∃ cs : List Int, acc = cs.map .int ∧ cs.Pairwise (· < ·) ∧ (∀ x ∈ cs, 0 ≤ x ∧ x < (dn.length : Int)) ∧ Kp [b] S' S2 ∧ Bsk S2 b (n0 + 8 * done.length + dn.length)) (by simp; omega) ⟨[], rfl, .nil, by simp, .refl, hB1⟩ (fun dn a lf acc S2 e2 h2 => ⟨still_nil, ?_⟩) (fun acc S2 h2 => ⟨still_nil, ?_⟩)
    · obtain ⟨cs, rfl, p1, p2, k1, b1⟩ := h2
      have hd2 := range_at e2
      fail "stl"
      refine grab_use h9 d b1 (by omega) (by decide) (by decide) fun g1 S3 l1 k2 b2 => ?_
      fail "stl"
      refine c_by (fun h => ?_) (fun h => ?_)
      · fail "stl"
        refine ⟨cs ++ [(a : Int)], by simp, ?_, ?_, k1.trans k2, b2.mono (by simp; omega)⟩
        · refine List.pairwise_append.mpr ⟨p1, by simp, fun x hx y hy => ?_⟩
          have := p2 x hx
          have : y = a := by simpa using hy
          omega
        · intro x hx
          simp only [List.length_append, List.length_cons, List.length_nil]
          rcases List.mem_append.mp hx with q | q
          · have := p2 x q; omega
          · have : x = a := by simpa using q
            omega
      · fail "stl"
        refine ⟨cs, rfl, p1, fun x hx => ?_, k1.trans k2, b2.mono (by simp; omega)⟩
        have := p2 x hx
        simp only [List.length_append, List.length_cons, List.length_nil]
        omega
    · obtain ⟨cs, rfl, p1, p2, k1, b1⟩ := h2
      fail "stl"
      have hw2 : (S2 ++ [Ob.lst (cs.map .int)])[B]? = some (.lst (ls.map .loc)) := (Kp.push (A := [])).at (k1.at hw (by simp; omega)) (by simp)
      refine o_push hw2 (by simp; omega) ?_
      fail "stl"
      have hBl : B < S2.length := (List.getElem?_eq_some_iff.mp (k1.at hw (by simp; omega))).1
      have K2 : Kp [b, B] S' ((S2 ++ [Ob.lst (cs.map .int)]).set B (.lst (ls.map .loc ++ [.loc S2.length]))) := ((k1.mono (by simp)).trans .push).trans (.set (by simp))
      refine ⟨ls ++ [S2.length], _, rfl, ?_, by simp [hl], ?_, ?_, ?_⟩
      · rw [set_here hw2]
        simp
      · intro k hk
        rcases List.mem_append.mp hk with q | q
        · have g := hc k q
          have := g.lt
          exact g.keep K2 (by simp; omega)
        · have : k = S2.length := by simpa using q
          subst this
          refine CellG.of hBl (cs := cs) ?_ (lt_nodup p1) (fun x hx => ?_)
          · rw [List.getElem?_set_ne (by omega), push_here]
          · have := p2 x hx
            simp at this
            exact this
      · exact hK1.late K2 (by simp; omega)
      · refine ((b1.keep (A := [B]) (.trans .push (.set (by simp))) (by simp; omega))).mono ?_
        simp
        omega
  · obtain ⟨ls, x, rfl, hw, hl, hc, hK1, hB1⟩ := hi
    refine ⟨ls, x, rfl, hw, by simpa using hl, hc, hK1, hB1.mono ?_⟩
    simp
    omega
/-- a list of places of rows of numbers, as plain data -/
theorem pd_locs {S : Store} {B n : Nat} {ks : List Nat} (h : ∀ k ∈ ks, CellG S B n k) : pd S (.lst (ks.map .loc)) = some (Enc.int.lst.lst.p (ks.map (cellI S))) := by
  have key : ∀ ks : List Nat, (∀ k ∈ ks, CellG S B n k) → toPs (locP S 3) (ks.map .loc) = some ((ks.map (cellI S)).map Enc.int.lst.p) := by
    intro ks
    induction ks with
    | nil => intro _; simp [toPs]
    | cons k ks ih =>
      intro h
      have h1 : locP S 3 k = some (Enc.int.lst.p (cellI S k)) := by
        unfold locP
        rw [(h k List.mem_cons_self).at_]
        simp only
        rw [show (cellI S k).map D.int = (cellI S k).map Enc.int.e from rfl, Enc.int.tos]
        rfl
      simp [toPs, toP, h1, ih fun k hk => h k (List.mem_cons_of_mem _ hk)]
  have h1 : SeqAt.shaped (Enc.int.lst.lst.p (ks.map (cellI S))) = true := by
    unfold SeqAt.shaped
    rw [Enc.int.lst.lst.lay, Bool.true_and, decide_eq_true_eq]
    exact Nat.le_trans (Enc.int.lst.lst.dep _) (by decide)
  unfold pd
  rw [show toP (locP S 3) (.lst (ks.map .loc)) = (toPs (locP S 3) (ks.map .loc)).map .list by simp [toP], key ks h]
  show (match some (Enc.int.lst.lst.p (ks.map (cellI S))) with
    | some p => if SeqAt.shaped p = true then some p else none
    | none => none) = _
  simp only
  rw [if_pos h1]
theorem o_locsNil {S : Store} {B n : Nat} {ks : List Nat} {Q : Bool → Prop} (h : ∀ k ∈ ks, CellG S B n k) (q : Q (decide (ks = []))) : Oo (cop S .eq (.lst (ks.map .loc)) (.lst [])) Q := by
  refine o_is ?_ q
  have e1 : pd S (.lst []) = some (Enc.int.lst.lst.p []) := Enc.int.lst.lst.pd_eq (by decide) S []
  rw [cop_eqD S _ _ (pd_locs h) e1, Enc.int.lst.lst.eqv]
  cases ks <;> simp
theorem cover_ok {P : Pr} (h9 : P.fn 9 = some f9_law_grab) (d : Nat) {b n0 n m B : Nat} {a1 a2 a5 a6 a7 a11 : Option D} {ls : List Nat} {S0 S : Store} (hn : n ≤ 8) (hm : m ≤ 16) (m0 : 0 < m) (hB : Bsk S b n0) (h0 : n0 ≤ 999000) (hh : S[B]? = some (.lst (ls.map .loc))) (hl : ls.length = m) (hc : ∀ k ∈ ls, CellG S B n k) (hs : S0.length ≤ B) (hb : b < B) (hK : Kp [b] S0 S) :
    Go (ex P (orc P (d + 1)) f3_law_cast_l4 ⟨[some (.loc b), a1, a2, some (.int n), some (.int m), a5, a6, a7, some (.loc B), none, none, a11], []⟩ S)
      (fun f S' => ∃ x, f = ⟨[some (.loc b), a1, a2, some (.int n), some (.int m), a5, a6, a7, some (.loc B), x, none, a11], []⟩ ∧ S'[B]? = some (.lst (ls.map .loc)) ∧ (∀ k ∈ ls, CellG S' B n k) ∧ (∀ i : Nat, i < n → ∃ k ∈ ls, (i : Int) ∈ cellI S' k) ∧ Kp [b] S0 S' ∧ Bsk S' b (n0 + 8)) noD noF noF := by
  refine w_fors ?_
  fail "stl"
  refine o_rng rfl (by omega) ?_
  refine w_for0 (fun done f S' => ∃ x, f = ⟨[some (.loc b), a1, a2, some (.int n), some (.int m), a5, a6, a7, some (.loc B), x, none, a11], []⟩ ∧ S'[B]? = some (.lst (ls.map .loc)) ∧ (∀ k ∈ ls, CellG S' B n k) ∧ (∀ i : Nat, i < done.length → ∃ k ∈ ls, (i : Int) ∈ cellI S' k) ∧ Kp [b] S0 S' ∧ Bsk S' b (n0 + done.length)) ⟨none, rfl, hh, hc, by simp, hK, hB⟩ (fun done c left f S' e hi => ?_) (fun f S' hi => ?_)
  · obtain ⟨x, rfl, hw, hc, hcov, hK1, hB1⟩ := hi
    have hd := range_at e
    fail "stl"
    refine w_cfil (h := .loc) (p := fun k => decide ((c : Int) ∈ cellI S' k)) (fun p hp => by simp at hp; subst hp; exact hw) (by omega) (fun k hk => ?_) ?_
    · fail "stl"
      refine o_is (Enc.int.cop_inL (by decide) S' (c : Int) (cellI S' k) _ _ rfl (Enc.int.pd_loc (by decide) S' k _ (hc k hk).at_)) ?_
      refine c_by (fun h => ?_) (fun h => ?_)
      · fail "stl"
        simp [h]
      · fail "stl"
        simp [h]
    · fail "stl"
      refine o_locsNil (fun k hk => hc k (List.mem_filter.mp hk).1) ?_
      refine c_by (fun h => ?_) (fun h => ?_)
      · have hno : ∀ k ∈ ls, (c : Int) ∉ cellI S' k := fun k hk hz => by
          have : k ∈ ls.filter fun k => decide ((c : Int) ∈ cellI S' k) := List.mem_filter.mpr ⟨hk, decide_eq_true hz⟩
          rw [h] at this
          cases this
        fail "stl"
        refine grab_use h9 d hB1 (by omega) (by omega) (by omega) fun j S2 l1 k1 b1 => ?_
        have hj : j < ls.length := by omega
        have hin : ls[j] ∈ ls := List.getElem_mem hj
        have g := hc _ hin
        have hlt := g.lt
        refine o_itemM (c := D.loc) (seqOf_loc (k1.at hw (by simp; omega))) hj rfl ?_
        fail "stl"
        have g2 : S2[ls[j]]? = some (.lst ((cellI S' ls[j]).map .int)) := k1.at g.at_ (by simp; omega)
        have gl := g.len
        refine o_push g2 (by simp; omega) ?_
        fail "stl"
        have hnew : (S2.set ls[j] (.lst ((cellI S' ls[j]).map .int ++ [.int c])))[ls[j]]? = some (.lst ((cellI S' ls[j] ++ [(c : Int)]).map .int)) := by
          rw [set_here g2]
          simp
        have K2 : Kp [b, ls[j]] S' (S2.set ls[j] (.lst ((cellI S' ls[j]).map .int ++ [.int c]))) := (k1.mono (by simp)).trans (.set (by simp))
        have same : ∀ k ∈ ls, k ≠ ls[j] → (S2.set ls[j] (.lst ((cellI S' ls[j]).map .int ++ [.int c])))[k]? = S'[k]? := fun k hk hne => K2.2 k (hc k hk).below (by have := (hc k hk).lt; simp; omega)
        refine ⟨_, rfl, ?_, ?_, ?_, ?_, ?_⟩
        · exact K2.at hw (by simp; omega)
        · intro k hk
          by_cases q : k = ls[j]
          · subst q
            refine CellG.of hlt hnew ?_ ?_
            · refine List.nodup_append.mpr ⟨g.nd, by simp, fun x hx y hy => ?_⟩
              have : y = c := by simpa using hy
              subst this
              exact fun z => hno _ hin (z ▸ hx)
            · intro x hx
              rcases List.mem_append.mp hx with q | q
              · exact g.rg x q
              · have : x = c := by simpa using q
                omega
          · exact (hc k hk).congr (same k hk q)
        · intro i hi
          simp at hi
          by_cases q : i < done.length
          · obtain ⟨k, hk, hm⟩ := hcov i q
            refine ⟨k, hk, ?_⟩
            by_cases q2 : k = ls[j]
            · subst q2
              rw [cellI_of hnew]
              exact List.mem_append_left _ hm
            · rw [cellI_congr (same k hk q2)]
              exact hm
          · have : i = c := by omega
            subst this
            refine ⟨ls[j], hin, ?_⟩
            rw [cellI_of hnew]
            simp
        · exact hK1.late K2 (by simp; omega)
        · refine (b1.keep (A := [ls[j]]) (.set (by simp)) (by simp; omega)).mono ?_
          simp
          omega
      · fail "stl"
        obtain ⟨k, hk⟩ := List.exists_mem_of_ne_nil _ h
        obtain ⟨hk1, hk2⟩ := List.mem_filter.mp hk
        refine ⟨_, rfl, hw, hc, ?_, hK1, hB1.mono (by simp)⟩
        intro i hi
        simp at hi
        by_cases q : i < done.length
        · exact hcov i q
        · have : i = c := by omega
          subst this
          exact ⟨k, hk1, of_decide_eq_true hk2⟩
  · obtain ⟨x, rfl, hw, hc, hcov, hK1, hB1⟩ := hi
    refine ⟨x, rfl, hw, hc, by simpa using hcov, hK1, hB1.mono ?_⟩
    simp
    omega
theorem o_cellNe {S : Store} {B n k : Nat} {Q : Bool → Prop} (h : CellG S B n k) (q : Q (!decide (cellI S k = []))) : Oo (cop S .ne (.loc k) (.lst [])) Q := by
  refine o_is ?_ q
  have e1 : pd S (.lst []) = some (Enc.int.lst.p []) := Enc.int.lst.pd_eq (by decide) S []
  rw [cop_neD S _ _ (Enc.int.pd_loc (by decide) S k _ h.at_) e1]
  exact congrArg (fun b => some (!b)) (Enc.int.lst.eqv (cellI S k) [])
theorem words_ok {P : Pr} (h9 : P.fn 9 = some f9_law_grab) (d : Nat) {b n0 n B W : Nat} {a1 a2 a4 a5 a6 a7 a9 : Option D} {ls : List Nat} {S0 S : Store} (hn : n ≤ 8) (n2 : 0 < n) (hm : ls.length ≤ 16) (hB : Bsk S b n0) (h0 : n0 ≤ 999000) (hh : S0[B]? = some (.lst (ls.map .loc))) (hc : ∀ k ∈ ls, CellG S0 B n k) (hW : S[W]? = some (.lst [])) (hs : S0.length ≤ W) (hb : b < B) (hK : Kp [b] S0 S) :
    Go (ex P (orc P (d + 1)) f3_law_cast_l5 ⟨[some (.loc b), a1, a2, some (.int n), a4, a5, a6, a7, some (.loc B), a9, none, some (.loc W)], []⟩ S)
      (fun f S' => ∃ (x : Option D) (ss : List (List Int)), f = ⟨[some (.loc b), a1, a2, some (.int n), a4, a5, a6, a7, some (.loc B), a9, x, some (.loc W)], []⟩ ∧ S'[W]? = some (.lst (ss.map tI)) ∧ ss.length = ls.length ∧ (∀ l ∈ ss, l ≠ [] ∧ l.Pairwise (· < ·) ∧ ∀ x ∈ l, 0 ≤ x ∧ x < (n : Int)) ∧ (∀ k ∈ ls, ∀ x ∈ cellI S0 k, ∃ l ∈ ss, x ∈ l) ∧ Kp [b] S0 S' ∧ Bsk S' b (n0 + 16)) noD noF noF := by
  have hBl : B < S0.length := (List.getElem?_eq_some_iff.mp hh).1
  have hB0 : S[B]? = some (.lst (ls.map .loc)) := hK.at hh (by simp; omega)
  refine w_fors ?_
  fail "stl"
  refine w_for (fun done f S' => ∃ (x : Option D) (ss : List (List Int)), f = ⟨[some (.loc b), a1, a2, some (.int n), a4, a5, a6, a7, some (.loc B), a9, x, some (.loc W)], []⟩ ∧ S'[W]? = some (.lst (ss.map tI)) ∧ ss.length = done.length ∧ (∀ l ∈ ss, l ≠ [] ∧ l.Pairwise (· < ·) ∧ ∀ x ∈ l, 0 ≤ x ∧ x < (n : Int)) ∧ (∀ k ∈ done, ∀ x ∈ cellI S0 k, ∃ l ∈ ss, x ∈ l) ∧ Kp [b] S0 S' ∧ Bsk S' b (n0 + done.length)) ⟨none, [], rfl, hW, rfl, by simp, by simp, hK, hB⟩ (fun done k left f S' e hi => ?_) (fun f S' hi => ?_)
  · obtain ⟨x, ss, rfl, hw, hl, hg, hcv, hK1, hB1⟩ := hi
    have hB1' : S'[B]? = some (.lst (ls.map .loc)) := hK1.at hh (by simp; omega)
    have hdl : done.length < ls.length := by rw [← e]; simp
    have hkm : k ∈ ls := by rw [← e]; simp
    have g0 := hc k hkm
    have hkl := g0.lt
    have g := g0.keep hK1 (by simp; omega)
    have ec : cellI S' k = cellI S0 k := cellI_congr (hK1.2 k g0.below (by simp; omega))
    refine ⟨fun p hp => by simp at hp; subst hp; exact hB1', ?_⟩
    fail "stl"
    refine o_cellNe g ?_
    have fin : ∀ (fr : Fr) (y : Option D) (S2 : Store) (l : List Int), fr = ⟨[some (.loc b), a1, a2, some (.int n), a4, a5, a6, a7, some (.loc B), a9, y, some (.loc W)], []⟩ → Kp [b] S' S2 → Bsk S2 b (n0 + done.length + 1) → l ≠ [] → l.Pairwise (· < ·) → (∀ x ∈ l, 0 ≤ x ∧ x < (n : Int)) → (∀ x ∈ cellI S0 k, x ∈ l) → Oo (push S2 W (tI l)) fun S3 => ∃ (x : Option D) (ss : List (List Int)), fr = ⟨[some (.loc b), a1, a2, some (.int n), a4, a5, a6, a7, some (.loc B), a9, x, some (.loc W)], []⟩ ∧ S3[W]? = some (.lst (ss.map tI)) ∧ ss.length = (done ++ [k]).length ∧ (∀ l ∈ ss, l ≠ [] ∧ l.Pairwise (· < ·) ∧ ∀ x ∈ l, 0 ≤ x ∧ x < (n : Int)) ∧ (∀ k' ∈ done ++ [k], ∀ x ∈ cellI S0 k', ∃ l ∈ ss, x ∈ l) ∧ Kp [b] S0 S3 ∧ Bsk S3 b (n0 + (done ++ [k]).length) := by
      intro fr y S2 l efr k2 b2 q1 q2 q3 q4
      refine o_push (k2.at hw (by simp; omega)) (by simp; omega) ?_
      refine ⟨y, ss ++ [l], efr, ?_, by simp [hl], ?_, ?_, ?_, ?_⟩
      · rw [set_here (k2.at hw (by simp; omega))]
        simp
      · intro l' hl'
        rcases List.mem_append.mp hl' with q | q
        · exact hg l' q
        · have : l' = l := by simpa using q
          subst this
          exact ⟨q1, q2, q3⟩
      · intro k' hk' x hx
        rcases List.mem_append.mp hk' with q | q
        · obtain ⟨l', h1, h2⟩ := hcv k' q x hx
          exact ⟨l', List.mem_append_left _ h1, h2⟩
        · have : k' = k := List.mem_singleton.mp q
          subst this
          exact ⟨l, by simp, q4 x hx⟩
      · exact (hK1.trans k2).late (B := [W]) (.set (by simp)) (by simp; omega)
      · refine (b2.keep (A := [W]) (.set (by simp)) (by simp; omega)).mono ?_
        simp
        omega
    refine c_nby (fun h => ?_) (fun h => ?_)
    · fail "stl"
      refine o_sorted (l := cellI S' k) (seqAt_loc g.at_) ?_
      fail "stl"
      refine fin _ (some (.loc k)) S' (sortI (cellI S' k)) rfl .refl (hB1.mono (by omega)) (fun z => h ?_) (sortI_lt g.nd) (fun x hx => g.rg x (mem_sortI.mp hx)) (fun x hx => mem_sortI.mpr (by rw [ec]; exact hx))
      have := congrArg List.length z
      rw [length_sortI] at this
      exact List.eq_nil_of_length_eq_zero this
    · fail "stl"
      refine grab_use h9 d hB1 (by omega) (by omega) (by omega) fun j S2 l1 k1 b1 => ?_
      fail "stl"
      refine fin _ (some (.loc k)) S2 [(j : Int)] rfl k1 b1 (by simp) (by simp) (fun x hx => ?_) (fun x hx => ?_)
      · have : x = j := by simpa using hx
        omega
      · rw [← ec, h] at hx
        cases hx
  · obtain ⟨x, ss, rfl, hw, hl, hg, hcv, hK1, hB1⟩ := hi
    refine ⟨fun p hp => by simp at hp; subst hp; exact hK1.at hh (by simp; omega), x, ss, rfl, hw, hl, hg, hcv, hK1, hB1.mono ?_⟩
    omega
theorem cast_ok {P : Pr} (h3 : P.fn 3 = some f3_law_cast) (h9 : P.fn 9 = some f9_law_grab) (d : Nat) {b n0 mc mw : Nat} {S : Store} (c1 : 2 ≤ mc) (c2 : mc ≤ 8) (w1 : 1 ≤ mw) (w2 : mw ≤ 16) (hB : Bsk S b n0) (h0 : n0 ≤ 990000) :
    Ok ((orc P (d + 2)).fn 3 [.loc b, .int mc, .int mw] S) fun v S' => ∃ ws ss, v = castV ws ss ∧ 2 ≤ ws.length ∧ ws.length ≤ mc ∧ (∀ w ∈ ws, 1 ≤ w ∧ w ≤ 1000000) ∧ GoodS ws.length ss ∧ ss.length ≤ mw ∧ Kp [b] S S' ∧ Bsk S' b (n0 + 200) := by
  refine w_fn h3 rfl rfl ?_
  show Go (exs _ _ (_ :: _) _ _) _ _ _ _
  fail "stl"
  refine grab_use h9 d hB (by omega) (by omega) (by omega) fun g1 S1 l1 k1 b1 => ?_
  fail "stl"
  refine grab_use h9 d b1 (by omega) (by omega) (by omega) fun g2 S2 l2 k2 b2 => ?_
  fail "stl"
  refine grab_use h9 d b2 (by omega) (by omega) (by omega) fun g3 S3 l3 k3 b3 => ?_
  have hbl := b3.lt
  have e1 : (2 : Int) + (g1 : Int) = ((2 + g1 : Nat) : Int) := by omega
  have e2 : (1 : Int) + (g2 : Int) = ((1 + g2 : Nat) : Int) := by omega
  rw [e1, e2]
  fail "stl"
  refine w_use (heaps_ok (h := S3.length) h9 d (S0 := S3) (mc := mc) (mw := mw) (n := 2 + g1) (m := 1 + g2) (form := g3) (a8 := none) (a9 := none) (a10 := none) (a11 := none) (by omega) (by omega) (b3.keep (A := []) .push (by simp)) (by omega) push_here (Nat.le_refl _) hbl .push) ?_
  rintro _ S4 ⟨ws, x, rfl, hw, wl, wb, K4, b4⟩
  have hS4 : S3.length < S4.length := (List.getElem?_eq_some_iff.mp hw).1
  fail "stl"
  refine w_use (found_ok (B := S4.length) h9 d (S0 := S4) (n := 2 + g1) (m := 1 + g2) (by omega) (by omega) (b4.keep (A := []) .push (by simp)) (by omega) push_here (Nat.le_refl _) b4.lt .push) ?_
  rintro _ S5 ⟨ls, x5, rfl, h5, ll, cl, K5, b5⟩
  fail "stl"
  refine w_use (cover_ok h9 d (S0 := S4) (n := 2 + g1) (m := 1 + g2) (by omega) (by omega) (by omega) b5 (by omega) h5 ll cl (Nat.le_refl _) b4.lt K5) ?_
  rintro _ S6 ⟨x6, rfl, h6, c6, v6, K6, b6⟩
  fail "stl"
  refine w_use (words_ok (W := S6.length) h9 d (S0 := S6) (n := 2 + g1) (ls := ls) (by omega) (by omega) (by omega) (b6.keep (A := []) .push (by simp)) (by omega) h6 c6 push_here (Nat.le_refl _) b4.lt .push) ?_
  rintro _ S7 ⟨x7, ss, rfl, h7, l7, g7, v7, K7, b7⟩
  have hw7 : S7[S3.length]? = some (.lst (ws.map .int)) := K7.at (K6.at hw (by simp; omega)) (by simp; omega)
  fail "stl"
  refine o_tuple (seqOf_loc hw7) ?_
  fail "stl"
  refine o_tuple (seqOf_loc h7) ?_
  fail "stl"
  refine ⟨ws, ss, rfl, by omega, by omega, wb, ⟨?_, by omega, by omega, ?_, ?_⟩, by omega, ?_, b7.mono (by omega)⟩
  · intro z
    rw [z] at l7
    simp at l7
    omega
  · intro l hl
    obtain ⟨q1, q2, q3⟩ := g7 l hl
    rw [wl]
    refine ⟨q1, q2, q3, ?_⟩
    have := nodup_len (lt_nodup q2) q3
    omega
  · intro c hc
    rw [wl] at hc
    obtain ⟨k, hk, hm⟩ := v6 c hc
    exact v7 k hk c hm
  · have a1 := (k1.trans k2).trans k3
    have a2 := a1.trans K4
    have a3 := a2.trans K6
    exact a3.trans K7
end
section
open PySem
def f4_law_made : Fn := ⟨1, 1, [(.ret (.mk 10 [(.idx (.v 0) (.int 0)), (.idx (.v 0) (.int 1))]))]⟩
def f2_law_basket_l0 : Sm := (.fors (.nm 3) (.of (.slc false (.v 0) [] [(.int 6)])) [(.asg (.nm 2) (.bin false .mod (.cB false .int [(.bin false .add (.bin false .mul (.v 2) (.int 29017)) (.v 3))]) (.int 2147480969)))])
def f2_law_basket : Fn := ⟨2, 5, [(.asg (.nm 2) (.bin false .add (.int 37013) (.bin false .mul (.int 7001) (.v 1)))), f2_law_basket_l0, (.asg (.nm 4) (.ite (.cmp .lt (.v 1) (.cB false .len [(.v 0)])) (.idx (.v 0) (.v 1)) (.bin false .add (.bin false .mul (.int 61) (.v 1)) (.int 29)))), (.ret (.lst true [(.ite (.cmp .ge (.cB false .abs [(.v 4)]) (.bin false .pow (.int 10) (.int 17))) (.cB false .abs [(.v 4)]) (.int 0)), (.bin false .mod (.cB false .int [(.bin false .add (.bin false .add (.bin false .mul (.v 2) (.int 89)) (.bin false .mul (.v 4) (.int 53))) (.int 31))]) (.int 2147480969)), (.int 0)]))]⟩
theorem big_mul {i j : Int} (h1 : i.natAbs.log2 < 2000000) (h2 : j.natAbs < 2 ^ 64) : i.natAbs.log2 + j.natAbs.log2 < 100000000 := by
  have b := log2_lt h2 (by decide)
  omega
theorem bits_lt {z : Int} (h : Builtin.Int.intBits z ≤ 1048576) : z.natAbs.log2 < 2000000 := by
  unfold Builtin.Int.intBits at h
  by_cases hz : z = 0
  · subst hz
    decide
  · rw [if_neg (by simpa using hz)] at h
    omega
theorem slice_six (ns : List Int) (S : Store) : sliceOf S (.frz (ns.map .int)) none (some 6) = some (.lst ((ns.take 6).map .int)) := by
  show some (D.lst (cutD (ns.map .int) none (some 6))) = _
  unfold cutD
  rw [show (6 : Int) = ((6 : Nat) : Int) from rfl, HT.sIx_nat, HT.sIx_none]
  simp only [List.drop_zero, List.length_map, Nat.sub_zero, List.map_take]
  congr 2
  by_cases h : 6 ≤ ns.length
  · rw [Nat.min_eq_left h]
  · rw [Nat.min_eq_right (by omega), List.take_of_length_le (by simp), List.take_of_length_le (by simp; omega)]
theorem basket_ok {P : Pr} (h2 : P.fn 2 = some f2_law_basket) (d : Nat) {ns : List Int} {i : Nat} {S : Store} (hl : ns.length ≤ 63) (hb : ∀ z ∈ ns, Builtin.Int.intBits z ≤ 1048576) (hi : i ≤ 1000) : Ok ((orc P (d + 1)).fn 2 [.frz (ns.map .int), .int i] S) fun v S' => ∃ b, v = .loc b ∧ S.length = b ∧ Kp [] S S' ∧ Bsk S' b 0 := by
  refine w_fn h2 rfl rfl ?_
  show Go (exs _ _ (_ :: _) _ _) _ _ _ _
  fail "stl"
  refine ⟨small_mul (by decide) (by omega), ?_⟩
  fail "stl"
  refine w_fors ?_
  fail "stl"
  refine o_is (slice_six ns S) ?_
  fail "stl"
  refine w_for0 (fun done f S' => S' = S ∧ ∃ (m : Int) (x : Option D), f = ⟨[some (.frz (ns.map .int)), some (.int i), some (.int m), x, none], []⟩ ∧ m.natAbs < 2 ^ 40) ⟨rfl, _, none, rfl, by omega⟩ (fun done c left f S' e h => ?_) (fun f S' h => ?_)
  · obtain ⟨rfl, m, x, rfl, hm⟩ := h
    fail "stl"
    refine ⟨small_mul (by omega) (by omega), ?_⟩
    fail "stl"
    have q := emod_in (a := m * 29017 + c) (m := 2147480969) (by decide)
    exact ⟨rfl, _, some (.int c), rfl, by omega⟩
  · obtain ⟨rfl, m, x, rfl, hm⟩ := h
    have fin : ∀ (o : Int) (fr : Fr), fr = ⟨[some (.frz (ns.map .int)), some (.int i), some (.int m), x, some (.int o)], []⟩ → o.natAbs.log2 < 2000000 → Go (exs P (orc P d) [.ret (.lst true [(.ite (.cmp .ge (.cB false .abs [(.v 4)]) (.bin false .pow (.int 10) (.int 17))) (.cB false .abs [(.v 4)]) (.int 0)), (.bin false .mod (.cB false .int [(.bin false .add (.bin false .add (.bin false .mul (.v 2) (.int 89)) (.bin false .mul (.v 4) (.int 53))) (.int 31))]) (.int 2147480969)), (.int 0)])] fr S')
      (fun _ S2 => ∃ b, D.non = .loc b ∧ S'.length = b ∧ Kp [] S' S2 ∧ Bsk S2 b 0) (fun v S2 => ∃ b, v = .loc b ∧ S'.length = b ∧ Kp [] S' S2 ∧ Bsk S2 b 0) noF noF := by
      rintro o _ rfl ho
      have q := emod_in (a := m * 89 + o * 53 + 31) (m := 2147480969) (by decide)
      fail "stl"
      refine o_pow (k := 100000000000000000) (by decide) (by decide) ?_
      fail "stl"
      refine c_by (fun h => ?_) (fun h => ?_)
      · fail "stl"
        refine ⟨small_mul (by omega) (by omega), ?_⟩
        fail "stl"
        refine ⟨big_mul ho (by decide), ?_⟩
        fail "stl"
        exact ⟨.push, _, _, _, push_here, q.1, by omega, by decide, by decide⟩
      · fail "stl"
        refine ⟨small_mul (by omega) (by omega), ?_⟩
        fail "stl"
        refine ⟨big_mul ho (by decide), ?_⟩
        fail "stl"
        exact ⟨.push, _, _, _, push_here, q.1, by omega, by decide, by decide⟩
    have big : ∀ o : Int, o.natAbs < 2 ^ 40 → o.natAbs.log2 < 2000000 := fun o h => Nat.lt_trans (log2_lt h (by decide)) (by decide)
    fail "stl"
    refine o_len (seqOf_frz _) ?_
    fail "stl"
    rw [List.length_map]
    refine c_by (fun h => ?_) (fun h => ?_)
    · fail "stl"
      refine o_itemM (c := D.int) (seqOf_frz _) (i := i) (by omega) rfl ?_
      exact fin _ _ rfl (bits_lt (hb _ (List.getElem_mem _)))
    · fail "stl"
      refine ⟨small_mul (by omega) (by omega), ?_⟩
      fail "s1"; fail "s1"; fail "s1"; fail "s1"
      exact fin _ _ rfl (big _ (by omega))
/-- a drawn teller -/
structure Drawn (ws : List Int) (ss : List (List Int)) : Prop where
  w2 : 2 ≤ ws.length
  w8 : ws.length ≤ 8
  wb : ∀ w ∈ ws, 1 ≤ w ∧ w ≤ 1000000
  g : GoodS ws.length ss
theorem Drawn.row {ws : List Int} {ss : List (List Int)} (h : Drawn ws ss) {s : Nat} (hs : s < ss.length) : ss[s].Nodup ∧ (∀ x ∈ ss[s], 0 ≤ x ∧ x < ws.length) ∧ ss[s].length ≤ 8 := by
  obtain ⟨q1, q2, q3, q4⟩ := h.g.each _ (List.getElem_mem hs)
  have := nodup_len (lt_nodup q2) q3
  exact ⟨lt_nodup q2, q3, by have := h.w8; omega⟩
end
section
open PySem
open PySem.PyData (strOk)
theorem ok_ofString (s : String) : strOk (Str.ofString s) = true := by
  rw [Str.ofString_eq_toList]
  unfold strOk
  simp only [List.all_toArray, List.all_eq_true, List.mem_map]
  rintro c ⟨x, _, rfl⟩
  have := x.valid
  have h2 : x.toNat = x.val.toNat := rfl
  simp only [decide_eq_true_eq]
  rcases this with h | ⟨_, h⟩
  · have : x.val.toNat < 0xd800 := h
    omega
  · have : x.val.toNat < 0x110000 := h
    omega
theorem ok_append {a b : Str} (ha : strOk a = true) (hb : strOk b = true) : strOk (a ++ b) = true := by
  unfold strOk at *
  show (Str.append a b).cps.all _ = true
  unfold Str.append
  simp only [Array.all_append, Bool.and_eq_true]
  exact ⟨ha, hb⟩
theorem ok_join {sep : Str} (hs : strOk sep = true) : ∀ ts : List Str, (∀ t ∈ ts, strOk t = true) → strOk (Str.join sep ts) = true
  | [], _ => by show strOk Str.empty = true; decide +kernel
  | [x], h => h x List.mem_cons_self
  | x :: y :: r, h => by
    show strOk (x ++ sep ++ Str.join sep (y :: r)) = true
    exact ok_append (ok_append (h x List.mem_cons_self) hs) (ok_join hs (y :: r) fun t ht => h t (List.mem_cons_of_mem _ ht))
theorem ok_textFrom : ∀ (ts : List Str) (k : Nat) (acc : Str), strOk acc = true → (∀ t ∈ ts, strOk t = true) → strOk (textFrom k acc ts) = true
  | [], _, _, ha, _ => ha
  | t :: r, k, acc, ha, h => by
    show strOk (textFrom (k + 1) (acc ++ (if k > 0 then ", " else "" : String) ++ t) r) = true
    exact ok_textFrom r (k + 1) _ (ok_append (ok_append ha (ok_ofString _)) (h t List.mem_cons_self)) fun t ht => h t (List.mem_cons_of_mem _ ht)
mutual
def smallP : PyData → Prop
  | .none | .bool _ => True
  | .int i => i.natAbs < 10 ^ 20
  | .str _ => False
  | .list xs | .tuple xs => smallPs xs
  | .dict _ => False
def smallPs : List PyData → Prop
  | [] => True
  | x :: xs => smallP x ∧ smallPs xs
end
/-- the text of a row of plain data -/
theorem shownD_pd {S : Store} {d : D} {p : PyData} (hp : pd S d = some p) (h : p.showable = true ∧ p.shown.length ≤ sizeLine) : shownD S d = some p.shown := by
  unfold shownD
  split
  · rw [pd, toP] at hp; cases hp
  · rw [hp]; exact if_pos h
/-- plain data of mixed kinds -/
structure PD (S : Store) (d : D) (p : PyData) (k w : Nat) : Prop where
  to : toP (locP S 2) d = some p ∧ toP (locP S 3) d = some p
  lay : p.canLay0 = true
  dep : p.depth ≤ k
  sm : smallP p
  wt : p.weight ≤ w
structure PDs (S : Store) (ds : List D) (ps : List PyData) (k w : Nat) : Prop where
  to : toPs (locP S 2) ds = some ps ∧ toPs (locP S 3) ds = some ps
  lay : PyData.canLayAll0 ps = true
  dep : PyData.depthAll ps ≤ k
  sm : smallPs ps
  wt : PyData.weightAll ps ≤ w
section
variable {S : Store}
theorem PD.int {i : Int} (h : i.natAbs < 10 ^ 20) : PD S (.int i) (.int i) 0 70 := ⟨⟨rfl, rfl⟩, by simp [PyData.canLay0], by simp [PyData.depth], h, by
  simp only [PyData.weight]
  have := log2_lt (i := i) (k := 67) (by have : (10 : Nat) ^ 20 < 2 ^ 67 := by decide
                                         omega) (by decide)
  split <;> omega⟩
theorem PD.bl {b : Bool} : PD S (.bl b) (.bool b) 0 70 := ⟨⟨rfl, rfl⟩, by simp [PyData.canLay0], by simp [PyData.depth], trivial, by simp [PyData.weight]⟩
theorem PDs.nil {k : Nat} : PDs S [] [] k 0 := ⟨⟨by simp [toPs], by simp [toPs]⟩, by simp [PyData.canLayAll0], by simp [PyData.depthAll], trivial, by simp [PyData.weightAll]⟩
theorem PDs.cons {d : D} {ds : List D} {p : PyData} {ps : List PyData} {k w w' : Nat} (h : PD S d p k w) (hs : PDs S ds ps k w') : PDs S (d :: ds) (p :: ps) k (w + 1 + w') := ⟨⟨by simp [toPs, h.to.1, hs.to.1], by simp [toPs, h.to.2, hs.to.2]⟩, by simp [PyData.canLayAll0, h.lay, hs.lay], by
  simp only [PyData.depthAll]
  exact Nat.max_le.mpr ⟨h.dep, hs.dep⟩, ⟨h.sm, hs.sm⟩, by
  simp only [PyData.weightAll]
  have := h.wt
  have := hs.wt
  omega⟩
theorem PD.up {d : D} {p : PyData} {k w k' w' : Nat} (h : PD S d p k w) (a : k ≤ k') (b : w ≤ w') : PD S d p k' w' := ⟨h.to, h.lay, Nat.le_trans h.dep a, h.sm, Nat.le_trans h.wt b⟩
theorem PDs.tup {ds : List D} {ps : List PyData} {k w : Nat} (h : PDs S ds ps k w) : PD S (.tup ds) (.tuple ps) (k + 1) w := ⟨⟨by simp [toP, h.to.1], by simp [toP, h.to.2]⟩, by simp [PyData.canLay0, h.lay], by
  simp only [PyData.depth]
  exact Nat.succ_le_succ h.dep, h.sm, by simpa only [PyData.weight] using h.wt⟩
theorem PDs.lst {ds : List D} {ps : List PyData} {k w : Nat} (h : PDs S ds ps k w) : PD S (.lst ds) (.list ps) (k + 1) w := ⟨⟨by simp [toP, h.to.1], by simp [toP, h.to.2]⟩, by simp [PyData.canLay0, h.lay], by
  simp only [PyData.depth]
  exact Nat.succ_le_succ h.dep, h.sm, by simpa only [PyData.weight] using h.wt⟩
theorem PDs.map {α : Type} {c : α → D} {q : α → PyData} {k w : Nat} : ∀ l : List α, (∀ a ∈ l, PD S (c a) (q a) k w) → PDs S (l.map c) (l.map q) k (l.length * (w + 1))
  | [], _ => by simpa using PDs.nil
  | a :: l, h => by
    have := PDs.cons (h a List.mem_cons_self) (PDs.map l fun b hb => h b (List.mem_cons_of_mem _ hb))
    simp only [List.map_cons, List.length_cons]
    rw [show (l.length + 1) * (w + 1) = w + 1 + l.length * (w + 1) by rw [Nat.add_mul, Nat.one_mul, Nat.add_comm]]
    exact this
end
end
section
theorem low_unique {a T b U : Nat} (hT : 0 < T) (hU : 0 < U) (e : a * U = b * T) : a / Nat.gcd a T = b / Nat.gcd b U ∧ T / Nat.gcd a T = U / Nat.gcd b U := by
  have g0 : 0 < Nat.gcd a T := Nat.gcd_pos_of_pos_right _ hT
  have h0 : 0 < Nat.gcd b U := Nat.gcd_pos_of_pos_right _ hU
  have c1 := Nat.coprime_div_gcd_div_gcd g0
  have c2 := Nat.coprime_div_gcd_div_gcd h0
  have ea : Nat.gcd a T * (a / Nat.gcd a T) = a := Nat.mul_div_cancel' (Nat.gcd_dvd_left a T)
  have eT : Nat.gcd a T * (T / Nat.gcd a T) = T := Nat.mul_div_cancel' (Nat.gcd_dvd_right a T)
  have eb : Nat.gcd b U * (b / Nat.gcd b U) = b := Nat.mul_div_cancel' (Nat.gcd_dvd_left b U)
  have eU : Nat.gcd b U * (U / Nat.gcd b U) = U := Nat.mul_div_cancel' (Nat.gcd_dvd_right b U)
  generalize Nat.gcd a T = g at *
  generalize Nat.gcd b U = h at *
  generalize a / g = a' at *
  generalize T / g = T' at *
  generalize b / h = b' at *
  generalize U / h = U' at *
  subst ea eT eb eU
  have e2 : a' * U' = b' * T' := by
    have : (g * h) * (a' * U') = (g * h) * (b' * T') := by
      rw [show (g * h) * (a' * U') = g * a' * (h * U') by simp [Nat.mul_comm, Nat.mul_left_comm, Nat.mul_assoc], e]
      simp [Nat.mul_comm, Nat.mul_left_comm, Nat.mul_assoc]
    exact Nat.eq_of_mul_eq_mul_left (Nat.mul_pos g0 h0) this
  have d1 : T' ∣ U' := c1.symm.dvd_of_dvd_mul_left (by rw [e2]; exact Nat.dvd_mul_left _ _)
  have d2 : U' ∣ T' := c2.symm.dvd_of_dvd_mul_left (by rw [← e2]; exact Nat.dvd_mul_left _ _)
  have eTU : T' = U' := Nat.dvd_antisymm d1 d2
  subst eTU
  have T0 : 0 < T' := by
    rcases Nat.eq_zero_or_pos T' with z | z
    · subst z; simp at hT
    · exact z
  exact ⟨Nat.eq_of_mul_eq_mul_right T0 e2, rfl⟩
def lowP (a b : Int) : Int × Int := (a / (Int.gcd a b : Int), b / (Int.gcd a b : Int))
theorem lowP_eq {a T b U : Int} (ha : 0 ≤ a) (hb : 0 ≤ b) (hT : 0 < T) (hU : 0 < U) : lowP a T = lowP b U ↔ a * U = b * T := by
  obtain ⟨a, rfl⟩ := Int.eq_ofNat_of_zero_le ha
  obtain ⟨b, rfl⟩ := Int.eq_ofNat_of_zero_le hb
  obtain ⟨T, rfl⟩ := Int.eq_ofNat_of_zero_le (Int.le_of_lt hT)
  obtain ⟨U, rfl⟩ := Int.eq_ofNat_of_zero_le (Int.le_of_lt hU)
  unfold lowP
  rw [Int.gcd_natCast_natCast, Int.gcd_natCast_natCast]
  constructor
  · intro h
    injection h with h1 h2
    have ea : Nat.gcd a T * (a / Nat.gcd a T) = a := Nat.mul_div_cancel' (Nat.gcd_dvd_left a T)
    have eT : Nat.gcd a T * (T / Nat.gcd a T) = T := Nat.mul_div_cancel' (Nat.gcd_dvd_right a T)
    have eb : Nat.gcd b U * (b / Nat.gcd b U) = b := Nat.mul_div_cancel' (Nat.gcd_dvd_left b U)
    have eU : Nat.gcd b U * (U / Nat.gcd b U) = U := Nat.mul_div_cancel' (Nat.gcd_dvd_right b U)
    have h1' : a / Nat.gcd a T = b / Nat.gcd b U := by exact_mod_cast h1
    have h2' : T / Nat.gcd a T = U / Nat.gcd b U := by exact_mod_cast h2
    have : a * U = b * T := by
      rw [h1'] at ea
      rw [h2'] at eT
      generalize Nat.gcd a T = g at *
      generalize Nat.gcd b U = h at *
      generalize b / h = x at *
      generalize U / h = y at *
      subst ea eT eb eU
      simp [Nat.mul_comm, Nat.mul_left_comm]
    exact_mod_cast this
  · intro h
    have h' : a * U = b * T := by exact_mod_cast h
    obtain ⟨q1, q2⟩ := low_unique (by omega) (by omega) h'
    rw [Prod.mk.injEq]
    exact ⟨by exact_mod_cast q1, by exact_mod_cast q2⟩
theorem le_trans_frac {a T a1 T1 a2 T2 : Int} (h1 : a * T1 ≤ a1 * T) (h2 : a1 * T2 ≤ a2 * T1) (p : 0 < T1) (q : 0 ≤ T) (r : 0 ≤ T2) : a * T2 ≤ a2 * T := by
  have x1 : a * T1 * T2 ≤ a1 * T * T2 := Int.mul_le_mul_of_nonneg_right h1 r
  have x2 : a1 * T2 * T ≤ a2 * T1 * T := Int.mul_le_mul_of_nonneg_right h2 q
  have x3 : T1 * (a * T2) ≤ T1 * (a2 * T) := by
    calc T1 * (a * T2) = a * T1 * T2 := by simp [Int.mul_comm, Int.mul_left_comm]
      _ ≤ a1 * T * T2 := x1
      _ = a1 * T2 * T := by simp [Int.mul_comm, Int.mul_left_comm]
      _ ≤ a2 * T1 * T := x2
      _ = T1 * (a2 * T) := by simp [Int.mul_comm, Int.mul_left_comm]
  exact Int.le_of_mul_le_mul_left x3 p
/-- sums over parts of a row -/
theorem sumF_mono (w : Int → Int) (p q : Int → Bool) : ∀ l : List Int, (∀ x ∈ l, 0 ≤ w x) → (∀ x ∈ l, p x = true → q x = true) → ((l.filter p).map w).sum ≤ ((l.filter q).map w).sum
  | [], _, _ => by simp
  | a :: l, h, k => by
    have ih := sumF_mono w p q l (fun x hx => h x (List.mem_cons_of_mem _ hx)) (fun x hx => k x (List.mem_cons_of_mem _ hx))
    have h0 := h a List.mem_cons_self
    have k0 := k a List.mem_cons_self
    cases hp : p a <;> cases hq : q a <;> simp [List.filter_cons, hp, hq] at k0 ⊢ <;> omega
section
variable {w : Int → Int} {bd l L : List Int}
theorem sumF_pos (w : Int → Int) (p : Int → Bool) {l : List Int} (h : ∀ x ∈ l, 1 ≤ w x) : 0 ≤ ((l.filter p).map w).sum := by
  have := sumF_mono w (fun _ => false) p l (fun x hx => by have := h x hx; omega) (fun _ _ z => by cases z)
  rw [show l.filter (fun _ => false) = [] from List.filter_eq_nil_iff.mpr (by simp)] at this
  simpa using this
theorem tot_pos {M : List Int} (h : ∀ x ∈ M, 1 ≤ w x) (hne : M ≠ []) : 0 < (M.map w).sum := by
  cases M with
  | nil => exact absurd rfl hne
  | cons a M =>
    have q := sumF_pos w (fun _ => true) (l := M) fun x hx => h x (List.mem_cons_of_mem _ hx)
    rw [List.filter_eq_self.mpr (fun _ _ => rfl)] at q
    have := h a List.mem_cons_self
    rw [List.map_cons, List.sum_cons]
    omega
structure Least (w : Int → Int) (bd l L : List Int) (a0 T0 : Int) : Prop where
  a : 0 ≤ a0
  T : 0 < T0
  at_ : ∃ M ∈ mixF bd l, M ≠ [] ∧ insideW w M L * T0 = a0 * (M.map w).sum
  all : ∀ M ∈ mixF bd l, M ≠ [] → a0 * (M.map w).sum ≤ insideW w M L * T0
structure Great (w : Int → Int) (bd l L : List Int) (a0 T0 : Int) : Prop where
  a : 0 ≤ a0
  T : 0 < T0
  at_ : ∃ M ∈ mixF bd l, M ≠ [] ∧ insideW w M L * T0 = a0 * (M.map w).sum
  all : ∀ M ∈ mixF bd l, M ≠ [] → insideW w M L * T0 ≤ a0 * (M.map w).sum
theorem mix_w {M : List Int} (hM : M ∈ mixF bd l) (h : ∀ x ∈ l, 1 ≤ w x) : ∀ x ∈ M, 1 ≤ w x := fun x hx => h x (mixF_sound hM |>.1.subset hx)
theorem Least.eq {a0 T0 : Int} (H : Least w bd l L a0 T0) (h : ∀ x ∈ l, 1 ≤ w x) {M1 : List Int} (h1 : M1 ∈ mixF bd l) (n1 : M1 ≠ []) (k : ∀ M ∈ mixF bd l, M ≠ [] → insideW w M1 L * (M.map w).sum ≤ insideW w M L * (M1.map w).sum) : lowP (insideW w M1 L) (M1.map w).sum = lowP a0 T0 := by
  have T1 := tot_pos (mix_w h1 h) n1
  have a1 : 0 ≤ insideW w M1 L := sumF_pos w (fun x => decide (x ∈ L)) (mix_w h1 h)
  refine (lowP_eq a1 H.a T1 H.T).mpr (Int.le_antisymm ?_ (H.all M1 h1 n1))
  obtain ⟨M0, m0, n0, e⟩ := H.at_
  exact le_trans_frac (k M0 m0 n0) (Int.le_of_eq e) (tot_pos (mix_w m0 h) n0) (by omega) (Int.le_of_lt H.T)
theorem Great.eq {a0 T0 : Int} (H : Great w bd l L a0 T0) (h : ∀ x ∈ l, 1 ≤ w x) {M1 : List Int} (h1 : M1 ∈ mixF bd l) (n1 : M1 ≠ []) (k : ∀ M ∈ mixF bd l, M ≠ [] → insideW w M L * (M1.map w).sum ≤ insideW w M1 L * (M.map w).sum) : lowP (insideW w M1 L) (M1.map w).sum = lowP a0 T0 := by
  have T1 := tot_pos (mix_w h1 h) n1
  have a1 : 0 ≤ insideW w M1 L := sumF_pos w (fun x => decide (x ∈ L)) (mix_w h1 h)
  refine (lowP_eq a1 H.a T1 H.T).mpr (Int.le_antisymm (H.all M1 h1 n1) ?_)
  obtain ⟨M0, m0, n0, e⟩ := H.at_
  exact le_trans_frac (Int.le_of_eq e.symm) (k M0 m0 n0) (tot_pos (mix_w m0 h) n0) (Int.le_of_lt H.T) (by omega)
end
end
section
open PySem
/-- a fraction in lowest terms -/
@[reducible] def fr (a b : Int) : D := .tup [.int (a / (Int.gcd a b : Int)), .int (b / (Int.gcd a b : Int))]
def W (ws l : List Int) : Int := (l.map (wAt ws)).sum
theorem W_nonneg {ws l : List Int} (hb : ∀ w ∈ ws, 1 ≤ w ∧ w ≤ 1000000) (hl : ∀ c ∈ l, 0 ≤ c ∧ c < ws.length) : 0 ≤ W ws l := sum_nonneg (wAt ws) l fun c hc => by
  obtain ⟨q1, q2⟩ := hl c hc
  rw [wAt_get q1 q2]
  have := (hb (ws[c.toNat]'(by omega)) (List.getElem_mem _)).1
  omega
theorem W_le {ws l : List Int} (hb : ∀ w ∈ ws, 1 ≤ w ∧ w ≤ 1000000) (hl : ∀ c ∈ l, 0 ≤ c ∧ c < ws.length) : W ws l ≤ l.length * 1000000 := sum_le (wAt ws) 1000000 l fun c hc => by
  obtain ⟨q1, q2⟩ := hl c hc
  rw [wAt_get q1 q2]
  exact (hb _ (List.getElem_mem _)).2
theorem W_ge {ws l : List Int} (hb : ∀ w ∈ ws, 1 ≤ w ∧ w ≤ 1000000) (hl : ∀ c ∈ l, 0 ≤ c ∧ c < ws.length) : (l.length : Int) ≤ W ws l := sum_ge (wAt ws) l fun c hc => by
  obtain ⟨q1, q2⟩ := hl c hc
  rw [wAt_get q1 q2]
  exact (hb _ (List.getElem_mem _)).1
end
section
open PySem
@[reducible] def pairV (p : Int × Int) : D := .tup [.int p.1, .int p.2]
def EP : Enc (Int × Int) := Enc.int.pair Enc.int
theorem PD.pair {S : Store} {p : Int × Int} (h : p.1.natAbs < 10 ^ 20 ∧ p.2.natAbs < 10 ^ 20) : PD S (pairV p) (.tuple [.int p.1, .int p.2]) 1 142 := (PDs.cons (PD.int h.1) (PDs.cons (PD.int h.2) PDs.nil)).tup
end
section
open PySem
structure WB (ws l : List Int) : Prop where
  rg : ∀ c ∈ l, 0 ≤ c ∧ c < (ws.length : Int)
  le : l.length ≤ 8
theorem WB.w {ws l : List Int} (h : WB ws l) (wb : ∀ w ∈ ws, 1 ≤ w ∧ w ≤ 1000000) : 0 ≤ W ws l ∧ W ws l ≤ 8000000 ∧ (l.length : Int) ≤ W ws l := by
  have q1 := W_nonneg wb h.rg
  have q2 := W_le wb h.rg
  have q3 := W_ge wb h.rg
  have := h.le
  exact ⟨q1, by omega, q3⟩
end
section
open PySem
open PySem.PyData (strOk)
@[reducible] def f198_Teller__str_c0 : Ex := (.comp false (.sX 177 (.v 5)) (.nm 5) (.of (.v 4)) [] [5])
@[reducible] def f198_Teller__str_c1 : Ex := (.comp false (.join (.str ",") f198_Teller__str_c0) (.nm 4) (.of (.v 2)) [] [4])
@[reducible] def f198_Teller__str_c2 : Ex := (.comp false (.sX 177 (.v 6)) (.nm 6) (.of (.v 1)) [] [6])
def f198_Teller__str : Fn := ⟨1, 7, [(.asg (.tup [(.nm 1), (.nm 2)]) (.atr 21 (.v 0))), (.asg (.nm 3) f198_Teller__str_c1), (.ret (.fst (.join (.str " ") f198_Teller__str_c2) ": " (.join (.str " ") (.v 3))))]⟩
/-- plain data in every store, so deep at most -/
structure LD (k : Nat) (d : D) : Prop where
  ex : ∀ S, ∃ p, (toP (locP S 2) d = some p ∧ toP (locP S 3) d = some p) ∧ p.canLay0 = true ∧ p.depth ≤ k
theorem LD.up {d : D} {k j : Nat} (h : LD k d) (l : k ≤ j) : LD j d := ⟨fun S => by
  obtain ⟨p, a, b, c⟩ := h.ex S
  exact ⟨p, a, b, Nat.le_trans c l⟩⟩
theorem LDs {xs : List D} {k : Nat} (h : ∀ x ∈ xs, LD k x) (S : Store) : ∃ ps, (toPs (locP S 2) xs = some ps ∧ toPs (locP S 3) xs = some ps) ∧ PyData.canLayAll0 ps = true ∧ PyData.depthAll ps ≤ k ∧ ps.length = xs.length := by
  induction xs with
  | nil => exact ⟨[], ⟨by simp [toPs], by simp [toPs]⟩, by simp [PyData.canLayAll0], by simp [PyData.depthAll], rfl⟩
  | cons x xs ih =>
    obtain ⟨p, ⟨a1, a2⟩, a3, a4⟩ := (h x List.mem_cons_self).ex S
    obtain ⟨ps, ⟨b1, b2⟩, b3, b4, b5⟩ := ih fun y hy => h y (List.mem_cons_of_mem _ hy)
    exact ⟨p :: ps, ⟨by simp [toPs, a1, b1], by simp [toPs, a2, b2]⟩, by simp [PyData.canLayAll0, a3, b3], by
      simp only [PyData.depthAll]
      exact Nat.max_le.mpr ⟨a4, b4⟩, by simp [b5]⟩
theorem LD.int (i : Int) : LD 0 (.int i) := ⟨fun S => ⟨.int i, ⟨rfl, rfl⟩, by simp [PyData.canLay0], by simp [PyData.depth]⟩⟩
theorem LD.non : LD 0 .non := ⟨fun S => ⟨.none, ⟨rfl, rfl⟩, by simp [PyData.canLay0], by simp [PyData.depth]⟩⟩
theorem LD.bl (b : Bool) : LD 0 (.bl b) := ⟨fun S => ⟨.bool b, ⟨rfl, rfl⟩, by simp [PyData.canLay0], by simp [PyData.depth]⟩⟩
theorem LD.str {x : Str} (h : strOk x = true) : LD 0 (.str x) := ⟨fun S => ⟨.str x, ⟨rfl, rfl⟩, by simp [PyData.canLay0, h], by simp [PyData.depth]⟩⟩
theorem LD.tup {xs : List D} {k : Nat} (h : ∀ x ∈ xs, LD k x) : LD (k + 1) (.tup xs) := ⟨fun S => by
  obtain ⟨ps, ⟨a1, a2⟩, a3, a4, _⟩ := LDs h S
  exact ⟨.tuple ps, ⟨by simp [toP, a1], by simp [toP, a2]⟩, by simp [PyData.canLay0, a3], by
    simp only [PyData.depth]
    omega⟩⟩
theorem LD.lst {xs : List D} {k : Nat} (h : ∀ x ∈ xs, LD k x) : LD (k + 1) (.lst xs) := ⟨fun S => by
  obtain ⟨ps, ⟨a1, a2⟩, a3, a4, _⟩ := LDs h S
  exact ⟨.list ps, ⟨by simp [toP, a1], by simp [toP, a2]⟩, by simp [PyData.canLay0, a3], by
    simp only [PyData.depth]
    omega⟩⟩
theorem ok_reprChar {q c : Nat} (hq : q < 0x110000) (hc : c < 0x110000) : ∀ y ∈ Builtin.Str.reprChar q c, y < 0x110000 := by
  intro y hy
  have hex : ∀ w : Nat, y ∈ (List.replicate (w - ((Nat.toDigits 16 c).map Char.toNat).length) 48 ++ (Nat.toDigits 16 c).map Char.toNat) → y < 0x110000 := by
    intro w h
    rcases List.mem_append.mp h with h | h
    · have := (List.mem_replicate.mp h).2
      omega
    · obtain ⟨x, _, rfl⟩ := List.mem_map.mp h
      have := x.valid
      have h2 : x.toNat = x.val.toNat := rfl
      rcases this with h | ⟨_, h⟩
      · have : x.val.toNat < 0xd800 := h
        omega
      · have : x.val.toNat < 0x110000 := h
        omega
  unfold Builtin.Str.reprChar at hy
  simp only at hy
  repeat' split at hy
  all_goals first
    | (simp only [List.mem_cons, List.not_mem_nil, or_false] at hy; omega)
    | (rcases List.mem_append.mp hy with h | h
       · simp only [List.mem_cons, List.not_mem_nil, or_false] at h; omega
       · exact hex _ h)
theorem ok_foldR {q : Nat} (hq : q < 0x110000) : ∀ (l : List Nat) (acc : Array Nat), (∀ c ∈ l, c < 0x110000) → (∀ c ∈ acc.toList, c < 0x110000) → ∀ c ∈ (l.foldl (fun out c => out ++ (Builtin.Str.reprChar q c).toArray) acc).toList, c < 0x110000
  | [], _, _, h => h
  | x :: l, acc, h1, h2 => by
    refine ok_foldR hq l _ (fun c hc => h1 c (List.mem_cons_of_mem _ hc)) fun c hc => ?_
    simp only [Array.toList_append, List.mem_append] at hc
    rcases hc with hc | hc
    · exact h2 c hc
    · exact ok_reprChar hq (h1 x List.mem_cons_self) c (by simpa using hc)
theorem ok_iffL {x : Str} : strOk x = true ↔ ∀ c ∈ x.cps.toList, c < 0x110000 := by
  unfold strOk
  rw [Array.all_eq_true_iff_forall_mem]
  simp
theorem ok_repr {x : Str} (h : strOk x = true) : strOk (reprText x) = true := by
  have hq : reprQuote x < 0x110000 := by
    unfold reprQuote
    split <;> decide
  have h1 := ok_iffL.mp h
  refine ok_iffL.mpr ?_
  unfold reprText
  simp only [Array.toList_push, List.mem_append, List.mem_singleton]
  rintro c (hc | rfl)
  · rw [← Array.foldl_toList] at hc
    exact ok_foldR hq x.cps.toList #[reprQuote x] h1 (by simpa using hq) c hc
  · exact hq
theorem len_ofS (s : String) : (Str.ofString s).length = s.length := by
  rw [Str.ofString_eq_toList]
  show ((s.toList.map Char.toNat).toArray).size = _
  rw [List.size_toArray, List.length_map]
  rfl
theorem len_join_le {a : Str} {ts : List Str} {B : Nat} (h : ∀ t ∈ ts, t.length ≤ B) : (Txt.join a ts).length ≤ ts.length * (B + a.length) := by
  rw [TL.join_eq]
  have h1 := StrLaws.join_length_le a ts
  have h2 : (ts.map (·.length)).sum ≤ ts.length * B := by
    clear h1
    induction ts with
    | nil => simp
    | cons t ts ih =>
      have := ih fun x hx => h x (List.mem_cons_of_mem _ hx)
      have := h t List.mem_cons_self
      simp only [List.map_cons, List.sum_cons, List.length_cons, Nat.add_mul]
      omega
  rw [Nat.mul_add]
  omega
theorem sum_len_le {ts : List Str} {B : Nat} (h : ∀ t ∈ ts, t.length ≤ B) : (ts.map (·.length)).sum ≤ ts.length * B := by
  induction ts with
  | nil => simp
  | cons t ts ih =>
    have := ih fun x hx => h x (List.mem_cons_of_mem _ hx)
    have := h t List.mem_cons_self
    simp only [List.map_cons, List.sum_cons, List.length_cons, Nat.add_mul]
    omega
theorem ok_joinT {a : Str} (ha : strOk a = true) {ts : List Str} (h : ∀ t ∈ ts, strOk t = true) : strOk (Txt.join a ts) = true := by
  rw [TL.join_eq]
  exact ok_join ha ts h
theorem strs_self (ts : List Str) : (ts.map D.str).mapM strOf = some ts := by
  induction ts with
  | nil => rfl
  | cons t ts ih =>
    simp only [List.map_cons, List.mapM_cons, strOf]
    rw [ih]
    rfl
theorem o_join {S : Store} {a : Str} {y : D} {ts : List Str} {B : Nat} {Q : D → Prop} (e : seqOf S y = some (ts.map D.str)) (h : ∀ t ∈ ts, t.length ≤ B) (hl : ts.length * B + ts.length * a.length ≤ 16777216) (q : Q (.str (Txt.join a ts))) : Oo (joinO S a y) Q := by
  refine o_is ?_ q
  unfold joinO
  rw [e]
  simp only
  rw [strs_self]
  simp only
  have := sum_len_le h
  rw [if_pos (by omega)]
/-- the text of a number -/
def numS (i : Int) : Str := ((toString i : String) : Str)
theorem numS_ok (i : Int) : strOk (numS i) = true := ok_ofString _
theorem numS_len {i : Int} (h : i.natAbs < 10 ^ 7) : (numS i).length ≤ 8 := by
  have := PySem.int_text_length_le10 (a := i) (k := 7) (by decide) h
  show (Str.ofString (toString i)).length ≤ 8
  rw [len_ofS]
  exact this
theorem log_small {i : Int} (h : i.natAbs < 10 ^ 7) : i.natAbs.log2 < 1920 := by
  have := log2_lt (i := i) (k := 24) (by have : (10 : Nat) ^ 7 < 2 ^ 24 := by decide
                                         omega) (by decide)
  omega
/-- what a teller shows -/
def pageT (ws : List Int) (ss : List (List Int)) : Str := Str.empty ++ Txt.join " " (ws.map numS) ++ ": " ++ Txt.join " " (ss.map fun l => Txt.join "," (l.map numS))
section
variable {P : Pr} {sA : Nat} (K : PkA P sA) {kl : Cl} {sR sS : Bool} (L : PkR P kl sR sS)
include K L
/-- the text of a teller -/
theorem text_is (h198 : P.fn 198 = some f198_Teller__str) (d : Nat) {ws : List Int} {ss : List (List Int)} (S : Store) (w8 : ws.length ≤ 8) (wb : ∀ w ∈ ws, 1 ≤ w ∧ w ≤ 1000000) (s16 : ss.length ≤ 16) (sb : ∀ l ∈ ss, l.length ≤ 8 ∧ ∀ c ∈ l, 0 ≤ c ∧ c < 1000) :
    Ok ((orc P (d + 1)).fn 198 [tel ws ss] S) fun v S' => S' = S ∧ v = .str (pageT ws ss) ∧ strOk (pageT ws ss) = true ∧ (pageT ws ss).length ≤ 4000 := by
  have o1 : strOk (" " : Str) = true := ok_ofString _
  have o2 : strOk ("," : Str) = true := ok_ofString _
  have o3 : strOk (": " : Str) = true := ok_ofString _
  have n1 : (" " : Str).length = 1 := rfl
  have n2 : ("," : Str).length = 1 := rfl
  have n3 : (": " : Str).length = 2 := rfl
  have n0 : Str.empty.length = 0 := rfl
  have W : ∀ t ∈ ws.map numS, strOk t = true ∧ t.length ≤ 8 := fun t ht => by
    obtain ⟨w, hw, rfl⟩ := List.mem_map.mp ht
    have := wb w hw
    exact ⟨numS_ok _, numS_len (by omega)⟩
  have C : ∀ l ∈ ss, ∀ t ∈ l.map numS, strOk t = true ∧ t.length ≤ 8 := fun l hl t ht => by
    obtain ⟨c, hc, rfl⟩ := List.mem_map.mp ht
    have := (sb l hl).2 c hc
    exact ⟨numS_ok _, numS_len (by omega)⟩
  have T : ∀ t ∈ ss.map (fun l => Txt.join "," (l.map numS)), strOk t = true ∧ t.length ≤ 72 := fun t ht => by
    obtain ⟨l, hl, rfl⟩ := List.mem_map.mp ht
    have h1 := len_join_le (a := ",") (ts := l.map numS) (B := 8) fun t ht => (C l hl t ht).2
    have h2 := (sb l hl).1
    rw [List.length_map, n2] at h1
    exact ⟨ok_joinT o2 fun t ht => (C l hl t ht).1, by omega⟩
  have A1 := len_join_le (a := " ") (ts := ws.map numS) (B := 8) fun t ht => (W t ht).2
  have A2 := len_join_le (a := " ") (ts := ss.map (fun l => Txt.join "," (l.map numS))) (B := 72) fun t ht => (T t ht).2
  rw [List.length_map, n1] at A1 A2
  have A3 : strOk (Txt.join " " (ws.map numS)) = true := ok_joinT o1 fun t ht => (W t ht).1
  have A4 : strOk (Txt.join " " (ss.map (fun l => Txt.join "," (l.map numS)))) = true := ok_joinT o1 fun t ht => (T t ht).1
  refine w_fn h198 rfl rfl ?_
  show Go (exs _ _ (_ :: _) _ _) _ _ _ _
  fail "stl"
  refine w_eq (held_ok K L.toPkC L.noP S rfl) ?_
  fail "stl"
  refine w_cmap (h := fun l => .str (Txt.join "," (l.map numS))) still_nil (by omega) (fun l hl => ?_) ?_
  · fail "stl"
    refine w_join ?_
    fail "stl"
    refine ⟨_, rfl, ?_⟩
    fail "stl"
    refine w_cmap (h := fun c => .str (numS c)) still_nil (by have := (sb l hl).1; omega) (fun c hc => ?_) ?_
    · fail "stl"
      refine w_sI ?_
      fail "stl"
      have := (sb l hl).2 c hc
      exact ⟨log_small (by omega), rfl, rfl⟩
    fail "stl"
    have h2 := (sb l hl).1
    refine o_join (ts := l.map numS) (B := 8) (by simp [seqOf, seqAt]) (fun t ht => (C l hl t ht).2) (by rw [List.length_map, n2]; omega) ?_
    exact ⟨rfl, rfl⟩
  fail "stl"
  refine w_fst ?_
  refine w_join ?_
  fail "stl"
  refine ⟨_, rfl, ?_⟩
  fail "stl"
  refine w_cmap (h := fun c => .str (numS c)) still_nil (by omega) (fun c hc => ?_) ?_
  · fail "stl"
    refine w_sI ?_
    fail "stl"
    have := wb c hc
    exact ⟨log_small (by omega), rfl, rfl⟩
  fail "stl"
  refine o_join (ts := ws.map numS) (B := 8) (by simp [seqOf, seqAt]) (fun t ht => (W t ht).2) (by rw [List.length_map, n1]; omega) ?_
  have hz := sizeLine_eq
  refine ⟨_, rfl, ⟨by omega, by rw [strLen_append, n0]; omega, by rw [strLen_append, strLen_append, n0, n3]; omega⟩, ?_⟩
  refine w_join ?_
  fail "stl"
  refine ⟨_, rfl, ?_⟩
  fail "stl"
  refine o_join (ts := ss.map (fun l => Txt.join "," (l.map numS))) (B := 72) (by simp [seqOf, seqAt]) (fun t ht => (T t ht).2) (by rw [List.length_map, n1]; omega) ?_
  refine o_is (show fstO _ _ _ = some (.str (Str.empty ++ Txt.join " " (ws.map numS) ++ ": " ++ Txt.join " " (ss.map (fun l => Txt.join "," (l.map numS))))) from ?_) ?_
  · unfold fstO
    simp only
    rw [if_pos ⟨by omega, by rw [strLen_append, strLen_append, strLen_append, n0, n3]; omega⟩]
  · refine ⟨rfl, rfl, ok_append (ok_append (ok_append (by decide +kernel) A3) o3) A4, ?_⟩
    unfold pageT
    rw [strLen_append, strLen_append, strLen_append, n0, n3]
    omega
end
end
section
open PySem TL
open PySem.PyData (strOk)
theorem eqv_strs (a b : Str) : PyData.eqv (.str a) (.str b) = decide (a = b) := by
  unfold PyData.eqv
  by_cases h : a = b
  · subst h; simp
  · simp [h]
theorem pd_str {x : Str} (h : strOk x = true) (S : Store) : pd S (.str x) = some (.str x) := by
  unfold pd
  simp only [locP, toP]
  rw [if_pos (by unfold SeqAt.shaped; simp [PyData.canLay0, h, PyData.depth])]
theorem o_eqS {S : Store} {a b : Str} {Q : Bool → Prop} (ha : strOk a = true) (hb : strOk b = true) (q : Q (decide (a = b))) : Oo (cop S .eq (.str a) (.str b)) Q :=
  o_is (by rw [cop_eqD _ _ _ (pd_str ha S) (pd_str hb S), eqv_strs]) q
theorem o_neS {S : Store} {a b : Str} {Q : Bool → Prop} (ha : strOk a = true) (hb : strOk b = true) (q : Q (!decide (a = b))) : Oo (cop S .ne (.str a) (.str b)) Q :=
  o_is (by rw [cop_neD _ _ _ (pd_str ha S) (pd_str hb S), eqv_strs]) q
theorem numS_tl (n : Nat) : tl (numS (n : Int)) = numL n := tl_num n
theorem numS_free {n s : Nat} (h : s < 48 ∨ 57 < s) : s ∉ tl (numS (n : Int)) := by rw [numS_tl]; exact numL_free h
section
variable {P : Pr}
theorem space_one : (" " : Str) = ⟨#[32]⟩ := ext_tl rfl
theorem comma_one : ("," : Str) = ⟨#[44]⟩ := ext_tl rfl
def wordS (l : List Int) : Str := Txt.join "," (l.map numS)
def headS (ws : List Int) : Str := Txt.join " " (ws.map numS)
def tailS (ss : List (List Int)) : Str := Txt.join " " (ss.map wordS)
def pageS (ws : List Int) (ss : List (List Int)) : Str := headS ws ++ (": " : Str) ++ tailS ss
theorem mem_joinC {s : List Nat} {c : Nat} : ∀ {L : List (List Nat)}, c ∈ joinC s L → c ∈ s ∨ ∃ p ∈ L, c ∈ p
  | [], h => absurd h (by simp [joinC])
  | [p], h => .inr ⟨p, List.mem_cons_self, h⟩
  | p :: q :: r, h => by
    have h : c ∈ p ++ s ++ joinC s (q :: r) := h
    rw [List.mem_append, List.mem_append] at h
    rcases h with (h | h) | h
    · exact .inr ⟨p, List.mem_cons_self, h⟩
    · exact .inl h
    · rcases mem_joinC h with h | ⟨z, hz, h⟩
      · exact .inl h
      · exact .inr ⟨z, List.mem_cons_of_mem _ hz, h⟩
theorem free_join {c : Nat} {y : Str} {ps : List Str} (hy : c ∉ tl y) (h : ∀ p ∈ ps, c ∉ tl p) : c ∉ tl (Txt.join y ps) := fun hm => by
  rw [join_gl, tl_join] at hm
  rcases mem_joinC hm with q | ⟨p, hp, q⟩
  · exact hy q
  · obtain ⟨z, hz, rfl⟩ := List.mem_map.mp hp
    exact h z hz q
theorem num_free {l : List Int} (hl : ∀ x ∈ l, 0 ≤ x) {s : Nat} (h : s < 48 ∨ 57 < s) : ∀ p ∈ l.map numS, s ∉ tl p := fun p hp => by
  obtain ⟨x, hx, rfl⟩ := List.mem_map.mp hp
  obtain ⟨n, rfl⟩ := Int.eq_ofNat_of_zero_le (hl x hx)
  exact numS_free h
theorem split_nums {l : List Int} (hl : ∀ x ∈ l, 0 ≤ x) (ne : l ≠ []) : Txt.split (headS l) " " = l.map numS ∧ Txt.split (wordS l) "," = l.map numS := by
  have ne2 : l.map numS ≠ [] := fun z => ne (List.map_eq_nil_iff.mp z)
  unfold headS wordS
  rw [space_one, comma_one]
  exact ⟨split_join ne2 (num_free hl (by decide)), split_join ne2 (num_free hl (by decide))⟩
theorem word_free {l : List Int} (hl : ∀ x ∈ l, 0 ≤ x) {s : Nat} (h : s ≠ 44) (h2 : s < 48 ∨ 57 < s) : s ∉ tl (wordS l) :=
  free_join (by rw [comma_one]; simpa [tl] using h) (num_free hl h2)
theorem split_words {ss : List (List Int)} (h : ∀ l ∈ ss, ∀ x ∈ l, 0 ≤ x) (ne : ss ≠ []) : Txt.split (tailS ss) " " = ss.map wordS := by
  have ne2 : ss.map wordS ≠ [] := fun z => ne (List.map_eq_nil_iff.mp z)
  unfold tailS
  rw [space_one]
  refine split_join ne2 fun p hp => ?_
  obtain ⟨l, hl, rfl⟩ := List.mem_map.mp hp
  exact word_free (h l hl) (by decide) (by decide)
theorem split_page {ws : List Int} {ss : List (List Int)} (hw : ∀ x ∈ ws, 0 ≤ x) (hs : ∀ l ∈ ss, ∀ x ∈ l, 0 ≤ x) : Txt.split (pageS ws ss) ": " = [headS ws, tailS ss] := by
  refine split_colon (free_join (by rw [space_one]; decide) (num_free hw (by decide))) (free_join (by rw [space_one]; decide) fun p hp => ?_)
  obtain ⟨l, hl, rfl⟩ := List.mem_map.mp hp
  exact word_free (hs l hl) (by decide) (by decide)
end
end
section
open PySem TL
open PySem.PyData (strOk)
mutual
def bigP : PyData → Prop
  | .none | .bool _ => True
  | .int i => i.natAbs < 10 ^ 40
  | .str x => strOk x = true
  | .list xs | .tuple xs => bigPs xs
  | .dict _ => False
def bigPs : List PyData → Prop
  | [] => True
  | x :: xs => bigP x ∧ bigPs xs
end
mutual
theorem big_ok : ∀ p : PyData, bigP p → p.showable = true ∧ p.leavesShort 41 = true ∧ strOk p.shown = true
  | .none, _ => ⟨by simp [PyData.showable], by simp [PyData.leavesShort], by simp only [PyData.shown]; exact ok_ofString _⟩
  | .bool b, _ => ⟨by simp [PyData.showable], by simp [PyData.leavesShort], by simp only [PyData.shown]; cases b <;> exact ok_ofString _⟩
  | .int i, h => by
    have h1 : i.natAbs < 10 ^ 40 := h
    have h2 : i.natAbs.log2 < 1920 := by
      have := log2_lt (i := i) (k := 133) (by have : (10 : Nat) ^ 40 < 2 ^ 133 := by decide
                                              omega) (by decide)
      omega
    refine ⟨by simp [PyData.showable, h2], ?_, by simp only [PyData.shown]; exact ok_ofString _⟩
    have h3 := PySem.int_text_length_le10 (a := i) (k := 40) (by decide) h1
    simp only [PyData.leavesShort, PyData.shown]
    refine decide_eq_true ?_
    show (Str.ofString (toString i)).length ≤ 41
    rw [Str.ofString_eq_toList]
    show (((toString i).toList.map Char.toNat).toArray).size ≤ 41
    rw [List.size_toArray, List.length_map]
    exact h3
  | .str x, h => by
    have h' : strOk x = true := h
    have hl := ok_iffL.mp h'
    refine ⟨by simp [PyData.showable], ?_, by simp only [PyData.shown]; exact ok_repr h'⟩
    simp only [PyData.leavesShort]
    rw [List.all_eq_true]
    intro c hc
    have := hl c hc
    exact decide_eq_true (Nat.lt_of_lt_of_le (show c < 0x110000 by omega) (by decide))
  | .list xs, h => by
    have h' : bigPs xs := h
    obtain ⟨a, b, c⟩ := bigs_ok xs h'
    refine ⟨by simp [PyData.showable, a], by simp [PyData.leavesShort, b], ?_⟩
    simp only [PyData.shown, listText]
    exact ok_append (ok_textFrom _ _ _ (ok_ofString _) c) (ok_ofString _)
  | .tuple xs, h => by
    have h' : bigPs xs := h
    obtain ⟨a, b, c⟩ := bigs_ok xs h'
    refine ⟨by simp [PyData.showable, a], by simp [PyData.leavesShort, b], ?_⟩
    simp only [PyData.shown, tupleText]
    exact ok_append (ok_append (ok_ofString _) (ok_join (ok_ofString _) _ c)) (ok_ofString _)
  | .dict _, h => h.elim
theorem bigs_ok : ∀ ps : List PyData, bigPs ps → PyData.showableAll ps = true ∧ PyData.leavesShortAll 41 ps = true ∧ ∀ t ∈ PyData.shownAll ps, strOk t = true
  | [], _ => ⟨by simp [PyData.showableAll], by simp [PyData.leavesShortAll], by simp [PyData.shownAll]⟩
  | p :: ps, h => by
    obtain ⟨h1, h2⟩ : bigP p ∧ bigPs ps := h
    obtain ⟨a, b, c⟩ := big_ok p h1
    obtain ⟨a', b', c'⟩ := bigs_ok ps h2
    refine ⟨by simp [PyData.showableAll, a, a'], by simp [PyData.leavesShortAll, b, b'], ?_⟩
    simp only [PyData.shownAll, List.mem_cons]
    rintro t (rfl | ht)
    · exact c
    · exact c' t ht
end
/-- plain data with a text, in every store -/
structure BD (k w : Nat) (d : D) : Prop where
  ex : ∀ S, ∃ p, (toP (locP S 2) d = some p ∧ toP (locP S 3) d = some p) ∧ p.canLay0 = true ∧ p.depth ≤ k ∧ bigP p ∧ p.weight ≤ w
theorem BD.up {d : D} {k w k' w' : Nat} (h : BD k w d) (a : k ≤ k') (b : w ≤ w') : BD k' w' d := ⟨fun S => by
  obtain ⟨p, e, l, dp, bg, wt⟩ := h.ex S
  exact ⟨p, e, l, Nat.le_trans dp a, bg, Nat.le_trans wt b⟩⟩
theorem BD.int {i : Int} (h : i.natAbs < 10 ^ 40) : BD 0 140 (.int i) := ⟨fun S => ⟨.int i, ⟨rfl, rfl⟩, by simp [PyData.canLay0], by simp [PyData.depth], h, by
  simp only [PyData.weight]
  have := log2_lt (i := i) (k := 133) (by have : (10 : Nat) ^ 40 < 2 ^ 133 := by decide
                                          omega) (by decide)
  split <;> omega⟩⟩
theorem BD.str {x : Str} (h : strOk x = true) (l : x.length ≤ 4000) : BD 0 4000 (.str x) := ⟨fun S => ⟨.str x, ⟨rfl, rfl⟩, by simp [PyData.canLay0, h], by simp [PyData.depth], h, by
  simp only [PyData.weight]
  exact l⟩⟩
theorem BDs {xs : List D} {k w : Nat} (h : ∀ x ∈ xs, BD k w x) (S : Store) : ∃ ps, (toPs (locP S 2) xs = some ps ∧ toPs (locP S 3) xs = some ps) ∧ PyData.canLayAll0 ps = true ∧ PyData.depthAll ps ≤ k ∧ bigPs ps ∧ PyData.weightAll ps ≤ xs.length * (w + 1) := by
  induction xs with
  | nil => exact ⟨[], ⟨by simp [toPs], by simp [toPs]⟩, by simp [PyData.canLayAll0], by simp [PyData.depthAll], trivial, by simp [PyData.weightAll]⟩
  | cons x xs ih =>
    obtain ⟨p, ⟨a1, a2⟩, a3, a4, a5, a6⟩ := (h x List.mem_cons_self).ex S
    obtain ⟨ps, ⟨b1, b2⟩, b3, b4, b5, b6⟩ := ih fun y hy => h y (List.mem_cons_of_mem _ hy)
    refine ⟨p :: ps, ⟨by simp [toPs, a1, b1], by simp [toPs, a2, b2]⟩, by simp [PyData.canLayAll0, a3, b3], ?_, ⟨a5, b5⟩, ?_⟩
    · simp only [PyData.depthAll]
      exact Nat.max_le.mpr ⟨a4, b4⟩
    · simp only [PyData.weightAll, List.length_cons]
      rw [Nat.add_mul, Nat.one_mul]
      omega
theorem BD.tup {xs : List D} {k w : Nat} (h : ∀ x ∈ xs, BD k w x) : BD (k + 1) (xs.length * (w + 1)) (.tup xs) := ⟨fun S => by
  obtain ⟨ps, ⟨a1, a2⟩, a3, a4, a5, a6⟩ := BDs h S
  refine ⟨.tuple ps, ⟨by simp [toP, a1], by simp [toP, a2]⟩, by simp [PyData.canLay0, a3], ?_, a5, ?_⟩
  · simp only [PyData.depth]
    omega
  · simpa only [PyData.weight] using a6⟩
/-- there is a text -/
theorem BD.text {d : D} {k w : Nat} (h : BD k w d) (hk : k ≤ 60) (hw : w ≤ 390000) (S : Store) (nd : ∀ n, d ≠ .dic n) : ∃ t, shownD S d = some t ∧ strOk t = true := by
  obtain ⟨p, ⟨_, e⟩, l, dp, bg, wt⟩ := h.ex S
  obtain ⟨h1, h2, h3⟩ := big_ok p bg
  have h4 := PyData.shown_le 41 (by decide) p h2
  have hp : pd S d = some p := by
    have h5 : SeqAt.shaped p = true := by
      unfold SeqAt.shaped
      rw [l, Bool.true_and, decide_eq_true_eq]
      omega
    unfold pd
    rw [e]
    simp only
    rw [if_pos h5]
  exact ⟨p.shown, shownD_pd hp ⟨h1, by rw [sizeLine_eq]; omega⟩, h3⟩
theorem bi_repr {S : Store} {d : D} {t : Str} (h : shownD S d = some t) : bi S .repr [d] = some (.str t) := by
  show (shownD S d).map D.str = _
  rw [h]
  rfl
theorem BD.lot {l : List Int} (h : ∀ c ∈ l, 0 ≤ c ∧ c < 1000) (hl : l.length ≤ 20) : BD 1 2900 (tI l) := by
  refine (BD.tup (k := 0) (w := 140) fun x hx => ?_).up (by decide) (by rw [List.length_map]; omega)
  obtain ⟨c, hc, rfl⟩ := List.mem_map.mp hx
  have := h c hc
  exact BD.int (Nat.lt_of_lt_of_le (show c.natAbs < 1000 by omega) (by decide))
theorem BD.lst {xs : List D} {k w : Nat} (h : ∀ x ∈ xs, BD k w x) : BD (k + 1) (xs.length * (w + 1)) (.lst xs) := ⟨fun S => by
  obtain ⟨ps, ⟨a1, a2⟩, a3, a4, a5, a6⟩ := BDs h S
  refine ⟨.list ps, ⟨by simp [toP, a1], by simp [toP, a2]⟩, by simp [PyData.canLay0, a3], ?_, a5, ?_⟩
  · simp only [PyData.depth]
    omega
  · simpa only [PyData.weight] using a6⟩
theorem BD.bl (b : Bool) : BD 0 140 (.bl b) := ⟨fun S => ⟨.bool b, ⟨rfl, rfl⟩, by simp [PyData.canLay0], by simp [PyData.depth], trivial, by simp [PyData.weight]⟩⟩
theorem BD.non : BD 0 140 .non := ⟨fun S => ⟨.none, ⟨rfl, rfl⟩, by simp [PyData.canLay0], by simp [PyData.depth], trivial, by simp [PyData.weight]⟩⟩
theorem page_is (ws : List Int) (ss : List (List Int)) : pageT ws ss = pageS ws ss := ext_tl (by
  unfold pageT pageS headS tailS
  rw [tl_append, tl_append, tl_append, tl_append, tl_append]
  rfl)
theorem numS_inj {a b : Int} (ha : 0 ≤ a ∧ a ≤ 1000000) (hb : 0 ≤ b ∧ b ≤ 1000000) (e : numS a = numS b) : a = b := by
  have h1 := PySem.W.KIN.num_reads (n := a) ha.1 (by omega)
  have h2 := PySem.W.KIN.num_reads (n := b) hb.1 (by omega)
  have e' : PySem.Str.ofString (toString a) = PySem.Str.ofString (toString b) := e
  rw [e', h2] at h1
  exact (Option.some.inj h1).symm
theorem nums_inj : ∀ {l m : List Int}, (∀ x ∈ l, 0 ≤ x ∧ x ≤ 1000000) → (∀ x ∈ m, 0 ≤ x ∧ x ≤ 1000000) → l.map numS = m.map numS → l = m
  | [], [], _, _, _ => rfl
  | [], _ :: _, _, _, e => by cases e
  | _ :: _, [], _, _, e => by cases e
  | a :: l, b :: m, h1, h2, e => by
    rw [List.map_cons, List.map_cons] at e
    obtain ⟨e1, e2⟩ := List.cons.inj e
    rw [numS_inj (h1 a List.mem_cons_self) (h2 b List.mem_cons_self) e1, nums_inj (fun x hx => h1 x (List.mem_cons_of_mem _ hx)) (fun x hx => h2 x (List.mem_cons_of_mem _ hx)) e2]
theorem words_inj : ∀ {l m : List (List Int)}, (∀ a ∈ l, a ≠ [] ∧ ∀ x ∈ a, 0 ≤ x ∧ x ≤ 1000000) → (∀ a ∈ m, a ≠ [] ∧ ∀ x ∈ a, 0 ≤ x ∧ x ≤ 1000000) → l.map wordS = m.map wordS → l = m
  | [], [], _, _, _ => rfl
  | [], _ :: _, _, _, e => by cases e
  | _ :: _, [], _, _, e => by cases e
  | a :: l, b :: m, h1, h2, e => by
    rw [List.map_cons, List.map_cons] at e
    obtain ⟨e1, e2⟩ := List.cons.inj e
    have a1 := h1 a List.mem_cons_self
    have b1 := h2 b List.mem_cons_self
    have s1 := (split_nums (fun x hx => (a1.2 x hx).1) a1.1).2
    have s2 := (split_nums (fun x hx => (b1.2 x hx).1) b1.1).2
    rw [e1, s2] at s1
    rw [nums_inj b1.2 a1.2 s1, words_inj (fun x hx => h1 x (List.mem_cons_of_mem _ hx)) (fun x hx => h2 x (List.mem_cons_of_mem _ hx)) e2]
/-- a page tells its teller -/
theorem page_inj {ws vs : List Int} {ss ts : List (List Int)} (w0 : ws ≠ []) (v0 : vs ≠ []) (s0 : ss ≠ []) (t0 : ts ≠ []) (hw : ∀ x ∈ ws, 0 ≤ x ∧ x ≤ 1000000) (hv : ∀ x ∈ vs, 0 ≤ x ∧ x ≤ 1000000) (hs : ∀ a ∈ ss, a ≠ [] ∧ ∀ x ∈ a, 0 ≤ x ∧ x ≤ 1000000) (ht : ∀ a ∈ ts, a ≠ [] ∧ ∀ x ∈ a, 0 ≤ x ∧ x ≤ 1000000)
    (e : pageT ws ss = pageT vs ts) : ws = vs ∧ ss = ts := by
  rw [page_is, page_is] at e
  have p1 := split_page (ws := ws) (ss := ss) (fun x hx => (hw x hx).1) (fun l hl x hx => ((hs l hl).2 x hx).1)
  have p2 := split_page (ws := vs) (ss := ts) (fun x hx => (hv x hx).1) (fun l hl x hx => ((ht l hl).2 x hx).1)
  rw [e, p2] at p1
  obtain ⟨e1, e2⟩ := List.cons.inj p1
  obtain ⟨e2, _⟩ := List.cons.inj e2
  have h1 := (split_nums (fun x hx => (hw x hx).1) w0).1
  have h2 := (split_nums (fun x hx => (hv x hx).1) v0).1
  rw [← e1, h2] at h1
  have h3 := split_words (ss := ss) (fun l hl x hx => ((hs l hl).2 x hx).1) s0
  have h4 := split_words (ss := ts) (fun l hl x hx => ((ht l hl).2 x hx).1) t0
  rw [← e2, h4] at h3
  exact ⟨(nums_inj hv hw h1).symm, (words_inj ht hs h3).symm⟩
end
section
open PySem TL
open PySem.PyData (strOk)
def f304_law_right_l0 : Sm := (.fors (.nm 7) (.rng1 (.cB false .len [(.idx (.v 2) (.int 0))])) [(.ifs (.cmp .ne (.cB false .repr [(.lst false [(.mth 64 (.v 3) [(.v 7)]), (.mthK 64 67 "self" (.v 3) [0] [(.v 7)])])]) (.cB false .repr [(.bin false .mul (.lst false [(.cF 22 [(.v 2), (.v 7)])]) (.int 2))])) [(.ret (.bl false))] [])])
def f304_law_right_l1 : Sm := (.fors (.nm 8) (.rng1 (.cB false .len [(.idx (.v 2) (.int 1))])) [(.ifs (.cmp .ne (.cB false .repr [(.lst false [(.mth 63 (.v 3) [(.v 8)]), (.mthK 63 66 "self" (.v 3) [0] [(.v 8)])])]) (.cB false .repr [(.bin false .mul (.lst false [(.cF 11 [(.v 2), (.v 8)])]) (.int 2))])) [(.ret (.bl false))] [])])
def f304_law_right_l2 : Sm := (.fors (.nm 1) (.rng1 (.int 3)) [(.asg (.nm 2) (.cF 3 [(.v 0), (.int 8), (.int 16)])), (.par [3, 4] [(.cF 4 [(.v 2)]), (.cF 305 [(.v 0), (.v 2)])]), (.asg (.nm 5) (.lst false [(.atr 18 (.v 3)), (.atr 16 (.v 3)), (.lnO 0 306 (.v 3)), (.sX 177 (.v 3)), (.lnO 1 307 (.v 3)), (.lnO 2 306 (.v 3))])), (.asg (.nm 6) (.lst false [(.idx (.v 2) (.int 0)), (.idx (.v 2) (.int 1)), (.cB false .len [(.idx (.v 2) (.int 0))]), (.cF 308 [(.v 2)]), (.bin false .add (.bin false .add (.str "Teller of ") (.sX 177 (.cB false .len [(.idx (.v 2) (.int 1))]))) (.str " sayings")), (.bl true)])), (.ifs (.cmp .ne (.cB false .repr [(.v 5)]) (.cB false .repr [(.v 6)])) [(.ret (.bl false))] []), f304_law_right_l0, f304_law_right_l1, (.par [9, 10] [(.cF 4 [(.v 4)]), (.cF 309 [(.v 0)])]), (.asg (.nm 11) (.cmp .eq (.cF 308 [(.v 4)]) (.cF 308 [(.v 2)]))), (.asg (.nm 5) (.lst false [(.oeqV false 297 (.v 3) (.cF 4 [(.v 2)])), (.oeqV true 297 (.v 3) (.cF 4 [(.v 2)])), (.oeqV false 297 (.v 3) (.v 9)), (.oeqV true 297 (.v 9) (.v 3)), (.oeqV false 297 (.v 3) (.v 10))])), (.ifs (.cmp .ne (.cB false .repr [(.bin false .add (.v 5) (.lst false [(.oeqV false 297 (.v 3) (.sX 177 (.v 3)))]))]) (.cB false .repr [(.lst false [(.bl true), (.bl false), (.v 11), (.not (.v 11)), (.bl false), (.bl false)])])) [(.ret (.bl false))] [])])
def f304_law_right : Fn := ⟨1, 12, [f304_law_right_l2, (.ret (.bl true))]⟩
def f305_law_changed : Fn := ⟨2, 5, [(.asg (.tup [(.nm 2), (.nm 3)]) (.v 1)), (.asg (.nm 4) (.cF 9 [(.v 0), (.int 3)])), (.ifs (.cmp .eq (.v 4) (.int 0)) [(.ret (.tup [(.bin false .add (.tup [(.bin false .add (.bin false .fdiv (.idx (.v 2) (.int 0)) (.int 2)) (.int 1))]) (.slc false (.v 2) [(.int 1)] [])), (.v 3)]))] []), (.ret (.ite (.and [(.cmp .eq (.v 4) (.int 1)), (.cmp .lt (.cB false .len [(.v 3)]) (.int 16))]) (.tup [(.v 2), (.bin false .add (.v 3) (.tup [(.idx (.v 3) (.int 0))]))]) (.tup [(.v 2), (.stp false (.v 3) [] (.neg (.int 1)))])))]⟩
@[reducible] def f308_law_page_c0 : Ex := (.comp false (.sX 177 (.v 3)) (.nm 3) (.of (.v 2)) [] [3])
@[reducible] def f308_law_page_c1 : Ex := (.comp false (.join (.str ",") f308_law_page_c0) (.nm 2) (.of (.idx (.v 0) (.int 1))) [] [2])
@[reducible] def f308_law_page_c2 : Ex := (.comp false (.sX 177 (.v 4)) (.nm 4) (.of (.idx (.v 0) (.int 0))) [] [4])
def f308_law_page : Fn := ⟨1, 5, [(.asg (.nm 1) f308_law_page_c1), (.ret (.bin false .add (.bin false .add (.join (.str " ") f308_law_page_c2) (.str ": ")) (.join (.str " ") (.v 1))))]⟩
def f309_law_odd : Fn := ⟨1, 2, [(.asg (.nm 1) (.lst false [.non, (.bl true), (.bl false), (.int 0), (.int 1), (.neg (.int 1)), (.int 5), (.bin false .pow (.int 10) (.int 30)), (.str ""), (.str "a"), (.str "1 1: 0,1"), (.tup []), (.tup [(.int 0)]), (.tup [(.int 1), (.int 0)]), (.lst false []), (.lst false [(.int 0)]), .dnew, (.dlit 0 1)])), (.ret (.cF 61 [(.v 0), (.bin false .add (.v 1) (.lst false [(.tup [.non]), (.tup [(.tup [(.int 0)])]), (.tup [(.int 0), (.int 1)]), (.tup [(.bl true)]), (.tup [(.str "0")]), (.lst false [(.tup [(.int 0), (.int 1)])]), (.tup [(.tup [(.int 0), (.int 1)])]), (.tup [(.int 0), (.int 0)])]))]))]⟩
@[reducible] def f310_law_c0 : Ex := (.comp false (.cF 304 [(.cF 2 [(.v 0), (.v 1)])]) (.nm 1) (.rng1 (.cB false .max2 [(.int 2), (.cB false .min2 [(.cB false .len [(.v 0)]), (.int 6)])])) [] [1])
def f310_law : Fn := ⟨1, 2, [(.ret (.cB false .all [f310_law_c0]))]⟩
def f311_Teller__len : Fn := ⟨1, 1, [(.ret (.cB false .len [(.idx (.atr 21 (.v 0)) (.int 0))]))]⟩
def f312_Teller__repr : Fn := ⟨1, 1, [(.ret (.fmI "Teller of " (.cB false .len [(.idx (.atr 21 (.v 0)) (.int 1))]) " sayings"))]⟩
def f66_Teller_bound_to : Fn := ⟨2, 2, [(.expr (.cF 14 [(.v 0), (.v 1)])), (.ret (.mth 17 (.v 0) [(.v 1)]))]⟩
def f67_Teller_may_say : Fn := ⟨2, 2, [(.expr (.cF 15 [(.v 0), (.v 1)])), (.ret (.mth 24 (.v 0) [(.v 1)]))]⟩
def f300_Teller__eq : Fn := ⟨2, 2, [(.ifs (.not (.of (.isi [.cls 10] (.v 1)))) [(.ret (.bl false))] []), (.ret (.cmp .eq (.atr 21 (.v 0)) (.atr 21 (.v 1))))]⟩
def f61_law_of : Fn := ⟨2, 2, [(.ret (.idx (.v 1) (.cF 9 [(.v 0), (.cB false .len [(.v 1)])])))]⟩
structure H04 (P : Pr) (kl : Cl) : Prop where
  A : PkA P 0
  R : PkR P kl
  h2 : P.fn 2 = some f2_law_basket
  h3 : P.fn 3 = some f3_law_cast
  h4 : P.fn 4 = some f4_law_made
  h9 : P.fn 9 = some f9_law_grab
  h11 : P.fn 11 = some f11_law_bound
  h14 : P.fn 14 = some f14_check_saying
  h15 : P.fn 15 = some f15_check_case
  h22 : P.fn 22 = some f22_law_said
  h61 : P.fn 61 = some f61_law_of
  h66 : P.fn 66 = some f66_Teller_bound_to
  h67 : P.fn 67 = some f67_Teller_may_say
  h198 : P.fn 198 = some f198_Teller__str
  h300 : P.fn 300 = some f300_Teller__eq
  h304 : P.fn 304 = some f304_law_right
  h305 : P.fn 305 = some f305_law_changed
  h308 : P.fn 308 = some f308_law_page
  h309 : P.fn 309 = some f309_law_odd
  h310 : P.fn 310 = some f310_law
  h311 : P.fn 311 = some f311_Teller__len
  h312 : P.fn 312 = some f312_Teller__repr
  m306 : kl.meths.lookup 306 = some 311
  m177 : kl.meths.lookup 177 = some 198
  m307 : kl.meths.lookup 307 = some 312
  m64 : kl.meths.lookup 64 = some 67
  m63 : kl.meths.lookup 63 = some 66
  m297 : kl.meths.lookup 297 = some 300
theorem slice_from4 (S : Store) (xs : List D) (k : Nat) : sliceOf S (.tup xs) (some (k : Int)) none = some (.tup (xs.drop k)) := by
  show some (D.tup (cutD xs (some (k : Int)) none)) = _
  unfold cutD
  rw [HT.sIx_nat, HT.sIx_none]
  congr 2
  by_cases h : k ≤ xs.length
  · rw [Nat.min_eq_left h, List.take_of_length_le (by simp)]
  · rw [Nat.min_eq_right (by omega), List.drop_of_length_le (by omega), List.drop_of_length_le (by omega)]
    simp
theorem GoodS.rev {n : Nat} {ss : List (List Int)} (G : GoodS n ss) : GoodS n ss.reverse :=
  ⟨fun z => G.ne (List.reverse_eq_nil_iff.mp z), by rw [List.length_reverse]; exact G.le, G.n8, fun l hl => G.each l (List.mem_reverse.mp hl), fun c hc => by
    obtain ⟨l, h1, h2⟩ := G.cov c hc
    exact ⟨l, List.mem_reverse.mpr h1, h2⟩⟩
theorem GoodS.more {n : Nat} {ss : List (List Int)} {s0 : List Int} (G : GoodS n ss) (h : s0 ∈ ss) (h16 : ss.length < 16) : GoodS n (ss ++ [s0]) :=
  ⟨by simp, by rw [List.length_append]; simp; omega, G.n8, fun l hl => by
    rcases List.mem_append.mp hl with q | q
    · exact G.each l q
    · rw [List.mem_singleton.mp q]; exact G.each s0 h, fun c hc => by
    obtain ⟨l, h1, h2⟩ := G.cov c hc
    exact ⟨l, List.mem_append_left _ h1, h2⟩⟩
theorem o_reprB {d : D} {k w : Nat} {S : Store} {Q : D → Prop} (h : BD k w d) (hk : k ≤ 60) (hw : w ≤ 390000) (nd : ∀ n, d ≠ .dic n) (q : ∀ t, shownD S d = some t → strOk t = true → Q (.str t)) : Oo (bi S .repr [d]) Q := by
  obtain ⟨t, h1, h2⟩ := h.text hk hw S nd
  exact o_is (bi_repr h1) (q t h1 h2)
def reprS (n : Nat) : Str := Str.empty ++ ("Teller of " : Str) ++ ((toString (n : Int) : String) : Str) ++ (" sayings" : Str)
theorem repr_same (n : Nat) : ("Teller of " : Str) ++ Str.ofString (toString (n : Int)) ++ (" sayings" : Str) = reprS n := ext_tl (by
  unfold reprS
  rw [tl_append, tl_append, tl_append, tl_append, tl_append]
  rfl)
theorem repr_ok (n : Nat) : strOk (reprS n) = true := ok_append (ok_append (ok_append (ok_ofString "") (ok_ofString _)) (ok_ofString _)) (ok_ofString _)
theorem repr_len {n : Nat} (h : n ≤ 16) : (reprS n).length ≤ 4000 := by
  have l1 : (numS (n : Int)).length ≤ 8 := numS_len (by omega)
  have e : (((toString (n : Int) : String) : Str)) = numS (n : Int) := rfl
  have n0 : Str.empty.length = 0 := rfl
  have n1 : ("Teller of " : Str).length = 10 := rfl
  have n2 : (" sayings" : Str).length = 8 := rfl
  unfold reprS
  rw [e, strLen_append, strLen_append, strLen_append, n0, n1, n2]
  omega
theorem due_bd {ws : List Int} {ss : List (List Int)} (n8 : ws.length ≤ 8) (wb : ∀ w ∈ ws, 1 ≤ w ∧ w ≤ 1000000) (sl : ss.length ≤ 16) (sb : ∀ l ∈ ss, l.length ≤ 8 ∧ ∀ c ∈ l, 0 ≤ c ∧ c < 1000) (t1 : strOk (pageT ws ss) = true) (t2 : (pageT ws ss).length ≤ 4000) :
    BD 3 300000 (.lst [tI ws, tT ss, .int ws.length, .str (pageT ws ss), .str (reprS ss.length), .bl true]) := by
  refine (BD.lst (k := 2) (w := 47000) fun x hx => ?_).up (by decide) (by simp)
  simp only [List.mem_cons, List.not_mem_nil, or_false] at hx
  rcases hx with rfl | rfl | rfl | rfl | rfl | rfl
  · refine (BD.tup (k := 0) (w := 140) fun x hx => ?_).up (by decide) (by rw [List.length_map]; omega)
    obtain ⟨c, hc, rfl⟩ := List.mem_map.mp hx
    have := wb c hc
    exact BD.int (Nat.lt_of_lt_of_le (show c.natAbs < 1000001 by omega) (by decide))
  · refine (BD.tup (k := 1) (w := 2900) fun x hx => ?_).up (by decide) (by rw [List.length_map]; omega)
    obtain ⟨l, hl, rfl⟩ := List.mem_map.mp hx
    exact BD.lot (sb l hl).2 (by have := (sb l hl).1; omega)
  · exact (BD.int (Nat.lt_of_lt_of_le (show ((ws.length : Int)).natAbs < 10 by omega) (by decide))).up (by decide) (by decide)
  · exact (BD.str t1 t2).up (by decide) (by decide)
  · exact (BD.str (repr_ok _) (repr_len sl)).up (by decide) (by decide)
  · exact (BD.bl true).up (by decide) (by decide)
theorem said_bd (ss : List (List Int)) (c : Int) (sl : ss.length ≤ 16) : (saidL ss c).length ≤ 20 ∧ ∀ x ∈ saidL ss c, 0 ≤ x ∧ x < 1000 := by
  unfold saidL
  refine ⟨by have := List.length_filter_le (fun p : List Int × Nat => decide (c ∈ p.1)) ss.zipIdx; rw [List.length_zipIdx] at this; rw [List.length_map]; omega, fun x hx => ?_⟩
  obtain ⟨p, hp, rfl⟩ := List.mem_map.mp hx
  have h1 := (List.mem_filter.mp hp).1
  have h2 := List.snd_lt_of_mem_zipIdx h1
  omega
theorem bound_bd {ss : List (List Int)} {l : List Int} {c : Int} (h : l.length ≤ 8 ∧ ∀ c ∈ l, 0 ≤ c ∧ c < 1000) : (boundL ss l c).length ≤ 20 ∧ ∀ x ∈ boundL ss l c, 0 ≤ x ∧ x < 1000 := by
  unfold boundL
  exact ⟨Nat.le_trans (List.length_filter_le _ _) (by omega), fun x hx => h.2 x (List.mem_filter.mp hx).1⟩
theorem mulL2 {S : Store} (x : D) : bop S .mul (.lst [x]) (.int 2) = some (.lst [x, x]) := rfl
theorem pageT_ok (ws : List Int) (ss : List (List Int)) : strOk (pageT ws ss) = true := by
  have W : ∀ l : List Int, ∀ t ∈ l.map numS, strOk t = true := fun l t ht => by
    obtain ⟨w, hw, rfl⟩ := List.mem_map.mp ht
    exact numS_ok _
  unfold pageT
  refine ok_append (ok_append (ok_append (ok_ofString "") (ok_joinT (ok_ofString _) (W ws))) (ok_ofString _)) (ok_joinT (ok_ofString _) fun t ht => ?_)
  obtain ⟨l, hl, rfl⟩ := List.mem_map.mp ht
  exact ok_joinT (ok_ofString _) (W l)
theorem page_same {ws vs : List Int} {ss ts : List (List Int)} (h : 1 ≤ 2) (n2 : 2 ≤ ws.length) (m2 : 2 ≤ vs.length) (wb : ∀ w ∈ ws, 1 ≤ w ∧ w ≤ 1000000) (vb : ∀ w ∈ vs, 1 ≤ w ∧ w ≤ 1000000) (G : GoodS ws.length ss) (F : GoodS vs.length ts) : decide (pageT vs ts = pageT ws ss) = decide ((ws, ss) = (vs, ts)) := by
  refine decide_eq_decide.mpr ⟨fun e => ?_, fun e => ?_⟩
  · obtain ⟨a, b⟩ := page_inj (ws := vs) (vs := ws) (ss := ts) (ts := ss) (fun z => by rw [z] at m2; simp at m2) (fun z => by rw [z] at n2; simp at n2) F.ne G.ne (fun x hx => by have := vb x hx; omega) (fun x hx => by have := wb x hx; omega)
      (fun l hl => ⟨(F.each l hl).1, fun x hx => by have := (F.each l hl).2.2.1 x hx; have := F.n8; omega⟩) (fun l hl => ⟨(G.each l hl).1, fun x hx => by have := (G.each l hl).2.2.1 x hx; have := G.n8; omega⟩) e
    rw [a, b]
  · obtain ⟨a, b⟩ := Prod.mk.inj e
    rw [a, b]
theorem w_dun0 {n : Int} {S : Store} {Q : D → Store → Prop} (h0 : 0 ≤ n) (h1 : n < 2 ^ 62) (q : Q (.int n) S) : Ok (dunO 0 (.int n) S) Q := by
  unfold dunO
  simp only
  rw [if_pos ⟨h0, h1⟩]
  exact ⟨_, _, rfl, q⟩
theorem w_dun1 {t : Str} {S : Store} {Q : D → Store → Prop} (q : Q (.str t) S) : Ok (dunO 1 (.str t) S) Q := ⟨_, _, rfl, q⟩
theorem w_dun2 {n : Int} {S : Store} {Q : D → Store → Prop} (h0 : 0 < n) (h1 : n < 2 ^ 62) (q : Q (.bl true) S) : Ok (dunO 2 (.int n) S) Q := by
  unfold dunO
  simp only
  rw [if_pos ⟨Int.le_of_lt h0, h1⟩]
  have e : (n != 0) = true := by simp; omega
  rw [e]
  exact ⟨_, _, rfl, q⟩
section
variable {P : Pr} {kl : Cl} (H : H04 P kl)
include H
theorem made4 (d : Nat) {ws : List Int} {ss : List (List Int)} {S : Store} (h2 : 2 ≤ ws.length) (h8 : ws.length ≤ 8) (hw : ∀ w ∈ ws, 1 ≤ w ∧ w ≤ 1000000) (h : GoodS ws.length ss) : (orc P (d + 7)).fn 4 [castV ws ss] S = .ok (tel ws ss) S := by
  have h4 := H.h4
  refine ok_of_eq ?_
  refine w_fn h4 rfl rfl ?_
  show Go (exs _ _ (_ :: _) _ _) _ _ _ _
  fail "stl"
  refine w_eq (teller_made H.A H.R.toPkC d S h2 h8 hw h) ?_
  fail "stl"
  exact ⟨rfl, rfl⟩
theorem saying4 (d : Nat) {ws : List Int} {ss : List (List Int)} {i : Int} (S : Store) (h0 : 0 ≤ i) (h1 : i < ss.length) : (orc P (d + 3)).fn 14 [tel ws ss, .int i] S = .ok .non S := by
  have h14 := H.h14
  refine ok_of_eq ?_
  refine w_fn h14 rfl rfl ?_
  show Go (exs _ _ (_ :: _) _ _) _ _ _ _
  fail "stl"
  refine w_eq (sayings_ok H.A H.R d S rfl) ?_
  fail "stl"
  refine w_eq (is_between_ok H.A d _ _ _ S) ?_
  rw [decide_eq_true h0, decide_eq_true (show i ≤ (ss.length : Int) - 1 by omega)]
  fail "stl"
  refine ⟨fun z => absurd z (by simp), fun _ => ?_⟩
  fail "stl"
  exact ⟨rfl, rfl⟩
theorem may4 (d : Nat) {ws : List Int} {ss : List (List Int)} {c : Nat} (S : Store) (hc : c < ws.length) (hl : ss.length ≤ 1000) : (orc P (d + 4)).fn 67 [tel ws ss, .int c] S = .ok (tI (saidL ss c)) S := by
  have h67 := H.h67
  refine ok_of_eq ?_
  refine w_fn h67 rfl rfl ?_
  show Go (exs _ _ (_ :: _) _ _) _ _ _ _
  fail "stl"
  refine w_eq (case_checked H.A H.R H.h15 d S (by omega) (by omega)) ?_
  fail "stl"
  refine ⟨10, _, rfl, kl, H.R.cl, 37, H.R.m24 rfl, ?_⟩
  fail "stl"
  refine w_eq (said_in_ok H.A H.R (d + 2) S hl) ?_
  fail "stl"
  exact ⟨rfl, rfl⟩
theorem bnd4 (d : Nat) {ws : List Int} {ss : List (List Int)} {s : Nat} (S : Store) (hs : s < ss.length) (hl : ss.length ≤ 1000) (hl2 : ss[s].length ≤ 1000) : (orc P (d + 4)).fn 66 [tel ws ss, .int s] S = .ok (tI (boundL ss ss[s] s)) S := by
  have h66 := H.h66
  refine ok_of_eq ?_
  refine w_fn h66 rfl rfl ?_
  show Go (exs _ _ (_ :: _) _ _) _ _ _ _
  fail "stl"
  refine w_eq (saying4 H d S (by omega) (by omega)) ?_
  fail "stl"
  refine ⟨10, _, rfl, kl, H.R.cl, 35, H.R.m17 rfl, ?_⟩
  fail "stl"
  refine w_eq (bound_in_ok H.A H.R (d + 1) S hs hl hl2) ?_
  fail "stl"
  exact ⟨rfl, rfl⟩
theorem eq4 (d : Nat) {ws vs : List Int} {ss ts : List (List Int)} (S : Store) : (orc P (d + 1)).fn 300 [tel ws ss, tel vs ts] S = .ok (.bl (decide ((ws, ss) = (vs, ts)))) S := by
  have h300 := H.h300
  refine ok_of_eq ?_
  refine w_fn h300 rfl rfl ?_
  show Go (exs _ _ (_ :: _) _ _) _ _ _ _
  fail "stl"
  refine ⟨_, rfl, true, rfl, ?_⟩
  fail "stl"
  refine w_eq (held_ok H.A H.R.toPkC H.R.noP S rfl) ?_
  fail "stl"
  refine w_eq (held_ok H.A H.R.toPkC H.R.noP S rfl) ?_
  fail "stl"
  refine o_eq (Enc.int.tup.pair Enc.int.tup.tup) (by decide) (ws, ss) (vs, ts) _ _ rfl rfl ?_
  fail "stl"
  exact ⟨rfl, rfl⟩
theorem eqo4 (d : Nat) {ws : List Int} {ss : List (List Int)} {y : D} {n : String} (S : Store) (hy : tyN S y = some (.ty n)) : (orc P (d + 1)).fn 300 [tel ws ss, y] S = .ok (.bl false) S := by
  have h300 := H.h300
  refine ok_of_eq ?_
  refine w_fn h300 rfl rfl ?_
  show Go (exs _ _ (_ :: _) _ _) _ _ _ _
  fail "stl"
  refine ⟨_, hy, false, rfl, ?_⟩
  fail "stl"
  exact ⟨rfl, rfl⟩
theorem len4 (d : Nat) {ws : List Int} {ss : List (List Int)} (S : Store) : (orc P (d + 1)).fn 311 [tel ws ss] S = .ok (.int ws.length) S := by
  have h311 := H.h311
  refine ok_of_eq ?_
  refine w_fn h311 rfl rfl ?_
  show Go (exs _ _ (_ :: _) _ _) _ _ _ _
  fail "stl"
  refine w_eq (held_ok H.A H.R.toPkC H.R.noP S rfl) ?_
  fail "stl"
  exact ⟨rfl, rfl⟩
theorem repr4 (d : Nat) {ws : List Int} {ss : List (List Int)} (S : Store) (hl : ss.length ≤ 16) : (orc P (d + 1)).fn 312 [tel ws ss] S = .ok (.str (reprS ss.length)) S := by
  have h312 := H.h312
  refine ok_of_eq ?_
  refine w_fn h312 rfl rfl ?_
  show Go (exs _ _ (_ :: _) _ _) _ _ _ _
  fail "stl"
  refine w_fmI (by rw [sizeLine_eq]; decide) ?_
  fail "stl"
  refine w_eq (held_ok H.A H.R.toPkC H.R.noP S rfl) ?_
  fail "stl"
  have l1 : (numS (ss.length : Int)).length ≤ 8 := numS_len (by omega)
  have n0 : Str.empty.length = 0 := rfl
  have n1 : ("Teller of " : Str).length = 10 := rfl
  have n2 : (" sayings" : Str).length = 8 := rfl
  have hz := sizeLine_eq
  refine o_is (show fmO _ _ _ = some (.str (reprS ss.length)) from ?_) ⟨rfl, rfl⟩
  show (if _ then _ else _) = _
  have e : (((toString (ss.length : Int) : String) : Str)) = numS (ss.length : Int) := rfl
  rw [e, if_pos ⟨log_small (by omega), by rw [strLen_append, n0, n1]; omega, by rw [strLen_append, strLen_append, n0, n1]; omega, by rw [strLen_append, strLen_append, strLen_append, n0, n1, n2]; omega⟩]
  rfl
theorem page4 (d : Nat) {ws : List Int} {ss : List (List Int)} (S : Store) (w8 : ws.length ≤ 8) (wb : ∀ w ∈ ws, 1 ≤ w ∧ w ≤ 1000000) (s16 : ss.length ≤ 16) (sb : ∀ l ∈ ss, l.length ≤ 8 ∧ ∀ c ∈ l, 0 ≤ c ∧ c < 1000) :
    (orc P (d + 1)).fn 308 [castV ws ss] S = .ok (.str (pageT ws ss)) S := by
  have n1 : (" " : Str).length = 1 := rfl
  have n2 : ("," : Str).length = 1 := rfl
  have n3 : (": " : Str).length = 2 := rfl
  have W : ∀ t ∈ ws.map numS, strOk t = true ∧ t.length ≤ 8 := fun t ht => by
    obtain ⟨w, hw, rfl⟩ := List.mem_map.mp ht
    have := wb w hw
    exact ⟨numS_ok _, numS_len (by omega)⟩
  have C : ∀ l ∈ ss, ∀ t ∈ l.map numS, strOk t = true ∧ t.length ≤ 8 := fun l hl t ht => by
    obtain ⟨c, hc, rfl⟩ := List.mem_map.mp ht
    have := (sb l hl).2 c hc
    exact ⟨numS_ok _, numS_len (by omega)⟩
  have T : ∀ t ∈ ss.map (fun l => Txt.join "," (l.map numS)), t.length ≤ 72 := fun t ht => by
    obtain ⟨l, hl, rfl⟩ := List.mem_map.mp ht
    have h1 := len_join_le (a := ",") (ts := l.map numS) (B := 8) fun t ht => (C l hl t ht).2
    have h2 := (sb l hl).1
    rw [List.length_map, n2] at h1
    omega
  have A1 := len_join_le (a := " ") (ts := ws.map numS) (B := 8) fun t ht => (W t ht).2
  have A2 := len_join_le (a := " ") (ts := ss.map (fun l => Txt.join "," (l.map numS))) (B := 72) fun t ht => T t ht
  rw [List.length_map, n1] at A1 A2
  have h308 := H.h308
  refine ok_of_eq ?_
  refine w_fn h308 rfl rfl ?_
  show Go (exs _ _ (_ :: _) _ _) _ _ _ _
  fail "stl"
  refine w_cmap (c := tI) (h := fun l => .str (Txt.join "," (l.map numS))) still_nil (by omega) (fun l hl => ?_) ?_
  · fail "stl"
    refine w_join ?_
    fail "stl"
    refine ⟨_, rfl, ?_⟩
    fail "stl"
    refine w_cmap (h := fun c => .str (numS c)) still_nil (by have := (sb l hl).1; omega) (fun c hc => ?_) ?_
    · fail "stl"
      refine w_sI ?_
      fail "stl"
      have := (sb l hl).2 c hc
      exact ⟨log_small (by omega), rfl, rfl⟩
    fail "stl"
    have h2 := (sb l hl).1
    refine o_join (ts := l.map numS) (B := 8) (by simp [seqOf, seqAt]) (fun t ht => (C l hl t ht).2) (by rw [List.length_map, n2]; omega) ?_
    exact ⟨rfl, rfl⟩
  fail "stl"
  have hz := sizeLine_eq
  refine w_join ?_
  fail "stl"
  refine ⟨_, rfl, ?_⟩
  fail "stl"
  refine w_cmap (h := fun c => .str (numS c)) still_nil (by omega) (fun c hc => ?_) ?_
  · fail "stl"
    refine w_sI ?_
    fail "stl"
    have := wb c hc
    exact ⟨log_small (by omega), rfl, rfl⟩
  fail "stl"
  refine o_join (ts := ws.map numS) (B := 8) (by simp [seqOf, seqAt]) (fun t ht => (W t ht).2) (by rw [List.length_map, n1]; omega) ?_
  fail "stl"
  refine ⟨by rw [n3]; omega, ?_⟩
  fail "stl"
  refine w_join ?_
  fail "stl"
  refine ⟨_, rfl, ?_⟩
  fail "stl"
  refine o_join (ts := ss.map (fun l => Txt.join "," (l.map numS))) (B := 72) (by simp [seqOf, seqAt]) (fun t ht => T t ht) (by rw [List.length_map, n1]; omega) ?_
  fail "stl"
  refine ⟨by rw [strLen_append, n3]; omega, ?_⟩
  fail "stl"
  refine ⟨?_, rfl⟩
  congr 1
  exact ext_tl (by
    unfold pageT
    rw [tl_append, tl_append, tl_append, tl_append, tl_append]
    rfl)
/-- one of a menu -/
theorem of4 (d : Nat) {b n0 : Nat} {xs : List D} {S : Store} {Q : D → Store → Prop} (hB : Bsk S b n0) (h0 : n0 ≤ 1000000) (hx : 0 < xs.length) (hx2 : xs.length ≤ 1000) (q : ∀ x ∈ xs, ∀ S', Kp [b] S S' → Bsk S' b (n0 + 1) → Q x S') : Ok ((orc P (d + 2)).fn 61 [.loc b, .lst xs] S) Q := by
  refine w_fn H.h61 rfl rfl ?_
  show Go (exs _ _ (_ :: _) _ _) _ _ _ _
  fail "stl"
  refine o_len (seqOf_lst _) ?_
  fail "stl"
  refine grab_use H.h9 d hB h0 (by omega) (by omega) fun g S1 g1 k1 b1 => ?_
  fail "stl"
  have gl : g < xs.length := by omega
  refine o_itemL (xs := xs) (d := xs[g]) rfl (by have := atI_map (c := id) (xs := xs) gl rfl; rwa [List.map_id] at this) ?_
  exact q _ (List.getElem_mem gl) S1 k1 b1
/-- a value of a built-in type, whatever comes -/
def OdT (b : Nat) (S : Store) (v : D) : Prop := ∃ n, n ∈ ["NoneType", "bool", "int", "str", "tuple", "list", "dict"] ∧ ∀ S', Kp [b] S S' → tyN S' v = some (.ty n)
theorem odd4 (d : Nat) {b n0 : Nat} {S : Store} (hB : Bsk S b n0) (h0 : n0 ≤ 990000) : Ok ((orc P (d + 3)).fn 309 [.loc b] S) fun v S' => OdT b S' v ∧ Kp [b] S S' ∧ Bsk S' b (n0 + 1) := by
  have hbl := hB.lt
  refine w_fn H.h309 rfl rfl ?_
  show Go (exs _ _ (_ :: _) _ _) _ _ _ _
  fail "stl"
  refine o_pow (k := 1000000000000000000000000000000) (by decide) (by decide) ?_
  fail "stl"
  refine w_dlit ?_
  fail "stl"
  refine ⟨by simp, ?_⟩
  fail "stl"
  have hB2 : Bsk (S ++ [Ob.dct []] ++ [Ob.dct [(0, D.int 1)]]) b n0 := (hB.keep (A := []) .push (by simp)).keep (A := []) .push (by simp)
  refine of4 H d hB2 (by omega) (by simp) (by simp) fun x hx S1 k1 b1 => ?_
  have k0 : Kp [b] S S1 := (Kp.push.trans Kp.push).trans k1
  refine ⟨?_, k0, b1⟩
  have d1 : S1[S.length]? = some (.dct []) := k1.at (by simp) (by simp; omega)
  have d2 : S1[S.length + 1]? = some (.dct [(0, .int 1)]) := k1.at (by simp) (by simp; omega)
  simp only [List.cons_append, List.nil_append, List.mem_cons, List.not_mem_nil, or_false] at hx
  rcases hx with rfl | rfl | rfl | rfl | rfl | rfl | rfl | rfl | rfl | rfl | rfl | rfl | rfl | rfl | rfl | rfl | rfl | rfl | rfl | rfl | rfl | rfl | rfl | rfl | rfl | rfl
  all_goals first
    | exact ⟨"NoneType", by simp, fun _ _ => rfl⟩
    | exact ⟨"bool", by simp, fun _ _ => rfl⟩
    | exact ⟨"int", by simp, fun _ _ => rfl⟩
    | exact ⟨"str", by simp, fun _ _ => rfl⟩
    | exact ⟨"tuple", by simp, fun _ _ => rfl⟩
    | exact ⟨"list", by simp, fun _ _ => rfl⟩
    | skip
  · refine ⟨"dict", by simp, fun S' k => ?_⟩
    have := k.at d1 (by simp; omega)
    simp only [tyN, this]
  · refine ⟨"dict", by simp, fun S' k => ?_⟩
    have e : (S ++ [Ob.dct []]).length = S.length + 1 := by simp
    have := k.at d2 (by simp; omega)
    simp only [tyN, e, this]
/-- a teller with something otherwise -/
theorem changed4 (d : Nat) {b n0 : Nat} {ws : List Int} {ss : List (List Int)} {S : Store} (hB : Bsk S b n0) (h0 : n0 ≤ 990000) (n2 : 2 ≤ ws.length) (n8 : ws.length ≤ 8) (wb : ∀ w ∈ ws, 1 ≤ w ∧ w ≤ 1000000) (G : GoodS ws.length ss) :
    Ok ((orc P (d + 2)).fn 305 [.loc b, castV ws ss] S) fun v S' => ∃ vs ts, v = castV vs ts ∧ 2 ≤ vs.length ∧ vs.length ≤ 8 ∧ (∀ w ∈ vs, 1 ≤ w ∧ w ≤ 1000000) ∧ GoodS vs.length ts ∧ Kp [b] S S' ∧ Bsk S' b (n0 + 1) := by
  obtain ⟨w0, wr, rfl⟩ : ∃ w0 wr, ws = w0 :: wr := by
    cases ws with
    | nil => simp at n2
    | cons a l => exact ⟨a, l, rfl⟩
  obtain ⟨s0, sr, rfl⟩ := List.exists_cons_of_ne_nil G.ne
  refine w_fn H.h305 rfl rfl ?_
  show Go (exs _ _ (_ :: _) _ _) _ _ _ _
  fail "stl"
  refine grab_use H.h9 d hB (by omega) (by decide) (by decide) fun g S1 g1 k1 b1 => ?_
  fail "stl"
  refine c_by (fun z => ?_) (fun z => ?_)
  · fail "stl"
    refine o_itemL (xs := (w0 :: wr).map D.int) (d := .int w0) rfl (by have := atI_map (c := D.int) (xs := w0 :: wr) (i := 0) (by simp) rfl; exact this) ?_
    fail "stl"
    refine o_is (show sliceOf S1 (.tup ((w0 :: wr).map D.int)) (some ((1 : Nat) : Int)) none = some (tI wr) from by rw [slice_from4]; rfl) ?_
    fail "stl"
    have w1 := wb w0 List.mem_cons_self
    refine ⟨by simp at n8 ⊢; omega, ?_⟩
    fail "stl"
    refine ⟨(w0 / 2 + 1) :: wr, s0 :: sr, rfl, n2, n8, fun w hw => ?_, G, k1, b1⟩
    rcases List.mem_cons.mp hw with rfl | q
    · omega
    · exact wb w (List.mem_cons_of_mem _ q)
  · fail "stl"
    refine c_by (fun z1 => ?_) (fun z1 => ?_)
    · fail "stl"
      refine c_by (fun z2 => ?_) (fun z2 => ?_)
      · fail "stl"
        refine o_itemL (xs := (s0 :: sr).map tI) (d := tI s0) rfl (by have := atI_map (c := tI) (xs := s0 :: sr) (i := 0) (by simp) rfl; exact this) ?_
        fail "stl"
        have gl := G.le
        refine ⟨by rw [List.length_map]; simp at gl ⊢; omega, ?_⟩
        fail "stl"

        exact ⟨w0 :: wr, (s0 :: sr) ++ [s0], by simp [castV], n2, n8, wb, G.more List.mem_cons_self (by omega), k1, b1⟩
      · fail "stl"
        exact ⟨w0 :: wr, (s0 :: sr).reverse, by simp [castV], n2, n8, wb, G.rev, k1, b1⟩
    · fail "stl"
      exact ⟨w0 :: wr, (s0 :: sr).reverse, by simp [castV], n2, n8, wb, G.rev, k1, b1⟩
theorem loop0 (d : Nat) {y0 y1 y4 y5 y6 y7 y8 y9 y10 y11 : Option D} {ws : List Int} {ss : List (List Int)} {S : Store} (n8 : ws.length ≤ 8) (sl : ss.length ≤ 16) :
    Go (ex P (orc P (d + 13)) f304_law_right_l0 ⟨[y0, y1, some (castV ws ss), some (tel ws ss), y4, y5, y6, y7, y8, y9, y10, y11], []⟩ S) (fun f1 S1 => ∃ y7, f1 = ⟨[y0, y1, some (castV ws ss), some (tel ws ss), y4, y5, y6, y7, y8, y9, y10, y11], []⟩ ∧ S1 = S) noD noF noF := by
  refine w_fors ?_
  fail "stl"
  refine o_rng (n := ws.length) rfl (by omega) ?_
  refine w_for0 (fun done f S' => ∃ y7, f = ⟨[y0, y1, some (castV ws ss), some (tel ws ss), y4, y5, y6, y7, y8, y9, y10, y11], []⟩ ∧ S' = S) ⟨_, rfl, rfl⟩ (fun done c left f S' e hi => ?_) (fun f S' hi => ?_)
  · obtain ⟨y7, rfl, rfl⟩ := hi
    have hc := range_at e
    fail "stl"
    have hs := said_bd ss c sl
    have hb2 : BD 2 6000 (.lst [tI (saidL ss c), tI (saidL ss c)]) := (BD.lst (k := 1) (w := 2900) fun x hx => by
      simp only [List.mem_cons, List.not_mem_nil, or_false, or_self] at hx
      subst hx
      exact BD.lot hs.2 hs.1).up (by decide) (by simp)
    refine ⟨10, _, rfl, kl, H.R.cl, 67, H.m64, ?_⟩
    fail "stl"
    refine w_eq (may4 H (d + 9) S' (by omega) (by omega)) ?_
    fail "stl"
    refine w_mthK ?_
    fail "stl"
    refine ⟨10, _, kl, rfl, H.R.cl, H.m64, ?_⟩
    fail "stl"
    refine w_eq (may4 H (d + 9) S' (by omega) (by omega)) ?_
    fail "stl"
    refine o_reprB hb2 (by decide) (by decide) (fun _ h => by cases h) fun t ht hok => ?_
    fail "stl"
    refine w_eq (said_ok H.h22 (d + 12) (by omega)) ?_
    fail "stl"
    refine o_is (mulL2 _) ?_
    fail "stl"
    refine o_reprB hb2 (by decide) (by decide) (fun _ h => by cases h) fun t' ht' hok' => ?_
    obtain rfl : t' = t := Option.some.inj (ht'.symm.trans ht)
    fail "stl"
    refine o_neS hok hok ?_
    refine c_nt rfl ?_
    fail "stl"
    exact ⟨_, rfl, rfl⟩
  · exact hi
theorem loop1 (d : Nat) {y0 y1 y4 y5 y6 y7 y8 y9 y10 y11 : Option D} {ws : List Int} {ss : List (List Int)} {S : Store} (sl : ss.length ≤ 16) (sb : ∀ l ∈ ss, l.length ≤ 8 ∧ ∀ c ∈ l, 0 ≤ c ∧ c < 1000) :
    Go (ex P (orc P (d + 13)) f304_law_right_l1 ⟨[y0, y1, some (castV ws ss), some (tel ws ss), y4, y5, y6, y7, y8, y9, y10, y11], []⟩ S) (fun f1 S1 => ∃ y8, f1 = ⟨[y0, y1, some (castV ws ss), some (tel ws ss), y4, y5, y6, y7, y8, y9, y10, y11], []⟩ ∧ S1 = S) noD noF noF := by
  refine w_fors ?_
  fail "stl"
  refine o_rng (n := ss.length) rfl (by omega) ?_
  refine w_for0 (fun done f S' => ∃ y8, f = ⟨[y0, y1, some (castV ws ss), some (tel ws ss), y4, y5, y6, y7, y8, y9, y10, y11], []⟩ ∧ S' = S) ⟨_, rfl, rfl⟩ (fun done c left f S' e hi => ?_) (fun f S' hi => ?_)
  · obtain ⟨y8, rfl, rfl⟩ := hi
    have hc := range_at e
    fail "stl"
    have hb8 := (sb _ (List.getElem_mem (show c < ss.length by omega))).1
    have hs := bound_bd (ss := ss) (c := c) (sb _ (List.getElem_mem (show c < ss.length by omega)))
    have hb2 : BD 2 6000 (.lst [tI (boundL ss ss[c] c), tI (boundL ss ss[c] c)]) := (BD.lst (k := 1) (w := 2900) fun x hx => by
      simp only [List.mem_cons, List.not_mem_nil, or_false, or_self] at hx
      subst hx
      exact BD.lot hs.2 hs.1).up (by decide) (by simp)
    refine ⟨10, _, rfl, kl, H.R.cl, 66, H.m63, ?_⟩
    fail "stl"
    refine w_eq (bnd4 H (d + 9) S' (by omega) (by omega) (by omega)) ?_
    fail "stl"
    refine w_mthK ?_
    fail "stl"
    refine ⟨10, _, kl, rfl, H.R.cl, H.m63, ?_⟩
    fail "stl"
    refine w_eq (bnd4 H (d + 9) S' (by omega) (by omega) (by omega)) ?_
    fail "stl"
    refine o_reprB hb2 (by decide) (by decide) (fun _ h => by cases h) fun t ht hok => ?_
    fail "stl"
    refine w_eq (bound_ok H.h11 H.h22 (d + 11) (by omega) (by omega) (by omega)) ?_
    fail "stl"
    refine o_is (mulL2 _) ?_
    fail "stl"
    refine o_reprB hb2 (by decide) (by decide) (fun _ h => by cases h) fun t' ht' hok' => ?_
    obtain rfl : t' = t := Option.some.inj (ht'.symm.trans ht)
    fail "stl"
    refine o_neS hok hok ?_
    refine c_nt rfl ?_
    fail "stl"
    exact ⟨_, rfl, rfl⟩
  · exact hi
theorem right4_ok (d : Nat) {b : Nat} {S : Store} (hB : Bsk S b 0) : Ok ((orc P (d + 14)).fn 304 [.loc b] S) fun v _ => v = .bl true := by
  refine w_fn H.h304 rfl rfl ?_
  show Go (exs _ _ (_ :: _) _ _) _ _ _ _
  fail "stl"
  refine w_fors ?_
  fail "stl"
  refine o_rng (n := 3) rfl (by omega) ?_
  refine w_for0 (fun done f S' => ∃ x1 x2 x3 x4 x5 x6 x7 x8 x9 x10 x11 : Option D, f = ⟨[some (.loc b), x1, x2, x3, x4, x5, x6, x7, x8, x9, x10, x11], []⟩ ∧ Bsk S' b (1000 * done.length)) ⟨_, _, _, _, _, _, _, _, _, _, _, rfl, hB⟩ (fun done r left f S' e hi => ?_) (fun f S' hi => ?_)
  · obtain ⟨x1, x2, x3, x4, x5, x6, x7, x8, x9, x10, x11, rfl, bb⟩ := hi
    have hr := range_at e
    fail "stl"
    refine (cast_ok H.h3 H.h9 (d + 11) (mc := 8) (mw := 16) (by decide) (by decide) (by decide) (by decide) bb (by omega)).imp ?_
    rintro _ S1 ⟨ws, ss, rfl, n2, n8, wb, G, sl, k1, b1⟩
    have sb : ∀ l ∈ ss, l.length ≤ 8 ∧ ∀ c ∈ l, 0 ≤ c ∧ c < 1000 := fun l hl => by
      obtain ⟨g1, g2, g3, g4⟩ := G.each l hl
      have : l.length ≤ ws.length := nodup_len (lt_nodup g2) g3
      exact ⟨by omega, fun c hc => by have := g3 c hc; omega⟩
    fail "stl"
    refine w_eq (made4 H (d + 6) n2 n8 wb G) ?_
    fail "stl"
    refine (changed4 H (d + 11) b1 (by omega) n2 n8 wb G).imp ?_
    rintro _ S2 ⟨vs, ts, rfl, m2, m8, vb, F, k2, b2⟩
    have tb : ∀ l ∈ ts, l.length ≤ 8 ∧ ∀ c ∈ l, 0 ≤ c ∧ c < 1000 := fun l hl => by
      obtain ⟨g1, g2, g3, g4⟩ := F.each l hl
      have : l.length ≤ vs.length := nodup_len (lt_nodup g2) g3
      exact ⟨by omega, fun c hc => by have := g3 c hc; omega⟩
    fail "stl"
    refine w_eq (weights_ok H.A H.R (d + 11) _ rfl) ?_
    fail "stl"
    refine w_eq (sayings_ok H.A H.R (d + 11) _ rfl) ?_
    fail "stl"
    refine w_lnO ?_
    fail "stl"
    refine ⟨10, _, kl, 311, rfl, H.R.cl, H.m306, ?_⟩
    show Ok ((orc P (d + 11)).fn 311 [tel ws ss] S2) _
    refine w_eq (len4 H (d + 10) _) ?_
    refine w_dun0 (by omega) (by omega) ?_
    fail "stl"
    refine w_sX ?_
    fail "stl"
    refine ⟨10, _, rfl, kl, H.R.cl, 198, H.m177, ?_⟩
    show Ok ((orc P (d + 11)).fn 198 [tel ws ss] S2) _
    refine (text_is H.A H.R H.h198 (d + 10) _ n8 wb sl sb).imp ?_
    rintro _ Sx ⟨rfl, rfl, t1, t2⟩
    refine ⟨_, rfl, ?_⟩
    fail "stl"
    refine w_lnO ?_
    fail "stl"
    refine ⟨10, _, kl, 312, rfl, H.R.cl, H.m307, ?_⟩
    show Ok ((orc P (d + 11)).fn 312 [tel ws ss] _) _
    refine w_eq (repr4 H (d + 10) _ sl) ?_
    refine w_dun1 ?_
    fail "stl"
    refine w_lnO ?_
    fail "stl"
    refine ⟨10, _, kl, 311, rfl, H.R.cl, H.m306, ?_⟩
    show Ok ((orc P (d + 11)).fn 311 [tel ws ss] _) _
    refine w_eq (len4 H (d + 10) _) ?_
    refine w_dun2 (by omega) (by omega) ?_
    fail "stl"
    refine w_eq (page4 H (d + 12) _ n8 wb sl sb) ?_
    fail "stl"
    refine w_sI ?_
    fail "stl"
    have hz := sizeLine_eq
    have p1 : ("Teller of " : Str).length = 10 := rfl
    have p2 : (" sayings" : Str).length = 8 := rfl
    have p3 : (numS (ss.length : Int)).length ≤ 8 := numS_len (by omega)
    have p4 : Str.ofString (toString (ss.length : Int)) = numS (ss.length : Int) := rfl
    refine ⟨log_small (by omega), ?_⟩
    fail "stl"
    refine ⟨by rw [p4]; omega, ?_⟩
    fail "stl"
    refine ⟨by rw [p4, strLen_append]; omega, ?_⟩
    fail "stl"
    rw [show ("Teller of " : Str) ++ Str.ofString (toString (ss.length : Int)) ++ (" sayings" : Str) = reprS ss.length from repr_same _]
    have dueB := due_bd (ws := ws) (ss := ss) n8 wb sl sb t1 t2
    refine o_reprB dueB (by decide) (by decide) (fun _ h => by cases h) fun t ht hok => ?_
    fail "stl"
    refine o_reprB dueB (by decide) (by decide) (fun _ h => by cases h) fun t' ht' hok' => ?_
    obtain rfl : t' = t := Option.some.inj (ht'.symm.trans ht)
    fail "stl"
    refine o_neS hok hok ?_
    refine c_nt rfl ?_
    fail "stl"
    refine w_use (loop0 H d n8 sl) ?_
    rintro f3 S3 ⟨x7', rfl, rfl⟩
    fail "stl"
    refine w_use (loop1 H d sl sb) ?_
    rintro f3 S3 ⟨x8', rfl, rfl⟩
    fail "stl"
    refine w_eq (made4 H (d + 6) m2 m8 vb F) ?_
    fail "stl"
    refine (odd4 H (d + 10) b2 (by omega)).imp ?_
    rintro v S4 ⟨⟨tn, tnm, hty⟩, k4, b4⟩
    have hv := hty S4 Kp.refl
    fail "stl"
    refine w_eq (page4 H (d + 12) _ m8 vb F.le tb) ?_
    fail "stl"
    refine w_eq (page4 H (d + 12) _ n8 wb sl sb) ?_
    fail "stl"
    refine o_eqS (pageT_ok _ _) (pageT_ok _ _) ?_
    have same : decide (pageT vs ts = pageT ws ss) = decide ((ws, ss) = (vs, ts)) := page_same (by omega) n2 m2 wb vb G F
    rw [same]
    fail "stl"
    clear dueB ht' ht hok' hok p1 p2 p3 p4 k1 b1 t'
    have v1 : eqArg S4 10 v = true := by
      unfold eqArg
      rw [hv]
      exact decide_eq_true tnm
    refine w_oeqV ?_
    fail "stl"
    refine w_eq (made4 H (d + 6) n2 n8 wb G) ?_
    fail "stl"
    refine ⟨10, _, kl, 300, rfl, rfl, H.R.cl, H.m297, ?_⟩
    show Ok ((orc P (d + 11)).fn 300 [tel ws ss, tel ws ss] S4) _
    refine w_eq (eq4 H (d + 10) _) ?_
    refine ⟨true, by simp, ?_⟩
    fail "stl"
    refine w_oeqV ?_
    fail "stl"
    refine w_eq (made4 H (d + 6) n2 n8 wb G) ?_
    fail "stl"
    refine ⟨10, _, kl, 300, rfl, rfl, H.R.cl, H.m297, ?_⟩
    show Ok ((orc P (d + 11)).fn 300 [tel ws ss, tel ws ss] S4) _
    refine w_eq (eq4 H (d + 10) _) ?_
    refine ⟨true, by simp, ?_⟩
    fail "stl"
    refine w_oeqV ?_
    fail "stl"
    refine ⟨10, _, kl, 300, rfl, rfl, H.R.cl, H.m297, ?_⟩
    show Ok ((orc P (d + 11)).fn 300 [tel ws ss, tel vs ts] S4) _
    refine w_eq (eq4 H (d + 10) _) ?_
    refine ⟨_, rfl, ?_⟩
    fail "stl"
    refine w_oeqV ?_
    fail "stl"
    refine ⟨10, _, kl, 300, rfl, rfl, H.R.cl, H.m297, ?_⟩
    show Ok ((orc P (d + 11)).fn 300 [tel vs ts, tel ws ss] S4) _
    refine w_eq (eq4 H (d + 10) _) ?_
    refine ⟨decide ((ws, ss) = (vs, ts)), by rw [decide_eq_decide.mpr (eq_comm (a := (vs, ts)) (b := (ws, ss)))], ?_⟩
    fail "stl"
    refine w_oeqV ?_
    fail "stl"
    refine ⟨10, _, kl, 300, rfl, v1, H.R.cl, H.m297, ?_⟩
    show Ok ((orc P (d + 11)).fn 300 [tel ws ss, v] S4) _
    refine w_eq (eqo4 H (d + 10) _ hv) ?_
    refine ⟨_, rfl, ?_⟩
    fail "stl"
    refine w_oeqV ?_
    fail "stl"
    refine w_sX ?_
    fail "stl"
    refine ⟨10, _, rfl, kl, H.R.cl, 198, H.m177, ?_⟩
    show Ok ((orc P (d + 11)).fn 198 [tel ws ss] S4) _
    refine (text_is H.A H.R H.h198 (d + 10) _ n8 wb sl sb).imp ?_
    rintro _ Sx ⟨rfl, rfl, _, _⟩
    refine ⟨_, rfl, ?_⟩
    refine ⟨10, _, kl, 300, rfl, rfl, H.R.cl, H.m297, ?_⟩
    show Ok ((orc P (d + 11)).fn 300 [tel ws ss, .str (pageT ws ss)] Sx) _
    refine w_eq (eqo4 (n := "str") H (d + 10) _ rfl) ?_
    refine ⟨false, rfl, ?_⟩
    fail "stl"
    refine ⟨by simp, ?_⟩
    fail "stl"
    generalize decide ((ws, ss) = (vs, ts)) = q
    have bdl : BD 1 900 (.lst [.bl true, .bl false, .bl q, .bl (!q), .bl false, .bl false]) := (BD.lst (k := 0) (w := 140) fun x hx => by
      simp only [List.mem_cons, List.not_mem_nil, or_false] at hx
      rcases hx with rfl | rfl | rfl | rfl | rfl | rfl
      all_goals exact BD.bl _).up (by decide) (by simp)
    refine o_reprB (d := .lst [.bl true, .bl false, .bl q, .bl (!q), .bl false, .bl false]) bdl (by decide) (by decide) (fun _ h => by cases h) fun t ht hok => ?_
    fail "stl"
    refine o_reprB (d := .lst [.bl true, .bl false, .bl q, .bl (!q), .bl false, .bl false]) bdl (by decide) (by decide) (fun _ h => by cases h) fun t' ht' hok' => ?_
    obtain rfl : t' = t := Option.some.inj (ht'.symm.trans ht)
    fail "stl"
    refine o_neS hok hok ?_
    refine c_nt rfl ?_
    fail "stl"
    exact ⟨_, _, _, _, _, _, _, _, _, _, _, rfl, (b4.mono (by simp; omega))⟩
  · obtain ⟨x1, x2, x3, x4, x5, x6, x7, x8, x9, x10, x11, rfl, bb⟩ := hi
    fail "stl"
    rfl
theorem law4_ok (d : Nat) {ns : List Int} (hl : ns.length ≤ 63) (hb : ∀ z ∈ ns, Builtin.Int.intBits z ≤ 1048576) : ∃ S', (orc P (d + 15)).fn 310 [.frz (ns.map .int)] [] = .ok (.bl true) S' := by
  have key : Ok ((orc P (d + 15)).fn 310 [.frz (ns.map .int)] []) fun v _ => v = .bl true := by
    refine w_fn H.h310 rfl rfl ?_
    show Go (exs _ _ (_ :: _) _ _) _ _ _ _
    fail "stl"
    refine o_len (seqOf_frz _) ?_
    fail "stl"
    rw [List.length_map]
    generalize hk : (if (if (6 : Int) < (ns.length : Int) then (6 : Int) else ns.length) > 2 then (if (6 : Int) < (ns.length : Int) then (6 : Int) else ns.length) else 2) = k
    have k0 : 0 ≤ k ∧ k ≤ 6 := by
      rw [← hk]
      repeat' split
      all_goals omega
    refine o_rng (n := k.toNat) (by omega) (by omega) ?_
    refine w_compI (fun dn acc S2 => acc = dn.map fun _ => D.bl true) (by simp; omega) rfl (fun dn i lf acc S2 e2 h2 => ⟨still_nil, ?_⟩) (fun acc S2 h2 => ⟨still_nil, ?_⟩)
    · subst h2
      have hd := range_at e2
      fail "stl"
      refine (basket_ok H.h2 (d + 13) hl hb (i := i) (by omega)).imp ?_
      rintro _ S3 ⟨b, rfl, hb1, hb2, hb3⟩
      fail "stl"
      refine (right4_ok H d hb3).imp ?_
      rintro _ S4 rfl
      fail "stl"
      simp
    · subst h2
      fail "stl"
      simp
  obtain ⟨v, S', e, rfl⟩ := ok_iff.mp key
  exact ⟨S', e⟩
end
end
end Th
namespace K04
open Th PySem
def names : List (Nat × Str) := (List.append [(2, "_law_basket"), (3, "_law_cast"), (4, "_law_made"), (9, "_law_grab"), (10, "Teller"), (11, "_law_bound"), (14, "check_saying"), (15, "check_case"), (16, "sayings"), (17, "bound_in"), (18, "weights"), (19, "check_weights"), (20, "check_sayings"), (21, "held"), (22, "_law_said"), (23, "is_between"), (24, "said_in"), (25, "LEAST_CASES"), (26, "MOST_CASES"), (27, "MOST_WEIGHT"), (28, "MOST_SAYINGS"), (29, "is_lot"), (30, "is_integer"), (31, "is_ascending"), (61, "_law_of"), (63, "bound_to"), (64, "may_say"), (83, "WHOLE"), (177, "__str__"), (297, "__eq__")] [(304, "_law_right"), (305, "_law_changed"), (306, "__len__"), (307, "__repr__"), (308, "_law_page"), (309, "_law_odd"), (310, "law")])
def st : Stat := { nm := fun k => (names.lookup k).getD "", fnl := (List.append [(310, f310_law), (304, f304_law_right), (2, f2_law_basket), (3, f3_law_cast), (4, f4_law_made), (305, f305_law_changed), (36, f36_Teller_weights), (34, f34_Teller_sayings), (311, f311_Teller__len), (198, f198_Teller__str), (312, f312_Teller__repr), (308, f308_law_page), (67, f67_Teller_may_say), (22, f22_law_said), (66, f66_Teller_bound_to), (11, f11_law_bound), (309, f309_law_odd), (300, f300_Teller__eq), (9, f9_law_grab), (33, f33_Teller__init), (15, f15_check_case), (37, f37_Teller_said_in), (14, f14_check_saying), (35, f35_Teller_bound_in), (61, f61_law_of), (19, f19_check_weights), (20, f20_check_sayings), (23, f23_is_between), (29, f29_is_lot), (30, f30_is_integer)] [(31, f31_is_ascending)]), cll := [(10, ⟨33, [21], [(306, 311), (177, 198), (307, 312), (64, 67), (63, 66), (297, 300), (24, 37), (17, 35)], [(18, 36), (16, 34)]⟩)], col := [(25, .int 2), (26, .int 8), (28, .int 16), (27, .int 1000000)], fns := (List.append [⟨310, .top, ["_law_script", "_law_at"], ["_law_script"]⟩,
  ⟨304, .top, ["_law_basket_here", "_law_lap", "_law_cast_here", "_law_mine", "_law_fresh", "_law_told", "_law_due", "_law_c", "_law_s", "_law_mate", "_law_strange", "_law_is_same"], ["_law_basket_here"]⟩,
  ⟨2, .top, ["_law_script", "_law_at", "_law_mixed", "_law_cell", "_law_own"], ["_law_script", "_law_at"]⟩,
  ⟨3, .top, ["_law_basket_here", "_law_most_cases", "_law_most_words", "_law_n", "_law_m", "_law_form", "_law_heaps", "_law_k", "_law_found", "_law_c", "_law_each", "_law_words"], ["_law_basket_here", "_law_most_cases", "_law_most_words"]⟩,
  ⟨4, .top, ["_law_cast_here"], ["_law_cast_here"]⟩,
  ⟨305, .top, ["_law_basket_here", "_law_cast_here", "_law_heaps", "_law_words", "_law_form"], ["_law_basket_here", "_law_cast_here"]⟩,
  ⟨36, .prop 10 18, ["self"], ["self"]⟩,
  ⟨34, .prop 10 16, ["self"], ["self"]⟩,
  ⟨311, .meth 10 306, ["self"], ["self"]⟩,
  ⟨198, .meth 10 177, ["self", "weights", "sayings", "words", "cases", "case", "weight"], ["self"]⟩,
  ⟨312, .meth 10 307, ["self"], ["self"]⟩,
  ⟨308, .top, ["_law_cast_here", "_law_tails", "_law_word", "_law_c", "_law_heap"], ["_law_cast_here"]⟩,
  ⟨67, .meth 10 64, ["self", "case"], ["self", "case"]⟩,
  ⟨22, .top, ["_law_cast_here", "_law_c", "_law_s"], ["_law_cast_here", "_law_c"]⟩,
  ⟨66, .meth 10 63, ["self", "saying"], ["self", "saying"]⟩,
  ⟨11, .top, ["_law_cast_here", "_law_s", "_law_c"], ["_law_cast_here", "_law_s"]⟩,
  ⟨309, .top, ["_law_basket_here", "_law_some"], ["_law_basket_here"]⟩,
  ⟨300, .meth 10 297, ["self", "other"], ["self", "other"]⟩,
  ⟨9, .top, ["_law_basket_here", "_law_most", "_law_figure", "_law_mixed"], ["_law_basket_here", "_law_most"]⟩,
  ⟨33, .init 10, ["self", "weights", "sayings"], ["self", "weights", "sayings"]⟩,
  ⟨15, .top, ["teller", "value"], ["teller", "value"]⟩,
  ⟨37, .meth 10 24, ["self", "case", "index", "cases"], ["self", "case"]⟩,
  ⟨14, .top, ["teller", "value"], ["teller", "value"]⟩,
  ⟨35, .meth 10 17, ["self", "saying", "case"], ["self", "saying"]⟩,
  ⟨61, .top, ["_law_basket_here", "_law_menu"], ["_law_basket_here", "_law_menu"]⟩,
  ⟨19, .top, ["values", "index", "value"], ["values"]⟩,
  ⟨20, .top, ["values", "many", "index", "value", "case"], ["values", "many"]⟩,
  ⟨23, .top, ["value", "low", "high"], ["value", "low", "high"]⟩,
  ⟨29, .top, ["value", "many", "case"], ["value", "many"]⟩,
  ⟨30, .top, ["value"], ["value"]⟩] [⟨31, .top, ["values", "index"], ["values"]⟩]), fls := [21] }
theorem math : ∀ ns : List Int, ns.length ≤ 63 → (∀ z ∈ ns, Builtin.Int.intBits z ≤ 1048576) → ∃ S', (orc st.P 40).fn 310 [.frz (ns.map .int)] [] = .ok (.bl true) S' := by
  intro ns hl hb
  have A : PkA st.P 0 := ⟨rfl, rfl, rfl, rfl, rfl, rfl, rfl, fun h => absurd h (by decide), fun h => absurd h (by decide), rfl, rfl, rfl, rfl⟩
  have R : PkR st.P ⟨33, [21], [(306, 311), (177, 198), (307, 312), (64, 67), (63, 66), (297, 300), (24, 37), (17, 35)], [(18, 36), (16, 34)]⟩ := ⟨⟨rfl, rfl, rfl⟩, rfl, rfl, rfl, fun _ => rfl, fun _ => rfl, rfl, fun _ => rfl, rfl, fun _ => rfl⟩
  have H : H04 st.P ⟨33, [21], [(306, 311), (177, 198), (307, 312), (64, 67), (63, 66), (297, 300), (24, 37), (17, 35)], [(18, 36), (16, 34)]⟩ := ⟨A, R, rfl, rfl, rfl, rfl, rfl, rfl, rfl, rfl, rfl, rfl, rfl, rfl, rfl, rfl, rfl, rfl, rfl, rfl, rfl, rfl, rfl, rfl, rfl, rfl, rfl, rfl⟩
  exact law4_ok H 25 hl hb
end K04
open PySem PySem.W PyProof.Rows
set_option maxHeartbeats 0 in
theorem PySem.Challenge.cw_tellerhabits_k04_whole_sayings_of_cases_holds : PySem.Challenge.rw_tellerhabits_k04_whole_sayings_of_cases.Holds := by
  w_on; o_law; k_head; (case hw => w_witness2)
  k_fill
  refine Th.walk_G (l := PySem.Challenge.rw_tellerhabits_k04_whole_sayings_of_cases) (k := 42) (x := "_law_script") rfl rfl ⟨⟨rfl, by decide, by decide⟩, rfl⟩ (fun w h Y => PySem.W.kIn_of Y) ?F
  case F =>
    intro w mg fa h KX G hmg
    exact Th.law_fn (st := K04.st) (e := ⟨310, .top, ["_law_script", "_law_at"], ["_law_script"]⟩) 39 KX G (by kernel_rfl) (List.Mem.head _) rfl rfl hmg K04.math
