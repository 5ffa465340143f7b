import PyProof.Rows.All
import HandS.ForMost
import HandS.ForExc
import HandS.Zip
import HandS.Flow
import HandS.TupAny
import HandS.TupMul
import HandS.Deep
import HandS.Slots
import HandS.SlotsOwn
import HandS.Wide
import HandS.Conv
import HandS.SortInts
import HandS.More
import HandS.Style
import HandS.Defaults
import HandS.CallSlots
import HandS.IsInst
import HandS.TryMany
import HandS.Flt
import HandS.Star
import HandS.Small
import KE.GoesEnum
import HandS.Words
import HandS.WordsExc
import KE.DataMinMax
import HandS.SortKw
import KE.KExcSuper
import KE.KExcInit
import HandS.ExcValue
import HandS.ExcInit
import HandS.ExcField
import HandS.ExcOwn
import HandS.WideBits
import KE.KStateDown
import HandS.Head0
import HandS.Head1
import HandS.Head2
import HandS.HeadEnd
import HandS.HeadHook1
import HandS.HeadHook2
import HandS.HeadHook4
import PySem.Challenge.RW_wholebyparts_k25_whole_first_words_and_c
section
set_option linter.all false
/-! Ev: a small evaluator over deep values (own work). -/
namespace Ev
open PySem

/-- deep values that never change -/
inductive G where
  | non | bl (b : Bool) | int (i : Int) | str (s : Str)
  | tup (xs : List G) | lst (xs : List G) | dct (ks vs : List G)
  | scr (xs : List G)
  | ins (c : Nat) (fs : List G) | cls (i : Nat) | fn (i : Nat)
  deriving Inhabited

/-- a slot of a frame: `obj` owns a list or a dict that may change, `len` one that the caller owns,
`lfz` one of the caller's that will not change any more, `lck` one that is being walked, `slf` a new instance in its __init__ -/
inductive S where
  | non | val (g : G) | obj (g : G) | len (g : G) | lfz (g : G) | lck (l : Bool) (g : G) | slf (c : Nat)
  deriving Inhabited

abbrev Env := List S

/-- what an expression gives: a value, a new object that nothing else holds, the object of a slot -/
inductive D where
  | g (x : G) | own (x : G) | sl (i : Nat)

def isSl : D → Bool
  | .sl _ => true
  | _ => false
inductive R (α : Type) where
  | ok (a : α) (e : Env) | exn (c : Nat) (p : List G) (e : Env) | bad

def R.bind {α β : Type} : R α → (α → Env → R β) → R β
  | .ok a e, k => k a e
  | .exn c p e, _ => .exn c p e
  | .bad, _ => .bad

def ofO {α : Type} (o : Option α) (e : Env) : R α := match o with | some a => .ok a e | none => .bad

/-! ### values -/
mutual
def G.py : G → Option PyData
  | .non => some .none
  | .bl b => some (.bool b)
  | .int i => some (.int i)
  | .str s => some (.str s)
  | .tup xs => match G.pys xs with | some ds => some (.tuple ds) | none => none
  | .lst xs => match G.pys xs with | some ds => some (.list ds) | none => none
  | _ => none
def G.pys : List G → Option (List PyData)
  | [] => some []
  | x :: xs => match G.py x, G.pys xs with
    | some d, some ds => some (d :: ds)
    | _, _ => none
end

/-- == of data -/
def pyEq (a b : G) : Option Bool :=
  match a.py, b.py with
  | some x, some y => if SeqAt.shaped x && SeqAt.shaped y then some (PyData.eqv x y) else none
  | _, _ => none

def truth : G → Option Bool
  | .non => some false
  | .bl b => some b
  | .int i => some (i != 0)
  | .tup xs => some (!xs.isEmpty)
  | .lst xs => some (!xs.isEmpty)
  | _ => none

/-- keys of the dicts that are served: ints and texts -/
def keyB : G → G → Bool
  | .int i, .int j => i == j
  | .str a, .str b => decide (a = b)
  | _, _ => false
def isKey : G → Bool
  | .int _ => true | .str _ => true | _ => false
def findK (k : G) : List G → List G → Option G
  | x :: xs, v :: vs => if keyB x k then some v else findK k xs vs
  | _, _ => none
def setK (k v : G) : List G → List G → List G
  | x :: xs, u :: us => (if keyB x k then v else u) :: setK k v xs us
  | _, us => us
def putK (k v : G) (ks vs : List G) : List G × List G :=
  if ks.any fun x => keyB x k then (ks, setK k v ks vs) else (ks ++ [k], vs ++ [v])

def seqOf : G → Option (List G)
  | .tup xs => some xs
  | .lst xs => some xs
  | _ => none

def atIx (xs : List G) (i : Int) : Option G := L2.atI xs i

/-- two-place operators -/
inductive B2 where
  | add | sub | mul | mod | fdiv | pow | eq | ne | lt | le | gt | ge | is_ | isnot | in_ | notin | idx
  deriving DecidableEq

def big : Nat := 2 ^ 4096
def smallMul (i j : Int) : Bool := (decide (-18446744073709551616 < i) && decide (i < 18446744073709551616)) || (decide (-18446744073709551616 < j) && decide (j < 18446744073709551616)) || (decide (i.natAbs < big) && decide (j.natAbs < big))

def flatG : G → Bool
  | .non => true | .bl _ => true | .int _ => true | .str _ => true | _ => false
def eqF : G → G → Bool
  | .non, .non => true
  | .bl a, .bl b => a == b
  | .bl a, .int b => (if a then 1 else 0) == b
  | .int a, .bl b => a == (if b then 1 else 0)
  | .int a, .int b => a == b
  | .str a, .str b => a == b
  | _, _ => false
/-- in a row of data -/
def inDeep (x : G) (xs : List G) : Option Bool := match x.py, G.pys xs with
  | some d, some ds => if SeqAt.shaped d && SeqAt.shaped (.list ds) then some (ds.any fun z => PyData.eqv z d) else none
  | _, _ => none
def inSeq (x : G) (xs : List G) : Option Bool := if flatG x && xs.all flatG then some (xs.any fun y => eqF y x) else inDeep x xs
def isNon : G → Bool
  | .non => true | _ => false

def intsOf : List G → Option (List Int)
  | [] => some []
  | .int i :: r => match intsOf r with | some is => some (i :: is) | none => none
  | _ :: _ => none
/-- tuples of ints in order -/
def ltT (xs ys : List G) : Option D := match intsOf xs, intsOf ys with
  | some a, some b => some (.g (.bl (HT.lexLt a b)))
  | _, _ => none
def b2 : B2 → G → G → Option D
  | .add, .int i, .int j => some (.g (.int (i + j)))
  | .add, .tup xs, .tup ys => if xs.length + ys.length ≤ 100000 then some (.g (.tup (xs ++ ys))) else none
  | .add, .lst xs, .lst ys => if xs.length + ys.length ≤ 100000 then some (.own (.lst (xs ++ ys))) else none
  | .add, .str a, .str b => if a.length + b.length ≤ 100000 then some (.g (.str (a ++ b))) else none
  | .sub, .int i, .int j => some (.g (.int (i - j)))
  | .mul, .int i, .int j => if smallMul i j then some (.g (.int (i * j))) else none
  | .mul, .tup [], .int k => if decide (2 ≤ k) && decide (k ≤ 1000) then some (.g (.tup [])) else none
  | .mul, .tup xs, .int k => if decide (1 ≤ xs.length) && decide (xs.length ≤ 1000) && decide (2 ≤ k) && decide (k ≤ 1000) then some (.g (.tup (List.replicate k.toNat xs).flatten)) else none
  | .mod, .int i, .int j => if decide (0 < j) then some (.g (.int (i % j))) else none
  | .fdiv, .int i, .int j => if decide (0 < j) && (decide (j < 1073741824) || decide (j.natAbs < big)) then some (.g (.int (i / j))) else none
  | .pow, .int i, .int j => if decide (0 ≤ j) && decide (j ≤ 1000) && decide (i.natAbs < big) then some (.g (.int (i ^ j.toNat))) else none
  | .eq, a, b => (pyEq a b).map fun r => .g (.bl r)
  | .ne, a, b => (pyEq a b).map fun r => .g (.bl (!r))
  | .lt, .int i, .int j => some (.g (.bl (decide (i < j))))
  | .lt, .tup xs, .tup ys => ltT xs ys
  | .le, .int i, .int j => some (.g (.bl (decide (i ≤ j))))
  | .gt, .int i, .int j => some (.g (.bl (decide (j < i))))
  | .ge, .int i, .int j => some (.g (.bl (decide (j ≤ i))))
  | .is_, x, .non => some (.g (.bl (isNon x)))
  | .isnot, x, .non => some (.g (.bl (!isNon x)))
  | .in_, x, .tup ys => (inSeq x ys).map fun r => .g (.bl r)
  | .in_, x, .lst ys => (inSeq x ys).map fun r => .g (.bl r)
  | .in_, x, .dct ks vs => if isKey x then some (.g (.bl (findK x ks vs).isSome)) else none
  | .notin, x, .tup ys => (inSeq x ys).map fun r => .g (.bl (!r))
  | .notin, x, .lst ys => (inSeq x ys).map fun r => .g (.bl (!r))
  | .notin, x, .dct ks vs => if isKey x then some (.g (.bl (!(findK x ks vs).isSome))) else none
  | .idx, .tup xs, .int i => (atIx xs i).map .g
  | .idx, .lst xs, .int i => (atIx xs i).map .g
  | .idx, .scr xs, .int i => (atIx xs i).map .g
  | .idx, .dct ks vs, k => if isKey k then (findK k ks vs).map .g else none
  | _, _, _ => none

/-- one-place operators; slices -/
inductive B1 where
  | neg | rev
  deriving DecidableEq
def b1 : B1 → G → Option D
  | .neg, .int i => some (.g (.int (-i)))
  | .rev, .lst xs => some (.own (.lst xs.reverse))
  | .rev, .tup xs => some (.g (.tup xs.reverse))
  | _, _ => none

def cutL (xs : List G) (lo hi : Option Int) : List G := (xs.drop (HT.sIx xs.length 0 lo)).take (HT.sIx xs.length xs.length hi - HT.sIx xs.length 0 lo)
/-- classes that isinstance asks for -/
inductive Ty where
  | int | bool | tuple | str | list | dict | own (c : Nat)
  deriving DecidableEq
def isTy : Ty → G → Option Bool
  | .int, .int _ => some true
  | .int, .bl _ => some true
  | .bool, .bl _ => some true
  | .tuple, .tup _ => some true
  | .str, .str _ => some true
  | .list, .lst _ => some true
  | .dict, .dct _ _ => some true
  | .own c, .ins d _ => some (c == d)
  | _, .fn _ => none
  | _, .cls _ => none
  | _, .scr _ => none
  | _, _ => some false

/-- built-in calls -/
inductive Bi where
  | len | abs | int | max2 | min2 | max3 | min3 | sum | any | all | tuple | list | sorted | isi (t : Ty)
  deriving DecidableEq

def boolsOf : List G → Option (List Bool)
  | [] => some []
  | .bl b :: r => match boolsOf r with | some bs => some (b :: bs) | none => none
  | _ :: _ => none
def ins1 (i : Int) : List Int → List Int
  | [] => [i]
  | j :: r => if i ≤ j then i :: j :: r else j :: ins1 i r
def isort : List Int → List Int
  | [] => []
  | i :: r => ins1 i (isort r)

def bi : Bi → List G → Option D
  | .len, [.tup xs] => some (.g (.int xs.length))
  | .len, [.lst xs] => some (.g (.int xs.length))
  | .len, [.scr xs] => some (.g (.int xs.length))
  | .len, [.dct ks _] => some (.g (.int ks.length))
  | .abs, [.int i] => some (.g (.int (if i < 0 then -i else i)))
  | .int, [.int i] => some (.g (.int i))
  | .int, [.bl b] => some (.g (.int (if b then 1 else 0)))
  | .max2, [.int i, .int j] => some (.g (.int (if j > i then j else i)))
  | .min2, [.int i, .int j] => some (.g (.int (if j < i then j else i)))
  | .max3, [.int i, .int j, .int k] => some (.g (.int (if k > (if j > i then j else i) then k else (if j > i then j else i))))
  | .min3, [.int i, .int j, .int k] => some (.g (.int (if k < (if j < i then j else i) then k else (if j < i then j else i))))
  | .sum, [.lst xs] => (intsOf xs).map fun is => .g (.int is.sum)
  | .any, [.lst xs] => (boolsOf xs).map fun bs => .g (.bl (bs.any id))
  | .all, [.lst xs] => (boolsOf xs).map fun bs => .g (.bl (bs.all id))
  | .tuple, [.tup xs] => some (.g (.tup xs))
  | .tuple, [.lst xs] => some (.g (.tup xs))
  | .list, [.tup xs] => some (.own (.lst xs))
  | .list, [.lst xs] => some (.own (.lst xs))
  | .list, [.dct ks _] => some (.own (.lst ks))
  | .sorted, [.lst xs] => (intsOf xs).map fun is => .own (.lst ((isort is).map .int))
  | .isi t, [x] => (isTy t x).map fun b => .g (.bl b)
  | _, _ => none

/-- methods that change the object of a slot -/
inductive Mt where
  | append | extend | pop
  deriving DecidableEq
/-- the object behind, what is given back -/
def mt : Mt → G → List G → Option (G × G)
  | .append, .lst xs, [y] => if xs.length < 100000 then some (.lst (xs ++ [y]), .non) else none
  | .extend, .lst xs, [.lst ys] => if xs.length + ys.length < 100000 then some (.lst (xs ++ ys), .non) else none
  | .pop, .lst xs, [] => match xs.getLast? with | some y => some (.lst xs.dropLast, y) | none => none
  | _, _, _ => none

/-! ### numbers that are reckoned at once -/
def force {α : Sort _} (n : Nat) (k : Nat → α) : α := Nat.rec (motive := fun _ => α) (k 0) (fun m _ => k (m + 1)) n
theorem force_eq {α : Sort _} (n : Nat) (k : Nat → α) : force n k = k n := by cases n <;> rfl
def forceI {α : Sort _} (i : Int) (k : Int → α) : α := match i with
  | .ofNat n => force n fun n => k (.ofNat n)
  | .negSucc n => force n fun n => k (.negSucc n)
theorem forceI_eq {α : Sort _} (i : Int) (k : Int → α) : forceI i k = k i := by
  cases i <;> simp only [forceI, force_eq]

/-! ### slots -/
def getS (e : Env) (i : Nat) : S := (e[i]?).getD .non
def nameD (e : Env) (i : Nat) : Option D := match getS e i with
  | .val g => some (.g g)
  | .lfz g => some (.g g)
  | .obj _ => some (.sl i)
  | .len _ => some (.sl i)
  | .lck _ _ => some (.sl i)
  | _ => none
def view (d : D) (e : Env) : Option G := match d with
  | .g x => some x
  | .own x => some x
  | .sl i => match getS e i with
    | .obj g => some g
    | .len g => some g
    | .lck _ g => some g
    | .val g => some g
    | .lfz g => some g
    | _ => none
def frz (d : D) (e : Env) : Option (G × Env) := match d with
  | .g x => some (x, e)
  | .own x => some (x, e)
  | .sl i => match getS e i with
    | .obj g => some (g, e.set i (.val g))
    | .len g => some (g, e.set i (.lfz g))
    | .val g => some (g, e)
    | .lfz g => some (g, e)
    | _ => none
def frzs : List D → Env → Option (List G × Env)
  | [], e => some ([], e)
  | d :: ds, e => match frz d e with
    | some (g, e1) => match frzs ds e1 with
      | some (gs, e2) => some (g :: gs, e2)
      | none => none
    | none => none
def views : List D → Env → Option (List G)
  | [], _ => some []
  | d :: ds, e => match view d e, views ds e with
    | some g, some gs => some (g :: gs)
    | _, _ => none
def setS (e : Env) (i : Nat) (s : S) : Option Env := match e[i]? with
  | some .non => some (e.set i s)
  | some (.val _) => some (e.set i s)
  | some (.obj _) => some (e.set i s)
  | _ => none
/-- a value comes to a name -/
def bindD (e : Env) (i : Nat) (d : D) : Option Env := match d with
  | .own x => setS e i (.obj x)
  | d => match frz d e with
    | some (g, e1) => setS e1 i (.val g)
    | none => none
/-- the object of a slot becomes another -/
def putO (e : Env) (i : Nat) (g : G) : Option Env := match getS e i with
  | .obj _ => some (e.set i (.obj g))
  | .len _ => some (e.set i (.len g))
  | _ => none
def objOf (e : Env) (i : Nat) : Option G := match getS e i with
  | .obj g => some g
  | .len g => some g
  | _ => none
def lock (e : Env) (i : Nat) : Env := match getS e i with
  | .obj g => e.set i (.lck false g)
  | .len g => e.set i (.lck true g)
  | _ => e
def unlock (e : Env) (i : Nat) : Env := match getS e i with
  | .lck false g => e.set i (.obj g)
  | .lck true g => e.set i (.len g)
  | _ => e


inductive AK where
  | fld (j : Nat) | prop (f : Nat)
/-- a class: its attributes, its __init__, how many fields -/
structure CD where
  attrs : List (Nat × AK)
  init : Option Nat
abbrev CT := List CD
abbrev FF := Nat → List S → R D
/-! ### calls -/
def argS (e : Env) : D → Option S
  | .g x => some (.val x)
  | .own x => some (.obj x)
  | .sl i => match getS e i with
    | .obj g => some (.len g)
    | .len g => some (.len g)
    | .val g => some (.val g)
    | .lfz g => some (.val g)
    | _ => none
def argsS (e : Env) : List D → Option (List S)
  | [] => some []
  | d :: ds => match argS e d, argsS e ds with
    | some s, some ss => some (s :: ss)
    | _, _ => none
/-- the slots that are lent -/
def lent (e : Env) : List D → List Nat
  | [] => []
  | .sl i :: ds => match getS e i with
    | .obj _ => i :: lent e ds
    | .len _ => i :: lent e ds
    | _ => lent e ds
  | _ :: ds => lent e ds
/-- behind a call: a slot that was lent, the callee's slot then -/
def bkS : S → S → Option (Option S)
  | .obj _, .len g => some (some (.obj g))
  | .obj _, .lck true g => some (some (.obj g))
  | .obj _, .lfz g => some (some (.val g))
  | .len _, .len g => some (some (.len g))
  | .len _, .lck true g => some (some (.len g))
  | .len _, .lfz g => some (some (.lfz g))
  | .val _, _ => some none
  | .lfz _, _ => some none
  | _, _ => none
/-- behind a call: what was lent comes back -/
def back (e : Env) (ds : List D) (fin : Env) : Option Env := match ds, fin with
  | [], _ => some e
  | .sl i :: ds, f :: fs => match bkS (getS e i) f with
    | some (some s) => back (e.set i s) ds fs
    | some none => back e ds fs
    | none => none
  | _ :: ds, _ :: fs => back e ds fs
  | _ :: _, [] => none

def isMade : D → Bool
  | .own (.ins _ _) => true
  | _ => false
/-- f(..); dfl: the values of the parameters that are not handed in -/
def doCall (F : FF) (f : Nat) (dfl : List G) (ds : List D) (e : Env) : R D :=
  match argsS e ds with
  | some ss =>
    if (lent e ds).Nodup then
      match F f (ss ++ dfl.map .val) with
      | .ok d fin => if isMade d = true then .bad else match back e ds fin with
        | some e1 => .ok d e1
        | none => .bad
      | .exn c p fin => match back e ds fin with
        | some e1 => .exn c p e1
        | none => .bad
      | .bad => .bad
    else .bad
  | none => .bad

def attrOf (C : CT) (c n : Nat) : Option AK := match C[c]? with
  | some cd => cd.attrs.lookup n
  | none => none

/-- C(..): its __init__ gives the fields -/
def doMake (C : CT) (F : FF) (c : Nat) (ds : List D) (e : Env) : R D :=
  match C[c]? with
  | some cd => match cd.init, frzs ds e with
    | some f, some (gs, e1) => match F f (.slf c :: gs.map .val) with
      | .ok (.own (.ins c' fs)) _ => if c' = c then .ok (.g (.ins c fs)) e1 else .bad
      | .exn x p _ => .exn x p e1
      | _ => .bad
    | _, _ => .bad
  | none => .bad

/-! ### running -/
def compK (next : List G → Env → R (List G)) (acc : List G) : R (Option G) → R (List G)
  | .ok (some y) e1 => next (y :: acc) e1
  | .ok none e1 => next acc e1
  | _ => .bad
def compL (step : G → Env → R (Option G)) : List G → List G → Env → R (List G)
  | [], acc, e => .ok acc.reverse e
  | x :: xs, acc, e => compK (fun acc e => compL step xs acc e) acc (step x e)

def rangeG (lo : Int) : Nat → List G
  | 0 => []
  | n + 1 => .int lo :: rangeG (lo + 1) n
def enumG (i : Int) : List G → List G
  | [] => []
  | x :: xs => .tup [.int i, x] :: enumG (i + 1) xs
def zipG : List G → List G → List G
  | x :: xs, y :: ys => .tup [x, y] :: zipG xs ys
  | _, _ => []

/-! ### expressions: what they make of an environment -/
abbrev EV := FF → Env → R D
abbrev TV := FF → Env → R Bool
abbrev AV := FF → Env → R (List D)
abbrev IV := FF → Env → R (List G × Option Nat)
abbrev GV := G → Env → Option Env

def res (o : Option D) (e : Env) : R D := match o with
  | some (.g (.int i)) => forceI i fun i => .ok (.g (.int i)) e
  | some d => .ok d e
  | none => .bad
def eK (g : G) : EV := fun _ e => .ok (.g g) e
def eV (i : Nat) : EV := fun _ e => ofO (nameD e i) e
def eAnd (a b : EV) : EV := fun F e => (a F e).bind fun d e => match view d e with
  | some (.bl true) => b F e
  | some (.bl false) => .ok (.g (.bl false)) e
  | _ => .bad
def eOr (a b : EV) : EV := fun F e => (a F e).bind fun d e => match view d e with
  | some (.bl false) => b F e
  | some (.bl true) => .ok (.g (.bl true)) e
  | _ => .bad
def eNot (a : EV) : EV := fun F e => (a F e).bind fun d e => match view d e with
  | some (.bl true) => .ok (.g (.bl false)) e
  | some (.bl false) => .ok (.g (.bl true)) e
  | _ => .bad
def eIte (c : TV) (a b : EV) : EV := fun F e => (c F e).bind fun t e => match t with
  | true => a F e
  | false => b F e
def eBin (o : B2) (a b : EV) : EV := fun F e => (a F e).bind fun x e => (b F e).bind fun y e => match view x e, view y e with
  | some x, some y => res (b2 o x y) e
  | _, _ => .bad
def eUn (o : B1) (a : EV) : EV := fun F e => (a F e).bind fun x e => match view x e with
  | some x => res (b1 o x) e
  | none => .bad
def eChain (o p : B2) (a b c : EV) : EV := fun F e => (a F e).bind fun x e => (b F e).bind fun y e => match view x e, view y e with
  | some x, some y' => match b2 o x y' with
    | some (.g (.bl true)) => (c F e).bind fun z e => match view y e, view z e with
      | some y, some z => res (b2 p y z) e
      | _, _ => .bad
    | some (.g (.bl false)) => .ok (.g (.bl false)) e
    | _ => .bad
  | _, _ => .bad
abbrev PV := FF → Env → R (Option Int)
def pN : PV := fun _ e => .ok none e
def pI (a : EV) : PV := fun F e => (a F e).bind fun d e => match view d e with
  | some (.int i) => .ok (some i) e
  | _ => .bad
def eSlice (a : EV) (lo hi : PV) : EV := fun F e => (a F e).bind fun x e => (lo F e).bind fun l e => (hi F e).bind fun h e => match view x e with
  | some (.tup xs) => .ok (.g (.tup (cutL xs l h))) e
  | some (.lst xs) => .ok (.own (.lst (cutL xs l h))) e
  | _ => .bad
def eRevL (a : EV) : EV := fun F e => (a F e).bind fun d e => match view d e with
  | some (.lst xs) => .ok (.own (.lst xs.reverse)) e
  | _ => .bad
def aNil : AV := fun _ e => .ok [] e
def aCons (a : EV) (r : AV) : AV := fun F e => (a F e).bind fun d e => (r F e).bind fun ds e => .ok (d :: ds) e
def aStar (a : EV) (r : AV) : AV := fun F e => (a F e).bind fun d e => match view d e with
  | some (.tup gs) => (r F e).bind fun ds e => .ok (gs.map .g ++ ds) e
  | some (.lst gs) => (r F e).bind fun ds e => .ok (gs.map .g ++ ds) e
  | _ => .bad
def eTup (as : AV) : EV := fun F e => (as F e).bind fun ds e => match frzs ds e with
  | some (gs, e) => if gs.length ≤ 100000 then .ok (.g (.tup gs)) e else .bad
  | none => .bad
def eLst (as : AV) : EV := fun F e => (as F e).bind fun ds e => match frzs ds e with
  | some (gs, e) => if gs.length ≤ 100000 then .ok (.own (.lst gs)) e else .bad
  | none => .bad
def eDic0 : EV := fun _ e => .ok (.own (.dct [] [])) e
def eDic1 (k v : EV) : EV := fun F e => (k F e).bind fun k e => (v F e).bind fun v e => match view k e, frz v e with
  | some k, some (v, e) => if isKey k then .ok (.own (.dct [k] [v])) e else .bad
  | _, _ => .bad
def eBi (f : Bi) (as : AV) : EV := fun F e => (as F e).bind fun ds e => match views ds e with
  | some gs => res (bi f gs) e
  | none => .bad
def eCall (f : Nat) (dfl : List G) (as : AV) : EV := fun F e => (as F e).bind fun ds e => doCall F f dfl ds e
def eMake (C : CT) (c : Nat) (as : AV) : EV := fun F e => (as F e).bind fun ds e => doMake C F c ds e
def eAttr (C : CT) (a : EV) (n : Nat) : EV := fun F e => (a F e).bind fun x e => match view x e with
  | some (.ins c fs) => match attrOf C c n with
    | some (.fld j) => ofO (fs[j]?.map .g) e
    | some (.prop f) => match F f [.val (.ins c fs)] with
      | .ok (.g r) (_ :: _) => .ok (.g r) e
      | _ => .bad
    | none => .bad
  | _ => .bad
def isLs : Option G → Bool
  | some (.lst _) => true
  | _ => false
def eMeth (i : Nat) (m : Mt) (as : AV) : EV := fun F e => if isLs (objOf e i) then (as F e).bind fun ds e => match frzs ds e with
  | some (gs, e) => match objOf e i with
    | some o => match mt m o gs with
      | some (o', r) => match putO e i o' with
        | some e => .ok (.g r) e
        | none => .bad
      | none => .bad
    | none => .bad
  | none => .bad
  else .bad

/-! tests -/
def tV (a : EV) : TV := fun F e => (a F e).bind fun d e => match view d e with
  | some g => ofO (truth g) e
  | none => .bad
def tAndT (a b : TV) : TV := fun F e => (a F e).bind fun t e => match t with
  | true => b F e
  | false => .ok false e
def tOrT (a b : TV) : TV := fun F e => (a F e).bind fun t e => match t with
  | true => .ok true e
  | false => b F e
def tNotT (a : TV) : TV := fun F e => (a F e).bind fun t e => .ok (!t) e
def tIteT (c a b : TV) : TV := fun F e => (c F e).bind fun t e => match t with
  | true => a F e
  | false => b F e
def tYesT : TV := fun _ e => .ok true e

/-! targets -/
def gNm (i : Nat) : GV := fun g e => setS e i (.val g)
def gAll : List GV → List G → Env → Option Env
  | [], [], e => some e
  | t :: ts, g :: gs, e => match t g e with
    | some e1 => gAll ts gs e1
    | none => none
  | _, _, _ => none
def gTp (ts : List GV) : GV := fun g e => match g with
  | .tup gs => gAll ts gs e
  | .lst gs => gAll ts gs e
  | _ => none

/-! what is walked -/
def iE (a : EV) : IV := fun F e => (a F e).bind fun d e => match view d e with
  | some (.tup gs) => .ok (gs, none) e
  | some (.lst gs) => .ok (gs, match d with | .sl i => (match getS e i with | .obj _ => some i | .len _ => some i | _ => none) | _ => none) e
  | _ => .bad
def okR (n : Int) : Bool := decide (n < 1000000) && decide (-1000000 ≤ n)
def iR1 (a : EV) : IV := fun F e => (a F e).bind fun d e => match view d e with
  | some (.int n) => if okR n then .ok (rangeG 0 n.toNat, none) e else .bad
  | _ => .bad
def iR2 (a b : EV) : IV := fun F e => (a F e).bind fun x e => (b F e).bind fun y e => match view x e, view y e with
  | some (.int m), some (.int n) => if okR m && okR n then .ok (rangeG m (n - m).toNat, none) e else .bad
  | _, _ => .bad
def iN (a : EV) : IV := fun F e => (a F e).bind fun d e => match isSl d, view d e with
  | false, some (.tup gs) => .ok (enumG 0 gs, none) e
  | false, some (.lst gs) => .ok (enumG 0 gs, none) e
  | _, _ => .bad
def iZ (a b : EV) : IV := fun F e => (a F e).bind fun x e => (b F e).bind fun y e => match isSl x || isSl y, view x e, view y e with
  | false, some (.tup xs), some (.tup ys) => .ok (zipG xs ys, none) e
  | false, some (.lst xs), some (.lst ys) => .ok (zipG xs ys, none) e
  | _, _, _ => .bad
def lockO (o : Option Nat) (e : Env) : Env := match o with | some i => lock e i | none => e
def unlockO (o : Option Nat) (e : Env) : Env := match o with | some i => unlock e i | none => e
/-- the slots of a comprehension's own names: empty within, as before behind it -/
def wipeE (e : Env) : List Nat → Env
  | [] => e
  | v :: vs => (wipeE e vs).set v .non
def keepE (e0 : Env) (e : Env) : List Nat → Env
  | [] => e
  | v :: vs => (keepE e0 e vs).set v (getS e0 v)
def compStep (own : List Nat) (el : EV) (t : GV) (c : TV) (F : FF) : G → Env → R (Option G) := fun x e => match t x e with
  | some e => (c F e).bind fun b e => match b with
    | true => (el F e).bind fun d e => match frz d e with
      | some (g, e) => .ok (some g) (wipeE e own)
      | none => .bad
    | false => .ok none (wipeE e own)
  | none => .bad
def compEnd (own : List Nat) (o : Option Nat) (e : Env) : R (List G) → R D
  | .ok gs e1 => if gs.length ≤ 100000 then .ok (.own (.lst gs)) (unlockO o (keepE (lockO o e) e1 own)) else .bad
  | _ => .bad
def isLck : S → Bool
  | .lck _ _ => true
  | _ => false
def eComp (own : List Nat) (el : EV) (t : GV) (it : IV) (c : TV) : EV := fun F e => (it F e).bind fun xl e => if (own.all fun v => !isLck (getS (lockO xl.2 e) v)) = false then .bad else compEnd own xl.2 e (compL (compStep own el t c F) xl.1 [] (wipeE (lockO xl.2 e) own))

/-! ### statements -/
inductive RS where
  | ini (c : Nat) (fs : List G) (e : Env) | nx (e : Env) | rt (d : D) (e : Env) | bk (e : Env) | ct (e : Env) | exn (c : Nat) (p : List G) (e : Env) | bad
abbrev SV := FF → Env → RS

def R.st {α : Type} : R α → (α → Env → RS) → RS
  | .ok a e, k => k a e
  | .exn c p e, _ => .exn c p e
  | .bad, _ => .bad
def nxO (o : Option Env) : RS := match o with | some e => .nx e | none => .bad
def forL (step : G → Env → RS) : List G → Env → RS
  | [], e => .nx e
  | x :: xs, e => match step x e with
    | .nx e1 => forL step xs e1
    | .ct e1 => forL step xs e1
    | .bk e1 => .nx e1
    | .ini _ _ _ => .bad
    | r => r
def whileL (c : Env → R Bool) (b : Env → RS) : Nat → Env → RS
  | 0, _ => .bad
  | n + 1, e => (c e).st fun t e => match t with
    | true => match b e with
      | .nx e1 => whileL c b n e1
      | .ct e1 => whileL c b n e1
      | .bk e1 => .nx e1
      | .ini _ _ _ => .bad
      | r => r
    | false => .nx e
def parSet : List Nat → List D → Env → Option Env
  | [], [], e => some e
  | i :: r, d :: ds, e => if isSl d then none else match bindD e i d with
    | some e1 => parSet r ds e1
    | none => none
  | _, _, _ => none
/-- what a return hands back -/
def retD (d : D) (e : Env) : Option (D × Env) := match d with
  | .g x => some (.g x, e)
  | .own x => some (.own x, e)
  | .sl i => match getS e i with
    | .obj g => some (.own g, e.set i .non)
    | .len g => some (.g g, e.set i (.lfz g))
    | .val g => some (.g g, e)
    | .lfz g => some (.g g, e)
    | _ => none
def sNil : SV := fun _ e => .nx e
def sSeq (s r : SV) : SV := fun F e => match s F e with
  | .nx e1 => r F e1
  | .ini _ _ _ => .bad
  | x => x
def sExp (x : EV) : SV := fun F e => (x F e).st fun _ e => .nx e
def sSet (i : Nat) (x : EV) : SV := fun F e => (x F e).st fun d e => nxO (bindD e i d)
def sAsg (t : GV) (x : EV) : SV := fun F e => (x F e).st fun d e => match frz d e with
  | some (g, e) => nxO (t g e)
  | none => .bad
def sPar (is : List Nat) (es : AV) : SV := fun F e => (es F e).st fun ds e => nxO (parSet is ds e)
def storeG (o k g : G) : Option G := match o with
  | .lst xs => match k with
    | .int j => if decide (0 ≤ j) && decide (j < xs.length) then some (.lst (xs.set j.toNat g)) else none
    | _ => none
  | .dct ks vs => if isKey k && decide (ks.length < 100000) then some (.dct (Ev.putK k g ks vs).1 (Ev.putK k g ks vs).2) else none
  | _ => none
def sSetI (i : Nat) (ix x : EV) : SV := fun F e => if (objOf e i).isSome then (x F e).st fun d e => (ix F e).st fun k e => match view k e, frz d e with
  | some k, some (g, e) => match objOf e i with
    | some o => match storeG o k g with
      | some o' => nxO (putO e i o')
      | none => .bad
    | none => .bad
  | _, _ => .bad
  else .bad
def augI : B2 → Int → Int → Option Int
  | .add, a, b => some (a + b)
  | .sub, a, b => some (a - b)
  | _, _, _ => none
def sAug (i : Nat) (o : B2) (x : EV) : SV := fun F e => match getS e i with
  | .val (.int a) => (x F e).st fun d e => match view d e with
    | some (.int b) => match augI o a b with
      | some c => forceI c fun c => nxO (setS e i (.val (.int c)))
      | none => .bad
    | _ => .bad
  | _ => .bad
def sIf (c : TV) (a b : SV) : SV := fun F e => (c F e).st fun t e => match t with
  | true => a F e
  | false => b F e
def forStep (t : GV) (b : SV) (F : FF) : G → Env → RS := fun x e => match t x e with
  | some e => b F e
  | none => .bad
def wrapU (o : Option Nat) : RS → RS
  | .nx e => .nx (unlockO o e)
  | r => r
def sFor (t : GV) (it : IV) (b : SV) : SV := fun F e => (it F e).st fun xl e => wrapU xl.2 (forL (forStep t b F) xl.1 (lockO xl.2 e))
def sWhile (n : Nat) (c : TV) (b : SV) : SV := fun F e => whileL (c F) (b F) n e
def sRet (x : EV) : SV := fun F e => (x F e).st fun d e => match retD d e with
  | some (d, e) => .rt d e
  | none => .bad
def sRetN : SV := fun _ e => .rt (.g .non) e
def sBrk : SV := fun _ e => .bk e
def sCnt : SV := fun _ e => .ct e
def sRse (c : Nat) (as : AV) : SV := fun F e => (as F e).st fun ds e => match frzs ds e with
  | some (gs, e) => .exn c gs e
  | none => .bad
/-- the last statement of an __init__: the fields -/
def isSlf : S → Bool
  | .slf _ => true
  | _ => false
def sIni (pm : List Nat) (es : AV) : SV := fun F e => if isSlf (getS e 0) then (es F e).st fun ds e => match frzs ds e with
  | some (gs, e) => match getS e 0 with
    | .slf c => .ini c (pm.map fun j => (gs[j]?).getD .non) (e.set 0 (.lfz (.ins c (pm.map fun j => (gs[j]?).getD .non))))
    | _ => .bad
  | none => .bad
  else .bad
def sBad : SV := fun _ _ => .bad

/-! ### defs -/
structure FD where
  np : Nat
  ns : Nat
  body : SV
def fin : RS → R D
  | .ini c fs e => .ok (.own (.ins c fs)) e
  | .nx e => .ok (.g .non) e
  | .rt d e => .ok d e
  | .exn c p e => .exn c p e
  | _ => .bad
def callF (P : List FD) : Nat → FF
  | 0, _, _ => .bad
  | k + 1, f, args => match P[f]? with
    | some fd => if args.length = fd.np then fin (fd.body (callF P k) (args ++ List.replicate (fd.ns - fd.np) .non)) else .bad
    | none => .bad

end Ev

end
section
set_option linter.all false
set_option maxRecDepth 100000
set_option maxHeartbeats 2000000
namespace Ev
open PySem PySem.Spec PyProof.Rows L2

/-- where the things of the text stand -/
structure Lk where
  K : PySem.W.Frag
  ca : Nat → Addr
  ce : Nat → Addr
  sl : Nat → Bool
  ef : Nat → Str := fun _ => Str.empty
abbrev Mu := Addr → Prop
def keyG : Key → G
  | .inl i => .int i
  | .inr s => .str s
/-- a tuple of the text -/
def KT (K : PySem.W.Frag) (a : Addr) (xs : List V) : Prop :=
  ∃ (o : Obj) (its : Array Value) (n : Nat), K.lookup a = some o ∧ o.cls = .type "tuple" ∧ o.data = .seq its n ∧ its.size ≤ sizeLine ∧ Vals xs its.toList

/-- a list of the text -/
def KL (K : PySem.W.Frag) (a : Addr) (xs : List V) : Prop :=
  ∃ (o : Obj) (its : Array Value) (n : Nat), K.lookup a = some o ∧ o.cls = .type "list" ∧ o.dict = none ∧ o.data = .seq its n ∧ its.size ≤ sizeLine ∧ Vals xs its.toList
mutual
/-- the value v is the deep value g; M: what may change -/
def RG (L : Lk) (M : Mu) (H : Hp) : G → V → Prop
  | .non, v => v = .non
  | .bl b, v => v = .bl b
  | .int i, v => v = .int i
  | .str s, v => v = .str s
  | .tup xs, v => ∃ a vs, v = .ref a ∧ ((¬ M a ∧ Rd H a (.tup vs)) ∨ KT L.K a vs) ∧ RGs L M H xs vs
  | .lst xs, v => ∃ a vs, v = .ref a ∧ ¬ M a ∧ Rd H a (.lst vs) ∧ RGs L M H xs vs
  | .scr xs, v => ∃ a vs, v = .ref a ∧ ((¬ M a ∧ Rd H a (.lst vs)) ∨ KL L.K a vs) ∧ RGs L M H xs vs
  | .dct ks xs, v => ∃ a kvs, v = .ref a ∧ ¬ M a ∧ Rd H a (.dK kvs) ∧ ks = kvs.map (fun p => keyG p.1) ∧ RGs L M H xs (kvs.map (·.2))
  | .ins c fs, v => ∃ a dx ws, v = .ref a ∧ ¬ M a ∧ ¬ M dx ∧ H a = some (SlX.SlO a (L.ca c) dx (ws.map some)) ∧ H dx = some (.xd []) ∧ RGs L M H fs ws ∧ L.sl c = true
  | .cls _, _ => False
  | .fn _, _ => False
def RGs (L : Lk) (M : Mu) (H : Hp) : List G → List V → Prop
  | [], vs => vs = []
  | x :: xs, vs => ∃ v r, vs = v :: r ∧ RG L M H x v ∧ RGs L M H xs r
end

theorem RGs.nil {L : Lk} {M : Mu} {H : Hp} : RGs L M H [] [] := by simp [RGs]
theorem RGs.cons {L : Lk} {M : Mu} {H : Hp} {x : G} {xs : List G} {v : V} {vs : List V} (h : RG L M H x v) (t : RGs L M H xs vs) : RGs L M H (x :: xs) (v :: vs) := by
  unfold RGs; exact ⟨v, vs, rfl, h, t⟩
theorem RGs.len {L : Lk} {M : Mu} {H : Hp} : ∀ {xs : List G} {vs : List V}, RGs L M H xs vs → xs.length = vs.length
  | [], vs, h => by unfold RGs at h; subst h; rfl
  | x :: xs, vs, h => by
    unfold RGs at h
    obtain ⟨v, r, rfl, _, t⟩ := h
    simp [RGs.len t]
theorem RGs.get {L : Lk} {M : Mu} {H : Hp} : ∀ {xs : List G} {vs : List V} {i : Nat} {x : G}, RGs L M H xs vs → xs[i]? = some x → ∃ v, vs[i]? = some v ∧ RG L M H x v
  | [], _, _, _, _, e => by simp at e
  | y :: xs, vs, 0, x, h, e => by
    unfold RGs at h
    obtain ⟨v, r, rfl, h1, t⟩ := h
    simp at e; subst e
    exact ⟨v, rfl, h1⟩
  | y :: xs, vs, i + 1, x, h, e => by
    unfold RGs at h
    obtain ⟨v, r, rfl, h1, t⟩ := h
    obtain ⟨w, e1, e2⟩ := RGs.get (i := i) t (by simpa using e)
    exact ⟨w, by simpa using e1, e2⟩
theorem RGs.getV {L : Lk} {M : Mu} {H : Hp} {xs : List G} {vs : List V} {i : Nat} {v : V} (h : RGs L M H xs vs) (e : vs[i]? = some v) : ∃ x, xs[i]? = some x ∧ RG L M H x v := by
  have hl := h.len
  obtain ⟨hi, _⟩ := List.getElem?_eq_some_iff.mp e
  have e1 : xs[i]? = some (xs[i]'(by omega)) := List.getElem?_eq_getElem (by omega)
  obtain ⟨w, e2, r⟩ := h.get e1
  rw [e] at e2; cases e2
  exact ⟨_, e1, r⟩
theorem RGs.app {L : Lk} {M : Mu} {H : Hp} : ∀ {xs ys : List G} {vs ws : List V}, RGs L M H xs vs → RGs L M H ys ws → RGs L M H (xs ++ ys) (vs ++ ws)
  | [], _, vs, _, h, t => by unfold RGs at h; subst h; exact t
  | x :: xs, ys, vs, ws, h, t => by
    unfold RGs at h
    obtain ⟨v, r, rfl, h1, h2⟩ := h
    exact .cons h1 (RGs.app h2 t)
theorem RGs.take {L : Lk} {M : Mu} {H : Hp} : ∀ {xs : List G} {vs : List V} (n : Nat), RGs L M H xs vs → RGs L M H (xs.take n) (vs.take n)
  | _, _, 0, _ => by simpa using RGs.nil
  | [], vs, n + 1, h => by unfold RGs at h; subst h; exact .nil
  | x :: xs, vs, n + 1, h => by
    unfold RGs at h
    obtain ⟨v, r, rfl, h1, h2⟩ := h
    exact .cons h1 (RGs.take n h2)
theorem RGs.drop {L : Lk} {M : Mu} {H : Hp} : ∀ {xs : List G} {vs : List V} (n : Nat), RGs L M H xs vs → RGs L M H (xs.drop n) (vs.drop n)
  | _, _, 0, h => h
  | [], vs, n + 1, h => by unfold RGs at h; subst h; exact .nil
  | x :: xs, vs, n + 1, h => by
    unfold RGs at h
    obtain ⟨v, r, rfl, h1, h2⟩ := h
    exact RGs.drop n h2
theorem RGs.rev {L : Lk} {M : Mu} {H : Hp} : ∀ {xs : List G} {vs : List V}, RGs L M H xs vs → RGs L M H xs.reverse vs.reverse
  | [], vs, h => by unfold RGs at h; subst h; exact .nil
  | x :: xs, vs, h => by
    unfold RGs at h
    obtain ⟨v, r, rfl, h1, h2⟩ := h
    rw [List.reverse_cons, List.reverse_cons]
    exact RGs.app h2.rev (.cons h1 .nil)
theorem RGs.set {L : Lk} {M : Mu} {H : Hp} {x : G} {v : V} (hx : RG L M H x v) : ∀ {xs : List G} {vs : List V} (i : Nat), RGs L M H xs vs → RGs L M H (xs.set i x) (vs.set i v)
  | [], vs, _, h => by unfold RGs at h; subst h; exact .nil
  | y :: xs, vs, 0, h => by
    unfold RGs at h
    obtain ⟨w, r, rfl, h1, h2⟩ := h
    exact .cons hx h2
  | y :: xs, vs, i + 1, h => by
    unfold RGs at h
    obtain ⟨w, r, rfl, h1, h2⟩ := h
    exact .cons h1 (RGs.set hx i h2)
theorem RGs.dropLast {L : Lk} {M : Mu} {H : Hp} {xs : List G} {vs : List V} (h : RGs L M H xs vs) : RGs L M H xs.dropLast vs.dropLast := by
  rw [List.dropLast_eq_take, List.dropLast_eq_take, h.len]
  exact h.take _
theorem RGs.rep {L : Lk} {M : Mu} {H : Hp} {xs : List G} {vs : List V} (h : RGs L M H xs vs) : ∀ k : Nat, RGs L M H (List.replicate k xs).flatten (List.replicate k vs).flatten
  | 0 => by simpa using RGs.nil
  | k + 1 => by
    rw [List.replicate_succ, List.replicate_succ, List.flatten_cons, List.flatten_cons]
    exact h.app (RGs.rep h k)

/-- what does not change stays -/
def Ext (M : Mu) (H : Hp) (M' : Mu) (H' : Hp) : Prop := ∀ a o, H a = some o → ¬ M a → H' a = some o ∧ ¬ M' a
theorem Rd.has {H : Hp} {a : Addr} {u : HO} (r : Rd H a u) : ∃ o, H a = some o := by
  rcases r with r | ⟨o, r⟩
  · exact ⟨_, r⟩
  · exact ⟨_, r⟩
theorem Rd.to {M : Mu} {H : Hp} {M' : Mu} {H' : Hp} {a : Addr} {u : HO} (x : Ext M H M' H') (m : ¬ M a) (r : Rd H a u) : Rd H' a u ∧ ¬ M' a := by
  rcases r with r | ⟨o, r⟩
  · exact ⟨.inl (x a _ r m).1, (x a _ r m).2⟩
  · exact ⟨.inr ⟨o, (x a _ r m).1⟩, (x a _ r m).2⟩
mutual
theorem RG.to {L : Lk} {M : Mu} {H : Hp} {M' : Mu} {H' : Hp} (x : Ext M H M' H') : ∀ (g : G) (v : V), RG L M H g v → RG L M' H' g v
  | .non, v, h => by unfold RG at h ⊢; exact h
  | .bl b, v, h => by unfold RG at h ⊢; exact h
  | .int i, v, h => by unfold RG at h ⊢; exact h
  | .str s, v, h => by unfold RG at h ⊢; exact h
  | .tup xs, v, h => by
    unfold RG at h ⊢
    obtain ⟨a, vs, e, h1, h2⟩ := h
    refine ⟨a, vs, e, ?_, RGs.to x xs vs h2⟩
    rcases h1 with ⟨m, r⟩ | k
    · obtain ⟨r', m'⟩ := Rd.to x m r
      exact .inl ⟨m', r'⟩
    · exact .inr k
  | .scr xs, v, h => by
    unfold RG at h ⊢
    obtain ⟨a, vs, e, h1, h2⟩ := h
    refine ⟨a, vs, e, ?_, RGs.to x xs vs h2⟩
    rcases h1 with ⟨m, r⟩ | k
    · obtain ⟨r', m'⟩ := Rd.to x m r
      exact .inl ⟨m', r'⟩
    · exact .inr k
  | .lst xs, v, h => by
    unfold RG at h ⊢
    obtain ⟨a, vs, e, m, r, h2⟩ := h
    obtain ⟨r', m'⟩ := Rd.to x m r
    exact ⟨a, vs, e, m', r', RGs.to x xs vs h2⟩
  | .dct ks xs, v, h => by
    unfold RG at h ⊢
    obtain ⟨a, kvs, e, m, r, hk, h2⟩ := h
    obtain ⟨r', m'⟩ := Rd.to x m r
    exact ⟨a, kvs, e, m', r', hk, RGs.to x xs _ h2⟩
  | .ins c fs, v, h => by
    unfold RG at h ⊢
    obtain ⟨a, dx, ws, e, m1, m2, h1, h2, h3, h4⟩ := h
    exact ⟨a, dx, ws, e, (x a _ h1 m1).2, (x dx _ h2 m2).2, (x a _ h1 m1).1, (x dx _ h2 m2).1, RGs.to x fs ws h3, h4⟩
  | .cls _, _, h => by unfold RG at h; exact h.elim
  | .fn _, _, h => by unfold RG at h; exact h.elim
theorem RGs.to {L : Lk} {M : Mu} {H : Hp} {M' : Mu} {H' : Hp} (x : Ext M H M' H') : ∀ (gs : List G) (vs : List V), RGs L M H gs vs → RGs L M' H' gs vs
  | [], vs, h => by unfold RGs at h ⊢; exact h
  | g :: gs, vs, h => by
    unfold RGs at h ⊢
    obtain ⟨v, r, e, h1, h2⟩ := h
    exact ⟨v, r, e, RG.to x g v h1, RGs.to x gs r h2⟩
end

/-- the object at a has the content g -/
def RC (L : Lk) (M : Mu) (H : Hp) : G → Addr → Prop
  | .lst xs, a => ∃ vs, H a = some (.lst vs) ∧ RGs L M H xs vs
  | .dct ks xs, a => ∃ kvs, H a = some (.dK kvs) ∧ ks = kvs.map (fun p => keyG p.1) ∧ RGs L M H xs (kvs.map (·.2))
  | _, _ => False
theorem RC.has {L : Lk} {M : Mu} {H : Hp} {g : G} {a : Addr} (h : RC L M H g a) : ∃ o, H a = some o := by
  cases g <;> first
    | (unfold RC at h; exact h.elim)
    | (unfold RC at h; obtain ⟨x, e, _⟩ := h; exact ⟨_, e⟩)
/-- .. kept -/
theorem RC.to {L : Lk} {M : Mu} {H : Hp} {M' : Mu} {H' : Hp} (x : Ext M H M' H') {g : G} {a : Addr} (h : RC L M H g a) (k : ∀ o, H a = some o → H' a = some o) : RC L M' H' g a := by
  cases g <;> first
    | (unfold RC at h; exact h.elim)
    | skip
  · unfold RC at h ⊢
    obtain ⟨vs, e, r⟩ := h
    exact ⟨vs, k _ e, RGs.to x _ _ r⟩
  · unfold RC at h ⊢
    obtain ⟨kvs, e, hk, r⟩ := h
    exact ⟨kvs, k _ e, hk, RGs.to x _ _ r⟩
/-- .. that will not change any more -/
theorem RC.rg {L : Lk} {M : Mu} {H : Hp} {g : G} {a : Addr} (h : RC L M H g a) (m : ¬ M a) : RG L M H g (.ref a) := by
  cases g <;> first
    | (unfold RC at h; exact h.elim)
    | skip
  · unfold RC at h; unfold RG
    obtain ⟨vs, e, r⟩ := h
    exact ⟨a, vs, rfl, m, .inl e, r⟩
  · unfold RC at h; unfold RG
    obtain ⟨kvs, e, hk, r⟩ := h
    exact ⟨a, kvs, rfl, m, .inl e, hk, r⟩
/-- seen, whether it may change or not -/
def RV (L : Lk) (M : Mu) (H : Hp) (g : G) (v : V) : Prop := RG L M H g v ∨ ∃ a, v = .ref a ∧ M a ∧ RC L M H g a

/-- what a slot holds -/
def sv (σ : L2.St) (i : Nat) : Option V := match σ[i]? with
  | some o => o
  | none => none
def RS1 (L : Lk) (M : Mu) (H : Hp) : S → Option V → Prop
  | .non, _ => True
  | .val g, o => ∃ v, o = some v ∧ RG L M H g v
  | .lfz g, o => ∃ v, o = some v ∧ RG L M H g v
  | .obj g, o => ∃ a, o = some (.ref a) ∧ M a ∧ RC L M H g a
  | .len g, o => ∃ a, o = some (.ref a) ∧ M a ∧ RC L M H g a
  | .lck _ g, o => ∃ a, o = some (.ref a) ∧ M a ∧ RC L M H g a
  | .slf c, o => ∃ a dx, o = some (.ref a) ∧ M a ∧ M dx ∧ H a = some (.ins (L.ca c) dx []) ∧ H dx = some (.own a) ∧ L.sl c = true
def isOb : S → Bool
  | .obj _ => true | .len _ => true | .lck _ _ => true | .slf _ => true | _ => false
def isMu : S → Bool
  | .obj _ => true | .len _ => true | .slf _ => true | _ => false
def isLt : S → Bool
  | .len _ => true | .lfz _ => true | .lck true _ => true | .slf _ => true | _ => false
def isOo : S → Bool
  | .obj _ => true | .lck false _ => true | _ => false
theorem isOb_of_mu {s : S} (h : isMu s = true) : isOb s = true := by cases s <;> simp_all [isMu, isOb]

structure RE (L : Lk) (M : Mu) (H : Hp) (env : Env) (σ : L2.St) : Prop where
  len : env.length = σ.length
  at_ : ∀ i, RS1 L M H (getS env i) (sv σ i)
  inj : ∀ i j a, i ≠ j → isOb (getS env i) = true → isOb (getS env j) = true → sv σ i = some (.ref a) → sv σ j = some (.ref a) → False
/-- what the frame may change -/
def own (H : Hp) (env : Env) (σ : L2.St) (b : Addr) : Prop :=
  ∃ i, (isMu (getS env i) = true ∧ sv σ i = some (.ref b)) ∨ ∃ c a C fs, getS env i = .slf c ∧ sv σ i = some (.ref a) ∧ H a = some (.ins C b fs)

theorem RE.mu {L : Lk} {M : Mu} {H : Hp} {env : Env} {σ : L2.St} (r : RE L M H env σ) {b : Addr} (o : own H env σ b) : M b := by
  obtain ⟨i, ⟨h1, h2⟩ | ⟨c, a, C, fs, h1, h2, h3⟩⟩ := o
  · have q := r.at_ i
    cases e : getS env i <;> rw [e] at h1 q <;> simp [isMu] at h1 <;> simp only [RS1] at q
    · obtain ⟨a, e1, m, _⟩ := q; rw [h2] at e1; cases e1; exact m
    · obtain ⟨a, e1, m, _⟩ := q; rw [h2] at e1; cases e1; exact m
    · obtain ⟨a, dx, e1, m, _⟩ := q; rw [h2] at e1; cases e1; exact m
  · have q := r.at_ i
    rw [h1] at q
    simp only [RS1] at q
    obtain ⟨a', dx, e1, m, md, hi, hd, _⟩ := q
    rw [h2] at e1; cases e1
    rw [h3] at hi; cases hi
    exact md
theorem RE.has {L : Lk} {M : Mu} {H : Hp} {env : Env} {σ : L2.St} (r : RE L M H env σ) {b : Addr} (o : own H env σ b) : ∃ u, H b = some u := by
  obtain ⟨i, ⟨h1, h2⟩ | ⟨c, a, C, fs, h1, h2, h3⟩⟩ := o
  · have q := r.at_ i
    cases e : getS env i <;> rw [e] at h1 q <;> simp [isMu] at h1 <;> simp only [RS1] at q
    · obtain ⟨a, e1, m, k⟩ := q; rw [h2] at e1; cases e1; exact k.has
    · obtain ⟨a, e1, m, k⟩ := q; rw [h2] at e1; cases e1; exact k.has
    · obtain ⟨a, dx, e1, m, _, k, _⟩ := q; rw [h2] at e1; cases e1; exact ⟨_, k⟩
  · have q := r.at_ i
    rw [h1] at q
    simp only [RS1] at q
    obtain ⟨a', dx, e1, m, md, hi, hd, _⟩ := q
    rw [h2] at e1; cases e1
    rw [h3] at hi; cases hi
    exact ⟨_, hd⟩

/-- from one state of a frame to a later one -/
structure Aft (L : Lk) (M : Mu) (H : Hp) (env : Env) (σ : L2.St) (M' : Mu) (H' : Hp) (env' : Env) (σ' : L2.St) : Prop where
  re : RE L M' H' env' σ'
  fr : ∀ a o, H a = some o → ¬ own H env σ a → H' a = some o ∧ (M' a ↔ M a)
  ow : ∀ a, own H' env' σ' a → own H env σ a ∨ H a = none
  th : ∀ a, own H env σ a → ∃ o, H' a = some o
  lt : ∀ i, isLt (getS env i) = true → isLt (getS env' i) = true ∧ sv σ' i = sv σ i
  oo : ∀ i a, isOo (getS env' i) = true → sv σ' i = some (.ref a) → (∃ j, isOo (getS env j) = true ∧ sv σ j = some (.ref a)) ∨ H a = none
  lk : ∀ i l g, getS env i = .lck l g → getS env' i = .lck l g ∧ sv σ' i = sv σ i
section
variable {L : Lk} {M M1 M2 : Mu} {H H1 H2 : Hp} {env env1 env2 : Env} {σ σ1 σ2 : L2.St}
theorem Aft.refl (r : RE L M H env σ) : Aft L M H env σ M H env σ :=
  ⟨r, fun _ _ e _ => ⟨e, Iff.rfl⟩, fun _ o => .inl o, fun _ o => r.has o, fun _ h => ⟨h, rfl⟩, fun i a h e => .inl ⟨i, h, e⟩, fun _ _ _ h => ⟨h, rfl⟩⟩
theorem Aft.free (x : Aft L M H env σ M1 H1 env1 σ1) {a : Addr} (h : H1 a = none) : H a = none := by
  cases e : H a with
  | none => rfl
  | some o =>
    exfalso
    by_cases w : own H env σ a
    · obtain ⟨u, q⟩ := x.th a w
      rw [h] at q; cases q
    · rw [(x.fr a o e w).1] at h; cases h
theorem Aft.trans (x : Aft L M H env σ M1 H1 env1 σ1) (y : Aft L M1 H1 env1 σ1 M2 H2 env2 σ2) : Aft L M H env σ M2 H2 env2 σ2 where
  re := y.re
  fr := fun a o e n => by
    obtain ⟨e1, m1⟩ := x.fr a o e n
    have n1 : ¬ own H1 env1 σ1 a := fun w => by
      rcases x.ow a w with z | z
      · exact n z
      · rw [e] at z; cases z
    obtain ⟨e2, m2⟩ := y.fr a o e1 n1
    exact ⟨e2, m2.trans m1⟩
  ow := fun a w => by
    rcases y.ow a w with z | z
    · exact x.ow a z
    · exact .inr (x.free z)
  th := fun a w => by
    obtain ⟨o, e⟩ := x.th a w
    by_cases w1 : own H1 env1 σ1 a
    · exact y.th a w1
    · exact ⟨o, (y.fr a o e w1).1⟩
  lt := fun i h => by
    obtain ⟨h1, e1⟩ := x.lt i h
    obtain ⟨h2, e2⟩ := y.lt i h1
    exact ⟨h2, e2.trans e1⟩
  oo := fun i a h e => by
    rcases y.oo i a h e with ⟨j, h1, e1⟩ | z
    · exact x.oo j a h1 e1
    · exact .inr (x.free z)
  lk := fun i l g h => by
    obtain ⟨h1, e1⟩ := x.lk i l g h
    obtain ⟨h2, e2⟩ := y.lk i l g h1
    exact ⟨h2, e2.trans e1⟩
theorem Aft.ext (x : Aft L M H env σ M1 H1 env1 σ1) (r : RE L M H env σ) : Ext M H M1 H1 := fun a o e m => by
  obtain ⟨e1, m1⟩ := x.fr a o e fun w => m (r.mu w)
  exact ⟨e1, fun z => m (m1.mp z)⟩
end

/-- what an expression has given; H0: the heap it began with -/
def RD (L : Lk) (M : Mu) (H : Hp) (env : Env) (σ : L2.St) (H0 : Hp) : D → V → Prop
  | .g x, v => RG L M H x v
  | .own x, v => ∃ a, v = .ref a ∧ M a ∧ ¬ own H env σ a ∧ (∀ i, isOb (getS env i) = true → sv σ i ≠ some (.ref a)) ∧ RC L M H x a ∧ H0 a = none
  | .sl i, v => sv σ i = some v
section
variable {L : Lk} {M M1 M2 : Mu} {H H0 H1 H2 : Hp} {env env1 env2 : Env} {σ σ1 σ2 : L2.St}
/-- .. kept while a later one is reckoned (the slots hold what they held) -/
theorem RD.to {d : D} {v : V} (x : Aft L M H env σ M1 H1 env1 σ) (r : RE L M H env σ) (ob : ∀ i, isOb (getS env1 i) = true → isOb (getS env i) = true) (h : RD L M H env σ H0 d v) : RD L M1 H1 env1 σ H0 d v := by
  cases d with
  | g y => exact RG.to (x.ext r) _ _ h
  | sl i => exact h
  | own y =>
    obtain ⟨a, e, m, n, ns, k, f⟩ := h
    obtain ⟨o, q⟩ := k.has
    obtain ⟨q1, m1⟩ := x.fr a o q n
    refine ⟨a, e, m1.mpr m, fun w => ?_, fun i hi => ns i (ob i hi), k.to (x.ext r) fun o' e' => ?_, f⟩
    · rcases x.ow a w with z | z
      · exact n z
      · rw [q] at z; cases z
    · rw [q] at e'; cases e'; exact q1
theorem RE.view (r : RE L M H env σ) {d : D} {v : V} {g : G} (h : RD L M H env σ H0 d v) (e : view d env = some g) : RV L M H g v := by
  cases d with
  | g y => simp only [Ev.view, Option.some.injEq] at e; subst e; exact .inl h
  | own y =>
    simp only [Ev.view, Option.some.injEq] at e; subst e
    obtain ⟨a, e, m, n, ns, k, f⟩ := h
    exact .inr ⟨a, e, m, k⟩
  | sl i =>
    have q := r.at_ i
    have hs : sv σ i = some v := h
    simp only [Ev.view] at e
    cases es : getS env i <;> rw [es] at e q <;> simp only [Option.some.injEq, reduceCtorEq] at e <;> subst e <;> simp only [RS1] at q
    · obtain ⟨w, e1, k⟩ := q; rw [hs] at e1; cases e1; exact .inl k
    · obtain ⟨a, e1, m, k⟩ := q; rw [hs] at e1; cases e1; exact .inr ⟨a, rfl, m, k⟩
    · obtain ⟨a, e1, m, k⟩ := q; rw [hs] at e1; cases e1; exact .inr ⟨a, rfl, m, k⟩
    · obtain ⟨w, e1, k⟩ := q; rw [hs] at e1; cases e1; exact .inl k
    · obtain ⟨a, e1, m, k⟩ := q; rw [hs] at e1; cases e1; exact .inr ⟨a, rfl, m, k⟩
end

/-! ### a slot is changed -/
theorem getS_set (env : Env) (i j : Nat) (s : S) : getS (env.set i s) j = if j = i ∧ i < env.length then s else getS env j := by
  unfold getS
  by_cases e : j = i
  · subst e
    by_cases h : j < env.length
    · rw [List.getElem?_set_self h]; simp [h]
    · rw [List.getElem?_eq_none (by simpa using h)]; simp [h]
  · rw [List.getElem?_set_ne (Ne.symm e)]; simp [e]
theorem sv_set (σ : L2.St) (i j : Nat) (o : Option V) : sv (σ.set i o) j = if j = i ∧ i < σ.length then o else sv σ j := by
  unfold sv
  by_cases e : j = i
  · subst e
    by_cases h : j < σ.length
    · rw [List.getElem?_set_self h]; simp [h]
    · rw [List.getElem?_eq_none (by simpa using h)]; simp [h]
  · rw [List.getElem?_set_ne (Ne.symm e)]; simp [e]
theorem getS_lt {env : Env} {i : Nat} (h : getS env i ≠ .non) : i < env.length := by
  by_cases k : i < env.length
  · exact k
  · exfalso; apply h; unfold getS; rw [List.getElem?_eq_none (by simpa using k)]; rfl
end Ev

end
section
set_option linter.all false
set_option maxRecDepth 100000
set_option maxHeartbeats 2000000
namespace Ev
open PySem PySem.Spec PyProof.Rows L2
section
variable {L : Lk} {M M0 M1 M2 : Mu} {H H0 H1 H2 : Hp} {env env0 env1 env2 : Env} {σ σ0 σ1 σ2 : L2.St}
def less (M : Mu) (a : Addr) : Mu := fun b => M b ∧ b ≠ a
theorem ext_less {a : Addr} : Ext M H (less M a) H := fun b o e m => ⟨e, fun z => m z.1⟩
/-- one slot's state is another: what the relation asks -/
theorem RE.set (r : RE L M H env σ) {i : Nat} {s : S} (h : RS1 L M1 H1 s (sv σ i)) (ob : isOb s = true → isOb (getS env i) = true)
    (k : ∀ j, j ≠ i → RS1 L M1 H1 (getS env j) (sv σ j)) : RE L M1 H1 (env.set i s) σ := by
  have key : ∀ j, isOb (getS (env.set i s) j) = true → isOb (getS env j) = true := fun j hj => by
    rw [getS_set] at hj
    split at hj
    · rename_i c; rw [c.1]; exact ob hj
    · exact hj
  refine ⟨by simpa using r.len, fun j => ?_, fun j l a ne h1 h2 => r.inj j l a ne (key j h1) (key l h2)⟩
  rw [getS_set]
  split
  · rename_i c; rw [c.1]; exact h
  · rename_i c
    by_cases e : j = i
    · subst e
      have : ¬ j < env.length := fun z => c ⟨rfl, z⟩
      have e1 : getS env j = .non := by unfold getS; rw [List.getElem?_eq_none (by omega)]; rfl
      rw [e1]; exact True.intro
    · exact k j e
/-- a slot's relation where M is less by an address that the slot does not hold -/
theorem RS1.less {s : S} {o : Option V} {a : Addr} {g : G} (hc : RC L M H g a) (h : RS1 L M H s o) (n : isOb s = true → o ≠ some (.ref a)) : RS1 L (Ev.less M a) H s o := by
  have x : Ext M H (Ev.less M a) H := ext_less
  cases s with
  | non => exact True.intro
  | val y => obtain ⟨v, e, k⟩ := h; exact ⟨v, e, RG.to x _ _ k⟩
  | lfz y => obtain ⟨v, e, k⟩ := h; exact ⟨v, e, RG.to x _ _ k⟩
  | obj y => obtain ⟨b, e, m, k⟩ := h; exact ⟨b, e, ⟨m, fun z => n rfl (by rw [e, z])⟩, k.to x fun _ q => q⟩
  | len y => obtain ⟨b, e, m, k⟩ := h; exact ⟨b, e, ⟨m, fun z => n rfl (by rw [e, z])⟩, k.to x fun _ q => q⟩
  | lck l y => obtain ⟨b, e, m, k⟩ := h; exact ⟨b, e, ⟨m, fun z => n rfl (by rw [e, z])⟩, k.to x fun _ q => q⟩
  | slf c =>
    obtain ⟨b, dx, e, m, md, h1, h2, h3⟩ := h
    refine ⟨b, dx, e, ⟨m, fun z => n rfl (by rw [e, z])⟩, ⟨md, fun z => ?_⟩, h1, h2, h3⟩
    subst z
    cases g <;> simp only [RC] at hc
    · obtain ⟨vs, q, _⟩ := hc; rw [h2] at q; cases q
    · obtain ⟨vs, q, _⟩ := hc; rw [h2] at q; cases q
structure Fz (L : Lk) (M : Mu) (H : Hp) (env : Env) (σ : L2.St) (d : D) (v : V) (g : G) (M1 : Mu) (env1 : Env) : Prop where
  rg : RG L M1 H g v
  sub : ∀ a, M1 a → M a
  sup : ∀ a, M a → M1 a ∨ v = .ref a
  re : RE L M1 H env1 σ
  ob : ∀ i, isOb (getS env1 i) = true → isOb (getS env i) = true
  rd : ∀ H' d' v', RD L M H env σ H' d' v' → (∀ x y, d' = .own x → d = .own y → v' ≠ v) → RD L M1 H env1 σ H' d' v'
/-- a value that will not change from now on -/
theorem frz_ok {d : D} {v : V} {g : G} (x : Aft L M0 H0 env0 σ0 M H env σ) (h : RD L M H env σ H0 d v) (e : frz d env = some (g, env1)) :
    ∃ M1, Fz L M H env σ d v g M1 env1 ∧ Aft L M0 H0 env0 σ0 M1 H env1 σ := by
  have r := x.re
  have triv : ∀ {g : G}, RG L M H g v → env1 = env → ∃ M1, Fz L M H env σ d v g M1 env1 ∧ Aft L M0 H0 env0 σ0 M1 H env1 σ := fun {g} k e1 => by
    subst e1
    exact ⟨M, ⟨k, fun _ m => m, fun _ m => .inl m, r, fun _ q => q, fun _ _ _ q _ => q⟩, x⟩
  cases d with
  | g y =>
    simp only [frz, Option.some.injEq, Prod.mk.injEq] at e
    obtain ⟨e1, e2⟩ := e
    subst e1
    exact triv h e2.symm
  | own y =>
    simp only [frz, Option.some.injEq, Prod.mk.injEq] at e
    obtain ⟨e1, e2⟩ := e
    subst e1 e2
    obtain ⟨a, ev, m, n, ns, k, f⟩ := h
    subst ev
    have xt : Ext M H (less M a) H := ext_less
    have re1 : RE L (less M a) H env σ := ⟨r.len, fun j => (r.at_ j).less k fun hj => ns j hj, r.inj⟩
    refine ⟨less M a, ⟨(k.to xt fun _ q => q).rg fun z => z.2 rfl, fun _ q => q.1, fun b q => ?_, re1, fun _ q => q, fun H' d' v' q ne => ?_⟩,
      ⟨re1, fun b o e1 w => ?_, x.ow, x.th, x.lt, x.oo, x.lk⟩⟩
    · by_cases z : b = a
      · exact .inr (by rw [z])
      · exact .inl ⟨q, z⟩
    · cases d' with
      | g z => exact RG.to xt _ _ q
      | sl j => exact q
      | own z =>
        obtain ⟨b, e1, m1, n1, ns1, k1, f1⟩ := q
        exact ⟨b, e1, ⟨m1, fun z' => ne _ _ rfl rfl (by rw [e1, z'])⟩, n1, ns1, k1.to xt fun _ q => q, f1⟩
    · obtain ⟨e2, m2⟩ := x.fr b o e1 w
      refine ⟨e2, ⟨fun z => m2.mp z.1, fun z => ⟨m2.mpr z, fun q => ?_⟩⟩⟩
      rw [q, f] at e1; cases e1
  | sl i =>
    have hs : sv σ i = some v := h
    have q := r.at_ i
    -- the slot's object goes
    have main : ∀ {g : G} {s1 : S}, RS1 L M H (.obj g) (sv σ i) → isMu (getS env i) = true → (∀ M1, RG L M1 H g v → RS1 L M1 H s1 (sv σ i)) → isOb s1 = false → isMu s1 = false → (isLt (getS env i) = true → isLt s1 = true) → (∀ c, s1 ≠ .slf c) → env1 = env.set i s1 →
        ∃ M1, Fz L M H env σ (.sl i) v g M1 env1 ∧ Aft L M0 H0 env0 σ0 M1 H env1 σ := fun {g s1} hq hmu hs1 hob hnm hlt hns e1 => by
      obtain ⟨a, ea, m, k⟩ := hq
      have ev : v = .ref a := by rw [hs] at ea; exact Option.some.inj ea
      subst ev
      have hi : i < env.length := getS_lt fun z => by rw [z] at hmu; cases hmu
      have xt : Ext M H (less M a) H := ext_less
      have hob' : isOb (getS env i) = true := isOb_of_mu hmu
      have oth : ∀ j, j ≠ i → RS1 L (less M a) H (getS env j) (sv σ j) := fun j hj => (r.at_ j).less k fun ho z => r.inj j i a hj ho hob' z hs
      have kg := (k.to xt fun _ q => q).rg (M := less M a) fun z => z.2 rfl
      have re1 : RE L (less M a) H env1 σ := by
        rw [e1]
        exact r.set (hs1 _ kg) (fun z => by rw [hob] at z; cases z) oth
      have gs : ∀ j, getS env1 j = if j = i then s1 else getS env j := fun j => by rw [e1, getS_set]; simp [hi]
      have ob1 : ∀ j, isOb (getS env1 j) = true → isOb (getS env j) = true := fun j hj => by
        rw [gs] at hj
        split at hj
        · rw [hob] at hj; cases hj
        · exact hj
      have ow1 : ∀ b, own H env1 σ b → own H env σ b := fun b ⟨j, w⟩ => by
        refine ⟨j, ?_⟩
        rw [gs] at w
        by_cases z : j = i
        · rw [if_pos z] at w
          rcases w with ⟨w, _⟩ | ⟨c, a', C, fs, w, _⟩
          · rw [hnm] at w; cases w
          · exact absurd w (hns c)
        · rw [if_neg z] at w; exact w
      have ownA : own H env σ a := ⟨i, .inl ⟨hmu, hs⟩⟩
      refine ⟨less M a, ⟨kg, fun _ q => q.1, fun b q => ?_, re1, ob1, fun H' d' v' q ne => ?_⟩, ⟨re1, fun b o e2 w => ?_, fun b w => x.ow b (ow1 b w), x.th, fun j hj => ?_, fun j b hj hb => ?_, fun j l g hj => ?_⟩⟩
      · by_cases z : b = a
        · exact .inr (by rw [z])
        · exact .inl ⟨q, z⟩
      · cases d' with
        | g z => exact RG.to xt _ _ q
        | sl j => exact q
        | own z =>
          obtain ⟨b, e2, m1, n1, ns1, k1, f1⟩ := q
          exact ⟨b, e2, ⟨m1, fun z' => n1 (by rw [z']; exact ownA)⟩, fun w => n1 (ow1 b w), fun j hj => ns1 j (ob1 j hj), k1.to xt fun _ q => q, f1⟩
      · obtain ⟨e3, m3⟩ := x.fr b o e2 w
        refine ⟨e3, ⟨fun z => m3.mp z.1, fun z => ⟨m3.mpr z, fun q => ?_⟩⟩⟩
        rw [q] at e2 w
        rcases x.ow a ownA with z | z
        · exact w z
        · rw [e2] at z; cases z
      · obtain ⟨l1, l2⟩ := x.lt j hj
        refine ⟨?_, l2⟩
        rw [gs]
        split
        · rename_i z; subst z; exact hlt l1
        · exact l1
      · rw [gs] at hj
        split at hj
        · cases s1 <;> simp [isOb] at hob <;> simp [isOo] at hj
        · exact x.oo j b hj hb
      · obtain ⟨l1, l2⟩ := x.lk j l g hj
        refine ⟨?_, l2⟩
        rw [gs]
        split
        · rename_i z; subst z; rw [l1] at hmu; cases hmu
        · exact l1
    simp only [frz] at e
    cases es : getS env i <;> rw [es] at e q <;> simp only [Option.some.injEq, Prod.mk.injEq, reduceCtorEq] at e <;> obtain ⟨e1, e2⟩ := e <;> subst e1
    · obtain ⟨w, ew, k⟩ := q; rw [hs] at ew; cases ew; exact triv k e2.symm
    · exact main (s1 := .val _) q (by rw [es]; rfl) (fun M1 k => ⟨v, hs, k⟩) rfl rfl (fun z => by rw [es] at z; cases z) (fun c z => by cases z) e2.symm
    · exact main (s1 := .lfz _) q (by rw [es]; rfl) (fun M1 k => ⟨v, hs, k⟩) rfl rfl (fun _ => rfl) (fun c z => by cases z) e2.symm
    · obtain ⟨w, ew, k⟩ := q; rw [hs] at ew; cases ew; exact triv k e2.symm
end
end Ev

end
section
set_option linter.all false
set_option maxRecDepth 100000
set_option maxHeartbeats 2000000
namespace Ev
open PySem PySem.Spec PyProof.Rows L2

theorem PE.imp {X : Cx} {e : Expr} {t t' : TE} (h : PE X e t) (w : ∀ σ H Q, t' σ H Q → t σ H Q) : PE X e t' := ⟨fun pins s σ H Q I q => h.run pins s σ H Q I (w σ H Q q)⟩
theorem PT.imp {X : Cx} {e : Expr} {t t' : TT} (h : PT X e t) (w : ∀ σ H Q, t' σ H Q → t σ H Q) : PT X e t' := ⟨fun pins s σ H Q I q => h.run pins s σ H Q I (w σ H Q q)⟩
theorem PW.imp {X : Cx} {e : Expr} {t t' : TT} (h : PW X e t) (w : ∀ σ H Q, t' σ H Q → t σ H Q) : PW X e t' := ⟨fun wh pins s σ H Q I q => h.run wh pins s σ H Q I (w σ H Q q)⟩
theorem PA.imp {X : Cx} {es : List Expr} {t t' : TA} (h : PA X es t) (w : ∀ σ H Q, t' σ H Q → t σ H Q) : PA X es t' := ⟨fun p pins s σ H Q I q => h.run p pins s σ H Q I (w σ H Q q)⟩
theorem PS.imp {X : Cx} {st : Stmt} {t t' : TS} (h : PS X st t) (w : ∀ D σ H, t' D σ H → t D σ H) : PS X st t' := ⟨fun pins s σ H D I q => h.run pins s σ H D I (w D σ H q)⟩
theorem PSs.imp {X : Cx} {st : List Stmt} {t t' : TS} (h : PSs X st t) (w : ∀ D σ H, t' D σ H → t D σ H) : PSs X st t' := ⟨fun pins s σ H D I q => h.run pins s σ H D I (w D σ H q)⟩
theorem PG.imp {X : Cx} {e : Expr} {t t' : TG} (h : PG X e t) (w : ∀ v σ H Q, t' v σ H Q → t v σ H Q) : PG X e t' := ⟨fun pins s σ H v u Q I r q => h.run pins s σ H v u Q I r (w v σ H Q q)⟩
theorem PI.imp {X : Cx} {tg it : Expr} {t t' : TI} (h : PI X tg it t) (w : ∀ σ H R, t' σ H R → t σ H R) : PI X tg it t' := ⟨fun pins s σ H R I q => h.run pins s σ H R I (w σ H R q)⟩

/-- the exception that is raised, what it keeps -/
def RX (L : Lk) (M : Mu) (H : Hp) (c : Nat) (p : List G) (cls : Value) (dd : Option Addr) : Prop :=
  cls = .ref (L.ce c) ∧ ∀ g, p = [g] → ∃ d v, dd = some d ∧ ¬ M d ∧ H d = some (.xd [(L.ef c, v)]) ∧ RG L M H g v

structure AftE (L : Lk) (M : Mu) (H : Hp) (env : Env) (σ : L2.St) (M' : Mu) (H' : Hp) (env' : Env) : Prop where
  aft : Aft L M H env σ M' H' env' σ
  ob : ∀ i, isOb (getS env' i) = true → isOb (getS env i) = true
section
variable {L : Lk} {M M0 M1 M2 : Mu} {H H0 H1 H2 : Hp} {env env0 env1 env2 : Env} {σ : L2.St}
theorem AftE.refl (r : RE L M H env σ) : AftE L M H env σ M H env := ⟨.refl r, fun _ h => h⟩
theorem AftE.trans (x : AftE L M H env σ M1 H1 env1) (y : AftE L M1 H1 env1 σ M2 H2 env2) : AftE L M H env σ M2 H2 env2 := ⟨x.aft.trans y.aft, fun i h => x.ob i (y.ob i h)⟩
theorem AftE.re (x : AftE L M H env σ M1 H1 env1) : RE L M1 H1 env1 σ := x.aft.re
end

def PostE (L : Lk) (W : WX) (σ : L2.St) (M : Mu) (H : Hp) (env : Env) {α : Type} (ok : α → Env → Prop) : R α → Prop
  | .ok a e => ok a e
  | .exn c p e => ∀ cls dd H' M', AftE L M H env σ M' H' e → RX L M' H' c p cls dd → W cls dd σ H'
  | .bad => False
def okD (L : Lk) (σ : L2.St) (M : Mu) (H : Hp) (env : Env) (Q : VK) : D → Env → Prop := fun d e => ∀ v H' M', AftE L M H env σ M' H' e → RD L M' H' e σ H d v → Q v H'
def okB (L : Lk) (σ : L2.St) (M : Mu) (H : Hp) (env : Env) (Q : Bool → Hp → Prop) : Bool → Env → Prop := fun b e => ∀ H' M', AftE L M H env σ M' H' e → Q b H'
/-- values of several, the new objects among them apart -/
def RDs (L : Lk) (M : Mu) (H : Hp) (env : Env) (σ : L2.St) (H0 : Hp) : List D → List V → Prop
  | [], vs => vs = []
  | d :: ds, vs => ∃ v r, vs = v :: r ∧ RD L M H env σ H0 d v ∧ RDs L M H env σ H0 ds r ∧ ∀ x, d = .own x → ∀ y ∈ ds.zip r, ∀ z, y.1 = .own z → y.2 ≠ v
def okA (L : Lk) (σ : L2.St) (M : Mu) (H : Hp) (env : Env) (Q : List V → Hp → Prop) : List D → Env → Prop := fun ds e => ∀ vs H' M', AftE L M H env σ M' H' e → RDs L M' H' e σ H ds vs → Q vs H'
def okG (L : Lk) (σ : L2.St) (M : Mu) (H : Hp) (env : Env) (Q : List V → Hp → Prop) : List G → Env → Prop := fun gs e => ∀ vs H' M', AftE L M H env σ M' H' e → RGs L M' H' gs vs → Q vs H'
def TEof (L : Lk) (W : WX) (ev : Env → R D) : TE := fun σ H Q => ∃ M env, RE L M H env σ ∧ PostE L W σ M H env (okD L σ M H env Q) (ev env)
def TTof (L : Lk) (W : WX) (ev : Env → R Bool) : TT := fun σ H Q => ∃ M env, RE L M H env σ ∧ PostE L W σ M H env (okB L σ M H env Q) (ev env)
def TAof (L : Lk) (W : WX) (ev : Env → R (List D)) : TA := fun σ H Q => ∃ M env, RE L M H env σ ∧ PostE L W σ M H env (okA L σ M H env Q) (ev env)

section
variable {L : Lk} {W : WX} {M M0 M1 : Mu} {H H0 H1 : Hp} {env env0 env1 : Env} {σ : L2.St}
/-- the first part of what is reckoned -/
theorem goE {β : Type} {ok : β → Env → Prop} {ev : Env → R D} {k : D → Env → R β} {Q : VK} (A : AftE L M0 H0 env0 σ M H env) (P : PostE L W σ M0 H0 env0 ok ((ev env).bind k))
    (h : ∀ d e v H1 M1, AftE L M0 H0 env0 σ M1 H1 e → AftE L M H env σ M1 H1 e → RD L M1 H1 e σ H d v → PostE L W σ M0 H0 env0 ok (k d e) → Q v H1) : TEof L W ev σ H Q := by
  refine ⟨M, env, A.re, ?_⟩
  cases e : ev env with
  | ok d e1 =>
    rw [e] at P
    exact fun v H1 M1 A1 D1 => h d e1 v H1 M1 (A.trans A1) A1 D1 P
  | exn c p e1 =>
    rw [e] at P
    exact fun cls dd H' M' A1 r => P cls dd H' M' (A.trans A1) r
  | bad => rw [e] at P; exact P
theorem goT {β : Type} {ok : β → Env → Prop} {ev : Env → R Bool} {k : Bool → Env → R β} {Q : Bool → Hp → Prop} (A : AftE L M0 H0 env0 σ M H env) (P : PostE L W σ M0 H0 env0 ok ((ev env).bind k))
    (h : ∀ b e H1 M1, AftE L M0 H0 env0 σ M1 H1 e → AftE L M H env σ M1 H1 e → PostE L W σ M0 H0 env0 ok (k b e) → Q b H1) : TTof L W ev σ H Q := by
  refine ⟨M, env, A.re, ?_⟩
  cases e : ev env with
  | ok d e1 =>
    rw [e] at P
    exact fun H1 M1 A1 => h d e1 H1 M1 (A.trans A1) A1 P
  | exn c p e1 =>
    rw [e] at P
    exact fun cls dd H' M' A1 r => P cls dd H' M' (A.trans A1) r
  | bad => rw [e] at P; exact P
theorem goA {β : Type} {ok : β → Env → Prop} {ev : Env → R (List D)} {k : List D → Env → R β} {Q : List V → Hp → Prop} (A : AftE L M0 H0 env0 σ M H env) (P : PostE L W σ M0 H0 env0 ok ((ev env).bind k))
    (h : ∀ ds e vs H1 M1, AftE L M0 H0 env0 σ M1 H1 e → AftE L M H env σ M1 H1 e → RDs L M1 H1 e σ H ds vs → PostE L W σ M0 H0 env0 ok (k ds e) → Q vs H1) : TAof L W ev σ H Q := by
  refine ⟨M, env, A.re, ?_⟩
  cases e : ev env with
  | ok d e1 =>
    rw [e] at P
    exact fun v H1 M1 A1 D1 => h d e1 v H1 M1 (A.trans A1) A1 D1 P
  | exn c p e1 =>
    rw [e] at P
    exact fun cls dd H' M' A1 r => P cls dd H' M' (A.trans A1) r
  | bad => rw [e] at P; exact P
/-- the last part -/
theorem lastE {ev : Env → R D} {Q : VK} (A : AftE L M0 H0 env0 σ M H env) (fr : ∀ a, H a = none → H0 a = none) (P : PostE L W σ M0 H0 env0 (okD L σ M0 H0 env0 Q) (ev env)) : TEof L W ev σ H Q := by
  refine ⟨M, env, A.re, ?_⟩
  cases e : ev env with
  | ok d e1 =>
    rw [e] at P
    refine fun v H1 M1 A1 D1 => P v H1 M1 (A.trans A1) ?_
    cases d with
    | g x => exact D1
    | sl i => exact D1
    | own x => obtain ⟨a, h1, h2, h3, h4, h5, h6⟩ := D1; exact ⟨a, h1, h2, h3, h4, h5, fr a h6⟩
  | exn c p e1 =>
    rw [e] at P
    exact fun cls dd H' M' A1 r => P cls dd H' M' (A.trans A1) r
  | bad => rw [e] at P; exact P
theorem lastT {ev : Env → R Bool} {Q : Bool → Hp → Prop} (A : AftE L M0 H0 env0 σ M H env) (P : PostE L W σ M0 H0 env0 (okB L σ M0 H0 env0 Q) (ev env)) : TTof L W ev σ H Q := by
  refine ⟨M, env, A.re, ?_⟩
  cases e : ev env with
  | ok d e1 => rw [e] at P; exact fun H1 M1 A1 => P H1 M1 (A.trans A1)
  | exn c p e1 => rw [e] at P; exact fun cls dd H' M' A1 r => P cls dd H' M' (A.trans A1) r
  | bad => rw [e] at P; exact P
end

/-! ### what operators hand back -/
/-- a new value: objects may have been laid -/
structure New (L : Lk) (M : Mu) (H : Hp) (M' : Mu) (H' : Hp) (d : D) (v : V) : Prop where
  kp : ∀ a o, H a = some o → H' a = some o ∧ (M' a ↔ M a)
  rd : match d with
    | .g x => RG L M' H' x v
    | .own x => ∃ a, v = .ref a ∧ H a = none ∧ M' a ∧ RC L M' H' x a
    | .sl _ => False
section
variable {L : Lk} {W : WX} {M M' M0 M1 : Mu} {H H' H0 H1 : Hp} {env env0 env1 : Env} {σ : L2.St}
theorem ext_kp (kp : ∀ a o, H a = some o → H' a = some o ∧ (M' a ↔ M a)) : Ext M H M' H' := fun a o e m => ⟨(kp a o e).1, fun z => m ((kp a o e).2.mp z)⟩
theorem RS1.kp (kp : ∀ a o, H a = some o → H' a = some o ∧ (M' a ↔ M a)) {s : S} {o : Option V} (h : RS1 L M H s o) : RS1 L M' H' s o := by
  have x := ext_kp kp
  cases s with
  | non => exact True.intro
  | val y => obtain ⟨v, e, k⟩ := h; exact ⟨v, e, RG.to x _ _ k⟩
  | lfz y => obtain ⟨v, e, k⟩ := h; exact ⟨v, e, RG.to x _ _ k⟩
  | obj y => obtain ⟨b, e, m, k⟩ := h; obtain ⟨o, q⟩ := k.has; exact ⟨b, e, (kp b o q).2.mpr m, k.to x fun o' q' => (kp b o' q').1⟩
  | len y => obtain ⟨b, e, m, k⟩ := h; obtain ⟨o, q⟩ := k.has; exact ⟨b, e, (kp b o q).2.mpr m, k.to x fun o' q' => (kp b o' q').1⟩
  | lck l y => obtain ⟨b, e, m, k⟩ := h; obtain ⟨o, q⟩ := k.has; exact ⟨b, e, (kp b o q).2.mpr m, k.to x fun o' q' => (kp b o' q').1⟩
  | slf c => obtain ⟨b, dx, e, m, md, h1, h2, h3⟩ := h; exact ⟨b, dx, e, (kp b _ h1).2.mpr m, (kp dx _ h2).2.mpr md, (kp b _ h1).1, (kp dx _ h2).1, h3⟩
theorem own_kp (r : RE L M H env σ) (kp : ∀ a o, H a = some o → H' a = some o ∧ (M' a ↔ M a)) {b : Addr} (w : own H' env σ b) : own H env σ b := by
  obtain ⟨i, w | ⟨c, a, C, fs, h1, h2, h3⟩⟩ := w
  · exact ⟨i, .inl w⟩
  · have q := r.at_ i
    rw [h1] at q
    obtain ⟨a', dx, e1, m, md, hi, hd, _⟩ := q
    rw [h2] at e1; cases e1
    have q2 := (kp _ _ hi).1
    rw [h3] at q2; cases q2
    exact ⟨i, .inr ⟨c, a, _, _, h1, h2, hi⟩⟩
theorem AftE.kp (r : RE L M H env σ) (kp : ∀ a o, H a = some o → H' a = some o ∧ (M' a ↔ M a)) : AftE L M H env σ M' H' env := by
  refine ⟨⟨⟨r.len, fun i => (r.at_ i).kp kp, r.inj⟩, fun a o e _ => kp a o e, fun a w => .inl (own_kp r kp w), fun a w => ?_, fun _ h => ⟨h, rfl⟩, fun i a h e => .inl ⟨i, h, e⟩, fun _ _ _ h => ⟨h, rfl⟩⟩, fun _ h => h⟩
  obtain ⟨o, e⟩ := r.has w
  exact ⟨o, (kp a o e).1⟩
theorem New.rd' (r : RE L M H env σ) {d : D} {v : V} (n : New L M H M' H' d v) : RD L M' H' env σ H d v := by
  cases d with
  | g x => exact n.rd
  | sl i => exact n.rd.elim
  | own x =>
    obtain ⟨a, e, f, m, k⟩ := n.rd
    refine ⟨a, e, m, fun w => ?_, fun i hi z => ?_, k, f⟩
    · obtain ⟨o, q⟩ := r.has (own_kp r n.kp w)
      rw [f] at q; cases q
    · have q := r.at_ i
      cases es : getS env i <;> rw [es] at hi q <;> simp [isOb] at hi <;> simp only [RS1] at q
      · obtain ⟨b, e1, _, kk⟩ := q; rw [z] at e1; cases e1; obtain ⟨o, q⟩ := kk.has; rw [f] at q; cases q
      · obtain ⟨b, e1, _, kk⟩ := q; rw [z] at e1; cases e1; obtain ⟨o, q⟩ := kk.has; rw [f] at q; cases q
      · obtain ⟨b, e1, _, kk⟩ := q; rw [z] at e1; cases e1; obtain ⟨o, q⟩ := kk.has; rw [f] at q; cases q
      · obtain ⟨b, dx, e1, _, _, kk, _⟩ := q; rw [z] at e1; cases e1; rw [f] at kk; cases kk
theorem New.same {d : G} {v : V} (h : RG L M H d v) : New L M H M H (.g d) v := ⟨fun _ _ e => ⟨e, Iff.rfl⟩, h⟩
/-- a tuple is laid -/
theorem New.tup {p : Addr} {xs : List G} {vs : List V} (f : H p = none) (h : RGs L M H xs vs) : New L M H (less M p) (L2.upd H p (.tup vs)) (.g (.tup xs)) (.ref p) := by
  have kp : ∀ a o, H a = some o → L2.upd H p (.tup vs) a = some o ∧ (less M p a ↔ M a) := fun a o e => by
    have ne : a ≠ p := fun z => by rw [z, f] at e; cases e
    exact ⟨by rw [upd_ne ne]; exact e, ⟨fun z => z.1, fun z => ⟨z, ne⟩⟩⟩
  refine ⟨kp, ?_⟩
  show RG _ _ _ (.tup xs) _
  unfold RG
  exact ⟨p, vs, rfl, .inl ⟨fun z => z.2 rfl, .inl upd_same⟩, RGs.to (ext_kp kp) _ _ h⟩
def more (M : Mu) (a : Addr) : Mu := fun b => M b ∨ b = a
theorem more_kp {p : Addr} {o : HO} (f : H p = none) : ∀ a u, H a = some u → L2.upd H p o a = some u ∧ (more M p a ↔ M a) := fun a u e => by
  have ne : a ≠ p := fun z => by rw [z, f] at e; cases e
  exact ⟨by rw [upd_ne ne]; exact e, ⟨fun z => z.elim id fun z => absurd z ne, fun z => .inl z⟩⟩
theorem New.lst {p : Addr} {xs : List G} {vs : List V} (f : H p = none) (h : RGs L M H xs vs) : New L M H (more M p) (L2.upd H p (.lst vs)) (.own (.lst xs)) (.ref p) := by
  refine ⟨more_kp f, p, rfl, f, .inr rfl, ?_⟩
  unfold RC
  exact ⟨vs, upd_same, RGs.to (ext_kp (more_kp f)) _ _ h⟩
theorem New.dct {p : Addr} {kvs : List (Key × V)} {xs : List G} (f : H p = none) (h : RGs L M H xs (kvs.map (·.2))) : New L M H (more M p) (L2.upd H p (.dK kvs)) (.own (.dct (kvs.map fun q => keyG q.1) xs)) (.ref p) := by
  refine ⟨more_kp f, p, rfl, f, .inr rfl, ?_⟩
  unfold RC
  exact ⟨kvs, upd_same, rfl, RGs.to (ext_kp (more_kp f)) _ _ h⟩
end

/-! ### values seen -/
section
variable {L : Lk} {M : Mu} {H : Hp} {v : V}
theorem RV.int {i : Int} (h : RV L M H (.int i) v) : v = .int i := by
  rcases h with h | ⟨a, _, _, h⟩
  · unfold RG at h; exact h
  · unfold RC at h; exact h.elim
theorem RV.bl {b : Bool} (h : RV L M H (.bl b) v) : v = .bl b := by
  rcases h with h | ⟨a, _, _, h⟩
  · unfold RG at h; exact h
  · unfold RC at h; exact h.elim
theorem RV.non (h : RV L M H .non v) : v = .non := by
  rcases h with h | ⟨a, _, _, h⟩
  · unfold RG at h; exact h
  · unfold RC at h; exact h.elim
theorem RV.str {s : Str} (h : RV L M H (.str s) v) : v = .str s := by
  rcases h with h | ⟨a, _, _, h⟩
  · unfold RG at h; exact h
  · unfold RC at h; exact h.elim
theorem RV.tup {xs : List G} (h : RV L M H (.tup xs) v) : ∃ a vs, v = .ref a ∧ SqT L.K H a vs ∧ RGs L M H xs vs ∧ RG L M H (.tup xs) v := by
  rcases h with h | ⟨a, _, _, h⟩
  · have h' := h
    unfold RG at h
    obtain ⟨a, vs, e, k, r⟩ := h
    refine ⟨a, vs, e, ?_, r, h'⟩
    rcases k with ⟨_, k⟩ | k
    · exact .inl k
    · exact .inr k
  · unfold RC at h; exact h.elim
theorem RV.scr {xs : List G} (h : RV L M H (.scr xs) v) : ∃ a vs, v = .ref a ∧ SqL L.K H a vs ∧ RGs L M H xs vs := by
  rcases h with h | ⟨a, _, _, h⟩
  · unfold RG at h
    obtain ⟨a, vs, e, k, r⟩ := h
    refine ⟨a, vs, e, ?_, r⟩
    rcases k with ⟨_, k⟩ | k
    · exact .inl k
    · exact .inr k
  · unfold RC at h; exact h.elim
theorem RV.lst {xs : List G} (h : RV L M H (.lst xs) v) : ∃ a vs, v = .ref a ∧ SqL L.K H a vs ∧ Rd H a (.lst vs) ∧ RGs L M H xs vs := by
  rcases h with h | ⟨a, e, _, h⟩
  · unfold RG at h
    obtain ⟨a, vs, e, _, k, r⟩ := h
    exact ⟨a, vs, e, .inl k, k, r⟩
  · unfold RC at h
    obtain ⟨vs, k, r⟩ := h
    exact ⟨a, vs, e, .inl (.inl k), .inl k, r⟩
theorem RV.dct {ks xs : List G} (h : RV L M H (.dct ks xs) v) : ∃ a kvs, v = .ref a ∧ Rd H a (.dK kvs) ∧ ks = kvs.map (fun p => keyG p.1) ∧ RGs L M H xs (kvs.map (·.2)) := by
  rcases h with h | ⟨a, e, _, h⟩
  · unfold RG at h
    obtain ⟨a, kvs, e, _, k, hk, r⟩ := h
    exact ⟨a, kvs, e, k, hk, r⟩
  · unfold RC at h
    obtain ⟨kvs, k, hk, r⟩ := h
    exact ⟨a, kvs, e, .inl k, hk, r⟩
theorem RV.ins {c : Nat} {fs : List G} (h : RV L M H (.ins c fs) v) : ∃ a dx ws, v = .ref a ∧ SlX.Slt H a (L.ca c) dx (ws.map some) ∧ RGs L M H fs ws ∧ RG L M H (.ins c fs) v ∧ L.sl c = true := by
  rcases h with h | ⟨a, e, _, h⟩
  · have h' := h
    unfold RG at h
    obtain ⟨a, dx, ws, e, _, _, h1, h2, r, hs⟩ := h
    exact ⟨a, dx, ws, e, .inr ⟨h1, h2⟩, r, h', hs⟩
  · unfold RC at h; exact h.elim
theorem RG.non_iff {g : G} (h : RG L M H g v) : decide (v = .non) = isNon g := by
  cases g <;> unfold RG at h
  · subst h; rfl
  · subst h; rfl
  · subst h; rfl
  · subst h; rfl
  · obtain ⟨_, _, e, _⟩ := h; subst e; rfl
  · obtain ⟨_, _, e, _⟩ := h; subst e; rfl
  · obtain ⟨_, _, e, _⟩ := h; subst e; rfl
  · obtain ⟨_, _, e, _⟩ := h; subst e; rfl
  · obtain ⟨_, _, _, e, _⟩ := h; subst e; rfl
  · exact h.elim
  · exact h.elim
theorem RV.non_iff {g : G} (h : RV L M H g v) : decide (v = .non) = isNon g := by
  rcases h with h | ⟨a, e, _, h⟩
  · exact h.non_iff
  · subst e
    cases g <;> first | (unfold RC at h; exact h.elim) | rfl
theorem emp_len {α β : Type} : ∀ {xs : List α} {ys : List β}, xs.length = ys.length → (!xs.isEmpty) = !ys.isEmpty
  | [], [], _ => rfl
  | _ :: _, _ :: _, _ => rfl
  | [], _ :: _, h => by simp at h
  | _ :: _, [], h => by simp at h
theorem RV.tru {g : G} {t : Bool} (h : RV L M H g v) (e : truth g = some t) : TruV L.K v H t := by
  cases g <;> simp only [truth, Option.some.injEq, reduceCtorEq] at e <;> subst e
  · rw [h.non]; rfl
  · rw [h.bl]; rfl
  · rw [h.int]; rfl
  · obtain ⟨a, vs, e, k, r, _⟩ := h.tup
    subst e
    refine .inr (.inl ⟨vs, k, ?_⟩)
    exact emp_len r.len
  · obtain ⟨a, vs, e, k, _, r⟩ := h.lst
    subst e
    exact .inl ⟨vs, k, emp_len r.len⟩
end
end Ev

end
section
set_option linter.all false
set_option maxRecDepth 100000
set_option maxHeartbeats 2000000
namespace Ev
open PySem PySem.Spec PyProof.Rows L2

theorem line100 : (100000 : Nat) ≤ sizeLine := by rw [sizeLine_eq]; omega
theorem big_log {i : Int} (h : i.natAbs < big) : i.natAbs.log2 < 4096 := PySem.Flt.log2_lt_of (by decide) (by unfold big at h; exact h)
theorem nil_of {α β : Type} {xs : List α} {ys : List β} (h : xs.length = ys.length) (e : ys = []) : xs = [] := List.eq_nil_of_length_eq_zero (by rw [h, e]; rfl)

/-- an operator's rule over deep values -/
def B2S (L : Lk) (X : Cx) (f : Value → Value → Sem Value) (o : B2) : Prop := ∃ r : R2, OpR X f r ∧
  ∀ (M : Mu) (H : Hp) (gx gy : G) (d : D) (vx vy : V) (Q : VK), b2 o gx gy = some d → RV L M H gx vx → RV L M H gy vy → (∀ v H' M', New L M H M' H' d v → Q v H') → r vx vy H Q
section
variable {L : Lk} {X : Cx} {M : Mu} {H : Hp}
theorem rg_int {i : Int} : RG L M H (.int i) (.int i) := by unfold RG; rfl
theorem rg_bl {i : Bool} : RG L M H (.bl i) (.bl i) := by unfold RG; rfl
theorem rg_str {i : Str} : RG L M H (.str i) (.str i) := by unfold RG; rfl
theorem rg_non : RG L M H .non .non := by unfold RG; rfl
theorem RV.sqt (hk : X.K = L.K) {xs : List G} {v : V} (h : RV L M H (.tup xs) v) : ∃ a vs, v = .ref a ∧ SqT X.K H a vs ∧ RGs L M H xs vs ∧ RG L M H (.tup xs) v := by rw [hk]; exact h.tup
theorem RV.sql (hk : X.K = L.K) {xs : List G} {v : V} (h : RV L M H (.lst xs) v) : ∃ a vs, v = .ref a ∧ SqL X.K H a vs ∧ Rd H a (.lst vs) ∧ RGs L M H xs vs := by rw [hk]; exact h.lst

/-- list + list, each as it is read -/
def rCatR : R2 := fun x y H Q => ∃ l b xs zs, x = .ref l ∧ y = .ref b ∧ Rd H l (.lst xs) ∧ Rd H b (.lst zs) ∧ xs.length + zs.length ≤ sizeLine ∧ ∀ p, H p = none → Q (.ref p) (upd H p (.lst (xs ++ zs)))
theorem op_catR : OpR X (binaryOp .Add) rCatR := by
  intro pins s σ H x y v u Q I rx ry h
  obtain ⟨l, b, xs, zs, rfl, rfl, h1, h2, hz, q⟩ := h
  cases rx; cases ry
  obtain ⟨z1, its, n, r1, e1⟩ := h1.ok I.hok
  obtain ⟨z2, its2, n2, r2, e2⟩ := h2.ok I.hok
  have k1 := r1.length
  have k2 := r2.length
  refine PySem.P.add_list e1 e2 ?_ (by simp only [List.size_toArray]; omega)
  rw [show its.toArray ++ its2.toArray = (its ++ its2).toArray from by simp]
  exact ⟨.ref _, _, I.lnew (t' := s.toks) (r1.append r2) (by rw [List.length_append]; omega), rfl, q _ I.fresh⟩

theorem s_add (hk : X.K = L.K) : B2S L X (binaryOp .Add) .add := by
  refine ⟨_, OpR.or op_add (OpR.or op_catA (OpR.or op_catR op_add_str)), ?_⟩
  intro M H gx gy d vx vy Q e hx hy q
  have hl := line100
  cases gx <;> cases gy <;> simp only [b2, Option.ite_none_right_eq_some, Option.some.injEq, reduceCtorEq] at e
  · subst e
    rw [hx.int, hy.int]
    exact .inl ⟨_, _, rfl, rfl, q _ _ _ (.same rg_int)⟩
  · obtain ⟨hz, e⟩ := e
    subst e
    rw [hx.str, hy.str]
    exact .inr (.inr (.inr ⟨_, _, rfl, rfl, by omega, q _ _ _ (.same rg_str)⟩))
  · obtain ⟨hz, e⟩ := e
    subst e
    obtain ⟨a, vs, rfl, h1, r1, g1⟩ := hx.sqt hk
    obtain ⟨b, ws, rfl, h2, r2, g2⟩ := hy.sqt hk
    have l1 := r1.len
    have l2 := r2.len
    refine .inr (.inl ⟨a, b, vs, ws, rfl, rfl, h1, h2, by omega, fun z => ?_, fun _ z => ?_, fun _ _ p hp => ?_⟩)
    · have z := nil_of l1 z
      subst z
      exact q _ _ _ (.same g2)
    · have z := nil_of l2 z
      subst z
      rw [List.append_nil] at q
      exact q _ _ _ (.same g1)
    · exact q _ _ _ (.tup hp (r1.app r2))
  · obtain ⟨hz, e⟩ := e
    subst e
    obtain ⟨a, vs, rfl, _, h1, r1⟩ := hx.lst
    obtain ⟨b, ws, rfl, _, h2, r2⟩ := hy.lst
    have l1 := r1.len
    have l2 := r2.len
    exact .inr (.inr (.inl ⟨a, b, vs, ws, rfl, rfl, h1, h2, by omega, fun p hp => q _ _ _ (.lst hp (r1.app r2))⟩))
theorem s_sub : B2S L X (binaryOp .Sub) .sub := by
  refine ⟨_, op_sub, ?_⟩
  intro M H gx gy d vx vy Q e hx hy q
  cases gx <;> cases gy <;> simp only [b2, Option.some.injEq, reduceCtorEq] at e
  subst e
  rw [hx.int, hy.int]
  exact ⟨_, _, rfl, rfl, q _ _ _ (.same rg_int)⟩
theorem s_mod : B2S L X (binaryOp .Mod) .mod := by
  refine ⟨_, op_mod, ?_⟩
  intro M H gx gy d vx vy Q e hx hy q
  cases gx <;> cases gy <;> simp only [b2, Option.ite_none_right_eq_some, Option.some.injEq, reduceCtorEq, decide_eq_true_eq] at e
  obtain ⟨hz, e⟩ := e
  subst e
  rw [hx.int, hy.int]
  exact ⟨_, _, rfl, rfl, hz, q _ _ _ (.same rg_int)⟩
theorem s_fdiv : B2S L X (binaryOp .FloorDiv) .fdiv := by
  refine ⟨_, OpR.or op_fdiv op_fdivW, ?_⟩
  intro M H gx gy d vx vy Q e hx hy q
  cases gx <;> cases gy <;> simp only [b2, Option.ite_none_right_eq_some, Option.some.injEq, reduceCtorEq, decide_eq_true_eq, Bool.and_eq_true, Bool.or_eq_true] at e
  obtain ⟨⟨h0, hz⟩, e⟩ := e
  subst e
  rw [hx.int, hy.int]
  rcases hz with hz | hz
  · exact .inl ⟨_, _, rfl, rfl, ⟨h0, hz⟩, q _ _ _ (.same rg_int)⟩
  · exact .inr ⟨_, _, rfl, rfl, ⟨h0, Nat.lt_trans (big_log hz) (by decide)⟩, q _ _ _ (.same rg_int)⟩
theorem op_powW : OpR X (binaryOp .Pow) (rI (fun i j => 0 ≤ j ∧ j ≤ 1000 ∧ i.natAbs < big) fun i j => .int (i ^ j.toNat)) := opI fun i j _ _ _ _ _ hc q => by
  obtain ⟨h0, h1, h2⟩ := hc
  have hb : Builtin.Int.intBits i ≤ 4097 := by
    have := big_log h2
    unfold Builtin.Int.intBits
    split <;> omega
  refine pow_int h0 ?_ q
  have h3 : (Builtin.Int.intBits i : Int) ≤ 4097 := by omega
  have h4 : (Builtin.Int.intBits i : Int) * j ≤ 4097 * 1000 := Int.mul_le_mul h3 h1 h0 (by decide)
  omega
theorem s_pow : B2S L X (binaryOp .Pow) .pow := by
  refine ⟨_, op_powW, ?_⟩
  intro M H gx gy d vx vy Q e hx hy q
  cases gx <;> cases gy <;> simp only [b2, Option.ite_none_right_eq_some, Option.some.injEq, reduceCtorEq, decide_eq_true_eq, Bool.and_eq_true] at e
  obtain ⟨⟨⟨h0, h1⟩, h2⟩, e⟩ := e
  subst e
  rw [hx.int, hy.int]
  exact ⟨_, _, rfl, rfl, ⟨h0, h1, h2⟩, q _ _ _ (.same rg_int)⟩

/-! ### comparisons -/
theorem ltT_some {xs ys : List G} {d : D} (e : ltT xs ys = some d) : ∃ a b, intsOf xs = some a ∧ intsOf ys = some b ∧ d = .g (.bl (HT.lexLt a b)) := by
  unfold ltT at e
  split at e
  · rename_i a b h1 h2
    cases e
    exact ⟨a, b, h1, h2, rfl⟩
  · cases e
theorem rgs_intsOf : ∀ {xs : List G} {vs : List V} {is : List Int}, RGs L M H xs vs → intsOf xs = some is → vs = is.map V.int
  | [], vs, is, h, e => by
    unfold RGs at h; subst h
    cases e; rfl
  | x :: xs, vs, is, h, e => by
    unfold RGs at h
    obtain ⟨v, r, rfl, h1, h2⟩ := h
    cases x <;> simp only [intsOf, reduceCtorEq] at e
    split at e
    · rename_i is' h3
      cases e
      unfold RG at h1
      rw [h1, rgs_intsOf h2 h3]; rfl
    · cases e
theorem s_lt (hk : X.K = L.K) (hu : X.A.units + 65 < cLine) : B2S L X (compareOp .Lt) .lt := by
  refine ⟨_, OpR.or op_lt (op_ltT (by omega)), ?_⟩
  intro M H gx gy d vx vy Q e hx hy q
  cases gx <;> cases gy <;> simp only [b2, Option.some.injEq, reduceCtorEq] at e
  · subst e
    rw [hx.int, hy.int]
    exact .inl ⟨_, _, rfl, rfl, q _ _ _ (.same rg_bl)⟩
  · obtain ⟨a, b, h1, h2, rfl⟩ := ltT_some e
    obtain ⟨p1, vs, rfl, k1, r1, _⟩ := hx.sqt hk
    obtain ⟨p2, ws, rfl, k2, r2, _⟩ := hy.sqt hk
    rw [rgs_intsOf r1 h1] at k1
    rw [rgs_intsOf r2 h2] at k2
    exact .inr ⟨p1, p2, a, b, rfl, rfl, k1, k2, q _ _ _ (.same rg_bl)⟩
theorem s_le : B2S L X (compareOp .LtE) .le := by
  refine ⟨_, op_le, ?_⟩
  intro M H gx gy d vx vy Q e hx hy q
  cases gx <;> cases gy <;> simp only [b2, Option.some.injEq, reduceCtorEq] at e
  subst e
  rw [hx.int, hy.int]
  exact ⟨_, _, rfl, rfl, q _ _ _ (.same rg_bl)⟩
theorem s_gt : B2S L X (compareOp .Gt) .gt := by
  refine ⟨_, op_gt, ?_⟩
  intro M H gx gy d vx vy Q e hx hy q
  cases gx <;> cases gy <;> simp only [b2, Option.some.injEq, reduceCtorEq] at e
  subst e
  rw [hx.int, hy.int]
  exact ⟨_, _, rfl, rfl, q _ _ _ (.same rg_bl)⟩
theorem s_ge : B2S L X (compareOp .GtE) .ge := by
  refine ⟨_, op_ge, ?_⟩
  intro M H gx gy d vx vy Q e hx hy q
  cases gx <;> cases gy <;> simp only [b2, Option.some.injEq, reduceCtorEq] at e
  subst e
  rw [hx.int, hy.int]
  exact ⟨_, _, rfl, rfl, q _ _ _ (.same rg_bl)⟩
theorem s_is : B2S L X (compareOp .Is) .is_ := by
  refine ⟨_, op_isN, ?_⟩
  intro M H gx gy d vx vy Q e hx hy q
  cases gy <;> simp only [b2, Option.some.injEq, reduceCtorEq] at e
  subst e
  refine ⟨hy.non, ?_⟩
  rw [hx.non_iff]
  exact q _ _ _ (.same rg_bl)
theorem s_isnot : B2S L X (compareOp .IsNot) .isnot := by
  refine ⟨_, op_notN, ?_⟩
  intro M H gx gy d vx vy Q e hx hy q
  cases gy <;> simp only [b2, Option.some.injEq, reduceCtorEq] at e
  subst e
  refine ⟨hy.non, ?_⟩
  rw [hx.non_iff]
  exact q _ _ _ (.same rg_bl)

/-! == of data -/
mutual
theorem RG.dp (hk : X.K = L.K) : ∀ (g : G) (v : V) (p : PyData), RG L M H g v → g.py = some p → Dp X.K H v p
  | .non, v, p, h, e => by simp only [G.py, Option.some.injEq] at e; subst e; unfold RG at h; subst h; exact .non
  | .bl b, v, p, h, e => by simp only [G.py, Option.some.injEq] at e; subst e; unfold RG at h; subst h; exact .bl b
  | .int b, v, p, h, e => by simp only [G.py, Option.some.injEq] at e; subst e; unfold RG at h; subst h; exact .int b
  | .str b, v, p, h, e => by simp only [G.py, Option.some.injEq] at e; subst e; unfold RG at h; subst h; exact .str b
  | .tup xs, v, p, h, e => by
    simp only [G.py] at e
    split at e
    · rename_i ds hd
      simp only [Option.some.injEq] at e; subst e
      obtain ⟨a, vs, ev, k, r, _⟩ := RV.sqt hk (.inl h)
      subst ev
      exact .tup k (RGs.dp hk xs vs ds r hd)
    · cases e
  | .lst xs, v, p, h, e => by
    simp only [G.py] at e
    split at e
    · rename_i ds hd
      simp only [Option.some.injEq] at e; subst e
      obtain ⟨a, vs, ev, k, _, r⟩ := RV.sql hk (.inl h)
      subst ev
      exact .lst k (RGs.dp hk xs vs ds r hd)
    · cases e
  | .dct _ _, _, _, _, e => by simp [G.py] at e
  | .scr _, _, _, _, e => by simp [G.py] at e
  | .ins _ _, _, _, _, e => by simp [G.py] at e
  | .cls _, _, _, _, e => by simp [G.py] at e
  | .fn _, _, _, _, e => by simp [G.py] at e
theorem RGs.dp (hk : X.K = L.K) : ∀ (xs : List G) (vs : List V) (ds : List PyData), RGs L M H xs vs → G.pys xs = some ds → DpAll X.K H vs ds
  | [], vs, ds, h, e => by
    simp only [G.pys, Option.some.injEq] at e; subst e
    unfold RGs at h; subst h
    exact .nil
  | x :: xs, vs, ds, h, e => by
    simp only [G.pys] at e
    unfold RGs at h
    obtain ⟨v, r, ev, h1, h2⟩ := h
    subst ev
    split at e
    · rename_i d ds' e1 e2
      simp only [Option.some.injEq] at e; subst e
      exact .cons (RG.dp hk x v d h1 e1) (RGs.dp hk xs r ds' h2 e2)
    · cases e
end
theorem RV.dp (hk : X.K = L.K) {g : G} {v : V} {p : PyData} (h : RV L M H g v) (e : g.py = some p) : Dp X.K H v p := by
  rcases h with h | ⟨a, rfl, _, h⟩
  · exact h.dp hk _ _ _ e
  · cases g <;> first | (unfold RC at h; exact h.elim) | skip
    · unfold RC at h
      obtain ⟨vs, k, r⟩ := h
      simp only [G.py] at e
      split at e
      · rename_i ds hd
        simp only [Option.some.injEq] at e; subst e
        exact .lst (.inl (.inl k)) (RGs.dp hk _ vs ds r hd)
      · cases e
    · simp [G.py] at e
theorem pyEq_some {a b : G} {t : Bool} (e : pyEq a b = some t) : ∃ x y, a.py = some x ∧ b.py = some y ∧ SeqAt.shaped x = true ∧ SeqAt.shaped y = true ∧ t = PyData.eqv x y := by
  unfold pyEq at e
  split at e
  · rename_i x y e1 e2
    simp only [Option.ite_none_right_eq_some, Bool.and_eq_true, Option.some.injEq] at e
    exact ⟨x, y, e1, e2, e.1.1, e.1.2, e.2.symm⟩
  · cases e
theorem s_eq (hk : X.K = L.K) (hu : X.A.units + 64 < cLine) : B2S L X (compareOp .Eq) .eq := by
  refine ⟨_, op_eqD hu, ?_⟩
  intro M H gx gy d vx vy Q e hx hy q
  simp only [b2, Option.map_eq_some_iff] at e
  obtain ⟨t, e, rfl⟩ := e
  obtain ⟨x, y, e1, e2, s1, s2, et⟩ := pyEq_some e
  subst et
  exact ⟨x, y, hx.dp hk e1, hy.dp hk e2, s1, s2, q _ _ _ (.same rg_bl)⟩
theorem s_ne (hk : X.K = L.K) (hu : X.A.units + 64 < cLine) : B2S L X (compareOp .NotEq) .ne := by
  refine ⟨_, op_neD hu, ?_⟩
  intro M H gx gy d vx vy Q e hx hy q
  simp only [b2, Option.map_eq_some_iff] at e
  obtain ⟨t, e, rfl⟩ := e
  obtain ⟨x, y, e1, e2, s1, s2, et⟩ := pyEq_some e
  subst et
  exact ⟨x, y, hx.dp hk e1, hy.dp hk e2, s1, s2, q _ _ _ (.same rg_bl)⟩

/-! in -/
theorem RG.flat {g : G} {v : V} (h : RG L M H g v) (f : flatG g = true) : flatV v = true ∧ ∀ g' v', RG L M H g' v' → flatG g' = true → eqV v v' = eqF g g' := by
  cases g <;> simp [flatG] at f <;> unfold RG at h <;> subst h <;> refine ⟨rfl, fun g' v' h' f' => ?_⟩ <;>
    (cases g' <;> simp [flatG] at f' <;> unfold RG at h' <;> subst h' <;> rfl)
theorem RV.flat {g : G} {v : V} (h : RV L M H g v) (f : flatG g = true) : RG L M H g v := by
  rcases h with h | ⟨a, _, _, h⟩
  · exact h
  · cases g <;> simp [flatG] at f <;> (unfold RC at h; exact h.elim)
theorem RGs.flat {x : G} {v : V} (h : RG L M H x v) (f : flatG x = true) : ∀ {xs : List G} {vs : List V}, RGs L M H xs vs → xs.all flatG = true → vs.all flatV = true ∧ inV v vs = xs.any fun y => eqF y x
  | [], vs, r, _ => by unfold RGs at r; subst r; exact ⟨rfl, rfl⟩
  | y :: xs, vs, r, fa => by
    unfold RGs at r
    obtain ⟨w, r', rfl, h1, h2⟩ := r
    simp only [List.all_cons, Bool.and_eq_true] at fa
    obtain ⟨i1, i2⟩ := RGs.flat h f h2 fa.2
    obtain ⟨j1, j2⟩ := h1.flat fa.1
    refine ⟨by simp [j1, i1], ?_⟩
    show ((eqV w v) || r'.any fun y => eqV y v) = _
    rw [j2 x v h f, List.any_cons, show (r'.any fun y => eqV y v) = inV v r' from rfl, i2]
theorem rv_key {g : G} {v : V} (h : RG L M H g v) (k : isKey g = true) : ∃ kk, g = keyG kk ∧ v = kV kk := by
  cases g <;> simp [isKey] at k
  · unfold RG at h; exact ⟨.inl _, rfl, h⟩
  · unfold RG at h; exact ⟨.inr _, rfl, h⟩
theorem keyB_key (a b : Key) : keyB (keyG a) (keyG b) = decide (a = b) := by
  cases a <;> cases b <;> simp [keyG, keyB]
  · rename_i i j; by_cases e : i = j <;> simp [e]
theorem findK_val (k : Key) : ∀ {kvs : List (Key × V)} {xs : List G}, RGs L M H xs (kvs.map (·.2)) →
    match findK (keyG k) (kvs.map fun p => keyG p.1) xs with | none => valV kvs k = none | some g => ∃ v, valV kvs k = some v ∧ RG L M H g v
  | [], xs, h => by simp [findK, valV]
  | p :: kvs, xs, h => by
    obtain ⟨kk, w⟩ := p
    cases xs with
    | nil => exact absurd h.len (by simp)
    | cons x xs =>
      simp only [List.map_cons] at h ⊢
      unfold RGs at h
      obtain ⟨v, r, e, h1, h2⟩ := h
      simp only [List.cons.injEq] at e
      obtain ⟨e1, e2⟩ := e
      subst e1 e2
      unfold findK
      rw [keyB_key]
      by_cases e : kk = k
      · subst e
        simp only [decide_true, if_true]
        exact ⟨w, valV_pos rfl, h1⟩
      · simp only [e, decide_false, Bool.false_eq_true, if_false]
        have := findK_val k h2
        split at this
        · rw [valV_neg e]; exact this
        · rw [valV_neg e]; exact this
theorem findK_opt (k : Key) {kvs : List (Key × V)} {xs : List G} (h : RGs L M H xs (kvs.map (·.2))) : (valV kvs k).isSome = (findK (keyG k) (kvs.map fun p => keyG p.1) xs).isSome := by
  have := findK_val k h
  split at this
  · rename_i q; rw [q, this]; rfl
  · rename_i g q; obtain ⟨v, e, _⟩ := this; rw [q, e]; rfl
theorem dget_of {a : Addr} {kvs : List (Key × V)} {k : Key} (h : Rd H a (.dK kvs)) : DGet H a (kV k) (valV kvs k) := .inl ⟨kvs, k, h, rfl, rfl⟩
def rDIn (neg : Bool) : R2 := fun x y H Q => ∃ a o, y = .ref a ∧ DGet H a x o ∧ Q (.bl (if neg then !o.isSome else o.isSome)) H
theorem op_dIn (hu : X.A.units + 1 < cLine) : OpR X (compareOp .In) (rDIn false) := by
  intro pins s σ H x y v u Q I rx ry h
  obtain ⟨a, o, rfl, g, q⟩ := h
  cases ry
  exact d_in hu I g rx fun s' I' => ⟨.bl o.isSome, H, I', rfl, q⟩
theorem op_dNotIn (hu : X.A.units + 1 < cLine) : OpR X (compareOp .NotIn) (rDIn true) := by
  intro pins s σ H x y v u Q I rx ry h
  obtain ⟨a, o, rfl, g, q⟩ := h
  cases ry
  exact d_notIn hu I g rx fun s' I' => ⟨.bl (!o.isSome), H, I', rfl, q⟩
theorem inSeq_some {x : G} {xs : List G} {t : Bool} (e : inSeq x xs = some t) : (flatG x = true ∧ xs.all flatG = true ∧ t = xs.any fun y => eqF y x) ∨ ∃ d ds, x.py = some d ∧ G.pys xs = some ds ∧ SeqAt.shaped d = true ∧ SeqAt.shaped (.list ds) = true ∧ t = ds.any fun z => PyData.eqv z d := by
  unfold inSeq at e
  split at e
  · rename_i h
    simp only [Bool.and_eq_true, Option.some.injEq] at h e
    exact .inl ⟨h.1, h.2, e.symm⟩
  · right
    unfold inDeep at e
    split at e
    · rename_i d ds h1 h2
      simp only [Option.ite_none_right_eq_some, Bool.and_eq_true, Option.some.injEq] at e
      exact ⟨d, ds, h1, h2, e.1.1, e.1.2, e.2.symm⟩
    · cases e
/-- x in a tuple of data -/
def rInT (K : PySem.W.Frag) (neg : Bool) : R2 := fun x y H Q => ∃ d ds, Dp K H x d ∧ Dp K H y (.tuple ds) ∧ SeqAt.shaped d = true ∧ SeqAt.shaped (.list ds) = true ∧ Q (.bl (if neg then !(ds.any fun z => PyData.eqv z d) else ds.any fun z => PyData.eqv z d)) H
theorem lay_all {ds : List PyData} (h : SeqAt.shaped (.list ds) = true) : PyData.canLayAll0 ds = true := by
  unfold SeqAt.shaped at h
  simp only [Bool.and_eq_true, PyData.canLay0] at h
  exact h.1
theorem op_inT (hu : X.A.units + 65 < cLine) : OpR X (compareOp .In) (rInT X.K false) := by
  intro pins s σ H x y v u Q I rx ry h
  obtain ⟨d, ds, hd, he, sd, se, q⟩ := h
  obtain ⟨as, r1⟩ := Dp.reads I d x v hd rx
  obtain ⟨bs, r2⟩ := Dp.reads I (.tuple ds) y u he ry
  exact SeqAt.in_tuple_reads r2 r1 (lay_all se) (SeqAt.canLay_of_shaped sd) (room_in_shaped sd hu) ⟨.bl _, H, I, rfl, q⟩
theorem op_notInT (hu : X.A.units + 65 < cLine) : OpR X (compareOp .NotIn) (rInT X.K true) := by
  intro pins s σ H x y v u Q I rx ry h
  obtain ⟨d, ds, hd, he, sd, se, q⟩ := h
  obtain ⟨as, r1⟩ := Dp.reads I d x v hd rx
  obtain ⟨bs, r2⟩ := Dp.reads I (.tuple ds) y u he ry
  exact SeqAt.notIn_tuple_reads r2 r1 (lay_all se) (SeqAt.canLay_of_shaped sd) (room_in_shaped sd hu) ⟨.bl _, H, I, rfl, q⟩
theorem py_tup {xs : List G} {ds : List PyData} (h : G.pys xs = some ds) : G.py (.tup xs) = some (.tuple ds) := by simp [G.py, h]
theorem py_lst {xs : List G} {ds : List PyData} (h : G.pys xs = some ds) : G.py (.lst xs) = some (.list ds) := by simp [G.py, h]
theorem s_in (hk : X.K = L.K) (hu : X.A.units + 65 < cLine) : B2S L X (compareOp .In) .in_ := by
  refine ⟨_, OpR.or op_in_seq (OpR.or (op_dIn (by omega)) (OpR.or (op_inD hu) (op_inT hu))), ?_⟩
  intro M H gx gy d vx vy Q e hx hy q
  cases gy <;> simp only [b2, Option.map_eq_some_iff, Option.ite_none_right_eq_some, Option.some.injEq, reduceCtorEq] at e
  · obtain ⟨t, e, rfl⟩ := e
    rcases inSeq_some e with ⟨f, fa, et⟩ | ⟨dd, ds, h1, h2, h3, h4, et⟩
    · subst et
      obtain ⟨a, vs, rfl, k, r, _⟩ := hy.sqt hk
      have hx' := hx.flat f
      obtain ⟨i1, i2⟩ := RGs.flat hx' f r fa
      refine .inl ⟨a, vs, rfl, .inr k, (hx'.flat f).1, i1, ?_⟩
      simp only [Bool.false_eq_true, if_false]
      rw [i2]
      exact q _ _ _ (.same rg_bl)
    · subst et
      refine .inr (.inr (.inr ⟨dd, ds, hx.dp hk h1, hy.dp hk (py_tup h2), h3, h4, ?_⟩))
      simp only [Bool.false_eq_true, if_false, if_true]
      exact q _ _ _ (.same rg_bl)
  · obtain ⟨t, e, rfl⟩ := e
    rcases inSeq_some e with ⟨f, fa, et⟩ | ⟨dd, ds, h1, h2, h3, h4, et⟩
    · subst et
      obtain ⟨a, vs, rfl, k, _, r⟩ := hy.sql hk
      have hx' := hx.flat f
      obtain ⟨i1, i2⟩ := RGs.flat hx' f r fa
      refine .inl ⟨a, vs, rfl, .inl k, (hx'.flat f).1, i1, ?_⟩
      simp only [Bool.false_eq_true, if_false]
      rw [i2]
      exact q _ _ _ (.same rg_bl)
    · subst et
      refine .inr (.inr (.inl ⟨dd, ds, hx.dp hk h1, hy.dp hk (py_lst h2), h3, h4, ?_⟩))
      exact q _ _ _ (.same rg_bl)
  · obtain ⟨hkey, rfl⟩ := e
    obtain ⟨a, kvs, rfl, hd, rfl, r⟩ := hy.dct
    have hx' : RG L M H gx vx := hx.flat (by cases gx <;> simp_all [isKey, flatG])
    obtain ⟨kk, rfl, rfl⟩ := rv_key hx' hkey
    refine .inr (.inl ⟨a, _, rfl, dget_of hd, ?_⟩)
    simp only [Bool.false_eq_true, if_false]
    rw [findK_opt kk r]
    exact q _ _ _ (.same rg_bl)
theorem s_notin (hk : X.K = L.K) (hu : X.A.units + 65 < cLine) : B2S L X (compareOp .NotIn) .notin := by
  refine ⟨_, OpR.or op_notIn_seq (OpR.or (op_dNotIn (by omega)) (OpR.or (op_notInD hu) (op_notInT hu))), ?_⟩
  intro M H gx gy d vx vy Q e hx hy q
  cases gy <;> simp only [b2, Option.map_eq_some_iff, Option.ite_none_right_eq_some, Option.some.injEq, reduceCtorEq] at e
  · obtain ⟨t, e, rfl⟩ := e
    rcases inSeq_some e with ⟨f, fa, et⟩ | ⟨dd, ds, h1, h2, h3, h4, et⟩
    · subst et
      obtain ⟨a, vs, rfl, k, r, _⟩ := hy.sqt hk
      have hx' := hx.flat f
      obtain ⟨i1, i2⟩ := RGs.flat hx' f r fa
      refine .inl ⟨a, vs, rfl, .inr k, (hx'.flat f).1, i1, ?_⟩
      simp only [if_true]
      rw [i2]
      exact q _ _ _ (.same rg_bl)
    · subst et
      refine .inr (.inr (.inr ⟨dd, ds, hx.dp hk h1, hy.dp hk (py_tup h2), h3, h4, ?_⟩))
      simp only [Bool.false_eq_true, if_false, if_true]
      exact q _ _ _ (.same rg_bl)
  · obtain ⟨t, e, rfl⟩ := e
    rcases inSeq_some e with ⟨f, fa, et⟩ | ⟨dd, ds, h1, h2, h3, h4, et⟩
    · subst et
      obtain ⟨a, vs, rfl, k, _, r⟩ := hy.sql hk
      have hx' := hx.flat f
      obtain ⟨i1, i2⟩ := RGs.flat hx' f r fa
      refine .inl ⟨a, vs, rfl, .inl k, (hx'.flat f).1, i1, ?_⟩
      simp only [if_true]
      rw [i2]
      exact q _ _ _ (.same rg_bl)
    · subst et
      refine .inr (.inr (.inl ⟨dd, ds, hx.dp hk h1, hy.dp hk (py_lst h2), h3, h4, ?_⟩))
      exact q _ _ _ (.same rg_bl)
  · obtain ⟨hkey, rfl⟩ := e
    obtain ⟨a, kvs, rfl, hd, rfl, r⟩ := hy.dct
    have hx' : RG L M H gx vx := hx.flat (by cases gx <;> simp_all [isKey, flatG])
    obtain ⟨kk, rfl, rfl⟩ := rv_key hx' hkey
    refine .inr (.inl ⟨a, _, rfl, dget_of hd, ?_⟩)
    simp only [if_true]
    rw [findK_opt kk r]
    exact q _ _ _ (.same rg_bl)

/-! a[b] -/
def rDIx : R2 := fun x y H Q => ∃ a v, x = .ref a ∧ DGet H a y (some v) ∧ Q v H
theorem ix_dict (hu : X.A.units + 1 < cLine) : IxR X rDIx := by
  intro value slice pins s σ H x y v u Q I rx ry h hs
  obtain ⟨a, z, rfl, g, q⟩ := h
  cases rx
  unfold subscriptTail
  refine wpAny_bind ?_
  rw [getitemInPython_of_ne (dict_typeIs I g).not_modules]
  refine wpAny_bind (wpAny_specialOf (dict_typeIs I g) PySem.F.slot_dict_getitem.lookup ?_)
  have go : wpAny (model X.prog X.w) X.A (subscripted slice false (.ref a) u) (fun r s3 => wpAny (model X.prog X.w) X.A (letTemporaryGo value (.ref a) r >>= fun _ => pure r) (EP X pins σ Q) X.xe s3) X.xe s := by
    rw [hs]
    exact wpAny_operating (d_getItem hu I g ry fun w' s3 I3 rw' => wpAny_bind (wpAny_letTemporaryGo (wpAny_pure ⟨z, H, I3, rw', q⟩)))
  exact wpAny_pure (wpAny_bind go)
def IxS (L : Lk) (X : Cx) : Prop := ∃ r : R2, IxR X r ∧
  ∀ (M : Mu) (H : Hp) (gx gy : G) (d : D) (vx vy : V) (Q : VK), b2 .idx gx gy = some d → RV L M H gx vx → RV L M H gy vy → (∀ v H' M', New L M H M' H' d v → Q v H') → r vx vy H Q
theorem atI_rg {xs : List G} {vs : List V} {i : Int} {g : G} (r : RGs L M H xs vs) (e : atI xs i = some g) : ∃ v, atI vs i = some v ∧ RG L M H g v := by
  unfold atI at e ⊢
  rw [← r.len]
  cases h : ixN xs.length i with
  | none => rw [h] at e; cases e
  | some j =>
    rw [h] at e
    exact r.get e
theorem s_idx (hk : X.K = L.K) (hu : X.A.units + 1 < cLine) : IxS L X := by
  refine ⟨_, ix_list.or (ix_tup.or (ix_dict hu)), ?_⟩
  intro M H gx gy d vx vy Q e hx hy q
  cases gx <;> cases gy <;> simp only [b2, atIx, Option.map_eq_some_iff, Option.ite_none_right_eq_some, Option.some.injEq, reduceCtorEq, isKey, Bool.false_eq_true, false_and] at e
  · obtain ⟨g, e, rfl⟩ := e
    obtain ⟨a, vs, rfl, k, r, _⟩ := hx.sqt hk
    obtain ⟨v, e2, rg⟩ := atI_rg r e
    rw [hy.int]
    exact .inr (.inl ⟨a, vs, _, v, rfl, rfl, k, e2, q _ _ _ (.same rg)⟩)
  · obtain ⟨g, e, rfl⟩ := e
    obtain ⟨a, vs, rfl, k, _, r⟩ := hx.sql hk
    obtain ⟨v, e2, rg⟩ := atI_rg r e
    rw [hy.int]
    exact .inl ⟨a, vs, _, v, rfl, rfl, k, e2, q _ _ _ (.same rg)⟩
  · rename_i i
    obtain ⟨_, g, e, rfl⟩ := e
    obtain ⟨a, kvs, rfl, hd, rfl, r⟩ := hx.dct
    have := findK_val (.inl i) r
    rw [show keyG (.inl i) = G.int i from rfl, e] at this
    obtain ⟨v, e2, rg⟩ := this
    rw [hy.int]
    refine .inr (.inr ⟨a, v, rfl, ?_, q _ _ _ (.same rg)⟩)
    have k := dget_of (k := .inl i) hd
    rw [e2] at k
    exact k
  · rename_i i
    obtain ⟨_, g, e, rfl⟩ := e
    obtain ⟨a, kvs, rfl, hd, rfl, r⟩ := hx.dct
    have := findK_val (.inr i) r
    rw [show keyG (.inr i) = G.str i from rfl, e] at this
    obtain ⟨v, e2, rg⟩ := this
    rw [hy.str]
    refine .inr (.inr ⟨a, v, rfl, ?_, q _ _ _ (.same rg)⟩)
    have k := dget_of (k := .inr i) hd
    rw [e2] at k
    exact k
  · obtain ⟨g, e, rfl⟩ := e
    obtain ⟨a, vs, rfl, k, r⟩ := hx.scr
    obtain ⟨v, e2, rg⟩ := atI_rg r e
    rw [hy.int]
    exact .inl ⟨a, vs, _, v, rfl, rfl, by rw [hk]; exact k, e2, q _ _ _ (.same rg)⟩
end
end Ev

end
section
set_option linter.all false
set_option maxRecDepth 100000
set_option maxHeartbeats 4000000
namespace Ev
open PySem PySem.Spec PyProof.Rows L2
section
variable {L : Lk} {X : Cx} {M : Mu} {H : Hp}

/-! ### a * b -/
theorem tuple_mul0 (l : Addr) (items : Array Value) (n : Nat) (dd : Option Addr) (sl : Array (Option Value)) (x : Int) (u : Tok) (c0 : (decide (x < -(2 ^ 63)) || decide (x ≥ 2 ^ 63)) = false) (c1 : (items.isEmpty || x == 1) = true) :
    Meets (Builtin.«tuple.__mul__» ⟨[.ref l, .int x u], []⟩) (fun _ R s => s.heap.get? l = some { cls := .type "tuple", dict := dd, data := .seq items n, slots := sl } ∧ R (.ok (.ret (Value.ref l))) s) :=
  .of_wp fun prog w A R s h => by
    obtain ⟨hp, g, d, t, os⟩ := s
    obtain ⟨hl, h⟩ := h
    have f1 := AutoSeq1.idx_int
    wp_walk using wpAny_loadPart' hl
    repeat (first
      | (refine wpAny_ite_false (decide_eq_false (by rw [c0]; exact Bool.false_ne_true)) ?_; wp_walk using wpAny_loadPart' hl)
      | (refine wpAny_ite_true (decide_eq_true (by rw [c1])) ?_; wp_walk using wpAny_loadPart' hl)
      | (rw [if_pos c1]; wp_walk using wpAny_loadPart' hl))
    exact ⟨_, rfl, h⟩

def rRep0 (K : PySem.W.Frag) : R2 := fun x y H Q => ∃ l k, x = .ref l ∧ y = .int k ∧ SqT K H l [] ∧ 2 ≤ k ∧ k ≤ 1000 ∧ Q (.ref l) H
theorem op_rep0 : OpR X (binaryOp .Mult) (rRep0 X.K) := by
  intro pins s σ H x y v u Q I rx ry h
  obtain ⟨l, k, rfl, rfl, hT, h1, h2, q⟩ := h
  cases rx
  obtain ⟨t, rfl⟩ := ry
  obtain ⟨its, r, ⟨⟨cls, dd, data, sl⟩, ho, hc, n, hd⟩, hs⟩ := I.tuple hT
  simp only at hc hd
  subst hc hd
  cases r
  have c0 : (decide (k < -(2 ^ 63)) || decide (k ≥ 2 ^ 63)) = false := by
    rw [decide_eq_false (by omega), decide_eq_false (by omega)] <;> rfl
  refine wpAny_binaryOp_repeat_ref (T := "tuple") (U := "int") (by decide) ⟨_, ho, rfl⟩ (fun s' => typeIs_int s' k t) noFill_tuple_mul F.fills_int_mul F.slot_int_rmul repeat_tuple F.slot_int_index.lookup
    (call_meets F.slot_int_rmul (typeIs_int s k t) F.entry_int_rmul (F.args_int_rmul_2 _ _) (int_rmul_tuple k t l #[] n dd sl)
      ⟨ho, rfl, ⟨_, ho, rfl⟩, call_meets F.slot_tuple_mul ⟨_, ho, rfl⟩ F.entry_tuple_mul (F.args_tuple_mul_2 _ _) (tuple_mul0 l #[] n dd sl k t c0 rfl) ⟨ho, ?_⟩⟩)
  exact ⟨.ref l, H, I, rfl, q⟩
theorem s_mul (hk : X.K = L.K) : B2S L X (binaryOp .Mult) .mul := by
  refine ⟨_, OpR.or op_mul (OpR.or op_mulW (OpR.or op_repT op_rep0)), ?_⟩
  intro M H gx gy d vx vy Q e hx hy q
  cases gx with
  | int i =>
    cases gy <;> simp only [b2, Option.ite_none_right_eq_some, Option.some.injEq, reduceCtorEq] at e
    rename_i j
    obtain ⟨hm, e⟩ := e
    subst e
    rw [hx.int, hy.int]
    simp only [smallMul, Bool.or_eq_true, Bool.and_eq_true, decide_eq_true_eq] at hm
    rcases hm with (hm | hm) | hm
    · exact .inl ⟨_, _, rfl, rfl, .inl hm, q _ _ _ (.same rg_int)⟩
    · exact .inl ⟨_, _, rfl, rfl, .inr hm, q _ _ _ (.same rg_int)⟩
    · have h1 := big_log hm.1
      have h2 := big_log hm.2
      exact .inr (.inl ⟨_, _, rfl, rfl, show _ < _ by omega, q _ _ _ (.same rg_int)⟩)
  | tup xs =>
    obtain ⟨a, vs, rfl, h1, r1, g1⟩ := hx.sqt hk
    cases gy with
    | int k =>
      rw [hy.int]
      cases xs with
      | nil =>
        simp only [b2, Option.ite_none_right_eq_some, Option.some.injEq, Bool.and_eq_true, decide_eq_true_eq] at e
        obtain ⟨⟨k1, k2⟩, e⟩ := e
        subst e
        unfold RGs at r1; subst r1
        exact .inr (.inr (.inr ⟨a, k, rfl, rfl, h1, k1, k2, q _ _ _ (.same g1)⟩))
      | cons x xs =>
        simp only [b2, Option.ite_none_right_eq_some, Option.some.injEq, Bool.and_eq_true, decide_eq_true_eq] at e
        obtain ⟨⟨⟨⟨l1, l2⟩, k1⟩, k2⟩, e⟩ := e
        subst e
        have hl := r1.len
        refine .inr (.inr (.inl ⟨a, k, vs, rfl, rfl, h1, fun z => ?_, k1, k2, by omega, fun p hp => q _ _ _ (.tup hp (r1.rep _))⟩))
        rw [z] at hl; simp at hl
    | _ => cases xs <;> simp [b2] at e
  | _ => cases gy <;> simp [b2] at e

/-! ### slices -/
def SlS (L : Lk) (X : Cx) : Prop := ∃ r : V → Option Int → Option Int → Hp → VK → Prop, L2.SlR X r ∧
  ∀ (M : Mu) (H : Hp) (g : G) (d : D) (v : V) (lo hi : Option Int) (Q : VK), (match g with | .tup xs => some (D.g (.tup (cutL xs lo hi))) | .lst xs => some (.own (.lst (cutL xs lo hi))) | _ => none) = some d → RV L M H g v → (∀ v H' M', New L M H M' H' d v → Q v H') → r v lo hi H Q
theorem RGs.cut {xs : List G} {vs : List V} (h : RGs L M H xs vs) (lo hi : Option Int) : RGs L M H (cutL xs lo hi) (cutV vs lo hi) := by
  unfold cutL cutV
  rw [h.len]
  exact (h.drop _).take _
theorem s_slice (hk : X.K = L.K) : SlS L X := by
  refine ⟨_, sl_tupA.or sl_list, ?_⟩
  intro M H g d v lo hi Q e h q
  cases g <;> simp only [Option.some.injEq, reduceCtorEq] at e
  · obtain ⟨a, vs, rfl, k, r, rg⟩ := h.sqt hk
    subst e
    refine .inl ⟨a, vs, rfl, k, fun w => ?_, fun _ p hp => q _ _ _ (.tup hp (r.cut lo hi))⟩
    rename_i xs
    have ec : cutL xs lo hi = xs := by
      unfold cutL
      rw [r.len, w.1, w.2]
      simp [← r.len]
    rw [ec] at q
    exact q _ _ _ (.same rg)
  · subst e
    obtain ⟨a, vs, rfl, k, _, r⟩ := h.sql hk
    exact .inr ⟨a, vs, rfl, k, fun p hp => q _ _ _ (.lst hp (r.cut lo hi))⟩
end
end Ev

end
section
set_option linter.all false
set_option maxRecDepth 100000
set_option maxHeartbeats 4000000
namespace Ev
open PySem PySem.Spec PyProof.Rows L2
def RVs (L : Lk) (M : Mu) (H : Hp) : List G → List V → Prop
  | [], vs => vs = []
  | g :: gs, vs => ∃ v r, vs = v :: r ∧ RV L M H g v ∧ RVs L M H gs r
/-- a built-in call's rule over deep values -/
def BiS (L : Lk) (X : Cx) (f : Value) (b : Bi) : Prop := ∃ r : List V → Hp → VK → Prop, CallR X f r ∧
  ∀ (M : Mu) (H : Hp) (gs : List G) (d : D) (vs : List V) (Q : VK), bi b gs = some d → RVs L M H gs vs → (∀ v H' M', New L M H M' H' d v → Q v H') → r vs H Q
section
variable {L : Lk} {X : Cx} {M : Mu} {H : Hp}
theorem CallR.or {X : Cx} {f : Value} {r r' : List V → Hp → VK → Prop} (h : CallR X f r) (h' : CallR X f r') : CallR X f (fun x H Q => r x H Q ∨ r' x H Q) := by
  intro pins s σ H xs us Q I rr q
  rcases q with q | q
  · exact h pins s σ H xs us Q I rr q
  · exact h' pins s σ H xs us Q I rr q
theorem RVs.one {g : G} {vs : List V} (h : RVs L M H [g] vs) : ∃ v, vs = [v] ∧ RV L M H g v := by
  obtain ⟨v, r, e, h1, h2⟩ := h
  have : r = [] := h2
  subst this
  exact ⟨v, e, h1⟩
theorem RVs.two {g k : G} {vs : List V} (h : RVs L M H [g, k] vs) : ∃ v u, vs = [v, u] ∧ RV L M H g v ∧ RV L M H k u := by
  obtain ⟨v, r, e, h1, h2⟩ := h
  obtain ⟨u, e2, h3⟩ := RVs.one (show RVs L M H [k] r from h2)
  subst e2
  exact ⟨v, u, e, h1, h3⟩
theorem call_lenR : CallR X (.builtin "len") (fun xs H Q => ∃ a kvs, xs = [V.ref a] ∧ Rd H a (.dK kvs) ∧ Q (.int kvs.length) H) := by
  intro pins s σ H xs us Q I r h
  obtain ⟨a, kvs, rfl, ha, q⟩ := h
  obtain ⟨u, rfl, ru⟩ := vals1 r
  cases ru
  exact d_len I ha fun t s' I' => ⟨.int kvs.length, H, I', ⟨t, rfl⟩, q⟩
theorem i_len (hk : X.K = L.K) : BiS L X (.builtin "len") .len := by
  refine ⟨_, CallR.or call_len call_lenR, ?_⟩
  intro M H gs d vs Q e h q
  rcases gs with _ | ⟨g, _ | ⟨g2, gs⟩⟩ <;> simp only [bi, reduceCtorEq] at e
  · obtain ⟨v, rfl, hv⟩ := h.one
    cases g <;> simp only [bi, Option.some.injEq, reduceCtorEq] at e <;> subst e
    · obtain ⟨a, vs, rfl, k, r, _⟩ := hv.sqt hk
      rw [r.len] at q
      exact .inl ⟨_, _, rfl, .inr ⟨vs, k, rfl⟩, q _ _ _ (.same rg_int)⟩
    · obtain ⟨a, vs, rfl, k, _, r⟩ := hv.sql hk
      rw [r.len] at q
      exact .inl ⟨_, _, rfl, .inl ⟨vs, k, rfl⟩, q _ _ _ (.same rg_int)⟩
    · obtain ⟨a, kvs, rfl, k, ek, r⟩ := hv.dct
      rw [ek, List.length_map] at q
      exact .inr ⟨a, kvs, rfl, k, q _ _ _ (.same rg_int)⟩
    · obtain ⟨a, vs, rfl, k, r⟩ := hv.scr
      rw [r.len] at q
      exact .inl ⟨_, _, rfl, .inl ⟨vs, by rw [hk]; exact k, rfl⟩, q _ _ _ (.same rg_int)⟩
theorem i_abs : BiS L X (.builtin "abs") .abs := by
  refine ⟨_, call_abs, ?_⟩
  intro M H gs d vs Q e h q
  rcases gs with _ | ⟨g, _ | ⟨g2, gs⟩⟩ <;> simp only [bi, reduceCtorEq] at e
  · obtain ⟨v, rfl, hv⟩ := h.one
    cases g <;> simp only [bi, Option.some.injEq, reduceCtorEq] at e <;> subst e
    rw [hv.int]
    exact ⟨_, rfl, q _ _ _ (.same rg_int)⟩
theorem i_int : BiS L X (.type "int") .int := by
  refine ⟨_, call_int1, ?_⟩
  intro M H gs d vs Q e h q
  rcases gs with _ | ⟨g, _ | ⟨g2, gs⟩⟩ <;> simp only [bi, reduceCtorEq] at e
  · obtain ⟨v, rfl, hv⟩ := h.one
    cases g <;> simp only [bi, Option.some.injEq, reduceCtorEq] at e <;> subst e
    · rw [hv.bl]
      exact .inr ⟨_, rfl, q _ _ _ (.same rg_int)⟩
    · rw [hv.int]
      exact .inl ⟨_, rfl, q _ _ _ (.same rg_int)⟩
theorem i_max2 (hc : X.calm = true) : BiS L X (.builtin "max") .max2 := by
  refine ⟨_, call_max2 hc, ?_⟩
  intro M H gs d vs Q e h q
  rcases gs with _ | ⟨g, _ | ⟨g2, _ | ⟨g3, gs⟩⟩⟩ <;> simp only [bi, reduceCtorEq] at e
  · obtain ⟨v, u, rfl, hv, hu⟩ := h.two
    cases g <;> cases g2 <;> simp only [bi, Option.some.injEq, reduceCtorEq] at e <;> subst e
    rw [hv.int, hu.int]
    exact ⟨_, _, rfl, q _ _ _ (.same rg_int)⟩
theorem i_min2 (hc : X.calm = true) : BiS L X (.builtin "min") .min2 := by
  refine ⟨_, call_min2 hc, ?_⟩
  intro M H gs d vs Q e h q
  rcases gs with _ | ⟨g, _ | ⟨g2, _ | ⟨g3, gs⟩⟩⟩ <;> simp only [bi, reduceCtorEq] at e
  · obtain ⟨v, u, rfl, hv, hu⟩ := h.two
    cases g <;> cases g2 <;> simp only [bi, Option.some.injEq, reduceCtorEq] at e <;> subst e
    rw [hv.int, hu.int]
    exact ⟨_, _, rfl, q _ _ _ (.same rg_int)⟩
theorem RGs.ints : ∀ {xs : List G} {vs : List V} {is : List Int}, RGs L M H xs vs → intsOf xs = some is → vs = is.map V.int
  | [], vs, is, h, e => by
    simp only [intsOf, Option.some.injEq] at e; subst e
    unfold RGs at h; exact h
  | x :: xs, vs, is, h, e => by
    unfold RGs at h
    obtain ⟨v, r, rfl, h1, h2⟩ := h
    cases x <;> simp only [intsOf, reduceCtorEq] at e
    split at e
    · rename_i js hj
      simp only [Option.some.injEq] at e; subst e
      unfold RG at h1; subst h1
      rw [RGs.ints h2 hj]; rfl
    · cases e
theorem RGs.bools : ∀ {xs : List G} {vs : List V} {is : List Bool}, RGs L M H xs vs → boolsOf xs = some is → vs = is.map V.bl
  | [], vs, is, h, e => by
    simp only [boolsOf, Option.some.injEq] at e; subst e
    unfold RGs at h; exact h
  | x :: xs, vs, is, h, e => by
    unfold RGs at h
    obtain ⟨v, r, rfl, h1, h2⟩ := h
    cases x <;> simp only [boolsOf, reduceCtorEq] at e
    split at e
    · rename_i js hj
      simp only [Option.some.injEq] at e; subst e
      unfold RG at h1; subst h1
      rw [RGs.bools h2 hj]; rfl
    · cases e
theorem rgs_ints : ∀ is : List Int, RGs L M H (is.map .int) (is.map V.int)
  | [] => .nil
  | i :: r => .cons rg_int (rgs_ints r)
theorem RVs.three {g k l : G} {vs : List V} (h : RVs L M H [g, k, l] vs) : ∃ v u w, vs = [v, u, w] ∧ RV L M H g v ∧ RV L M H k u ∧ RV L M H l w := by
  obtain ⟨v, r, e, h1, h2⟩ := h
  obtain ⟨u, w, e2, h3, h4⟩ := RVs.two (show RVs L M H [k, l] r from h2)
  subst e2
  exact ⟨v, u, w, e, h1, h3, h4⟩
theorem nuMax2_int (a b : Int) : nuMax2 (.int a) (.int b) = some (.int (if b > a then b else a)) := by
  show (some (decide (a < b))).map _ = _
  by_cases h : a < b <;> simp [h]
theorem nuMin2_int (a b : Int) : nuMin2 (.int a) (.int b) = some (.int (if b < a then b else a)) := by
  show (some (decide (b < a))).map _ = _
  by_cases h : b < a <;> simp [h]
theorem i_max3 (hc : X.calm = true) : BiS L X (.builtin "max") .max3 := by
  refine ⟨_, call_max3Nu hc, ?_⟩
  intro M H gs d vs Q e h q
  rcases gs with _ | ⟨g, _ | ⟨g2, _ | ⟨g3, _ | ⟨g4, gs⟩⟩⟩⟩ <;> simp only [bi, reduceCtorEq] at e
  · obtain ⟨v, u, w, rfl, hv, hu, hw⟩ := h.three
    cases g <;> cases g2 <;> cases g3 <;> simp only [bi, Option.some.injEq, reduceCtorEq] at e <;> subst e
    rw [hv.int, hu.int, hw.int]
    refine ⟨_, _, _, _, rfl, ?_, q _ _ _ (.same rg_int)⟩
    rename_i i j k
    simp only [nuMax3, nuMax2_int, Option.bind_some]
theorem i_min3 (hc : X.calm = true) : BiS L X (.builtin "min") .min3 := by
  refine ⟨_, call_min3Nu hc, ?_⟩
  intro M H gs d vs Q e h q
  rcases gs with _ | ⟨g, _ | ⟨g2, _ | ⟨g3, _ | ⟨g4, gs⟩⟩⟩⟩ <;> simp only [bi, reduceCtorEq] at e
  · obtain ⟨v, u, w, rfl, hv, hu, hw⟩ := h.three
    cases g <;> cases g2 <;> cases g3 <;> simp only [bi, Option.some.injEq, reduceCtorEq] at e <;> subst e
    rw [hv.int, hu.int, hw.int]
    refine ⟨_, _, _, _, rfl, ?_, q _ _ _ (.same rg_int)⟩
    rename_i i j k
    simp only [nuMin3, nuMin2_int, Option.bind_some]
theorem i_sum (hk : X.K = L.K) (hc : X.calm = true) : BiS L X (.builtin "sum") .sum := by
  refine ⟨_, cr_sum hc, ?_⟩
  intro M H gs d vs Q e h q
  rcases gs with _ | ⟨g, _ | ⟨g2, gs⟩⟩ <;> simp only [bi, reduceCtorEq] at e
  · obtain ⟨v, rfl, hv⟩ := h.one
    cases g <;> simp only [bi, Option.map_eq_some_iff, reduceCtorEq] at e
    obtain ⟨is, e, rfl⟩ := e
    obtain ⟨a, vs, rfl, k, _, r⟩ := hv.sql hk
    rw [r.ints e] at k
    exact ⟨a, is, rfl, k, q _ _ _ (.same rg_int)⟩
theorem i_any (hk : X.K = L.K) (hc : X.calm = true) : BiS L X (.builtin "any") .any := by
  refine ⟨_, cr_any hc, ?_⟩
  intro M H gs d vs Q e h q
  rcases gs with _ | ⟨g, _ | ⟨g2, gs⟩⟩ <;> simp only [bi, reduceCtorEq] at e
  · obtain ⟨v, rfl, hv⟩ := h.one
    cases g <;> simp only [bi, Option.map_eq_some_iff, reduceCtorEq] at e
    obtain ⟨is, e, rfl⟩ := e
    obtain ⟨a, vs, rfl, k, _, r⟩ := hv.sql hk
    rw [r.bools e] at k
    exact ⟨a, is, rfl, k, q _ _ _ (.same rg_bl)⟩
theorem i_all (hk : X.K = L.K) (hc : X.calm = true) : BiS L X (.builtin "all") .all := by
  refine ⟨_, cr_all hc, ?_⟩
  intro M H gs d vs Q e h q
  rcases gs with _ | ⟨g, _ | ⟨g2, gs⟩⟩ <;> simp only [bi, reduceCtorEq] at e
  · obtain ⟨v, rfl, hv⟩ := h.one
    cases g <;> simp only [bi, Option.map_eq_some_iff, reduceCtorEq] at e
    obtain ⟨is, e, rfl⟩ := e
    obtain ⟨a, vs, rfl, k, _, r⟩ := hv.sql hk
    rw [r.bools e] at k
    exact ⟨a, is, rfl, k, q _ _ _ (.same rg_bl)⟩
theorem i_tuple (hk : X.K = L.K) : BiS L X (.type "tuple") .tuple := by
  refine ⟨_, call_tuple_of, ?_⟩
  intro M H gs d vs Q e h q
  rcases gs with _ | ⟨g, _ | ⟨g2, gs⟩⟩ <;> simp only [bi, reduceCtorEq] at e
  · obtain ⟨v, rfl, hv⟩ := h.one
    cases g <;> simp only [bi, Option.some.injEq, reduceCtorEq] at e <;> subst e
    · obtain ⟨a, vs, rfl, k, r, rg⟩ := hv.sqt hk
      exact ⟨a, vs, rfl, .inr ⟨k, q _ _ _ (.same rg)⟩⟩
    · obtain ⟨a, vs, rfl, k, _, r⟩ := hv.sql hk
      exact ⟨a, vs, rfl, .inl ⟨k, fun p hp => q _ _ _ (.tup hp r)⟩⟩
theorem rgs_keys : ∀ {kvs : List (Key × V)}, RGs L M H (kvs.map fun p => keyG p.1) (kvs.map fun p => kV p.1)
  | [] => .nil
  | (.inl i, _) :: r => .cons rg_int rgs_keys
  | (.inr i, _) :: r => .cons rg_str rgs_keys
theorem i_list (hk : X.K = L.K) (hc : X.calm = true) : BiS L X (.type "list") .list := by
  refine ⟨_, CallR.or call_list_of (call_listD hc), ?_⟩
  intro M H gs d vs Q e h q
  rcases gs with _ | ⟨g, _ | ⟨g2, gs⟩⟩ <;> simp only [bi, reduceCtorEq] at e
  · obtain ⟨v, rfl, hv⟩ := h.one
    cases g <;> simp only [bi, Option.some.injEq, reduceCtorEq] at e <;> subst e
    · obtain ⟨a, vs, rfl, k, r, rg⟩ := hv.sqt hk
      exact .inl ⟨a, vs, rfl, .inr k, fun p hp => q _ _ _ (.lst hp r)⟩
    · obtain ⟨a, vs, rfl, k, _, r⟩ := hv.sql hk
      exact .inl ⟨a, vs, rfl, .inl k, fun p hp => q _ _ _ (.lst hp r)⟩
    · obtain ⟨a, kvs, rfl, k, rfl, r⟩ := hv.dct
      exact .inr ⟨a, kvs, rfl, k, fun p hp => q _ _ _ (.lst hp rgs_keys)⟩
theorem ins1_perm (i : Int) : ∀ r : List Int, (ins1 i r).Perm (i :: r)
  | [] => .refl _
  | j :: r => by
    unfold ins1
    split
    · exact .refl _
    · exact ((ins1_perm i r).cons j).trans (.swap i j r)
theorem isort_perm : ∀ r : List Int, (isort r).Perm r
  | [] => .refl _
  | i :: r => (ins1_perm i _).trans ((isort_perm r).cons i)
theorem ins1_sorted (i : Int) : ∀ {r : List Int}, r.Pairwise (· ≤ ·) → (ins1 i r).Pairwise (· ≤ ·)
  | [], _ => by simp [ins1]
  | j :: r, h => by
    unfold ins1
    have h' := List.pairwise_cons.mp h
    split
    · rename_i c
      refine List.pairwise_cons.mpr ⟨fun x hx => ?_, h⟩
      rcases List.mem_cons.mp hx with rfl | hx
      · exact c
      · have := h'.1 x hx; omega
    · rename_i c
      refine List.pairwise_cons.mpr ⟨fun x hx => ?_, ins1_sorted i h'.2⟩
      rcases List.mem_cons.mp ((ins1_perm i r).mem_iff.mp hx) with rfl | hx
      · omega
      · exact h'.1 x hx
theorem isort_sorted : ∀ r : List Int, (isort r).Pairwise (· ≤ ·)
  | [] => .nil
  | i :: r => ins1_sorted i (isort_sorted r)
theorem sorted_unique : ∀ {a b : List Int}, a.Perm b → a.Pairwise (· ≤ ·) → b.Pairwise (· ≤ ·) → a = b
  | [], b, p, _, _ => by rw [p.nil_eq]
  | x :: a, b, p, h1, h2 => by
    cases b with
    | nil => exact absurd p.length_eq (by simp)
    | cons y b =>
      have h1' := List.pairwise_cons.mp h1
      have h2' := List.pairwise_cons.mp h2
      have e : x = y := by
        have m1 : x ∈ y :: b := p.mem_iff.mp (List.mem_cons_self ..)
        have m2 : y ∈ x :: a := p.mem_iff.mpr (List.mem_cons_self ..)
        rcases List.mem_cons.mp m1 with h | h
        · exact h
        · rcases List.mem_cons.mp m2 with k | k
          · exact k.symm
          · have := h2'.1 x h; have := h1'.1 y k; omega
      subst e
      rw [sorted_unique (List.Perm.cons_inv p) h1'.2 h2'.2]
theorem i_sorted (hk : X.K = L.K) : BiS L X (.builtin "sorted") .sorted := by
  refine ⟨_, cr_sortedI, ?_⟩
  intro M H gs d vs Q e h q
  rcases gs with _ | ⟨g, _ | ⟨g2, gs⟩⟩ <;> simp only [bi, reduceCtorEq] at e
  · obtain ⟨v, rfl, hv⟩ := h.one
    cases g <;> simp only [bi, Option.map_eq_some_iff, reduceCtorEq] at e
    obtain ⟨is, e, rfl⟩ := e
    obtain ⟨a, vs, rfl, k, _, r⟩ := hv.sql hk
    rw [r.ints e] at k
    refine ⟨a, is, rfl, k, fun ns' p h1 h2 hp => ?_⟩
    rw [sorted_unique (h1.trans (isort_perm is).symm) h2 (isort_sorted is)]
    exact q _ _ _ (.lst hp (rgs_ints _))

/-! ### isinstance -/
structure KF (L : Lk) : Prop where
  cls : ∀ c, L.sl c = true → SlX.SCls L.K (L.ca c) ∧ SlX.SIsi L.K (L.ca c)
  insT : ∀ c T, L.sl c = true → T ∈ ["int", "bool", "tuple", "str", "list", "dict"] → PySem.W.kitOne L.K (.ref (L.ca c)) (.type T) = some false
  tyO : ∀ c T, L.sl c = true → T ∈ ["NoneType", "int", "bool", "tuple", "str", "list", "dict"] → PySem.W.kitOne L.K (.type T) (.ref (L.ca c)) = some false
  insO : ∀ c d, L.sl c = true → L.sl d = true → PySem.W.kitOne L.K (.ref (L.ca d)) (.ref (L.ca c)) = some (c == d)
def tyN : G → String
  | .non => "NoneType" | .bl _ => "bool" | .int _ => "int" | .str _ => "str" | .tup _ => "tuple" | .lst _ => "list" | .dct _ _ => "dict" | _ => ""
def Ty.nm : Ty → String
  | .int => "int" | .bool => "bool" | .tuple => "tuple" | .str => "str" | .list => "list" | .dict => "dict" | .own _ => ""
def isIns : G → Bool
  | .ins _ _ => true | .cls _ => true | .fn _ => true | .scr _ => true | _ => false
theorem rd_tyT {K : PySem.W.Frag} {a : Addr} {vs : List V} (h : SqT K H a vs) : TyX K H (.ref a) (.type "tuple") := by
  rcases h with (h | ⟨o, h⟩) | ⟨o, its, n, h, hc, _⟩
  · exact .base (.tup h)
  · exact .fTuple h
  · exact .kTuple h hc
theorem rd_tyL {K : PySem.W.Frag} {a : Addr} {vs : List V} (h : Rd H a (.lst vs)) : TyX K H (.ref a) (.type "list") := by
  rcases h with h | ⟨o, h⟩
  · exact .base (.lst h)
  · exact .base (.frz h)
theorem rd_tyD {K : PySem.W.Frag} {a : Addr} {vs : List (Key × V)} (h : Rd H a (.dK vs)) : TyX K H (.ref a) (.type "dict") := by
  rcases h with h | ⟨o, h⟩
  · exact .base (.dK h)
  · exact .fDict h
theorem RV.ty {g : G} {v : V} (h : RV L M H g v) (n : isIns g = false) : TyX L.K H v (.type (tyN g)) := by
  cases g with
  | non => rw [h.non]; exact .base .non
  | bl b => rw [h.bl]; exact .base (.bl b)
  | int b => rw [h.int]; exact .base (.int b)
  | str b => rw [h.str]; exact .base (.str b)
  | tup xs => obtain ⟨a, vs, rfl, k, r, _⟩ := h.tup; exact rd_tyT k
  | lst xs => obtain ⟨a, vs, rfl, _, k, r⟩ := h.lst; exact rd_tyL k
  | dct ks xs => obtain ⟨a, vs, rfl, k, r, _⟩ := h.dct; exact rd_tyD k
  | ins _ _ => simp [isIns] at n
  | cls _ => simp [isIns] at n
  | fn _ => simp [isIns] at n
  | scr _ => simp [isIns] at n
theorem tyN_kit {t : Ty} {g : G} {b : Bool} (n : isIns g = false) (o : ∀ c, t ≠ .own c) (e : isTy t g = some b) : kitB (tyN g) t.nm = some b := by
  cases t <;> cases g <;> first | (exact absurd rfl (o _)) | (simp [isIns] at n; done) | skip
  all_goals (simp only [isTy, Option.some.injEq] at e; subst e; simp only [tyN, Ty.nm]; decide +kernel)
/-- the class that is asked for, as a value -/
def clsV (L : Lk) : Ty → V
  | .own c => .ref (L.ca c)
  | t => .ty t.nm
def clsU (L : Lk) : Ty → Value
  | .own c => .ref (L.ca c)
  | t => .type t.nm
theorem clsV_rel (L : Lk) (t : Ty) : RelV (clsV L t) (clsU L t) := by cases t <;> rfl
theorem clsV_one (L : Lk) (t : Ty) : ∀ w, RelV (clsV L t) w → w = clsU L t := by cases t <;> exact fun w h => h
theorem clsV_is (L : Lk) (t : Ty) : ClsV (clsV L t) (clsU L t) := by cases t <;> first | exact .ty _ | exact .own _
def okTy (L : Lk) : Ty → Prop
  | .own c => L.sl c = true
  | _ => True
theorem i_isi (hk : X.K = L.K) (F : KF L) (t : Ty) (ho : okTy L t) : ∃ r : List V → Hp → VK → Prop, CallR X (.builtin "isinstance") r ∧
    ∀ (M : Mu) (H : Hp) (g : G) (b : Bool) (v : V) (Q : VK), isTy t g = some b → RV L M H g v → Q (.bl b) H → r [v, clsV L t] H Q := by
  refine ⟨_, CallR.or call_isi (SlX.call_isiSl (clsU L t)), ?_⟩
  intro M H g b v Q e h q
  cases ei : isIns g with
  | false =>
    refine .inl ⟨v, _, _, _, b, rfl, clsV_is L t, by rw [hk]; exact h.ty ei, ?_, q⟩
    rw [hk]
    cases t with
    | own c =>
      have hb : b = false := by cases g <;> simp [isIns] at ei <;> (simp [isTy] at e; exact e)
      subst hb
      refine F.tyO c _ ho ?_
      cases g <;> simp [isIns] at ei <;> simp [tyN]
    | _ => exact kit_ty (tyN_kit ei (fun c z => nomatch z) e)
  | true =>
    cases g with
    | ins d fs =>
      obtain ⟨a, dx, ws, rfl, hs, _, _, sd⟩ := h.ins
      obtain ⟨c1, c2⟩ := F.cls d sd
      rw [← hk] at c1 c2
      refine .inr ⟨a, _, dx, _, _, b, rfl, clsV_rel L t, clsV_one L t, hs, c1, c2, ?_, q⟩
      rw [hk]
      cases t with
      | own c =>
        simp only [isTy, Option.some.injEq] at e
        subst e
        exact F.insO c d ho sd
      | _ =>
        simp only [isTy, Option.some.injEq] at e
        subst e
        exact F.insT d _ sd (by simp [Ty.nm])
    | cls _ => cases t <;> simp [isTy] at e
    | fn _ => cases t <;> simp [isTy] at e
    | scr _ => cases t <;> simp [isTy] at e
    | _ => simp [isIns] at ei
end
end Ev

end
section
set_option linter.all false
set_option maxRecDepth 100000
set_option maxHeartbeats 4000000
namespace Ev
open PySem PySem.Spec PyProof.Rows L2
section
variable {L : Lk} {X : Cx} {W : WX} {F : FF} {M M0 M1 M2 : Mu} {H H0 H1 H2 : Hp} {env env0 env1 env2 : Env} {σ : L2.St}
theorem res_eq (o : Option D) (e : Env) : res o e = ofO o e := by
  unfold res ofO
  cases o with
  | none => rfl
  | some d => cases d with
    | g x => cases x <;> simp only [forceI_eq]
    | _ => rfl
theorem RD.back {d : D} {v : V} (f : ∀ a, H1 a = none → H0 a = none) (h : RD L M H env σ H1 d v) : RD L M H env σ H0 d v := by
  cases d with
  | g x => exact h
  | sl i => exact h
  | own x => obtain ⟨a, h1, h2, h3, h4, h5, h6⟩ := h; exact ⟨a, h1, h2, h3, h4, h5, f a h6⟩
theorem RDs.back (f : ∀ a, H1 a = none → H0 a = none) : ∀ {ds : List D} {vs : List V}, RDs L M H env σ H1 ds vs → RDs L M H env σ H0 ds vs
  | [], _, h => h
  | d :: ds, _, h => by
    obtain ⟨v, r, e, h1, h2, h3⟩ := h
    exact ⟨v, r, e, h1.back f, h2.back f, h3⟩
/-- an operator's result -/
theorem fin_res {o : Option D} {Q : VK} (A : AftE L M H env σ M2 H2 env2) (P : PostE L W σ M H env (okD L σ M H env Q) (res o env2)) : ∃ d, o = some d ∧ ∀ v H' M', New L M2 H2 M' H' d v → Q v H' := by
  rw [res_eq] at P
  cases o with
  | none => exact P.elim
  | some d => exact ⟨d, rfl, fun v H' M' n => P v H' M' (A.trans (.kp A.re n.kp)) ((n.rd' A.re).back fun a h => A.aft.free h)⟩
theorem fin_ok {d : D} {v : V} {Q : VK} (A : AftE L M H env σ M2 H2 env2) (P : PostE L W σ M H env (okD L σ M H env Q) (.ok d env2)) {M' : Mu} {H' : Hp} (n : New L M2 H2 M' H' d v) : Q v H' :=
  P v H' M' (A.trans (.kp A.re n.kp)) ((n.rd' A.re).back fun a h => A.aft.free h)

/-! ### constants and names -/
theorem c_int {i : Int} {j pos} : PE X (.Constant (.int i) j pos) (TEof L W (eK (.int i) F)) := PE.imp pe_int fun σ H Q h => by
  obtain ⟨M, env, re, P⟩ := h
  exact fin_ok (.refl re) P (.same rg_int)
theorem c_bl {i : Bool} {j pos} : PE X (.Constant (.bool i) j pos) (TEof L W (eK (.bl i) F)) := PE.imp pe_bl fun σ H Q h => by
  obtain ⟨M, env, re, P⟩ := h
  exact fin_ok (.refl re) P (.same rg_bl)
theorem c_non {j pos} : PE X (.Constant .none j pos) (TEof L W (eK .non F)) := PE.imp pe_non fun σ H Q h => by
  obtain ⟨M, env, re, P⟩ := h
  exact fin_ok (.refl re) P (.same rg_non)
theorem c_str {i : Str} {j pos} : PE X (.Constant (.str i) j pos) (TEof L W (eK (.str i) F)) := PE.imp pe_str fun σ H Q h => by
  obtain ⟨M, env, re, P⟩ := h
  exact fin_ok (.refl re) P (.same rg_str)
theorem sv_some {σ : L2.St} {i : Nat} {v : V} (h : sv σ i = some v) : σ[i]? = some (some v) := by
  unfold sv at h
  split at h
  · rename_i e; rw [e, h]
  · cases h
theorem c_var {i : Nat} {x : Str} {pos : Pos} (hN : X.N[i]? = some x) (hv : Vis X.env.scope x) (hd : (x == ("__debug__" : Str)) = false := by decide) (hcd : (x == ("__classdict__" : Str)) = false := by decide) :
    PE X (.Name x pos) (TEof L W (eV i F)) := PE.imp (pe_var hN hv hd hcd) fun σ H Q h => by
  obtain ⟨M, env, re, P⟩ := h
  have q := re.at_ i
  unfold eV nameD ofO at P
  cases es : getS env i <;> rw [es] at q P <;> simp only [PostE] at P
  · obtain ⟨v, e, k⟩ := q; exact ⟨v, sv_some e, P v H M (.refl re) k⟩
  · obtain ⟨a, e, _⟩ := q; exact ⟨_, sv_some e, P _ H M (.refl re) e⟩
  · obtain ⟨a, e, _⟩ := q; exact ⟨_, sv_some e, P _ H M (.refl re) e⟩
  · obtain ⟨v, e, k⟩ := q; exact ⟨v, sv_some e, P v H M (.refl re) k⟩
  · obtain ⟨a, e, _⟩ := q; exact ⟨_, sv_some e, P _ H M (.refl re) e⟩
/-- a name of the module -/
theorem c_glob {g : G} {x : Str} {v : V} {u : Value} {pos : Pos} (hr : ∀ M H, RG L M H g v) (hg : Gl X x) (hm : X.mg x = some u) (r : RelV v u) (hd : (x == ("__debug__" : Str)) = false := by decide) :
    PE X (.Name x pos) (TEof L W (eK g F)) := PE.imp (pe_glob hg hm r hd) fun σ H Q h => by
  obtain ⟨M, env, re, P⟩ := h
  exact fin_ok (.refl re) P (.same (hr M H))

variable {a b c : Expr} {ea eb ec : EV} {pos : Pos}
/-! ### operators -/
theorem c_bin {op : Operator} {o : B2} (hs : B2S L X (binaryOp op) o) (ha : PE X a (TEof L W (ea F))) (hb : PE X b (TEof L W (eb F))) : PE X (.BinOp a op b pos) (TEof L W (eBin o ea eb F)) := by
  obtain ⟨r, hr, hs⟩ := hs
  refine PE.imp (pe_op hr ha hb) fun σ H Q h => ?_
  obtain ⟨M, env, re, P⟩ := h
  refine goE (.refl re) P fun d1 e1 v1 H1 M1 A1 A1' D1 P1 => goE A1 P1 fun d2 e2 v2 H2 M2 A2 A2' D2 P2 => ?_
  split at P2
  · rename_i x y ex ey
    obtain ⟨d, eo, q⟩ := fin_res A2 P2
    exact hs M2 H2 x y d v1 v2 Q eo (A2.re.view (D1.to A2'.aft A1.re A2'.ob) ex) (A2.re.view D2 ey) q
  · exact P2.elim
theorem c_cmp {op : CmpOp} {o : B2} (hs : B2S L X (compareOp op) o) (ha : PE X a (TEof L W (ea F))) (hb : PE X b (TEof L W (eb F))) (hm : behindInMarks op b = false := by first | exact nobehind _ (by decide) (by decide) | rfl) :
    PE X (.Compare a [op] [b] pos) (TEof L W (eBin o ea eb F)) := by
  obtain ⟨r, hr, hs⟩ := hs
  refine PE.imp (pe_cmpR hr ha hb hm) fun σ H Q h => ?_
  obtain ⟨M, env, re, P⟩ := h
  refine goE (.refl re) P fun d1 e1 v1 H1 M1 A1 A1' D1 P1 => goE A1 P1 fun d2 e2 v2 H2 M2 A2 A2' D2 P2 => ?_
  split at P2
  · rename_i x y ex ey
    obtain ⟨d, eo, q⟩ := fin_res A2 P2
    exact hs M2 H2 x y d v1 v2 Q eo (A2.re.view (D1.to A2'.aft A1.re A2'.ob) ex) (A2.re.view D2 ey) q
  · exact P2.elim
theorem c_idx (hs : IxS L X) (ha : PE X a (TEof L W (ea F))) (hb : PE X b (TEof L W (eb F))) (hp : PlainIx b := by exact fun _ _ => rfl) : PE X (.Subscript a b pos) (TEof L W (eBin .idx ea eb F)) := by
  obtain ⟨r, hr, hs⟩ := hs
  refine PE.imp (pe_ix hr ha hb hp) fun σ H Q h => ?_
  obtain ⟨M, env, re, P⟩ := h
  refine goE (.refl re) P fun d1 e1 v1 H1 M1 A1 A1' D1 P1 => goE A1 P1 fun d2 e2 v2 H2 M2 A2 A2' D2 P2 => ?_
  split at P2
  · rename_i x y ex ey
    obtain ⟨d, eo, q⟩ := fin_res A2 P2
    exact hs M2 H2 x y d v1 v2 Q eo (A2.re.view (D1.to A2'.aft A1.re A2'.ob) ex) (A2.re.view D2 ey) q
  · exact P2.elim
theorem c_neg (ha : PE X a (TEof L W (ea F))) : PE X (.UnaryOp .USub a pos) (TEof L W (eUn .neg ea F)) := by
  refine PE.imp (pe_un un_neg ha) fun σ H Q h => ?_
  obtain ⟨M, env, re, P⟩ := h
  refine goE (.refl re) P fun d1 e1 v1 H1 M1 A1 A1' D1 P1 => ?_
  split at P1
  · rename_i x ex
    obtain ⟨d, eo, q⟩ := fin_res A1 P1
    cases x <;> simp only [b1, Option.some.injEq, reduceCtorEq] at eo
    subst eo
    have k := A1.re.view D1 ex
    exact ⟨_, k.int, q _ _ _ (.same rg_int)⟩
  · exact P1.elim
theorem c_chain {op op' : CmpOp} {o o' : B2} (hs : B2S L X (compareOp op) o) (hs' : B2S L X (compareOp op') o') (ha : PE X a (TEof L W (ea F))) (hb : PE X b (TEof L W (eb F))) (hc : PE X c (TEof L W (ec F)))
    (hm : lastMarks [op, op'] [b, c] = false := by with_unfolding_all rfl) : PE X (.Compare a [op, op'] [b, c] pos) (TEof L W (eChain o o' ea eb ec F)) := by
  obtain ⟨r, hr, hs⟩ := hs
  obtain ⟨r', hr', hs'⟩ := hs'
  refine PE.imp (pe_chain hr hr' ha hb hc hm) fun σ H Q h => ?_
  obtain ⟨M, env, re, P⟩ := h
  refine goE (.refl re) P fun d1 e1 v1 H1 M1 A1 A1' D1 P1 => goE A1 P1 fun d2 e2 v2 H2 M2 A2 A2' D2 P2 => ?_
  split at P2
  · rename_i x y ex ey
    have V1 := A2.re.view (D1.to A2'.aft A1.re A2'.ob) ex
    have V2 := A2.re.view D2 ey
    split at P2
    · rename_i eo
      refine hs M2 H2 x y _ v1 v2 _ eo V1 V2 fun v H3 M3 n => ?_
      have ev : v = .bl true := by have := n.rd; simp only at this; unfold RG at this; exact this
      refine ⟨true, ev, ?_⟩
      rw [if_pos rfl]
      have A3 := AftE.kp A2.re n.kp
      refine goE (A2.trans A3) P2 fun d3 e3 v3 H4 M4 A4 A4' D4 P4 => ?_
      split at P4
      · rename_i y' z ey' ez
        obtain ⟨d, eo', q⟩ := fin_res A4 P4
        have D2' : RD L M4 H4 e3 σ H1 d2 v2 := (D2.to A3.aft A2.re A3.ob).to A4'.aft A3.re A4'.ob
        exact hs' M4 H4 y' z d v2 v3 Q eo' (A4.re.view D2' ey') (A4.re.view D4 ez) q
      · exact P4.elim
    · rename_i eo
      refine hs M2 H2 x y _ v1 v2 _ eo V1 V2 fun v H3 M3 n => ?_
      have ev : v = .bl false := by have := n.rd; simp only at this; unfold RG at this; exact this
      refine ⟨false, ev, ?_⟩
      rw [if_neg Bool.false_ne_true]
      have := fin_ok A2 P2 n
      rw [ev] at this
      exact this
    · exact P2.elim
  · exact P2.elim
theorem rv_bl {g : G} {v : V} {d : D} (r : RE L M H env σ) (D1 : RD L M H env σ H0 d v) {t : Bool} (e : view d env = some (.bl t)) : v = .bl t := (r.view D1 e).bl
theorem c_one {op : PySem.BoolOp} (ha : PE X a (TEof L W (ea F))) : PE X (.BoolOp op [a] pos) (TEof L W (ea F)) := pe_one ha
theorem c_and {rest : List Expr} (ha : PE X a (TEof L W (ea F))) (hb : PE X (.BoolOp .And (b :: rest) pos) (TEof L W (eb F))) : PE X (.BoolOp .And (a :: b :: rest) pos) (TEof L W (eAnd ea eb F)) := by
  refine PE.imp (pe_and ha hb) fun σ H Q h => ?_
  obtain ⟨M, env, re, P⟩ := h
  refine goE (.refl re) P fun d1 e1 v1 H1 M1 A1 A1' D1 P1 => ?_
  split at P1
  · rename_i ex
    refine ⟨true, (A1.re.view D1 ex).bl, ?_⟩
    rw [if_pos rfl]
    exact lastE A1 (fun a h => A1.aft.free h) P1
  · rename_i ex
    refine ⟨false, (A1.re.view D1 ex).bl, ?_⟩
    rw [if_neg Bool.false_ne_true]
    exact fin_ok A1 P1 (.same rg_bl)
  · exact P1.elim
theorem c_or {rest : List Expr} (ha : PE X a (TEof L W (ea F))) (hb : PE X (.BoolOp .Or (b :: rest) pos) (TEof L W (eb F))) : PE X (.BoolOp .Or (a :: b :: rest) pos) (TEof L W (eOr ea eb F)) := by
  refine PE.imp (pe_or ha hb) fun σ H Q h => ?_
  obtain ⟨M, env, re, P⟩ := h
  refine goE (.refl re) P fun d1 e1 v1 H1 M1 A1 A1' D1 P1 => ?_
  split at P1
  · rename_i ex
    refine ⟨false, (A1.re.view D1 ex).bl, ?_⟩
    rw [if_neg Bool.false_ne_true]
    exact lastE A1 (fun a h => A1.aft.free h) P1
  · rename_i ex
    refine ⟨true, (A1.re.view D1 ex).bl, ?_⟩
    rw [if_pos rfl]
    exact fin_ok A1 P1 (.same rg_bl)
  · exact P1.elim
theorem c_not (ha : PE X a (TEof L W (ea F))) : PE X (.UnaryOp .Not a pos) (TEof L W (eNot ea F)) := by
  refine PE.imp (pe_not ha) fun σ H Q h => ?_
  obtain ⟨M, env, re, P⟩ := h
  refine goE (.refl re) P fun d1 e1 v1 H1 M1 A1 A1' D1 P1 => ?_
  split at P1
  · rename_i ex
    exact ⟨true, (A1.re.view D1 ex).bl, fin_ok A1 P1 (.same rg_bl)⟩
  · rename_i ex
    exact ⟨false, (A1.re.view D1 ex).bl, fin_ok A1 P1 (.same rg_bl)⟩
  · exact P1.elim
variable {ta tb tc : TV}
theorem c_ite {t : Expr} (ht : PT X t (TTof L W (ta F))) (ha : PE X a (TEof L W (ea F))) (hb : PE X b (TEof L W (eb F))) : PE X (.IfExp t a b pos) (TEof L W (eIte ta ea eb F)) := by
  refine PE.imp (pe_ifExp ht ha hb) fun σ H Q h => ?_
  obtain ⟨M, env, re, P⟩ := h
  refine goT (.refl re) P fun t e1 H1 M1 A1 A1' P1 => ?_
  cases t with
  | true => rw [if_pos rfl]; exact lastE A1 (fun a h => A1.aft.free h) P1
  | false => rw [if_neg Bool.false_ne_true]; exact lastE A1 (fun a h => A1.aft.free h) P1

/-! ### tests -/
theorem t_val (hk : X.K = L.K) (ha : PE X a (TEof L W (ea F))) (he : ∀ whole, isTrue a X.env whole = (do let v ← whole; standAt a.pos; holding [v] (truthy v)) := by intro _; rfl) : PT X a (TTof L W (tV ea F)) := by
  refine PT.imp (pt_truth ha he) fun σ H Q h => ?_
  obtain ⟨M, env, re, P⟩ := h
  refine goE (.refl re) P fun d1 e1 v1 H1 M1 A1 A1' D1 P1 => ?_
  split at P1
  · rename_i g ex
    unfold ofO at P1
    split at P1
    · rename_i t et
      exact ⟨t, by rw [hk]; exact (A1.re.view D1 ex).tru et, P1 H1 M1 A1⟩
    · exact P1.elim
  · exact P1.elim
def isCmp : B2 → Bool
  | .eq => true | .ne => true | .lt => true | .le => true | .gt => true | .ge => true | .is_ => true | .isnot => true | .in_ => true | .notin => true | _ => false
theorem b2_bl {o : B2} (h : isCmp o = true) {x y : G} {d : D} (e : b2 o x y = some d) : ∃ t, d = .g (.bl t) := by
  cases o <;> simp [isCmp] at h <;> cases x <;> cases y <;> simp only [b2, Option.map_eq_some_iff, Option.ite_none_right_eq_some, Option.some.injEq, reduceCtorEq] at e <;>
    first
    | exact ⟨_, e.symm⟩
    | exact ⟨_, e.2.symm⟩
    | (obtain ⟨t, _, e⟩ := e; exact ⟨_, e.symm⟩)
    | (obtain ⟨_, _, _, _, e⟩ := ltT_some e; exact ⟨_, e⟩)
theorem t_cmp {op : CmpOp} {o : B2} (hs : B2S L X (compareOp op) o) (ha : PE X a (TEof L W (ea F))) (hb : PE X b (TEof L W (eb F))) (ho : isCmp o = true := by rfl) (hm : behindInMarks op b = false := by first | exact nobehind _ (by decide) (by decide) | rfl) :
    PT X (.Compare a [op] [b] pos) (TTof L W (tV (eBin o ea eb) F)) := by
  obtain ⟨r, hr, hs⟩ := hs
  refine PT.imp (pt_cmpR hr ha hb hm) fun σ H Q h => ?_
  obtain ⟨M, env, re, P⟩ := h
  have P : PostE L W σ M H env (okB L σ M H env Q) (((ea F env).bind fun x e => (eb F e).bind fun y e => match view x e, view y e with
    | some x, some y => res (b2 o x y) e
    | _, _ => .bad).bind fun d e => match view d e with
    | some g => ofO (truth g) e
    | none => .bad) := P
  have as1 : ∀ {α β γ : Type} (r : R α) (f : α → Env → R β) (g : β → Env → R γ), (r.bind f).bind g = r.bind fun a e => (f a e).bind g := fun r f g => by cases r <;> rfl
  rw [as1] at P
  refine goE (.refl re) P fun d1 e1 v1 H1 M1 A1 A1' D1 P1 => ?_
  rw [as1] at P1
  refine goE A1 P1 fun d2 e2 v2 H2 M2 A2 A2' D2 P2 => ?_
  split at P2
  · rename_i x y ex ey
    rw [res_eq] at P2
    cases eo : b2 o x y with
    | none => rw [eo] at P2; exact P2.elim
    | some d =>
      obtain ⟨t, rfl⟩ := b2_bl ho eo
      rw [eo] at P2
      refine hs M2 H2 x y _ v1 v2 _ eo (A2.re.view (D1.to A2'.aft A1.re A2'.ob) ex) (A2.re.view D2 ey) fun v H3 M3 n => ?_
      have ev : v = .bl t := by have := n.rd; simp only at this; unfold RG at this; exact this
      exact ⟨t, ev, P2 H3 M3 (A2.trans (.kp A2.re n.kp))⟩
  · exact P2.elim
theorem c_tw {t : Expr} (h : PW X t (TTof L W (ta F))) : PT X t (TTof L W (ta F)) := h.pt
theorem t_not (ha : PT X a (TTof L W (ta F))) : PT X (.UnaryOp .Not a pos) (TTof L W (tNotT ta F)) := by
  refine PT.imp (pt_not ha) fun σ H Q h => ?_
  obtain ⟨M, env, re, P⟩ := h
  exact goT (.refl re) P fun t e1 H1 M1 A1 A1' P1 => P1 H1 M1 A1
theorem w_and1 (ha : PT X a (TTof L W (ta F))) : PW X (.BoolOp .And [a] pos) (TTof L W (ta F)) := pw_and1 ha
theorem w_or1 (ha : PT X a (TTof L W (ta F))) : PW X (.BoolOp .Or [a] pos) (TTof L W (ta F)) := pw_or1 ha
theorem w_and {rest : List Expr} (ha : PT X a (TTof L W (ta F))) (hb : PW X (.BoolOp .And (b :: rest) pos) (TTof L W (tb F))) : PW X (.BoolOp .And (a :: b :: rest) pos) (TTof L W (tAndT ta tb F)) := by
  refine PW.imp (pw_and ha hb) fun σ H Q h => ?_
  obtain ⟨M, env, re, P⟩ := h
  refine goT (.refl re) P fun t e1 H1 M1 A1 A1' P1 => ?_
  cases t with
  | true => rw [if_pos rfl]; exact lastT A1 P1
  | false => rw [if_neg Bool.false_ne_true]; exact P1 H1 M1 A1
theorem w_or {rest : List Expr} (ha : PT X a (TTof L W (ta F))) (hb : PW X (.BoolOp .Or (b :: rest) pos) (TTof L W (tb F))) : PW X (.BoolOp .Or (a :: b :: rest) pos) (TTof L W (tOrT ta tb F)) := by
  refine PW.imp (pw_or ha hb) fun σ H Q h => ?_
  obtain ⟨M, env, re, P⟩ := h
  refine goT (.refl re) P fun t e1 H1 M1 A1 A1' P1 => ?_
  cases t with
  | true => rw [if_pos rfl]; exact P1 H1 M1 A1
  | false => rw [if_neg Bool.false_ne_true]; exact lastT A1 P1

/-! ### arguments -/
theorem a_nil : PA X [] (TAof L W (aNil F)) := by
  refine PA.imp pa_nil fun σ H Q h => ?_
  obtain ⟨M, env, re, P⟩ := h
  exact P [] H M (.refl re) rfl
theorem RDs.to {ds : List D} {vs : List V} (x : Aft L M H env σ M1 H1 env1 σ) (r : RE L M H env σ) (ob : ∀ i, isOb (getS env1 i) = true → isOb (getS env i) = true) (h : RDs L M H env σ H0 ds vs) : RDs L M1 H1 env1 σ H0 ds vs := by
  induction ds generalizing vs with
  | nil => exact h
  | cons d ds ih =>
    obtain ⟨v, t, e, h1, h2, h3⟩ := h
    exact ⟨v, t, e, h1.to x r ob, ih h2, h3⟩
theorem RDs.new {ds : List D} {vs : List V} (h : RDs L M H env σ H0 ds vs) : ∀ y ∈ ds.zip vs, ∀ z, y.1 = .own z → ∃ a, y.2 = .ref a ∧ H0 a = none := by
  induction ds generalizing vs with
  | nil => intro y hy; simp at hy
  | cons d ds ih =>
    obtain ⟨v, t, rfl, h1, h2, h3⟩ := h
    intro y hy z ez
    rw [List.zip_cons_cons] at hy
    rcases List.mem_cons.mp hy with rfl | hy
    · simp only at ez; subst ez
      obtain ⟨a, e, _, _, _, _, f⟩ := h1
      exact ⟨a, e, f⟩
    · exact ih h2 y hy z ez
variable {as : AV} {es : List Expr}
theorem a_cons (ha : PE X a (TEof L W (ea F))) (hr : PA X es (TAof L W (as F))) (hs : starEach (a :: es) X.env = (false, eval a X.env) :: starEach es X.env := by rfl) : PA X (a :: es) (TAof L W (aCons ea as F)) := by
  refine PA.imp (pa_cons ha hr hs) fun σ H Q h => ?_
  obtain ⟨M, env, re, P⟩ := h
  refine goE (.refl re) P fun d1 e1 v1 H1 M1 A1 A1' D1 P1 => goA A1 P1 fun ds e2 vs H2 M2 A2 A2' D2 P2 => ?_
  refine P2 _ H2 M2 A2 ⟨v1, vs, rfl, D1.to A2'.aft A1.re A2'.ob, D2.back fun a h => A1.aft.free h, fun x ex y hy z ez ev => ?_⟩
  subst ex
  obtain ⟨a1, e1, _, _, _, k1, _⟩ := D1
  obtain ⟨a2, e2, f2⟩ := D2.new y hy z ez
  rw [e2, e1] at ev; cases ev
  obtain ⟨o, q⟩ := k1.has
  rw [f2] at q; cases q
theorem RDs.gs {gs : List G} {vs : List V} {ds : List D} {ws : List V} (h : RGs L M H gs vs) (t : RDs L M H env σ H0 ds ws) : RDs L M H env σ H0 (gs.map .g ++ ds) (vs ++ ws) := by
  induction gs generalizing vs with
  | nil => unfold RGs at h; subst h; exact t
  | cons g gs ih =>
    unfold RGs at h
    obtain ⟨v, r, rfl, h1, h2⟩ := h
    exact ⟨v, _, rfl, h1, ih h2, fun x e => nomatch e⟩
theorem a_star {p : Pos} (hk : X.K = L.K) (ha : PE X a (TEof L W (ea F))) (hr : PA X es (TAof L W (as F))) (hs : starEach (.Starred a p :: es) X.env = (true, eval a X.env) :: starEach es X.env := by rfl) : PA X (.Starred a p :: es) (TAof L W (aStar ea as F)) := by
  refine PA.imp (StX.pa_star ha hr hs) fun σ H Q h => ?_
  obtain ⟨M, env, re, P⟩ := h
  refine goE (.refl re) P fun d1 e1 v1 H1 M1 A1 A1' D1 P1 => ?_
  split at P1
  · rename_i gs ex
    obtain ⟨p, vs, rfl, k, r, _⟩ := (A1.re.view D1 ex).sqt hk
    refine ⟨p, vs, rfl, .inl k, goA A1 P1 fun ds e2 ws H2 M2 A2 A2' D2 P2 => ?_⟩
    exact P2 _ H2 M2 A2 ((D2.back fun a h => A1.aft.free h).gs (RGs.to (A2'.aft.ext A1.re) _ _ r))
  · rename_i gs ex
    obtain ⟨p, vs, rfl, k, _, r⟩ := (A1.re.view D1 ex).sql hk
    refine ⟨p, vs, rfl, .inr k, goA A1 P1 fun ds e2 ws H2 M2 A2 A2' D2 P2 => ?_⟩
    exact P2 _ H2 M2 A2 ((D2.back fun a h => A1.aft.free h).gs (RGs.to (A2'.aft.ext A1.re) _ _ r))
  · exact P1.elim
end
end Ev

end
section
set_option linter.all false
set_option maxRecDepth 100000
set_option maxHeartbeats 4000000
namespace Ev
open PySem PySem.Spec PyProof.Rows L2
def env0 (fd : FD) (ss : List S) : Env := ss ++ List.replicate (fd.ns - fd.np) .non
def sig0 (fd : FD) (vs : List V) : L2.St := vs.map some ++ List.replicate (fd.ns - fd.np) none
/-- what a def hands back: heap of its start, its frame then -/
def RDr (L : Lk) (M : Mu) (H : Hp) (env : Env) (σ : L2.St) (H0 : Hp) (e0 : Env) (σ0 : L2.St) : D → V → Prop
  | .g x, v => RG L M H x v
  | .own x, v => ∃ a, v = .ref a ∧ M a ∧ ¬ own H env σ a ∧ (∀ i, isOb (getS env i) = true → sv σ i ≠ some (.ref a)) ∧ RC L M H x a ∧ ((∃ j, isOo (getS e0 j) = true ∧ sv σ0 j = some (.ref a)) ∨ H0 a = none)
  | .sl _, _ => False
/-- what a def's promise asks of what is wanted -/
def PostC (L : Lk) (M : Mu) (H : Hp) (e0 : Env) (σ0 : L2.St) (Q : VK) (E : XK) : R D → Prop
  | .ok d e => isMade d = false ∧ ∀ v H' M' σ', Aft L M H e0 σ0 M' H' e σ' → RDr L M' H' e σ' H e0 σ0 d v → Q v H'
  | .exn c p e => ∀ cls dd H' M' σ', Aft L M H e0 σ0 M' H' e σ' → RX L M' H' c p cls dd → E cls dd H'
  | .bad => False
def spF (L : Lk) (fd : FD) (F : FF) : Sp := fun vs H Q E => ∃ M ss, ss.length = fd.np ∧ vs.length = fd.np ∧ RE L M H (env0 fd ss) (sig0 fd vs) ∧ PostC L M H (env0 fd ss) (sig0 fd vs) Q E (fin (fd.body F (env0 fd ss)))
section
variable {L : Lk} {M M0 M1 M2 M' : Mu} {H H0 H1 H2 H' : Hp} {env env1 env2 : Env} {σ : L2.St}
theorem getS_app {a b : List S} {i : Nat} : getS (a ++ b) i = if i < a.length then getS a i else getS b (i - a.length) := by
  unfold getS
  split
  · rename_i h; rw [List.getElem?_append_left h]
  · rename_i h; rw [List.getElem?_append_right (by omega)]
theorem getS_rep {n i : Nat} : getS (List.replicate n S.non) i = .non := by
  unfold getS
  rw [List.getElem?_replicate]
  split <;> rfl
theorem sv_app {a b : L2.St} {i : Nat} : sv (a ++ b) i = if i < a.length then sv a i else sv b (i - a.length) := by
  by_cases h : i < a.length
  · rw [if_pos h]; unfold sv; rw [List.getElem?_append_left h]
  · rw [if_neg h]; unfold sv; rw [List.getElem?_append_right (by omega)]
theorem sv_rep {n i : Nat} : sv (List.replicate n none) i = none := by
  unfold sv
  rw [List.getElem?_replicate]
  by_cases h : i < n <;> simp [h]
theorem sv_map {vs : List V} {i : Nat} : sv (vs.map some) i = vs[i]? := by
  unfold sv
  rw [List.getElem?_map]
  cases vs[i]? <;> rfl
/-- the slots of the arguments -/
theorem argsS_at : ∀ {ds : List D} {ss : List S}, argsS env ds = some ss → ss.length = ds.length ∧ ∀ k, match ds[k]? with | some d => argS env d = some (getS ss k) | none => getS ss k = .non
  | [], ss, h => by
    simp only [argsS, Option.some.injEq] at h; subst h
    exact ⟨rfl, fun k => by simp [getS]⟩
  | d :: ds, ss, h => by
    simp only [argsS] at h
    split at h
    · rename_i s ts e1 e2
      simp only [Option.some.injEq] at h; subst h
      obtain ⟨l, f⟩ := argsS_at e2
      refine ⟨by simp [l], fun k => ?_⟩
      cases k with
      | zero => simpa [getS] using e1
      | succ k => have := f k; simpa [getS] using this
    · cases h
theorem RDs.at_ : ∀ {ds : List D} {vs : List V}, RDs L M H env σ H0 ds vs → vs.length = ds.length ∧ ∀ (k : Nat) (d : D), ds[k]? = some d → ∃ v, vs[k]? = some v ∧ RD L M H env σ H0 d v
  | [], vs, h => by
    have : vs = [] := h
    subst this
    exact ⟨rfl, fun k d e => by simp at e⟩
  | d :: ds, vs, h => by
    obtain ⟨v, r, rfl, h1, h2, _⟩ := h
    obtain ⟨l, f⟩ := h2.at_
    refine ⟨by simp [l], fun k d' e => ?_⟩
    cases k with
    | zero => simp at e; subst e; exact ⟨v, rfl, h1⟩
    | succ k => exact f k d' (by simpa using e)
theorem RDs.apart : ∀ {ds : List D} {vs : List V}, RDs L M H env σ H0 ds vs → ∀ {j k : Nat} {x y : G} {v : V}, j < k → ds[j]? = some (.own x) → ds[k]? = some (.own y) → vs[j]? = some v → vs[k]? = some v → False
  | [], _, _, _, _, _, _, _, _, e, _, _, _ => by simp at e
  | d :: ds, vs, h, j, k, x, y, v, hl, e1, e2, e3, e4 => by
    obtain ⟨w, r, rfl, h1, h2, h3⟩ := h
    cases k with
    | zero => omega
    | succ k =>
      simp only [List.getElem?_cons_succ] at e2 e4
      cases j with
      | zero =>
        simp only [List.getElem?_cons_zero, Option.some.injEq] at e1 e3
        subst e1 e3
        refine h3 x rfl (.own y, w) ?_ y rfl rfl
        refine List.mem_of_getElem? (i := k) ?_
        rw [List.getElem?_zip_eq_some]
        exact ⟨e2, e4⟩
      | succ j =>
        simp only [List.getElem?_cons_succ] at e1 e3
        exact RDs.apart h2 (by omega) e1 e2 e3 e4
theorem lent_mem : ∀ {ds : List D} {i : Nat}, i ∈ lent env ds ↔ (.sl i) ∈ ds ∧ ((∃ g, getS env i = .obj g) ∨ ∃ g, getS env i = .len g)
  | [], i => by simp [lent]
  | d :: ds, i => by
    have ih := @lent_mem ds i
    cases d with
    | g x => simp only [lent, List.mem_cons, reduceCtorEq, false_or]; exact ih
    | own x => simp only [lent, List.mem_cons, reduceCtorEq, false_or]; exact ih
    | sl j =>
      simp only [lent]
      cases e : getS env j <;> simp only [List.mem_cons, ih, D.sl.injEq] <;> constructor <;> intro h
      all_goals first
        | (rcases h with rfl | h
           · exact ⟨.inl rfl, by rw [e]; first | exact .inl ⟨_, rfl⟩ | exact .inr ⟨_, rfl⟩⟩
           · exact ⟨.inr h.1, h.2⟩)
        | exact ⟨.inr h.1, h.2⟩
        | (obtain ⟨h1 | h1, h2⟩ := h
           · first | exact .inl h1 | (subst h1; rw [e] at h2; rcases h2 with ⟨g, z⟩ | ⟨g, z⟩ <;> cases z)
           · first | exact .inr ⟨h1, h2⟩ | exact ⟨h1, h2⟩)
theorem lent_nodup : ∀ {ds : List D}, (lent env ds).Nodup → ∀ {j k i : Nat}, j < k → ds[j]? = some (.sl i) → ds[k]? = some (.sl i) → i ∈ lent env ds → False
  | [], _, _, _, _, _, e, _, _ => by simp at e
  | d :: ds, h, j, k, i, hl, e1, e2, hm => by
    cases k with
    | zero => omega
    | succ k =>
      simp only [List.getElem?_cons_succ] at e2
      have hin : (.sl i) ∈ ds := List.mem_of_getElem? e2
      have hm2 : i ∈ lent env ds := lent_mem.mpr ⟨hin, (lent_mem.mp hm).2⟩
      cases j with
      | zero =>
        simp only [List.getElem?_cons_zero, Option.some.injEq] at e1
        subst e1
        have h2 := (lent_mem.mp hm).2
        rcases h2 with ⟨g, z⟩ | ⟨g, z⟩ <;> simp only [lent, z] at h <;> exact (List.nodup_cons.mp h).1 hm2
      | succ j =>
        simp only [List.getElem?_cons_succ] at e1
        have h' : (lent env ds).Nodup := by
          cases d with
          | g x => simpa only [lent] using h
          | own x => simpa only [lent] using h
          | sl q =>
            simp only [lent] at h
            cases e : getS env q <;> rw [e] at h <;> first | exact h | exact (List.nodup_cons.mp h).2
        exact lent_nodup h' (by omega) e1 e2 hm2
/-- the callee's frame -/
theorem call_re {fd : FD} {ds : List D} {vs dvs : List V} {ss : List S} {dfl : List G} (r : RE L M H env σ) (D : RDs L M H env σ H0 ds vs) (ea : argsS env ds = some ss) (nd : (lent env ds).Nodup) (hd : RGs L M H dfl dvs) :
    RE L M H (env0 fd (ss ++ dfl.map .val)) (sig0 fd (vs ++ dvs)) := by
  obtain ⟨ls, fs⟩ := argsS_at ea
  obtain ⟨lv, fv⟩ := D.at_
  have ld := hd.len
  have gS : ∀ i, getS (env0 fd (ss ++ dfl.map .val)) i = if i < ss.length then getS ss i else if i < ss.length + dfl.length then getS (dfl.map .val) (i - ss.length) else .non := fun i => by
    unfold env0
    rw [getS_app, getS_app, getS_rep, List.length_append, List.length_map]
    by_cases h1 : i < ss.length
    · simp [h1, show i < ss.length + dfl.length by omega]
    · by_cases h2 : i < ss.length + dfl.length <;> simp [h1, h2]
  have gV : ∀ i, sv (sig0 fd (vs ++ dvs)) i = if i < ss.length then vs[i]? else if i < ss.length + dfl.length then dvs[i - ss.length]? else none := fun i => by
    unfold sig0
    rw [List.map_append, sv_app, sv_app, sv_rep, sv_map, sv_map, List.length_append, List.length_map, List.length_map, lv, ← ls, ← ld]
    by_cases h1 : i < ss.length
    · simp [h1, show i < ss.length + dfl.length by omega]
    · by_cases h2 : i < ss.length + dfl.length <;> simp [h1, h2]
  -- an argument
  have arg : ∀ i, i < ss.length → ∃ d v, ds[i]? = some d ∧ vs[i]? = some v ∧ RD L M H env σ H0 d v ∧ argS env d = some (getS ss i) := fun i hi => by
    have h1 : ds[i]? = some (ds[i]'(by omega)) := List.getElem?_eq_getElem (by omega)
    obtain ⟨v, e2, rd⟩ := fv i _ h1
    have := fs i
    rw [h1] at this
    exact ⟨_, v, h1, e2, rd, this⟩
  refine ⟨by unfold env0 sig0; simp [ls, lv, ld], fun i => ?_, fun i j a ne h1 h2 h3 h4 => ?_⟩
  · rw [gS, gV]
    by_cases h1 : i < ss.length
    · rw [if_pos h1, if_pos h1]
      obtain ⟨d, v, e1, e2, rd, ar⟩ := arg i h1
      rw [e2]
      cases d with
      | g x => simp only [argS, Option.some.injEq] at ar; rw [← ar]; exact ⟨v, rfl, rd⟩
      | own x => simp only [argS, Option.some.injEq] at ar; rw [← ar]; obtain ⟨a, ev, m, _, _, k, _⟩ := rd; exact ⟨a, by rw [ev], m, k⟩
      | sl q =>
        have rq := r.at_ q
        have es : sv σ q = some v := rd
        simp only [argS] at ar
        cases eq : getS env q <;> rw [eq] at ar rq <;> simp only [Option.some.injEq, reduceCtorEq] at ar <;> rw [← ar] <;> simp only [RS1, es] at rq
        · exact rq
        · exact rq
        · exact rq
        · exact rq
    · rw [if_neg h1, if_neg h1]
      by_cases h2 : i < ss.length + dfl.length
      · rw [if_pos h2, if_pos h2]
        have h3 : dfl[i - ss.length]? = some (dfl[i - ss.length]'(by omega)) := List.getElem?_eq_getElem (by omega)
        obtain ⟨v, e2, rg⟩ := hd.get h3
        have : getS (dfl.map S.val) (i - ss.length) = .val (dfl[i - ss.length]'(by omega)) := by unfold getS; rw [List.getElem?_map, h3]; rfl
        rw [this, e2]
        exact ⟨v, rfl, rg⟩
      · rw [if_neg h2]; exact True.intro
  · have key : ∀ i, isOb (getS (env0 fd (ss ++ dfl.map .val)) i) = true → i < ss.length ∧ isOb (getS ss i) = true := fun i hi => by
      rw [gS] at hi
      split at hi
      · rename_i c; exact ⟨c, hi⟩
      · split at hi
        · have z : isOb (getS (dfl.map S.val) (i - ss.length)) = false := by unfold getS; rw [List.getElem?_map]; cases dfl[i - ss.length]? <;> rfl
          rw [z] at hi; cases hi
        · cases hi
    have wlog : ∀ i j, i < j → isOb (getS (env0 fd (ss ++ dfl.map .val)) i) = true → isOb (getS (env0 fd (ss ++ dfl.map .val)) j) = true → sv (sig0 fd (vs ++ dvs)) i = some (.ref a) → sv (sig0 fd (vs ++ dvs)) j = some (.ref a) → False := fun i j hij h1 h2 h3 h4 => by
      obtain ⟨k1, o1⟩ := key i h1
      obtain ⟨k2, o2⟩ := key j h2
      rw [gV, if_pos k1] at h3
      rw [gV, if_pos k2] at h4
      obtain ⟨d, v, e1, e2, rd, ar⟩ := arg i k1
      obtain ⟨d', v', e1', e2', rd', ar'⟩ := arg j k2
      rw [e2] at h3; cases h3
      rw [e2'] at h4; cases h4
      -- what kinds
      have kind : ∀ d s, argS env d = some s → isOb s = true → (∃ x, d = .own x) ∨ ∃ q, d = .sl q ∧ isOb (getS env q) = true ∧ ((∃ g, getS env q = .obj g) ∨ ∃ g, getS env q = .len g) := fun d s ar ob => by
        cases d with
        | g x => simp only [argS, Option.some.injEq] at ar; rw [← ar] at ob; cases ob
        | own x => exact .inl ⟨x, rfl⟩
        | sl q =>
          simp only [argS] at ar
          cases eq : getS env q <;> rw [eq] at ar <;> simp only [Option.some.injEq, reduceCtorEq] at ar
          · rw [← ar] at ob; cases ob
          · exact .inr ⟨q, rfl, by rw [eq]; rfl, .inl ⟨_, eq⟩⟩
          · exact .inr ⟨q, rfl, by rw [eq]; rfl, .inr ⟨_, eq⟩⟩
          · rw [← ar] at ob; cases ob
      rcases kind d _ ar o1 with ⟨x, rfl⟩ | ⟨q, rfl, oq, kq⟩ <;> rcases kind d' _ ar' o2 with ⟨x', rfl⟩ | ⟨q', rfl, oq', kq'⟩
      · exact D.apart hij e1 e1' e2 e2'
      · obtain ⟨b, eb, _, _, ns, _⟩ := rd
        cases eb
        exact ns q' oq' rd'
      · obtain ⟨b, eb, _, _, ns, _⟩ := rd'
        cases eb
        exact ns q oq rd
      · by_cases z : q = q'
        · subst z
          exact lent_nodup nd hij e1 e1' (lent_mem.mpr ⟨List.mem_of_getElem? e1, kq⟩)
        · exact r.inj q q' a z oq oq' rd rd'
    rcases Nat.lt_or_gt_of_ne ne with h | h
    · exact wlog i j h h1 h2 h3 h4
    · exact wlog j i h h2 h1 h4 h3
theorem lent_set {i : Nat} {s : S} (k : (∃ g, getS env i = .obj g) ∨ ∃ g, getS env i = .len g) : ∀ {ds : List D}, i ∉ lent env ds → lent (env.set i s) ds = lent env ds
  | [], _ => rfl
  | d :: ds, n => by
    cases d with
    | g x => simp only [lent] at n ⊢; exact lent_set k n
    | own x => simp only [lent] at n ⊢; exact lent_set k n
    | sl j =>
      have ne : j ≠ i := fun z => n (lent_mem.mpr ⟨by rw [z]; exact List.mem_cons_self .., k⟩)
      have n' : i ∉ lent env ds := fun z => n (lent_mem.mpr ⟨List.mem_cons_of_mem _ (lent_mem.mp z).1, k⟩)
      simp only [lent, getS_set, ne, false_and, if_false]
      rw [lent_set k n']
theorem bk_len {s f t : S} (h : bkS s f = some (some t)) : (∃ g, s = .obj g) ∨ ∃ g, s = .len g := by
  cases s <;> first | exact .inl ⟨_, rfl⟩ | exact .inr ⟨_, rfl⟩ | (simp [bkS] at h)
/-- what comes back -/
theorem back_at : ∀ {ds : List D} {fs : List S} {e e1 : Env}, back e ds fs = some e1 → (lent e ds).Nodup → e1.length = e.length ∧ ∀ j,
    (j ∉ lent e ds ∧ getS e1 j = getS e j) ∨ ∃ k s, ds[k]? = some (.sl j) ∧ bkS (getS e j) (getS fs k) = some (some s) ∧ getS e1 j = s ∧ j < e.length ∧ k < fs.length
  | [], fs, e, e1, h, _ => by
    have h : some e = some e1 := by rw [← h]; simp [back]
    cases h
    exact ⟨rfl, fun j => .inl ⟨by simp [lent], rfl⟩⟩
  | .g x :: ds, [], e, e1, h, _ => by simp [back] at h
  | .own x :: ds, [], e, e1, h, _ => by simp [back] at h
  | .sl i :: ds, [], e, e1, h, _ => by simp [back] at h
  | .g x :: ds, f :: fs, e, e1, h, nd => by
    simp only [back] at h
    simp only [lent] at nd ⊢
    obtain ⟨l, k⟩ := back_at h nd
    refine ⟨l, fun j => (k j).imp id fun ⟨k, s, h1, h2, h3, h4, h5⟩ => ⟨k + 1, s, h1, h2, h3, h4, by simpa using h5⟩⟩
  | .own x :: ds, f :: fs, e, e1, h, nd => by
    simp only [back] at h
    simp only [lent] at nd ⊢
    obtain ⟨l, k⟩ := back_at h nd
    refine ⟨l, fun j => (k j).imp id fun ⟨k, s, h1, h2, h3, h4, h5⟩ => ⟨k + 1, s, h1, h2, h3, h4, by simpa using h5⟩⟩
  | .sl i :: ds, f :: fs, e, e1, h, nd => by
    simp only [back] at h
    split at h
    · rename_i s hb
      have kk := bk_len hb
      have hi : i < e.length := getS_lt fun z => by rw [z] at kk; rcases kk with ⟨g, z⟩ | ⟨g, z⟩ <;> cases z
      have el : lent e (.sl i :: ds) = i :: lent e ds := by
        rcases kk with ⟨g, z⟩ | ⟨g, z⟩ <;> simp only [lent, z]
      rw [el] at nd ⊢
      have nd' := List.nodup_cons.mp nd
      have es := lent_set (s := s) kk nd'.1
      obtain ⟨l, k⟩ := back_at h (by rw [es]; exact nd'.2)
      rw [es] at k
      refine ⟨by rw [l, List.length_set], fun j => ?_⟩
      by_cases z : j = i
      · subst z
        rcases k j with ⟨_, k2⟩ | ⟨k, t, h1, _⟩
        · refine .inr ⟨0, s, rfl, hb, ?_, hi, by simp⟩
          rw [k2, getS_set, if_pos ⟨rfl, hi⟩]
        · exact absurd (lent_mem.mpr ⟨List.mem_of_getElem? h1, kk⟩) nd'.1
      · have eg : getS (e.set i s) j = getS e j := by rw [getS_set, if_neg fun c => z c.1]
        have k := k j
        rw [eg] at k
        rcases k with ⟨k1, k2⟩ | ⟨k, t, h1, h2, h3, h4, h5⟩
        · exact .inl ⟨fun m => (List.mem_cons.mp m).elim z k1, k2⟩
        · exact .inr ⟨k + 1, t, h1, h2, h3, by simpa using h4, by simpa using h5⟩
    · rename_i hb
      have el : lent e (.sl i :: ds) = lent e ds := by
        cases ee : getS e i <;> rw [ee] at hb <;> simp only [lent, ee]
        · cases f <;> simp [bkS] at hb
          rename_i b _; cases b <;> simp [bkS] at hb
        · cases f <;> simp [bkS] at hb
          rename_i b _; cases b <;> simp [bkS] at hb
      rw [el] at nd ⊢
      obtain ⟨l, k⟩ := back_at h nd
      refine ⟨l, fun j => (k j).imp id fun ⟨k, s, h1, h2, h3, h4, h5⟩ => ⟨k + 1, s, h1, h2, h3, h4, by simpa using h5⟩⟩
    · cases h
theorem arg_kind {e : Env} {d : D} {s : S} (h : argS e d = some s) : (∃ x, d = .own x ∧ s = .obj x) ∨ (∃ q g, d = .sl q ∧ s = .len g ∧ ((∃ g, getS e q = .obj g) ∨ ∃ g, getS e q = .len g)) ∨ ∃ g, s = .val g := by
  cases d with
  | g x => simp only [argS, Option.some.injEq] at h; exact .inr (.inr ⟨_, h.symm⟩)
  | own x => simp only [argS, Option.some.injEq] at h; exact .inl ⟨x, rfl, h.symm⟩
  | sl q =>
    simp only [argS] at h
    cases eq : getS e q <;> rw [eq] at h <;> simp only [Option.some.injEq, reduceCtorEq] at h
    · exact .inr (.inr ⟨_, h.symm⟩)
    · exact .inr (.inl ⟨q, _, rfl, h.symm, .inl ⟨_, eq⟩⟩)
    · exact .inr (.inl ⟨q, _, rfl, h.symm, .inr ⟨_, eq⟩⟩)
    · exact .inr (.inr ⟨_, h.symm⟩)
structure CallFr (e : Env) (ds : List D) (vs : List V) (ce : Env) (cs : L2.St) : Prop where
  /-- a slot of the callee that is no plain value: which argument -/
  at_ : ∀ i, (∃ g, getS ce i = .val g) ∨ getS ce i = .non ∨ (∃ x, ds[i]? = some (.own x) ∧ getS ce i = .obj x ∧ sv cs i = vs[i]?) ∨ ∃ q g, ds[i]? = some (.sl q) ∧ getS ce i = .len g ∧ sv cs i = vs[i]? ∧ ((∃ g, getS e q = .obj g) ∨ ∃ g, getS e q = .len g)
  sl : ∀ k q, ds[k]? = some (.sl q) → ((∃ g, getS e q = .obj g) ∨ ∃ g, getS e q = .len g) → (∃ g, getS ce k = .len g) ∧ sv cs k = vs[k]?
theorem call_fr {fd : FD} {ds : List D} {vs dvs : List V} {ss : List S} {dfl : List G} (lv : vs.length = ds.length) (ea : argsS env ds = some ss) :
    CallFr env ds vs (env0 fd (ss ++ dfl.map .val)) (sig0 fd (vs ++ dvs)) := by
  obtain ⟨ls, fs⟩ := argsS_at ea
  have g1 : ∀ i, i < ss.length → getS (env0 fd (ss ++ dfl.map .val)) i = getS ss i := fun i h => by
    unfold env0
    rw [getS_app, if_pos (by rw [List.length_append]; omega), getS_app, if_pos h]
  have g2 : ∀ i, i < ss.length → sv (sig0 fd (vs ++ dvs)) i = vs[i]? := fun i h => by
    unfold sig0
    rw [List.map_append, sv_app, if_pos (by rw [List.length_append, List.length_map, List.length_map]; omega), sv_app, if_pos (by rw [List.length_map]; omega), sv_map]
  refine ⟨fun i => ?_, fun k q hk hq => ?_⟩
  · by_cases h : i < ss.length
    · rw [g1 i h, g2 i h]
      have h1 : ds[i]? = some (ds[i]'(by omega)) := List.getElem?_eq_getElem (by omega)
      have := fs i
      rw [h1] at this
      rcases arg_kind this with ⟨x, e1, e2⟩ | ⟨q, g, e1, e2, e3⟩ | ⟨g, e2⟩
      · exact .inr (.inr (.inl ⟨x, by rw [h1, e1], e2, rfl⟩))
      · exact .inr (.inr (.inr ⟨q, g, by rw [h1, e1], e2, rfl, e3⟩))
      · exact .inl ⟨g, e2⟩
    · have : (∃ g, getS (env0 fd (ss ++ dfl.map .val)) i = .val g) ∨ getS (env0 fd (ss ++ dfl.map .val)) i = .non := by
        unfold env0
        rw [getS_app, getS_app, if_neg h, getS_rep]
        split
        · unfold getS
          rw [List.getElem?_map]
          cases dfl[i - ss.length]? with
          | none => exact .inr rfl
          | some g => exact .inl ⟨g, rfl⟩
        · exact .inr rfl
      rcases this with z | z
      · exact .inl z
      · exact .inr (.inl z)
  · obtain ⟨hl, _⟩ := List.getElem?_eq_some_iff.mp hk
    have h : k < ss.length := by omega
    rw [g1 k h, g2 k h]
    have := fs k
    rw [hk] at this
    simp only [argS] at this
    refine ⟨?_, rfl⟩
    rcases hq with ⟨g, z⟩ | ⟨g, z⟩ <;> rw [z] at this <;> simp only [Option.some.injEq] at this <;> exact ⟨_, this.symm⟩
section
variable {e e1 ce fin : Env} {cs σ' : L2.St} {ds : List D} {vs : List V} {envA : Env}
/-- the caller behind the call -/
theorem call_aft (x : AftE L M0 H0 envA σ M1 H1 e) (D : RDs L M1 H1 e σ H0 ds vs) (nd : (lent e ds).Nodup) (C : CallFr e ds vs ce cs) (y : Aft L M1 H1 ce cs M' H' fin σ') (eb : back e ds fin = some e1) :
    AftE L M0 H0 envA σ M' H' e1 ∧ ∀ d v, RDr L M' H' fin σ' H1 ce cs d v → RD L M' H' e1 σ H0 d v := by
  have r := x.re
  obtain ⟨lb, bk⟩ := back_at eb nd
  obtain ⟨lv, fv⟩ := D.at_
  -- the callee's own
  have cow : ∀ b, own H1 ce cs b → (∃ q, isMu (getS e q) = true ∧ q ∈ lent e ds ∧ sv σ q = some (.ref b)) ∨ ∃ (k : Nat) (x : G), ds[k]? = some (.own x) ∧ vs[k]? = some (.ref b) := fun b ⟨i, w⟩ => by
    rcases C.at_ i with ⟨g, z⟩ | z | ⟨x, z1, z, z2⟩ | ⟨q, g, z1, z, z2, z3⟩ <;> rw [z] at w
    · rcases w with ⟨w, _⟩ | ⟨_, _, _, _, w, _⟩ <;> cases w
    · rcases w with ⟨w, _⟩ | ⟨_, _, _, _, w, _⟩ <;> cases w
    · rcases w with ⟨w, w2⟩ | ⟨_, _, _, _, w, _⟩
      · exact .inr ⟨i, x, z1, by rw [← z2]; exact w2⟩
      · cases w
    · rcases w with ⟨w, w2⟩ | ⟨_, _, _, _, w, _⟩
      · obtain ⟨v, e2, rd⟩ := fv i _ z1
        rw [z2, e2] at w2; cases w2
        refine .inl ⟨q, ?_, lent_mem.mpr ⟨List.mem_of_getElem? z1, z3⟩, rd⟩
        rcases z3 with ⟨g, z⟩ | ⟨g, z⟩ <;> rw [z] <;> rfl
      · cases w
  have ownA : ∀ (k : Nat) (x : G) (b : Addr), ds[k]? = some (.own x) → vs[k]? = some (.ref b) → H0 b = none ∧ ¬ own H1 e σ b ∧ ∀ i, isOb (getS e i) = true → sv σ i ≠ some (.ref b) := fun k x b h1 h2 => by
    obtain ⟨v, e2, a, ev, _, n, ns, _, f⟩ := fv k _ h1
    rw [h2] at e2; cases e2; cases ev
    exact ⟨f, n, ns⟩
  -- an address of a slot that is not lent
  have away : ∀ j b, isOb (getS e j) = true → sv σ j = some (.ref b) → j ∉ lent e ds → ¬ own H1 ce cs b := fun j b ob es nl w => by
    rcases cow b w with ⟨q, mq, lq, eq⟩ | ⟨k, x, h1, h2⟩
    · by_cases z : q = j
      · rw [z] at lq; exact nl lq
      · exact r.inj q j b z (isOb_of_mu mq) ob eq es
    · exact (ownA k x b h1 h2).2.2 j ob es
  have cre : RE L M1 H1 ce cs → True := fun _ => True.intro
  -- a dict of an instance under way is no list of ours
  have notOwn : ∀ b a', H1 b = some (.own a') → ¬ own H1 ce cs b := fun b a' hb w => by
    rcases cow b w with ⟨q, mq, lq, eq⟩ | ⟨k, x, h1, h2⟩
    · have rq := r.at_ q
      rcases (lent_mem.mp lq).2 with ⟨g, z⟩ | ⟨g, z⟩ <;> rw [z] at rq <;> obtain ⟨a, e2, _, k⟩ := rq <;> rw [eq] at e2 <;> cases e2 <;> cases g <;> simp only [RC] at k
      all_goals (obtain ⟨ws, q, _⟩ := k; rw [hb] at q; cases q)
    · obtain ⟨v, e2, a, ev, _, n, ns, k, f⟩ := fv k _ h1
      rw [h2] at e2; cases e2; cases ev
      cases x <;> simp only [RC] at k
      all_goals (obtain ⟨ws, q, _⟩ := k; rw [hb] at q; cases q)
  -- content of what the callee does not own
  have keepC : ∀ {g : G} {a : Addr}, ¬ own H1 ce cs a → RC L M1 H1 g a → Ext M1 H1 M' H' → RC L M' H' g a := fun {g a} n k x => by
    obtain ⟨o, q⟩ := k.has
    exact k.to x fun o' q' => (y.fr a o' q' n).1
  have xt : Ext M1 H1 M' H' := fun a o ea m => by
    have n : ¬ own H1 ce cs a := fun w => by
      rcases cow a w with ⟨q, mq, lq, eq⟩ | ⟨k, x, h1, h2⟩
      · exact m (r.mu ⟨q, .inl ⟨mq, eq⟩⟩)
      · obtain ⟨v, e2, b, ev, mb, _⟩ := fv k _ h1
        rw [h2] at e2; cases e2; cases ev
        exact m mb
    obtain ⟨e2, m2⟩ := y.fr a o ea n
    exact ⟨e2, fun z => m (m2.mp z)⟩
  -- a slot
  have slot : ∀ j, RS1 L M' H' (getS e1 j) (sv σ j) ∧ (isOb (getS e1 j) = true → isOb (getS e j) = true) ∧ (isMu (getS e1 j) = true → isMu (getS e j) = true) ∧ (isLt (getS e j) = true → isLt (getS e1 j) = true) ∧ (isOo (getS e1 j) = true → isOo (getS e j) = true) ∧ ∀ c, getS e1 j = .slf c → getS e j = .slf c := fun j => by
    rcases bk j with ⟨nl, es⟩ | ⟨k, s, hd, hb, es, hj, hk⟩
    · rw [es]
      refine ⟨?_, id, id, id, id, fun _ h => h⟩
      have rj := r.at_ j
      cases eg : getS e j with
      | non => exact True.intro
      | val g => rw [eg] at rj; obtain ⟨v, e2, k⟩ := rj; exact ⟨v, e2, RG.to xt _ _ k⟩
      | lfz g => rw [eg] at rj; obtain ⟨v, e2, k⟩ := rj; exact ⟨v, e2, RG.to xt _ _ k⟩
      | obj g =>
        rw [eg] at rj; obtain ⟨a, e2, m, k⟩ := rj
        have n := away j a (by rw [eg]; rfl) e2 nl
        obtain ⟨o, q⟩ := k.has
        exact ⟨a, e2, (y.fr a o q n).2.mpr m, keepC n k xt⟩
      | len g =>
        rw [eg] at rj; obtain ⟨a, e2, m, k⟩ := rj
        have n := away j a (by rw [eg]; rfl) e2 nl
        obtain ⟨o, q⟩ := k.has
        exact ⟨a, e2, (y.fr a o q n).2.mpr m, keepC n k xt⟩
      | lck l g =>
        rw [eg] at rj; obtain ⟨a, e2, m, k⟩ := rj
        have n := away j a (by rw [eg]; rfl) e2 nl
        obtain ⟨o, q⟩ := k.has
        exact ⟨a, e2, (y.fr a o q n).2.mpr m, keepC n k xt⟩
      | slf c =>
        rw [eg] at rj; obtain ⟨a, dx, e2, m, md, h1, h2, h3⟩ := rj
        have n := away j a (by rw [eg]; rfl) e2 nl
        have n2 := notOwn dx a h2
        exact ⟨a, dx, e2, (y.fr a _ h1 n).2.mpr m, (y.fr dx _ h2 n2).2.mpr md, (y.fr a _ h1 n).1, (y.fr dx _ h2 n2).1, h3⟩
    · rw [es]
      have kk := bk_len hb
      obtain ⟨⟨g0, hc⟩, hs⟩ := C.sl k j hd kk
      obtain ⟨v, e2, rd⟩ := fv k _ hd
      have hl := y.lt k (by rw [hc]; rfl)
      have esj : sv σ' k = sv σ j := by rw [hl.2, hs, e2]; exact rd.symm
      have rk := y.re.at_ k
      rw [esj] at rk
      rcases kk with ⟨g, z⟩ | ⟨g, z⟩ <;> rw [z] at hb ⊢ <;> cases ef : getS fin k <;> rw [ef] at hb rk <;> simp only [bkS, Option.some.injEq, reduceCtorEq] at hb
      all_goals first
        | (subst hb; exact ⟨rk, fun _ => rfl, fun h => h, fun h => h, fun h => h, fun c h => (by cases h)⟩)
        | (subst hb; refine ⟨?_, fun h => (by cases h), fun h => (by cases h), fun h => (by first | rfl | cases h), fun h => (by cases h), fun c h => (by cases h)⟩; obtain ⟨v', ev', rg'⟩ := rk; exact ⟨v', ev', rg'⟩)
        | (rename_i l g2; cases l <;> simp only [bkS, Option.some.injEq, reduceCtorEq] at hb; subst hb; obtain ⟨v', ev', rg'⟩ := rk; exact ⟨⟨v', ev', rg'⟩, fun _ => rfl, fun h => rfl, fun h => (by first | rfl | exact h), fun h => (by first | rfl | exact h), fun c h => (by cases h)⟩)
  have own1 : ∀ b, own H' e1 σ b → own H1 e σ b := fun b ⟨j, w⟩ => by
    obtain ⟨_, _, s3, _, _, s6⟩ := slot j
    rcases w with ⟨w1, w2⟩ | ⟨c, a, C', fs, w1, w2, w3⟩
    · exact ⟨j, .inl ⟨s3 w1, w2⟩⟩
    · have eg := s6 c w1
      have rj := r.at_ j
      rw [eg] at rj
      obtain ⟨a', dx, e2, m, md, h1, h2, h3⟩ := rj
      rw [w2] at e2; cases e2
      have nl : j ∉ lent e ds := fun z => by
        rcases (lent_mem.mp z).2 with ⟨g, z⟩ | ⟨g, z⟩ <;> rw [eg] at z <;> cases z
      have n := away j a (by rw [eg]; rfl) w2 nl
      have := (y.fr a _ h1 n).1
      rw [w3] at this; cases this
      exact ⟨j, .inr ⟨c, a, _, _, eg, w2, h1⟩⟩
  refine ⟨⟨⟨⟨by rw [lb]; exact r.len, fun j => (slot j).1, fun i j a ne h1 h2 => r.inj i j a ne ((slot i).2.1 h1) ((slot j).2.1 h2)⟩, fun b o eb' nw => ?_, fun b w => x.aft.ow b (own1 b w), fun b w => ?_, fun i hi => ?_, fun i a hi ei => x.aft.oo i a ((slot i).2.2.2.2.1 hi) ei, fun i l g hi => ?_⟩, fun i hi => x.ob i ((slot i).2.1 hi)⟩, fun d v rd => ?_⟩
  · obtain ⟨e2, m2⟩ := x.aft.fr b o eb' nw
    have n : ¬ own H1 ce cs b := fun w => by
      rcases cow b w with ⟨q, mq, lq, eq⟩ | ⟨k, z, h1, h2⟩
      · rcases x.aft.ow b ⟨q, .inl ⟨mq, eq⟩⟩ with z | z
        · exact nw z
        · rw [eb'] at z; cases z
      · rw [(ownA k z b h1 h2).1] at eb'; cases eb'
    obtain ⟨e3, m3⟩ := y.fr b o e2 n
    exact ⟨e3, m3.trans m2⟩
  · obtain ⟨o, q⟩ := x.aft.th b w
    by_cases n : own H1 ce cs b
    · exact y.th b n
    · exact ⟨o, (y.fr b o q n).1⟩
  · obtain ⟨l1, l2⟩ := x.aft.lt i hi
    exact ⟨(slot i).2.2.2.1 l1, l2⟩
  · obtain ⟨l1, l2⟩ := x.aft.lk i l g hi
    refine ⟨?_, l2⟩
    rcases bk i with ⟨nl, es⟩ | ⟨k, s, hd, hb, es, hj, hk⟩
    · rw [es]; exact l1
    · rcases bk_len hb with ⟨g, z⟩ | ⟨g, z⟩ <;> rw [l1] at z <;> cases z
  · cases d with
    | g z => exact rd
    | sl i => exact rd.elim
    | own z =>
      obtain ⟨a, ev, m, _, _, k, f⟩ := rd
      have base : H0 a = none ∧ ¬ own H1 e σ a ∧ ∀ i, isOb (getS e i) = true → sv σ i ≠ some (.ref a) := by
        rcases f with ⟨j, f1, f2⟩ | f
        · rcases C.at_ j with ⟨g, z⟩ | z | ⟨x, z1, z, z2⟩ | ⟨q, g, z1, z, z2, z3⟩ <;> rw [z] at f1 <;> simp [isOo] at f1
          rw [z2] at f2
          exact ownA j x a z1 f2
        · refine ⟨x.aft.free f, fun w => ?_, fun i hi ei => ?_⟩
          · obtain ⟨o, q⟩ := r.has w
            rw [f] at q; cases q
          · have ri := r.at_ i
            cases eg : getS e i <;> rw [eg] at hi ri <;> simp [isOb] at hi <;> simp only [RS1] at ri
            · obtain ⟨b, e2, _, kk⟩ := ri; rw [ei] at e2; cases e2; obtain ⟨o, q⟩ := kk.has; rw [f] at q; cases q
            · obtain ⟨b, e2, _, kk⟩ := ri; rw [ei] at e2; cases e2; obtain ⟨o, q⟩ := kk.has; rw [f] at q; cases q
            · obtain ⟨b, e2, _, kk⟩ := ri; rw [ei] at e2; cases e2; obtain ⟨o, q⟩ := kk.has; rw [f] at q; cases q
            · obtain ⟨b, dx, e2, _, _, kk, _⟩ := ri; rw [ei] at e2; cases e2; rw [f] at kk; cases kk
      exact ⟨a, ev, m, fun w => base.2.1 (own1 a w), fun i hi => base.2.2 i ((slot i).2.1 hi), k, base.1⟩
end
end
end Ev

end
section
set_option linter.all false
set_option maxRecDepth 100000
set_option maxHeartbeats 4000000
namespace Ev
open PySem PySem.Spec PyProof.Rows L2
section
variable {L : Lk} {X : Cx} {W : WX} {F : FF} {M M0 M1 M2 M' : Mu} {H H0 H1 H2 H' : Hp} {env envA env1 env2 e e1 : Env} {σ : L2.St}
/-! ### values that will not change -/
theorem frzs_ok : ∀ {ds : List D} {vs : List V} {gs : List G} {e e1 : Env} {M1 : Mu}, AftE L M0 H0 envA σ M1 H1 e → RDs L M1 H1 e σ H0 ds vs → frzs ds e = some (gs, e1) → ∃ M2, AftE L M0 H0 envA σ M2 H1 e1 ∧ RGs L M2 H1 gs vs ∧ Ext M1 H1 M2 H1
  | [], vs, gs, e, e1, M1, x, D, h => by
    simp only [frzs, Option.some.injEq, Prod.mk.injEq] at h
    obtain ⟨rfl, rfl⟩ := h
    have : vs = [] := D
    subst this
    exact ⟨M1, x, .nil, fun a o e m => ⟨e, m⟩⟩
  | d :: ds, vs, gs, e, e1, M1, x, D, h => by
    obtain ⟨v, r, rfl, h1, h2, h3⟩ := D
    simp only [frzs] at h
    split at h
    · rename_i g ea e2
      split at h
      · rename_i gs' eb e3
        simp only [Option.some.injEq, Prod.mk.injEq] at h
        obtain ⟨rfl, rfl⟩ := h
        obtain ⟨Ma, fz, ax⟩ := frz_ok x.aft h1 e2
        have D2 : RDs L Ma H1 ea σ H0 ds r := by
          clear e3
          induction ds generalizing r with
          | nil => exact h2
          | cons d' ds ih =>
            obtain ⟨v', r', rfl, k1, k2, k3⟩ := h2
            refine ⟨v', r', rfl, fz.rd _ _ _ k1 fun a b ea eb => ?_, ih _ k2 fun z ez y hy w ew => h3 z ez y (by rw [List.zip_cons_cons]; exact List.mem_cons_of_mem _ hy) w ew, k3⟩
            exact h3 b eb (d', v') (by rw [List.zip_cons_cons]; exact List.mem_cons_self ..) a ea
        obtain ⟨M2, x2, rg, ex⟩ := frzs_ok (⟨ax, fun i hi => x.ob i (fz.ob i hi)⟩ : AftE L M0 H0 envA σ Ma H1 ea) D2 e3
        refine ⟨M2, x2, .cons (RG.to ex _ _ fz.rg) rg, fun a o eo m => ex a o eo fun z => m (fz.sub a z)⟩
      · cases h
    · cases h
/-- the object of a slot is another -/
theorem putO_ok {i : Nat} {g g' : G} {a : Addr} {o : HO} (r : RE L M H env σ) (hs : objOf env i = some g) (hv : sv σ i = some (.ref a)) (k : RC L M (L2.upd H a o) g' a) (hp : putO env i g' = some env1) : AftE L M H env σ M (L2.upd H a o) env1 := by
  -- the slot
  have kind : ∃ s, env1 = env.set i s ∧ isMu (getS env i) = true ∧ isMu s = true ∧ isOb s = true ∧ (isLt (getS env i) = isLt s) ∧ (isOo (getS env i) = isOo s) ∧ RC L M H g a ∧ M a ∧ (RC L M (L2.upd H a o) g' a → RS1 L M (L2.upd H a o) s (some (.ref a))) ∧ (∀ c, s ≠ .slf c) ∧ ∀ c, getS env i ≠ .slf c := by
    have q := r.at_ i
    unfold objOf at hs
    unfold putO at hp
    have ma : M a → M a := id
    cases es : getS env i <;> rw [es] at hs hp q <;> simp only [Option.some.injEq, reduceCtorEq] at hs hp <;> subst hs <;> obtain ⟨b, eb, m, kc⟩ := q <;> rw [hv] at eb <;> cases eb
    · exact ⟨_, hp.symm, rfl, rfl, rfl, rfl, rfl, kc, m, fun kk => ⟨a, rfl, m, kk⟩, fun c z => (by cases z), fun c z => (by cases z)⟩
    · exact ⟨_, hp.symm, rfl, rfl, rfl, rfl, rfl, kc, m, fun kk => ⟨a, rfl, m, kk⟩, fun c z => (by cases z), fun c z => (by cases z)⟩
  obtain ⟨s, he, mu0, mu1, ob1, lt1, oo1, kc, ma, rs, nsl, nsl0⟩ := kind
  have hi : i < env.length := getS_lt fun z => by rw [z] at mu0; cases mu0
  have gs : ∀ j, getS env1 j = if j = i then s else getS env j := fun j => by rw [he, getS_set]; simp [hi]
  have xt : Ext M H M (L2.upd H a o) := fun b u eb m => ⟨by rw [upd_ne (fun z => m (by rw [z]; exact ma))]; exact eb, m⟩
  have ob0 := isOb_of_mu mu0
  have nl : ∀ {b a' : Addr}, H b = some (.own a') → b ≠ a := fun {b a'} hb z => by
    subst z
    cases g <;> simp only [RC] at kc
    all_goals (obtain ⟨ws, q, _⟩ := kc; rw [hb] at q; cases q)
  have obk : ∀ j, isOb (getS env1 j) = true → isOb (getS env j) = true := fun j hj => by
    rw [gs] at hj
    split at hj
    · rename_i z; rw [z]; exact ob0
    · exact hj
  have own1 : ∀ b, own (L2.upd H a o) env1 σ b → own H env σ b := fun b ⟨j, w⟩ => by
    rw [gs] at w
    by_cases z : j = i
    · rw [if_pos z] at w
      subst z
      rcases w with ⟨_, w⟩ | ⟨c, _, _, _, w, _⟩
      · exact ⟨j, .inl ⟨mu0, w⟩⟩
      · exact absurd w (nsl c)
    · rw [if_neg z] at w
      rcases w with w | ⟨c, a2, C, fs, w1, w2, w3⟩
      · exact ⟨j, .inl w⟩
      · have ne : a2 ≠ a := fun z2 => r.inj j i a z (by rw [w1]; rfl) ob0 (by rw [w2, z2]) hv
        rw [upd_ne ne] at w3
        exact ⟨j, .inr ⟨c, a2, C, fs, w1, w2, w3⟩⟩
  refine ⟨⟨⟨by rw [he, List.length_set]; exact r.len, fun j => ?_, fun j l b ne h1 h2 => r.inj j l b ne (obk j h1) (obk l h2)⟩, fun b u eb nw => ?_, fun b w => .inl (own1 b w), fun b w => ?_, fun j hj => ?_, fun j b hj ej => .inl ⟨j, ?_, ej⟩, fun j l g hj => ⟨?_, rfl⟩⟩, obk⟩
  · rw [gs]
    split
    · rename_i z; rw [z, hv]; exact rs k
    · rename_i z
      have rj := r.at_ j
      have ne : ∀ b, isOb (getS env j) = true → sv σ j = some (.ref b) → b ≠ a := fun b hb eb z2 => r.inj j i a z hb ob0 (by rw [eb, z2]) hv
      cases eg : getS env j with
      | non => exact True.intro
      | val y => rw [eg] at rj; obtain ⟨v, e2, kk⟩ := rj; exact ⟨v, e2, RG.to xt _ _ kk⟩
      | lfz y => rw [eg] at rj; obtain ⟨v, e2, kk⟩ := rj; exact ⟨v, e2, RG.to xt _ _ kk⟩
      | obj y => rw [eg] at rj ne; obtain ⟨b, e2, m, kk⟩ := rj; exact ⟨b, e2, m, kk.to xt fun u q => by rw [upd_ne (ne b rfl e2)]; exact q⟩
      | len y => rw [eg] at rj ne; obtain ⟨b, e2, m, kk⟩ := rj; exact ⟨b, e2, m, kk.to xt fun u q => by rw [upd_ne (ne b rfl e2)]; exact q⟩
      | lck l y => rw [eg] at rj ne; obtain ⟨b, e2, m, kk⟩ := rj; exact ⟨b, e2, m, kk.to xt fun u q => by rw [upd_ne (ne b rfl e2)]; exact q⟩
      | slf c => rw [eg] at rj ne; obtain ⟨b, dx, e2, m, md, h1, h2, h3⟩ := rj; exact ⟨b, dx, e2, m, md, by rw [upd_ne (ne b rfl e2)]; exact h1, by rw [upd_ne (nl h2)]; exact h2, h3⟩
  · have ne : b ≠ a := fun z => nw ⟨i, .inl ⟨mu0, by rw [z]; exact hv⟩⟩
    exact ⟨by rw [upd_ne ne]; exact eb, Iff.rfl⟩
  · by_cases z : b = a
    · exact ⟨o, by rw [z]; exact upd_same⟩
    · obtain ⟨u, q⟩ := r.has w
      exact ⟨u, by rw [upd_ne z]; exact q⟩
  · refine ⟨?_, rfl⟩
    rw [gs]
    split
    · rename_i z; rw [z] at hj; rw [← lt1]; exact hj
    · exact hj
  · rw [gs] at hj
    split at hj
    · rename_i z; rw [z, oo1]; exact hj
    · exact hj
  · rw [gs, if_neg (fun z => by rw [z] at hj; rw [hj] at mu0; cases mu0)]
    exact hj

/-! ### displays -/
variable {a b c : Expr} {ea eb ec : EV} {as : AV} {es : List Expr} {pos : Pos}
theorem c_tup {x1} (h : PA X es (TAof L W (as F))) : PE X (.Tuple es x1 pos) (TEof L W (eTup as F)) := by
  refine PE.imp (pe_tup h) fun σ H Q h => ?_
  obtain ⟨M, env, re, P⟩ := h
  refine goA (.refl re) P fun ds e vs H1 M1 A1 A1' D1 P1 => ?_
  split at P1
  · rename_i gs e1 ef
    obtain ⟨M2, A2, rg, _⟩ := frzs_ok A1 D1 ef
    split at P1
    · rename_i hl
      have l := rg.len
      have := line100
      exact ⟨by omega, fun p hp => fin_ok A2 P1 (.tup hp rg)⟩
    · exact P1.elim
  · exact P1.elim
theorem c_lst (h : PA X es (TAof L W (as F))) : PE X (.List es pos) (TEof L W (eLst as F)) := by
  refine PE.imp (pe_lst h) fun σ H Q h => ?_
  obtain ⟨M, env, re, P⟩ := h
  refine goA (.refl re) P fun ds e vs H1 M1 A1 A1' D1 P1 => ?_
  split at P1
  · rename_i gs e1 ef
    obtain ⟨M2, A2, rg, _⟩ := frzs_ok A1 D1 ef
    split at P1
    · rename_i hl
      have l := rg.len
      have := line100
      exact ⟨by omega, fun p hp => fin_ok A2 P1 (.lst hp rg)⟩
    · exact P1.elim
  · exact P1.elim
theorem c_dic0 : PE X (.Dict [] [] pos) (TEof L W (eDic0 F)) := by
  refine PE.imp pe_dnewK fun σ H Q h => ?_
  obtain ⟨M, env, re, P⟩ := h
  exact fun p hp => fin_ok (.refl re) P (.dct (kvs := []) (xs := []) hp .nil)
theorem c_dic1 (ha : PE X a (TEof L W (ea F))) (hb : PE X b (TEof L W (eb F))) : PE X (.Dict [some a] [b] pos) (TEof L W (eDic1 ea eb F)) := by
  refine PE.imp (pe_disp (pps_cons ha hb pps_nil) rfl rfl (by simp) (by simp)) fun σ H Q h => ?_
  obtain ⟨M, env, re, P⟩ := h
  intro p hp
  have n : New L M H (more M p) (L2.upd H p (.dK [])) (.own (.dct [] [])) (.ref p) := .dct (kvs := []) (xs := []) hp .nil
  have A0 := AftE.kp re n.kp
  refine goE A0 P fun d1 e1 v1 H1 M1 A1 A1' D1 P1 => goE A1 P1 fun d2 e2 v2 H2 M2 A2 A2' D2 P2 => ?_
  -- the new dict stands
  have rd0 : RD L (more M p) (L2.upd H p (.dK [])) env σ H (.own (.dct [] [])) (.ref p) := n.rd' re
  have rd2 := (rd0.to A1'.aft A0.re A1'.ob).to A2'.aft A1.re A2'.ob
  split at P2
  · rename_i kg gv e3 ek ef
    split at P2
    · rename_i hkey
      have D1' := D1.to A2'.aft A1.re A2'.ob
      have kv := A2.re.view D1' ek
      have hkv : RG L M2 H2 kg v1 := kv.flat (by cases kg <;> simp_all [isKey, flatG])
      obtain ⟨kk, rfl, rfl⟩ := rv_key hkv hkey
      obtain ⟨M3, fz, ax⟩ := frz_ok A2.aft (D2.back fun a h => A1.aft.free h) ef
      have A3 : AftE L M H env σ M3 H2 e3 := ⟨ax, fun i hi => A2.ob i (fz.ob i hi)⟩
      have rd3 : RD L M3 H2 e3 σ H (.own (.dct [] [])) (.ref p) := fz.rd _ _ _ rd2 fun x y _ ey ev => by
        subst ey
        obtain ⟨a2, e4, _, _, _, _, f⟩ := D2
        rw [e4] at ev; cases ev
        obtain ⟨_, e5, _, _, _, k5, _⟩ := rd0.to A1'.aft A0.re A1'.ob
        cases e5
        obtain ⟨o, q⟩ := k5.has
        rw [f] at q; cases q
      obtain ⟨p', ep, mp, np, nsp, kp, fp⟩ := rd3
      cases ep
      have hp2 : H2 p = some (.dK []) := by
        unfold RC at kp
        obtain ⟨kvs, q, hk0, r0⟩ := kp
        have : kvs = [] := List.map_eq_nil_iff.mp hk0.symm
        rw [q, this]
      refine ⟨hp2, [(kk, v2)], rfl, by simp, ?_⟩
      have em : mergeK [] [(kk, v2)] = [(kk, v2)] := rfl
      rw [em]
      -- the dict is written
      have xt : Ext M3 H2 M3 (L2.upd H2 p (.dK [(kk, v2)])) := fun b u eb m => ⟨by rw [upd_ne (fun z => m (by rw [z]; exact mp))]; exact eb, m⟩
      have rk : RC L M3 (L2.upd H2 p (.dK [(kk, v2)])) (.dct [keyG kk] [gv]) p := by
        unfold RC
        exact ⟨[(kk, v2)], upd_same, rfl, .cons (RG.to xt _ _ fz.rg) .nil⟩
      have own3 : ∀ b, own (L2.upd H2 p (.dK [(kk, v2)])) e3 σ b → own H2 e3 σ b := fun b ⟨j, w⟩ => by
        rcases w with w | ⟨c, a2, C, fs, w1, w2, w3⟩
        · exact ⟨j, .inl w⟩
        · have ne : a2 ≠ p := fun z => nsp j (by rw [w1]; rfl) (by rw [w2, z])
          rw [upd_ne ne] at w3
          exact ⟨j, .inr ⟨c, a2, C, fs, w1, w2, w3⟩⟩
      have A4 : AftE L M H env σ M3 (L2.upd H2 p (.dK [(kk, v2)])) e3 := by
        refine ⟨⟨⟨A3.re.len, fun j => ?_, A3.re.inj⟩, fun b o eb nw => ?_, fun b w => A3.aft.ow b (own3 b w), fun b w => ?_, A3.aft.lt, A3.aft.oo, A3.aft.lk⟩, A3.ob⟩
        · have rj := A3.re.at_ j
          have ne : ∀ b, isOb (getS e3 j) = true → sv σ j = some (.ref b) → b ≠ p := fun b hb eb z2 => nsp j hb (by rw [eb, z2])
          cases eg : getS e3 j with
          | non => exact True.intro
          | val y => rw [eg] at rj; obtain ⟨v, e2, kk⟩ := rj; exact ⟨v, e2, RG.to xt _ _ kk⟩
          | lfz y => rw [eg] at rj; obtain ⟨v, e2, kk⟩ := rj; exact ⟨v, e2, RG.to xt _ _ kk⟩
          | obj y => rw [eg] at rj ne; obtain ⟨b, e2, m, kk⟩ := rj; exact ⟨b, e2, m, kk.to xt fun u q => by rw [upd_ne (ne b rfl e2)]; exact q⟩
          | len y => rw [eg] at rj ne; obtain ⟨b, e2, m, kk⟩ := rj; exact ⟨b, e2, m, kk.to xt fun u q => by rw [upd_ne (ne b rfl e2)]; exact q⟩
          | lck l y => rw [eg] at rj ne; obtain ⟨b, e2, m, kk⟩ := rj; exact ⟨b, e2, m, kk.to xt fun u q => by rw [upd_ne (ne b rfl e2)]; exact q⟩
          | slf c => rw [eg] at rj ne; obtain ⟨b, dx, e2, m, md, h1, h2, h3⟩ := rj; exact ⟨b, dx, e2, m, md, by rw [upd_ne (ne b rfl e2)]; exact h1, by rw [upd_ne (fun z => by rw [z, hp2] at h2; cases h2)]; exact h2, h3⟩
        · have ne : b ≠ p := fun z => by rw [z, fp] at eb; cases eb
          obtain ⟨e5, m5⟩ := A3.aft.fr b o eb nw
          exact ⟨by rw [upd_ne ne]; exact e5, m5⟩
        · by_cases z : b = p
          · exact ⟨_, by rw [z]; exact upd_same⟩
          · obtain ⟨u, q⟩ := A3.aft.th b w
            exact ⟨u, by rw [upd_ne z]; exact q⟩
      exact P2 _ _ _ A4 ⟨p, rfl, mp, fun w => np (own3 p w), nsp, rk, fp⟩
    · exact P2.elim
  · exact P2.elim
end
end Ev

end
section
set_option linter.all false
set_option maxRecDepth 100000
set_option maxHeartbeats 4000000
namespace Ev
open PySem PySem.Spec PyProof.Rows L2
section
variable {L : Lk} {X : Cx} {W : WX} {F : FF} {M M0 M1 M2 M' : Mu} {H H0 H1 H2 H' : Hp} {env envA env1 env2 e e1 : Env} {σ : L2.St}
variable {a b c : Expr} {ea eb ec : EV} {as : AV} {es : List Expr} {pos p : Pos}
/-! ### slices -/
def TOof (L : Lk) (W : WX) (ev : Env → R (Option Int)) : TO := fun σ H Q => ∃ M env, RE L M H env σ ∧ PostE L W σ M H env (fun o e => ∀ H' M', AftE L M H env σ M' H' e → Q o H') (ev env)
theorem PO.imp {o : Option Expr} {t t' : TO} (h : PO X o t) (w : ∀ σ H Q, t' σ H Q → t σ H Q) : PO X o t' := ⟨fun pins s σ H Q I q => h.run pins s σ H Q I (w σ H Q q)⟩
theorem p_none : PO X none (TOof L W (pN F)) := PO.imp po_none fun σ H Q h => by
  obtain ⟨M, env, re, P⟩ := h
  exact P H M (.refl re)
theorem p_some (ha : PE X a (TEof L W (ea F))) : PO X (some a) (TOof L W (pI ea F)) := PO.imp (po_some ha) fun σ H Q h => by
  obtain ⟨M, env, re, P⟩ := h
  refine goE (.refl re) P fun d1 e1 v1 H1 M1 A1 A1' D1 P1 => ?_
  split at P1
  · rename_i i ex
    exact ⟨i, (A1.re.view D1 ex).int, P1 H1 M1 A1⟩
  · exact P1.elim
theorem goO {β : Type} {ok : β → Env → Prop} {ev : Env → R (Option Int)} {k : Option Int → Env → R β} {Q : Option Int → Hp → Prop} (A : AftE L M0 H0 envA σ M H env) (P : PostE L W σ M0 H0 envA ok ((ev env).bind k))
    (h : ∀ b e H1 M1, AftE L M0 H0 envA σ M1 H1 e → AftE L M H env σ M1 H1 e → PostE L W σ M0 H0 envA ok (k b e) → Q b H1) : TOof L W ev σ H Q := by
  refine ⟨M, env, A.re, ?_⟩
  cases e : ev env with
  | ok d e1 => rw [e] at P; exact fun H1 M1 A1 => h d e1 H1 M1 (A.trans A1) A1 P
  | exn c p e1 => rw [e] at P; exact fun cls dd H' M' A1 r => P cls dd H' M' (A.trans A1) r
  | bad => rw [e] at P; exact P
variable {lo hi : Option Expr} {pl ph : PV} {p2 : Pos}
theorem c_slice (hs : SlS L X) (ha : PE X a (TEof L W (ea F))) (hl : PO X lo (TOof L W (pl F))) (hh : PO X hi (TOof L W (ph F))) : PE X (.Subscript a (.Slice lo hi none p2) pos) (TEof L W (eSlice ea pl ph F)) := by
  obtain ⟨r, hr, hs⟩ := hs
  refine PE.imp (pe_slice hr ha hl hh) fun σ H Q h => ?_
  obtain ⟨M, env, re, P⟩ := h
  refine goE (.refl re) P fun d1 e1 v1 H1 M1 A1 A1' D1 P1 => goO A1 P1 fun l e2 H2 M2 A2 A2' P2 => goO A2 P2 fun u e3 H3 M3 A3 A3' P3 => ?_
  have D3 := (D1.to A2'.aft A1.re A2'.ob).to A3'.aft A2.re A3'.ob
  split at P3
  · rename_i xs ex
    exact hs M3 H3 (.tup xs) _ v1 l u Q rfl (A3.re.view D3 ex) fun v H' M' n => fin_ok A3 P3 n
  · rename_i xs ex
    exact hs M3 H3 (.lst xs) _ v1 l u Q rfl (A3.re.view D3 ex) fun v H' M' n => fin_ok A3 P3 n
  · exact P3.elim
theorem c_rev {k : Nat} {p1 p2 p3 : Pos} (hk : X.K = L.K) (ha : PE X a (TEof L W (ea F))) : PE X (.Subscript a (.Slice none none (some (.UnaryOp .USub (.Constant (.int 1) k p1) p2)) p3) pos) (TEof L W (eRevL ea F)) := by
  refine PE.imp (pe_revL ha) fun σ H Q h => ?_
  obtain ⟨M, env, re, P⟩ := h
  refine goE (.refl re) P fun d1 e1 v1 H1 M1 A1 A1' D1 P1 => ?_
  split at P1
  · rename_i xs ex
    obtain ⟨q, vs, rfl, k, _, r⟩ := (A1.re.view D1 ex).sql hk
    exact ⟨q, vs, rfl, k, fun p hp => fin_ok A1 P1 (.lst hp r.rev)⟩
  · exact P1.elim
/-! ### built-in calls -/
theorem views_rv : ∀ {ds : List D} {vs : List V} {gs : List G}, RE L M H e σ → RDs L M H e σ H0 ds vs → views ds e = some gs → RVs L M H gs vs
  | [], vs, gs, r, D, h => by
    simp only [views, Option.some.injEq] at h; subst h
    exact D
  | d :: ds, vs, gs, r, D, h => by
    obtain ⟨v, t, rfl, h1, h2, _⟩ := D
    simp only [views] at h
    split at h
    · rename_i g gs' e1 e2
      simp only [Option.some.injEq] at h; subst h
      exact ⟨v, t, rfl, r.view h1 e1, views_rv r h2 e2⟩
    · cases h
variable {x : Str} {id T : String} {o : Bi}
theorem c_bi (hs : BiS L X (.builtin id) o) (hg : Gl X x) (hm : X.mg x = none) (hv : bootBuiltins x = some (.builtin id)) (ha : PA X (a :: es) (TAof L W (as F))) (hn : x ≠ "__name__" := by decide) (hdb : (x == ("__debug__" : Str)) = false := by decide)
    (he : starEach (a :: es) X.env = (false, eval a X.env) :: starEach es X.env := by rfl) (hpl : (backTo pos (starEach es X.env)).any (·.1) = false := by rfl) : PE X (.Call (.Name x p) (a :: es) [] pos) (TEof L W (eBi o as F)) := by
  obtain ⟨r, hr, hs⟩ := hs
  refine PE.imp (pe_callB hr hg hm hv ha hn hdb he hpl) fun σ H Q h => ?_
  obtain ⟨M, env, re, P⟩ := h
  refine goA (.refl re) P fun ds e vs H1 M1 A1 A1' D1 P1 => ?_
  split at P1
  · rename_i gs ev
    obtain ⟨d, eo, q⟩ := fin_res A1 P1
    exact hs M1 H1 gs d vs Q eo (views_rv A1.re D1 ev) q
  · exact P1.elim
theorem c_ty (hs : BiS L X (.type T) o) (hg : Gl X x) (hm : X.mg x = none) (hv : bootBuiltins x = some (.type T)) (ha : PA X (a :: es) (TAof L W (as F))) (hn : x ≠ "__name__" := by decide) (hdb : (x == ("__debug__" : Str)) = false := by decide)
    (he : starEach (a :: es) X.env = (false, eval a X.env) :: starEach es X.env := by rfl) (hpl : (backTo pos (starEach es X.env)).any (·.1) = false := by rfl) : PE X (.Call (.Name x p) (a :: es) [] pos) (TEof L W (eBi o as F)) := by
  obtain ⟨r, hr, hs⟩ := hs
  refine PE.imp (pe_callTy hr hg hm hv ha hn hdb he hpl) fun σ H Q h => ?_
  obtain ⟨M, env, re, P⟩ := h
  refine goA (.refl re) P fun ds e vs H1 M1 A1 A1' D1 P1 => ?_
  split at P1
  · rename_i gs ev
    obtain ⟨d, eo, q⟩ := fin_res A1 P1
    exact hs M1 H1 gs d vs Q eo (views_rv A1.re D1 ev) q
  · exact P1.elim
theorem c_isi {t : Ty} (hk : X.K = L.K) (KF : KF L) (ho : okTy L t) (hg : Gl X x) (hm : X.mg x = none) (hv : bootBuiltins x = some (.builtin "isinstance")) (ha : PE X a (TEof L W (ea F))) (hc : PE X c (tC (clsV L t))) (hn : x ≠ "__name__" := by decide) (hdb : (x == ("__debug__" : Str)) = false := by decide)
    (h1 : starEach [a, c] X.env = (false, eval a X.env) :: starEach [c] X.env := by rfl) (h2 : starEach [c] X.env = (false, eval c X.env) :: starEach [] X.env := by rfl) (hpl : (backTo pos (starEach [c] X.env)).any (·.1) = false := by rfl) :
    PE X (.Call (.Name x p) [a, c] [] pos) (TEof L W (eBi (.isi t) (aCons ea aNil) F)) := by
  obtain ⟨r, hr, hs⟩ := i_isi hk KF t ho
  refine PE.imp (pe_callB hr hg hm hv (pa_cons ha (pa_cons hc pa_nil h2) h1) hn hdb h1 hpl) fun σ H Q h => ?_
  obtain ⟨M, env, re, P⟩ := h
  have P : PostE L W σ M H env (okD L σ M H env Q) ((ea F env).bind fun d e => match views [d] e with
    | some gs => res (bi (.isi t) gs) e
    | none => .bad) := by
    have as1 : ∀ {α β γ : Type} (r : R α) (f : α → Env → R β) (g : β → Env → R γ), (r.bind f).bind g = r.bind fun a e => (f a e).bind g := fun r f g => by cases r <;> rfl
    have P' := P
    unfold eBi aCons at P'
    rw [as1] at P'
    exact P'
  refine goE (.refl re) P fun d1 e1 v1 H1 M1 A1 A1' D1 P1 => ?_
  simp only [views] at P1
  split at P1
  · rename_i gs ev
    split at ev
    · rename_i g g2 e2 e3
      cases e3
      simp only [Option.some.injEq] at ev; subst ev
      obtain ⟨d, eo, q⟩ := fin_res A1 P1
      simp only [bi, Option.map_eq_some_iff] at eo
      obtain ⟨t', et, rfl⟩ := eo
      exact hs M1 H1 g t' v1 Q et (A1.re.view D1 e2) (q _ _ _ (.same rg_bl))
    · cases ev
  · exact P1.elim
/-! ### methods of a name's list -/
theorem to_list {i : Nat} {env : Env} (re : RE L M H env σ) (h : isLs (objOf env i) = true) : ∃ g a, objOf env i = some g ∧ sv σ i = some (.ref a) ∧ RC L M H g a ∧ isOb (getS env i) = true ∧ ∃ vs, H a = some (.lst vs) := by
  have q := re.at_ i
  unfold objOf at h ⊢
  cases es : getS env i <;> rw [es] at h q <;> simp only [isLs, Bool.false_eq_true] at h
  · rename_i g
    obtain ⟨a, ea, m, k⟩ := q
    refine ⟨g, a, rfl, ea, k, rfl, ?_⟩
    cases g <;> simp only [isLs, Bool.false_eq_true] at h
    unfold RC at k; obtain ⟨vs, e, _⟩ := k; exact ⟨vs, e⟩
  · rename_i g
    obtain ⟨a, ea, m, k⟩ := q
    refine ⟨g, a, rfl, ea, k, rfl, ?_⟩
    cases g <;> simp only [isLs, Bool.false_eq_true] at h
    unfold RC at k; obtain ⟨vs, e, _⟩ := k; exact ⟨vs, e⟩
theorem obj_at {i : Nat} {env : Env} {g : G} (re : RE L M H env σ) (h : objOf env i = some g) : ∃ a, sv σ i = some (.ref a) ∧ RC L M H g a ∧ M a := by
  have q := re.at_ i
  unfold objOf at h
  cases es : getS env i <;> rw [es] at h q <;> simp only [Option.some.injEq, reduceCtorEq] at h <;> subst h
  · obtain ⟨a, ea, m, k⟩ := q; exact ⟨a, ea, k, m⟩
  · obtain ⟨a, ea, m, k⟩ := q; exact ⟨a, ea, k, m⟩
def MtS (L : Lk) (X : Cx) (id : String) (m : Mt) : Prop := ∃ r : V → List V → Hp → VK → Prop, MtR X id r ∧
  ∀ (M : Mu) (H : Hp) (o o' x : G) (gs : List G) (l : Addr) (vs : List V) (Q : VK), mt m o gs = some (o', x) → RC L M H o l → M l → RGs L M H gs vs → (∀ v ho, RG L M H x v → RC L M (L2.upd H l ho) o' l → Q v (L2.upd H l ho)) → r (.ref l) vs H Q
/-- a list's content, written -/
theorem rc_lst {xs : List G} {vs : List V} {l : Addr} (h : RGs L M H xs vs) (m : M l) : RC L M (L2.upd H l (.lst vs)) (.lst xs) l := by
  unfold RC
  refine ⟨vs, upd_same, RGs.to (fun b u eb mb => ⟨by rw [upd_ne (fun z => mb (by rw [z]; exact m))]; exact eb, mb⟩) _ _ h⟩
theorem s_append : MtS L X "list.append" .append := by
  refine ⟨_, mt_append, ?_⟩
  intro M H o o' x gs l vs Q e k m r q
  rcases gs with _ | ⟨y, _ | ⟨y2, gs⟩⟩ <;> cases o <;> simp only [mt, Option.ite_none_right_eq_some, Option.some.injEq, Prod.mk.injEq, reduceCtorEq] at e
  obtain ⟨hl, rfl, rfl⟩ := e
  unfold RC at k
  obtain ⟨ws, hw, kr⟩ := k
  unfold RGs at r
  obtain ⟨v, t, rfl, h1, h2⟩ := r
  unfold RGs at h2; subst h2
  have := kr.len
  have := line100
  exact ⟨l, ws, v, rfl, rfl, hw, by omega, q _ _ rg_non (rc_lst (kr.app (.cons h1 .nil)) m)⟩
def rExtendR : V → List V → Hp → VK → Prop := fun x vs H Q => ∃ l b xs zs, x = .ref l ∧ vs = [.ref b] ∧ H l = some (.lst xs) ∧ Rd H b (.lst zs) ∧ xs.length + zs.length ≤ sizeLine ∧ Q .non (L2.upd H l (.lst (xs ++ zs)))
theorem mt_extendR : MtR X "list.extend" rExtendR := by
  intro pins s σ H x xs v us Q I rx rv h
  obtain ⟨l, b, xs, zs, rfl, rfl, hH, hB, hz, q⟩ := h
  cases rx
  obtain ⟨u, rfl, ru⟩ := rv.one
  cases ru
  obtain ⟨z, its, n, r, hl, e⟩ := I.lstM hH
  obtain ⟨z2, its2, n2, r2, e2⟩ := hB.ok I.hok
  have hl2 := r2.length
  have hsz : its.toArray.size + its2.toArray.size ≤ sizeLine := by rw [List.size_toArray, List.size_toArray]; omega
  have hlong : ¬ (!its.toArray.isEmpty && Builtin.List.listTooLong (its.toArray.size + its2.toArray.size)) = true := by
    rw [notLongL hsz, Bool.and_false]
    exact Bool.false_ne_true
  refine call_meets F.slot_list_extend ⟨_, e, rfl⟩ F.entry_list_extend (F.args_list_extend_2 _ _)
    (AutoSeq1.list_extend_list_list_0 l its.toArray n b its2.toArray n2 hlong (by rw [List.size_toArray]; omega) (by omega)) ⟨e, e2, ?_⟩
  refine ⟨.non, _, I.lset (its' := its ++ its2) hH e (by simp) (r.append r2) ?_, rfl, q⟩
  rw [List.length_append]
  omega
theorem s_extend : MtS L X "list.extend" .extend := by
  refine ⟨_, mt_extendR, ?_⟩
  intro M H o o' x gs l vs Q e k m r q
  rcases gs with _ | ⟨y, _ | ⟨y2, gs⟩⟩
  · cases o <;> simp [mt] at e
  · cases o <;> cases y <;> simp only [mt, Option.ite_none_right_eq_some, Option.some.injEq, Prod.mk.injEq, reduceCtorEq] at e
    obtain ⟨hl, rfl, rfl⟩ := e
    unfold RC at k
    obtain ⟨ws, hw, kr⟩ := k
    unfold RGs at r
    obtain ⟨v, t, rfl, h1, h2⟩ := r
    unfold RGs at h2; subst h2
    obtain ⟨b, zs, rfl, _, rd, rz⟩ := RV.lst (.inl h1)
    have := kr.len
    have := rz.len
    have := line100
    exact ⟨l, b, ws, zs, rfl, rfl, hw, rd, by omega, q _ _ rg_non (rc_lst (kr.app rz) m)⟩
  · cases o <;> cases y <;> simp [mt] at e
theorem s_pop : MtS L X "list.pop" .pop := by
  refine ⟨_, mt_pop, ?_⟩
  intro M H o o' x gs l vs Q e k m r q
  rcases gs with _ | ⟨y, gs⟩ <;> cases o <;> simp only [mt, reduceCtorEq] at e
  split at e
  · rename_i xs y hy
    simp only [Option.some.injEq, Prod.mk.injEq] at e
    obtain ⟨rfl, rfl⟩ := e
    unfold RC at k
    obtain ⟨ws, hw, kr⟩ := k
    unfold RGs at r; subst r
    rw [List.getLast?_eq_getElem?] at hy
    obtain ⟨v, ev, rg⟩ := kr.get hy
    rw [kr.len] at ev
    exact ⟨l, ws, v, rfl, rfl, hw, ev, q _ _ rg (rc_lst kr.dropLast m)⟩
  · cases e
variable {i : Nat} {name : Str} {apos cpos px : Pos} {m : Mt}
theorem meth_core {r : V → List V → Hp → VK → Prop} (hr : ∀ (M : Mu) (H : Hp) (o o' x : G) (gs : List G) (l : Addr) (vs : List V) (Q : VK), mt m o gs = some (o', x) → RC L M H o l → M l → RGs L M H gs vs → (∀ v ho, RG L M H x v → RC L M (L2.upd H l ho) o' l → Q v (L2.upd H l ho)) → r (.ref l) vs H Q)
    {Q : VK} {ds : List D} {vs : List V} {l : Addr} (A1 : AftE L M H env σ M1 H1 e) (D1 : RDs L M1 H1 e σ H ds vs) (hl : sv σ i = some (.ref l)) (P1 : PostE L W σ M H env (okD L σ M H env Q) (match frzs ds e with
      | some (gs, e) => match objOf e i with
        | some o => match mt m o gs with
          | some (o', r) => match putO e i o' with
            | some e => .ok (.g r) e
            | none => .bad
          | none => .bad
        | none => .bad
      | none => .bad)) : r (.ref l) vs H1 Q := by
  split at P1
  · rename_i gs e2 ef
    obtain ⟨M2, A2, rg, _⟩ := frzs_ok A1 D1 ef
    split at P1
    · rename_i o eo
      split at P1
      · rename_i o' x em
        split at P1
        · rename_i e3 ep
          obtain ⟨l', el, k, mm⟩ := obj_at A2.re eo
          rw [hl] at el; cases el
          refine hr M2 H1 o o' x gs l vs Q em k mm rg fun v ho rgx rc => ?_
          have A3 := putO_ok A2.re eo hl rc ep
          exact P1 v _ M2 (A2.trans A3) (RG.to (A3.aft.ext A2.re) _ _ rgx)
        · exact P1.elim
      · exact P1.elim
    · exact P1.elim
  · exact P1.elim
theorem c_meth (hs : MtS L X id m) (hi : X.N[i]? = some x) (hvis : Vis X.env.scope x) (pa : PlainAttrs "list") (slot : Slot "list" name id) (hty : typeOf (.builtin id) = pure (.type "method_descriptor")) (ha : PA X (a :: es) (TAof L W (as F)))
    (hd : (x == ("__debug__" : Str)) = false := by decide) (hcd : (x == ("__classdict__" : Str)) = false := by decide)
    (hbase : attributeBase (.Name x px) name X.env (eval (.Name x px) X.env) = eval (.Name x px) X.env := by rfl)
    (hfew : ((backTo cpos (starEach (a :: es) X.env)).all (fun x => !x.1) && (backToKw cpos (keywordEach [] X.env)).all (fun x => x.1.isSome)
      && decide ((a :: es).length + ([] : List Keyword).length + (if ([] : List Keyword).isEmpty then 0 else 1) < 30)) = true := by rfl)
    (hline : (apos.endLine == cpos.line) = true := by rfl) (hst : starEach (a :: es) X.env = (false, eval a X.env) :: starEach es X.env := by rfl) (hplain : (backTo cpos (starEach es X.env)).any (·.1) = false := by rfl) :
    PE X (.Call (.Attribute (.Name x px) name apos) (a :: es) [] cpos) (TEof L W (eMeth i m as F)) := by
  obtain ⟨r, hm, hr⟩ := hs
  refine PE.imp (pe_bm pa slot hty hm (pe_var hi hvis hd hcd) ha hbase hfew hline hst hplain) fun σ H Q h => ?_
  obtain ⟨M, env, re, P⟩ := h
  unfold eMeth at P
  split at P
  · rename_i hl
    obtain ⟨g, l, eo, el, k, ob, vs, hv⟩ := to_list re hl
    refine ⟨.ref l, sv_some el, .inl ⟨rfl, vs, .inl (.inl hv)⟩, goA (.refl re) P fun ds e ws H1 M1 A1 A1' D1 P1 => ?_⟩
    exact meth_core hr A1 D1 el P1
  · exact P.elim
theorem c_meth0 (hs : MtS L X id m) (hi : X.N[i]? = some x) (hvis : Vis X.env.scope x) (pa : PlainAttrs "list") (slot : Slot "list" name id) (hty : typeOf (.builtin id) = pure (.type "method_descriptor"))
    (hd : (x == ("__debug__" : Str)) = false := by decide) (hcd : (x == ("__classdict__" : Str)) = false := by decide)
    (hbase : attributeBase (.Name x px) name X.env (eval (.Name x px) X.env) = eval (.Name x px) X.env := by rfl) (hline : (apos.endLine == cpos.line) = true := by rfl) :
    PE X (.Call (.Attribute (.Name x px) name apos) [] [] cpos) (TEof L W (eMeth i m aNil F)) := by
  obtain ⟨r, hm, hr⟩ := hs
  refine PE.imp (pe_bm0 pa slot hty hm (pe_var hi hvis hd hcd) hbase hline) fun σ H Q h => ?_
  obtain ⟨M, env, re, P⟩ := h
  unfold eMeth at P
  split at P
  · rename_i hl
    obtain ⟨g, l, eo, el, k, ob, vs, hv⟩ := to_list re hl
    exact ⟨.ref l, sv_some el, .inl ⟨rfl, vs, .inl (.inl hv)⟩, meth_core (ds := []) hr (.refl re) (show RDs L M H env σ H [] [] from rfl) el P⟩
  · exact P.elim
end
end Ev

end
section
set_option linter.all false
set_option maxRecDepth 100000
set_option maxHeartbeats 4000000
namespace Ev
open PySem PySem.Spec PyProof.Rows L2
/-- an __init__: the instance is the result -/
def PostI (L : Lk) (M : Mu) (H : Hp) (e0 : Env) (σ0 : L2.St) (a : Addr) (Q : VK) (E : XK) : R D → Prop
  | .ok (.own (.ins c fs)) e => ∀ H' M' σ', Aft L M H e0 σ0 M' H' e σ' → RG L M' H' (.ins c fs) (.ref a) → Q .non H'
  | .exn c p e => ∀ cls dd H' M' σ', Aft L M H e0 σ0 M' H' e σ' → RX L M' H' c p cls dd → E cls dd H'
  | _ => False
def spI (L : Lk) (fd : FD) (F : FF) : Sp := fun vs H Q E => ∃ M ss c a r, vs.length = fd.np ∧ ss.length + 1 = fd.np ∧ vs = .ref a :: r ∧ RE L M H (env0 fd (.slf c :: ss)) (sig0 fd vs) ∧ PostI L M H (env0 fd (.slf c :: ss)) (sig0 fd vs) a Q E (fin (fd.body F (env0 fd (.slf c :: ss))))
def isFD (F : FF) (n : Nat) (fd : FD) (F' : FF) : Prop := ∀ args, F n args = if args.length = fd.np then fin (fd.body F' (env0 fd args)) else .bad
theorem callF_is {P : List FD} {k n : Nat} {fd : FD} (h : P[n]? = some fd) : isFD (callF P (k + 1)) n fd (callF P k) := fun args => by
  show (match P[n]? with | some fd => _ | none => _) = _
  rw [h]
  rfl
section
variable {L : Lk} {X : Cx} {CX : CXT} {W : WX} {F F' : FF} {M M0 M1 M2 M' : Mu} {H H0 H1 H2 H' : Hp} {env envA env1 env2 e e1 : Env} {σ : L2.St}
variable {a b c : Expr} {ea eb ec : EV} {as : AV} {es : List Expr} {pos p : Pos}
variable {k n : Nat} {f : Addr} {fdd : FuncData} {ps : List Str} {fd : FD} {ds : List Value} {dvs : List V} {dfl : List G} {x : Str}
theorem call_sp {Q : VK} {ds : List D} {vs : List V} (hF : isFD F n fd F') (hdf : ∀ M H, RGs L M H dfl dvs) (A1 : AftE L M H env σ M1 H1 e) (D1 : RDs L M1 H1 e σ H ds vs)
    (P1 : PostE L W σ M H env (okD L σ M H env Q) (doCall F n dfl ds e)) : spF L fd F' (vs ++ dvs) H1 Q (WE W σ) := by
  unfold doCall at P1
  split at P1
  · rename_i ss es
    split at P1
    · rename_i nd
      rw [hF] at P1
      have ls := (argsS_at es).1
      have lv := D1.at_.1
      have ld := (hdf M1 H1).len
      by_cases hl : (ss ++ dfl.map S.val).length = fd.np
      · rw [if_pos hl] at P1
        refine ⟨M1, ss ++ dfl.map .val, hl, ?_, call_re A1.re D1 es nd (hdf M1 H1), ?_⟩
        · rw [List.length_append, List.length_map] at hl
          rw [List.length_append]; omega
        · have fr := call_fr (fd := fd) (dvs := dvs) (dfl := dfl) lv es
          split at P1
          · rename_i d fin' ef
            rw [ef]
            split at P1
            · exact P1.elim
            rename_i hmd
            split at P1
            · rename_i e2 eb
              refine ⟨by simpa using hmd, ?_⟩
              intro v H' M' σ' y rd
              obtain ⟨A2, rdf⟩ := call_aft A1 D1 nd fr y eb
              exact P1 v H' M' A2 (rdf d v rd)
            · exact P1.elim
          · rename_i c p fin' ef
            rw [ef]
            split at P1
            · rename_i e2 eb
              intro cls dd H' M' σ' y rx
              obtain ⟨A2, _⟩ := call_aft A1 D1 nd fr y eb
              exact P1 cls dd H' M' A2 rx
            · exact P1.elim
          · exact P1.elim
      · rw [if_neg hl] at P1
        exact P1.elim
    · exact P1.elim
  · exact P1.elim
theorem c_call (FO : FnOk X.prog X.w X.K X.mg X.base CX k f fdd ps (spF L fd F')) (hF : isFD F n fd F') (hr : Room k X.A) (hg : Gl X x) (hm : X.mg x = some (.ref f)) (hk : PySem.W.keepIn X.K (.ref f) = true) (hb : Binds X.K fdd ps ds) (hd : Vals dvs ds) (hdf : ∀ M H, RGs L M H dfl dvs) (hx : ∀ σ, PassesAt CX X σ (WE W σ))
    (ha : PA X (a :: es) (TAof L W (as F))) (hdb : (x == ("__debug__" : Str)) = false := by decide) (he : starEach (a :: es) X.env = (false, eval a X.env) :: starEach es X.env := by rfl) (hpl : (backTo pos (starEach es X.env)).any (·.1) = false := by rfl) :
    PE X (.Call (.Name x p) (a :: es) [] pos) (TEof L W (eCall n dfl as F)) := by
  refine PE.imp (pe_callSD FO hr hg hm hk hb hd hx ha hdb he hpl) fun σ H Q h => ?_
  obtain ⟨M, env, re, P⟩ := h
  exact goA (.refl re) P fun ds e vs H1 M1 A1 A1' D1 P1 => call_sp hF hdf A1 D1 P1
theorem c_call0 (FO : FnOk X.prog X.w X.K X.mg X.base CX k f fdd ps (spF L fd F')) (hF : isFD F n fd F') (hr : Room k X.A) (hg : Gl X x) (hm : X.mg x = some (.ref f)) (hk : PySem.W.keepIn X.K (.ref f) = true) (hb : Binds X.K fdd ps ds) (hd : Vals dvs ds) (hdf : ∀ M H, RGs L M H dfl dvs) (hx : ∀ σ, PassesAt CX X σ (WE W σ))
    (hdb : (x == ("__debug__" : Str)) = false := by decide) : PE X (.Call (.Name x p) [] [] pos) (TEof L W (eCall n dfl aNil F)) := by
  refine ⟨fun pins s σ H Q I h => ?_⟩
  refine wpAny_Call_Name_kw (ld_glob I hg hm ?_ hdb)
  obtain ⟨M, env, re, P⟩ := h
  refine PySem.W.callWith_K0 I.kIn hk (run_fnSD (us := []) FO hr hb hd (hx σ) I .nil ?_)
  exact call_sp (ds := []) hF hdf (.refl re) (show RDs L M H env σ H [] [] from rfl) P
/-- __init__ is called -/
theorem run_makeSD {C : Addr} {sp : Sp} {E : L2.St → XK} {pins : List (Addr × Obj)} {s : Shared} {Q : VK} {us : List Value} {vs : List V} (M : Mk X.K C f) (F : FnOk X.prog X.w X.K X.mg X.base CX k f fdd ps sp) (hr : Room (k + 1) X.A) (hb : Binds X.K fdd ps ds) (hd : Vals dvs ds)
    (hx : PassesAt CX X σ (E σ)) (I : Inv X pins σ H s) (r : Vals vs us)
    (h : ∀ x dx, H x = none → H dx = none → dx ≠ x → sp (.ref x :: (vs ++ dvs)) (upd (upd H dx (.own x)) x (.ins C dx [])) (fun v H2 => v = .non ∧ Q (.ref x) H2) (E σ)) :
    wpAny (model X.prog X.w) X.A (call (.ref C) us) (EP X pins σ Q) X.xe s := by
  have hq := h (s.heap.objs.size + 1) s.heap.objs.size (I.hok.fresh (Nat.le_succ _)) (I.hok.fresh (Nat.le_refl _)) (Nat.ne_of_lt (Nat.lt_succ_self _))
  have I2 := Inv.made (C := C) I
  have r2 : Vals (V.ref (s.heap.objs.size + 1) :: (vs ++ dvs)) (Value.ref (s.heap.objs.size + 1) :: (us ++ ds)) := .cons rfl (r.append hd)
  have hl : (Value.ref (s.heap.objs.size + 1) :: us ++ ds).length = ps.length := by
    have e := r2.length
    rw [F.len _ _ _ _ hq] at e
    exact e.symm
  refine wpAny_call (make_map (f := f) I.kIn M.makes M.init (beq_iff_eq.mp M.fn) (codeAny_mono (F.run _ X.stack _ _ ⟨Value.ref (s.heap.objs.size + 1) :: us, []⟩ (Value.ref (s.heap.objs.size + 1) :: (us ++ ds)) _ _ (E σ) (hr.make C us [])
    (I2.env0.make C us []) (hb _ (Value.ref (s.heap.objs.size + 1) :: us) I2.kIn hl) r2 hq) fun r s' hq' => ?_))
  cases r with
  | error e => exact hx pins _ _ e s' I2 hq'
  | ok fl =>
    cases fl with
    | ret u =>
      obtain ⟨v, H', I3, rv, ev, q3⟩ := I2.after hq'
      subst ev
      exact ⟨rv, ⟨V.ref (s.heap.objs.size + 1), H', I3, rfl, q3⟩⟩
    | next => exact False.elim hq'
    | brk => exact False.elim hq'
    | cont => exact False.elim hq'
/-- the slots of an __init__'s frame -/
theorem ini_re {cl : Nat} {gs : List G} {vs : List V} {q dx : Addr} (rg : RGs L M H gs vs) (h1 : H q = none) (h2 : H dx = none) (ne : dx ≠ q) (sl : L.sl cl = true) :
    (∀ a o, H a = some o → (upd (upd H dx (.own q)) q (.ins (L.ca cl) dx [])) a = some o ∧ (more (more M dx) q a ↔ M a)) ∧
    RE L (more (more M dx) q) (upd (upd H dx (.own q)) q (.ins (L.ca cl) dx [])) (env0 fd (.slf cl :: gs.map .val)) (sig0 fd (.ref q :: vs)) ∧
    ∀ b, own (upd (upd H dx (.own q)) q (.ins (L.ca cl) dx [])) (env0 fd (.slf cl :: gs.map .val)) (sig0 fd (.ref q :: vs)) b → H b = none := by
  have kp : ∀ a o, H a = some o → (upd (upd H dx (.own q)) q (.ins (L.ca cl) dx [])) a = some o ∧ (more (more M dx) q a ↔ M a) := fun a o e => by
    have n1 : a ≠ q := fun z => by rw [z, h1] at e; cases e
    have n2 : a ≠ dx := fun z => by rw [z, h2] at e; cases e
    refine ⟨by rw [upd_ne n1, upd_ne n2]; exact e, ?_⟩
    unfold more
    constructor
    · rintro ((z | z) | z)
      · exact z
      · exact absurd z n2
      · exact absurd z n1
    · exact fun z => .inl (.inl z)
  have lg := rg.len
  have gS0 : getS (env0 fd (.slf cl :: gs.map .val)) 0 = .slf cl := rfl
  have gV0 : sv (sig0 fd (.ref q :: vs)) 0 = some (.ref q) := rfl
  have gS : ∀ i, i ≠ 0 → (∃ g v, getS (env0 fd (.slf cl :: gs.map .val)) i = .val g ∧ sv (sig0 fd (.ref q :: vs)) i = some v ∧ RG L M H g v) ∨ getS (env0 fd (.slf cl :: gs.map .val)) i = .non := fun i hi => by
    obtain ⟨j, rfl⟩ : ∃ j, i = j + 1 := ⟨i - 1, by omega⟩
    unfold env0 sig0
    rw [getS_app, List.map_cons, sv_app]
    by_cases h : j < gs.length
    · have e1 : gs[j]? = some gs[j] := List.getElem?_eq_getElem h
      obtain ⟨v, ev, r⟩ := rg.get e1
      rw [if_pos (by simp; omega), if_pos (by simp; omega)]
      refine .inl ⟨gs[j], v, ?_, ?_, r⟩
      · unfold getS; rw [List.getElem?_cons_succ, List.getElem?_map, e1]; rfl
      · unfold sv; rw [List.getElem?_cons_succ, List.getElem?_map, ev]; rfl
    · rw [if_neg (by simp; omega), getS_rep]
      exact .inr rfl
  refine ⟨kp, ⟨by unfold env0 sig0; simp [lg], fun i => ?_, fun i j a ne' h3 h4 => ?_⟩, fun b ⟨i, w⟩ => ?_⟩
  · by_cases hi : i = 0
    · subst hi
      rw [gS0, gV0]
      exact ⟨q, dx, rfl, .inr rfl, .inl (.inr rfl), upd_same, by rw [upd_ne ne]; exact upd_same, sl⟩
    · rcases gS i hi with ⟨g, v, e1, e2, r⟩ | z
      · rw [e1, e2]
        exact ⟨v, rfl, RG.to (ext_kp kp) _ _ r⟩
      · rw [z]; exact True.intro
  · have key : ∀ i, isOb (getS (env0 fd (.slf cl :: gs.map .val)) i) = true → i = 0 := fun i hi => by
      by_cases z : i = 0
      · exact z
      · rcases gS i z with ⟨g, v, e1, _⟩ | z <;> (first | rw [e1] at hi | rw [z] at hi) <;> cases hi
    exact absurd ((key i h3).trans (key j h4).symm) ne'
  · by_cases hi : i = 0
    · subst hi
      rw [gS0, gV0] at w
      rcases w with ⟨_, w⟩ | ⟨c, a, C, fs, w1, w2, w3⟩
      · cases w; exact h1
      · cases w2
        rw [upd_same] at w3; cases w3
        exact h2
    · rcases gS i hi with ⟨g, v, e1, _⟩ | z
      · rw [e1] at w; rcases w with ⟨w, _⟩ | ⟨_, _, _, _, w, _⟩ <;> cases w
      · rw [z] at w; rcases w with ⟨w, _⟩ | ⟨_, _, _, _, w, _⟩ <;> cases w
theorem make_sp {C : CT} {cl : Nat} {cd : CD} {Q : VK} {ds : List D} {vs : List V} {q dx : Addr} (hC : C[cl]? = some cd) (hi : cd.init = some n) (hF : isFD F n fd F') (sl : L.sl cl = true) (A1 : AftE L M H env σ M1 H1 e) (D1 : RDs L M1 H1 e σ H ds vs)
    (P1 : PostE L W σ M H env (okD L σ M H env Q) (doMake C F cl ds e)) (h1 : H1 q = none) (h2 : H1 dx = none) (ne : dx ≠ q) :
    spI L fd F' (.ref q :: (vs ++ [])) (upd (upd H1 dx (.own q)) q (.ins (L.ca cl) dx [])) (fun v H2 => v = .non ∧ Q (.ref q) H2) (WE W σ) := by
  unfold doMake at P1
  rw [hC] at P1
  simp only [hi] at P1
  split at P1
  · rename_i f' gs e2 ef0 ef
    cases ef0
    obtain ⟨M2, A2, rg, _⟩ := frzs_ok A1 D1 ef
    rw [hF] at P1
    have lg := rg.len
    by_cases hl : (S.slf cl :: gs.map .val).length = fd.np
    · rw [if_pos hl] at P1
      obtain ⟨kp, re, ow⟩ := ini_re (fd := fd) rg h1 h2 ne sl
      rw [List.append_nil]
      refine ⟨_, gs.map .val, cl, q, vs, ?_, ?_, rfl, re, ?_⟩
      · rw [← hl]; simp [lg]
      · rw [← hl]; simp
      · have fin2 : ∀ {H' M' σ' fe}, Aft L (more (more M2 dx) q) (upd (upd H1 dx (.own q)) q (.ins (L.ca cl) dx [])) (env0 fd (.slf cl :: gs.map .val)) (sig0 fd (.ref q :: vs)) M' H' fe σ' → AftE L M H env σ M' H' e2 := fun {H' M' σ' fe} y => by
          refine A2.trans (.kp A2.re fun a o e => ?_)
          obtain ⟨k1, k2⟩ := kp a o e
          have nw : ¬ own (upd (upd H1 dx (.own q)) q (.ins (L.ca cl) dx [])) (env0 fd (.slf cl :: gs.map .val)) (sig0 fd (.ref q :: vs)) a := fun w => by
            have := ow a w; rw [e] at this; cases this
          obtain ⟨k3, k4⟩ := y.fr a o k1 nw
          exact ⟨k3, k4.trans k2⟩
        split at P1
        · rename_i c' fs fe ef2
          rw [ef2]
          split at P1
          · rename_i ec
            subst ec
            intro H' M' σ' y rgi
            exact ⟨rfl, P1 _ H' M' (fin2 y) rgi⟩
          · exact P1.elim
        · rename_i c' pp fe ef2
          rw [ef2]
          intro cls dd H' M' σ' y rx
          exact P1 cls dd H' M' (fin2 y) rx
        · exact P1.elim
    · rw [if_neg hl] at P1
      exact P1.elim
  · exact P1.elim
theorem c_make {C : CT} {cl : Nat} {cd : CD} (hC : C[cl]? = some cd) (hi : cd.init = some n) (hF : isFD F n fd F') (sl : L.sl cl = true) (Mk : Mk X.K (L.ca cl) f) (FO : FnOk X.prog X.w X.K X.mg X.base CX k f fdd ps (spI L fd F')) (hr : Room (k + 1) X.A) (hg : Gl X x) (hm : X.mg x = some (.ref (L.ca cl)))
    (hb : Binds X.K fdd ps []) (hx : ∀ σ, PassesAt CX X σ (WE W σ)) (ha : PA X (a :: es) (TAof L W (as F))) (hdb : (x == ("__debug__" : Str)) = false := by decide) (he : starEach (a :: es) X.env = (false, eval a X.env) :: starEach es X.env := by rfl) (hpl : (backTo pos (starEach es X.env)).any (·.1) = false := by rfl) :
    PE X (.Call (.Name x p) (a :: es) [] pos) (TEof L W (eMake C cl as F)) := by
  refine ⟨fun pins s σ H Q I h => ?_⟩
  refine wpAny_Call_Name_kw (ld_glob I hg hm ?_ hdb)
  obtain ⟨M, env, re, P⟩ := h
  have g := goA (Q := fun vs H1 => ∀ q dx, H1 q = none → H1 dx = none → dx ≠ q → spI L fd F' (.ref q :: (vs ++ [])) (upd (upd H1 dx (.own q)) q (.ins (L.ca cl) dx [])) (fun v H2 => v = .non ∧ Q (.ref q) H2) (WE W σ)) (.refl re) P
    fun ds e vs H1 M1 A1 A1' D1 P1 q dx h1 h2 ne => make_sp hC hi hF sl A1 D1 P1 h1 h2 ne
  refine PySem.W.callWith_K (h₀ := X.base) I.ok.mod.kin Mk.kp (thn (ha.run pos pins s σ H _ I g) fun us s1 ⟨vs, H1, I1, r, q⟩ => ⟨I1.kIn, ?_⟩) he hpl
  exact run_makeSD Mk FO hr hb .nil (hx σ) I1 r q
/-- e.f: a slot -/
theorem c_fld {C : CT} {at_ : Str} (hk : X.K = L.K) (hA : ∀ c, L.sl c = true → match attrOf C c n with | some (.fld j) => SlX.SCls L.K (L.ca c) ∧ ∃ p, SlX.Slot1 L.K (L.ca c) at_ p j | some (.prop _) => False | none => True) (ha : PE X a (TEof L W (ea F)))
    (hb : attributeBase a at_ X.env (eval a X.env) = eval a X.env := by rfl) : PE X (.Attribute a at_ pos) (TEof L W (eAttr C ea n F)) := by
  refine PE.imp (SlX.pe_sl ha hb) fun σ H Q h => ?_
  obtain ⟨M, env, re, P⟩ := h
  refine goE (.refl re) P fun d1 e1 v1 H1 M1 A1 A1' D1 P1 => ?_
  split at P1
  · rename_i c fs ex
    obtain ⟨q, dx, ws, rfl, hs, r, _, sc⟩ := (A1.re.view D1 ex).ins
    have hc := hA c sc
    split at P1
    · rename_i j ej
      rw [ej] at hc
      obtain ⟨h1, p, h2⟩ := hc
      unfold ofO at P1
      split at P1
      · rename_i g eg
        rw [Option.map_eq_some_iff] at eg
        obtain ⟨g0, e0, rfl⟩ := eg
        obtain ⟨v, ev, rg⟩ := r.get e0
        exact ⟨q, _, dx, p, _, j, v, rfl, hs, by rw [hk]; exact h1, by rw [hk]; exact h2, by rw [List.getElem?_map, ev]; rfl, fin_ok A1 P1 (.same rg)⟩
      · exact P1.elim
    · rename_i f' ej
      rw [ej] at hc
      exact hc.elim
    · exact P1.elim
  · exact P1.elim
end
end Ev

end
section
set_option linter.all false
set_option maxRecDepth 100000
set_option maxHeartbeats 4000000
namespace Ev
open PySem PySem.Spec PyProof.Rows L2
def PostS (L : Lk) (W : WX) (σ : L2.St) (M : Mu) (H : Hp) (env : Env) (D : Ends) : RS → Prop
  | .ini c fs e => isLt (getS env 0) = true ∧ ∀ a σ' H' M', Aft L M H env σ M' H' e σ' → sv σ 0 = some (.ref a) → RG L M' H' (.ins c fs) (.ref a) → D.nx σ' H'
  | .nx e => ∀ σ' H' M', Aft L M H env σ M' H' e σ' → D.nx σ' H'
  | .bk e => ∀ σ' H' M', Aft L M H env σ M' H' e σ' → D.bk σ' H'
  | .ct e => ∀ σ' H' M', Aft L M H env σ M' H' e σ' → D.ct σ' H'
  | .rt d e => ∀ v σ' H' M', Aft L M H env σ M' H' e σ' → RDr L M' H' e σ' H env σ d v → D.rt v H'
  | .exn c p e => ∀ cls dd σ' H' M', Aft L M H env σ M' H' e σ' → RX L M' H' c p cls dd → W cls dd σ' H'
  | .bad => False
def TSof (L : Lk) (W : WX) (ev : Env → RS) : TS := fun D σ H => ∃ M env, RE L M H env σ ∧ PostS L W σ M H env D (ev env)
section
variable {L : Lk} {X : Cx} {W : WX} {F : FF} {M M0 M1 M2 M' : Mu} {H H0 H1 H2 H' : Hp} {env envA env1 env2 e e1 : Env} {σ σ0 σ1 σ' : L2.St} {D : Ends}
variable {a b c : Expr} {ea eb ec : EV} {as : AV} {es : List Expr} {pos : Pos} {st : Stmt} {rest : List Stmt} {sa sb : SV} {ta : TV}
/-- a statement's first part -/
theorem RDr.trans (x : Aft L M0 H0 envA σ0 M1 H1 env1 σ1) {d : Ev.D} {v : V} (h : RDr L M' H' e σ' H1 env1 σ1 d v) : RDr L M' H' e σ' H0 envA σ0 d v := by
  cases d with
  | g x => exact h
  | sl i => exact h
  | own y =>
    obtain ⟨a, h1, h2, h3, h4, h5, h6⟩ := h
    refine ⟨a, h1, h2, h3, h4, h5, ?_⟩
    rcases h6 with ⟨j, k1, k2⟩ | h6
    · exact x.oo j a k1 k2
    · exact .inr (x.free h6)
theorem lastS {ev : Env → RS} (A : Aft L M0 H0 envA σ0 M H env σ) (P : PostS L W σ0 M0 H0 envA D (ev env)) : TSof L W ev D σ H := by
  refine ⟨M, env, A.re, ?_⟩
  cases e : ev env with
  | ini c fs e1 =>
    rw [e] at P
    obtain ⟨h0, P⟩ := P
    obtain ⟨h1, h2⟩ := A.lt 0 h0
    exact ⟨h1, fun a σ' H' M' A1 h r => P a σ' H' M' (A.trans A1) (by rw [← h2]; exact h) r⟩
  | nx e1 => rw [e] at P; exact fun σ' H' M' A1 => P σ' H' M' (A.trans A1)
  | bk e1 => rw [e] at P; exact fun σ' H' M' A1 => P σ' H' M' (A.trans A1)
  | ct e1 => rw [e] at P; exact fun σ' H' M' A1 => P σ' H' M' (A.trans A1)
  | rt d e1 => rw [e] at P; exact fun v σ' H' M' A1 r => P v σ' H' M' (A.trans A1) (r.trans A)
  | exn c p e1 => rw [e] at P; exact fun cls dd σ' H' M' A1 r => P cls dd σ' H' M' (A.trans A1) r
  | bad => rw [e] at P; exact P
/-- an expression, then what a statement makes of it -/
theorem stE {ev : Env → R Ev.D} {k : Ev.D → Env → RS} {Q : VK} (re : RE L M H env σ) (P : PostS L W σ M H env D ((ev env).st k))
    (h : ∀ d e v H1 M1, AftE L M H env σ M1 H1 e → RD L M1 H1 e σ H d v → PostS L W σ M H env D (k d e) → Q v H1) : TEof L W ev σ H Q := by
  refine ⟨M, env, re, ?_⟩
  cases e : ev env with
  | ok d e1 => rw [e] at P; exact fun v H1 M1 A1 D1 => h d e1 v H1 M1 A1 D1 P
  | exn c p e1 => rw [e] at P; exact fun cls dd H' M' A1 r => P cls dd σ H' M' A1.aft r
  | bad => rw [e] at P; exact P
theorem stE' {ev : Env → R Ev.D} {k : Ev.D → Env → RS} {Q : VK} (A : AftE L M0 H0 envA σ M H env) (P : PostS L W σ M0 H0 envA D ((ev env).st k))
    (h : ∀ d e v H1 M1, AftE L M0 H0 envA σ M1 H1 e → AftE L M H env σ M1 H1 e → RD L M1 H1 e σ H d v → PostS L W σ M0 H0 envA D (k d e) → Q v H1) : TEof L W ev σ H Q := by
  refine ⟨M, env, A.re, ?_⟩
  cases e : ev env with
  | ok d e1 => rw [e] at P; exact fun v H1 M1 A1 D1 => h d e1 v H1 M1 (A.trans A1) A1 D1 P
  | exn c p e1 => rw [e] at P; exact fun cls dd H' M' A1 r => P cls dd σ H' M' (A.trans A1).aft r
  | bad => rw [e] at P; exact P
theorem stT {ev : Env → R Bool} {k : Bool → Env → RS} {Q : Bool → Hp → Prop} (re : RE L M H env σ) (P : PostS L W σ M H env D ((ev env).st k))
    (h : ∀ b e H1 M1, AftE L M H env σ M1 H1 e → PostS L W σ M H env D (k b e) → Q b H1) : TTof L W ev σ H Q := by
  refine ⟨M, env, re, ?_⟩
  cases e : ev env with
  | ok d e1 => rw [e] at P; exact fun H1 M1 A1 => h d e1 H1 M1 A1 P
  | exn c p e1 => rw [e] at P; exact fun cls dd H' M' A1 r => P cls dd σ H' M' A1.aft r
  | bad => rw [e] at P; exact P
theorem stA {ev : Env → R (List Ev.D)} {k : List Ev.D → Env → RS} {Q : List V → Hp → Prop} (re : RE L M H env σ) (P : PostS L W σ M H env D ((ev env).st k))
    (h : ∀ ds e vs H1 M1, AftE L M H env σ M1 H1 e → RDs L M1 H1 e σ H ds vs → PostS L W σ M H env D (k ds e) → Q vs H1) : TAof L W ev σ H Q := by
  refine ⟨M, env, re, ?_⟩
  cases e : ev env with
  | ok d e1 => rw [e] at P; exact fun v H1 M1 A1 D1 => h d e1 v H1 M1 A1 D1 P
  | exn c p e1 => rw [e] at P; exact fun cls dd H' M' A1 r => P cls dd σ H' M' A1.aft r
  | bad => rw [e] at P; exact P
/-! ### blocks -/
theorem ss_nil : PSs X [] (TSof L W (sNil F)) := PSs.imp pss_nil fun D σ H h => by
  obtain ⟨M, env, re, P⟩ := h
  exact P σ H M (.refl re)
theorem ss_cons (h1 : PS X st (TSof L W (sa F))) (h2 : PSs X rest (TSof L W (sb F))) : PSs X (st :: rest) (TSof L W (sSeq sa sb F)) := PSs.imp (pss_cons h1 h2) fun D σ H h => by
  obtain ⟨M, env, re, P⟩ := h
  refine ⟨M, env, re, ?_⟩
  unfold sSeq at P
  cases e : sa F env with
  | ini c fs e1 => rw [e] at P; exact P.elim
  | nx e1 => rw [e] at P; exact fun σ' H' M' A1 => lastS A1 P
  | bk e1 => rw [e] at P; exact P
  | ct e1 => rw [e] at P; exact P
  | rt d e1 => rw [e] at P; exact P
  | exn c p e1 => rw [e] at P; exact P
  | bad => rw [e] at P; exact P
theorem ss_one (h1 : PS X st (TSof L W (sa F))) : PSs X [st] (TSof L W (sa F)) := pss_one h1
theorem s_pass : PS X (.Pass pos) (TSof L W (sNil F)) := PS.imp ps_pass fun D σ H h => by
  obtain ⟨M, env, re, P⟩ := h
  exact P σ H M (.refl re)
theorem s_never : PS X st (TSof L W (sBad F)) := PS.imp ps_never fun D σ H h => by
  obtain ⟨M, env, re, P⟩ := h
  exact P
theorem ss_never : PSs X rest (TSof L W (sBad F)) := PSs.imp pss_never fun D σ H h => by
  obtain ⟨M, env, re, P⟩ := h
  exact P
theorem s_brk : PS X (.Break pos) (TSof L W (sBrk F)) := PS.imp ps_break fun D σ H h => by
  obtain ⟨M, env, re, P⟩ := h
  exact P σ H M (.refl re)
theorem s_cnt : PS X (.Continue pos) (TSof L W (sCnt F)) := PS.imp ps_continue fun D σ H h => by
  obtain ⟨M, env, re, P⟩ := h
  exact P σ H M (.refl re)
theorem s_exp (ha : PE X a (TEof L W (ea F))) (hs : swapsWith a none pos.line X.env = pure false := by rfl) : PS X (.Expr a pos) (TSof L W (sExp ea F)) := PS.imp (ps_expr ha hs) fun D σ H h => by
  obtain ⟨M, env, re, P⟩ := h
  exact stE re P fun d e v H1 M1 A1 D1 P1 => P1 σ H1 M1 A1.aft
theorem s_if {p q : List Stmt} (hc : PT X c (TTof L W (ta F))) (h1 : PSs X p (TSof L W (sa F))) (h2 : PSs X q (TSof L W (sb F))) : PS X (.If c p q pos) (TSof L W (sIf ta sa sb F)) := PS.imp (ps_if hc h1 h2) fun D σ H h => by
  obtain ⟨M, env, re, P⟩ := h
  refine stT re P fun t e H1 M1 A1 P1 => ?_
  cases t with
  | true => rw [if_pos rfl]; exact lastS A1.aft P1
  | false => rw [if_neg Bool.false_ne_true]; exact lastS A1.aft P1
theorem s_retN : PS X (.Return none pos) (TSof L W (sRetN F)) := PS.imp ps_retN fun D σ H h => by
  obtain ⟨M, env, re, P⟩ := h
  exact P _ σ H M (.refl re) (show RG L M H .non .non from rg_non)
theorem own_of_nomu {i : Nat} {s : S} (hs : isMu s = false) {b : Addr} (w : own H (env.set i s) σ b) : own H env σ b ∧ ∃ j, j ≠ i ∧ isOb (getS env j) = true ∧ (sv σ j = some (.ref b) ∨ ∃ c a C fs, getS env j = .slf c ∧ sv σ j = some (.ref a) ∧ H a = some (.ins C b fs)) := by
  obtain ⟨j, w⟩ := w
  rw [getS_set] at w
  by_cases z : j = i ∧ i < env.length
  · rw [if_pos z] at w
    rcases w with ⟨w, _⟩ | ⟨c, _, _, _, w, _⟩
    · rw [hs] at w; cases w
    · rw [w] at hs; simp [isMu] at hs
  · rw [if_neg z] at w
    have ob : isOb (getS env j) = true := by
      rcases w with ⟨w, _⟩ | ⟨c, _, _, _, w, _⟩
      · exact isOb_of_mu w
      · rw [w]; rfl
    have ne : j ≠ i := fun e => by
      have : j < env.length := getS_lt fun z => by rw [z] at ob; cases ob
      exact z ⟨e, by rw [← e]; exact this⟩
    refine ⟨⟨j, w⟩, j, ne, ob, ?_⟩
    rcases w with ⟨_, w⟩ | ⟨c, a, C, fs, w1, w2, w3⟩
    · exact .inl w
    · exact .inr ⟨c, a, C, fs, w1, w2, w3⟩
/-- what a return hands back -/
theorem ret_ok {d d' : Ev.D} {v : V} (x : AftE L M H env σ M1 H1 e) (D1 : RD L M1 H1 e σ H d v) (h : retD d e = some (d', e1)) : ∃ M2, Aft L M H env σ M2 H1 e1 σ ∧ RDr L M2 H1 e1 σ H env σ d' v := by
  have r := x.re
  cases d with
  | g y =>
    simp only [retD, Option.some.injEq, Prod.mk.injEq] at h
    obtain ⟨rfl, rfl⟩ := h
    exact ⟨M1, x.aft, D1⟩
  | own y =>
    simp only [retD, Option.some.injEq, Prod.mk.injEq] at h
    obtain ⟨rfl, rfl⟩ := h
    obtain ⟨a, h1, h2, h3, h4, h5, h6⟩ := D1
    exact ⟨M1, x.aft, a, h1, h2, h3, h4, h5, .inr h6⟩
  | sl i =>
    have hv : sv σ i = some v := D1
    have q := r.at_ i
    simp only [retD] at h
    cases es : getS e i <;> rw [es] at h q <;> simp only [Option.some.injEq, Prod.mk.injEq, reduceCtorEq] at h <;> obtain ⟨rfl, rfl⟩ := h
    · obtain ⟨w, ew, k⟩ := q; rw [hv] at ew; cases ew; exact ⟨M1, x.aft, k⟩
    · -- an object of ours
      rename_i g0
      obtain ⟨a, ea, m, k⟩ := q
      rw [hv] at ea; cases ea
      have ob0 : isOb (getS e i) = true := by rw [es]; rfl
      have hi : i < e.length := getS_lt fun z => by rw [z] at es; cases es
      have gs : ∀ j, getS (e.set i .non) j = if j = i then .non else getS e j := fun j => by rw [getS_set]; simp [hi]
      have re1 : RE L M1 H1 (e.set i .non) σ := r.set True.intro (fun z => by cases z) fun j _ => r.at_ j
      have obk : ∀ j, isOb (getS (e.set i .non) j) = true → isOb (getS e j) = true ∧ j ≠ i := fun j hj => by
        rw [gs] at hj
        split at hj
        · cases hj
        · rename_i z; exact ⟨hj, z⟩
      have na : ¬ own H1 (e.set i .non) σ a := fun w => by
        obtain ⟨_, j, ne, ob, w | ⟨c, a2, C, fs, w1, w2, w3⟩⟩ := own_of_nomu rfl w
        · exact r.inj j i a ne ob ob0 w hv
        · have rj := r.at_ j
          rw [w1] at rj
          obtain ⟨a3, dx, e3, _, _, k1, k2, _⟩ := rj
          rw [w2] at e3; cases e3
          rw [w3] at k1; cases k1
          cases g0 <;> simp only [RC] at k
          all_goals (obtain ⟨ws, q, _⟩ := k; rw [k2] at q; cases q)
      refine ⟨M1, x.aft.trans ⟨re1, fun b o eb _ => ⟨eb, Iff.rfl⟩, fun b w => .inl (own_of_nomu rfl w).1, fun b w => r.has w, fun j hj => ?_, fun j b hj ej => .inl ⟨j, ?_, ej⟩, fun j l g hj => ⟨?_, rfl⟩⟩, a, rfl, m, na, fun j hj ej => r.inj j i a (obk j hj).2 (obk j hj).1 ob0 ej hv, k, ?_⟩
      · rw [gs]
        split
        · rename_i z; rw [z, es] at hj; cases hj
        · exact ⟨hj, rfl⟩
      · rw [gs] at hj
        split at hj
        · cases hj
        · exact hj
      · rw [gs, if_neg (fun z => by rw [z, es] at hj; cases hj)]
        exact hj
      · rcases x.aft.oo i a (by rw [es]; rfl) hv with z | z
        · exact .inl z
        · exact .inr z
    · -- one of the caller's
      obtain ⟨M2, fz, ax⟩ := frz_ok (env1 := e.set i (.lfz _)) x.aft (show RD L M1 H1 e σ H (.sl i) v from hv) (by simp only [frz, es]; rfl)
      exact ⟨M2, ax, fz.rg⟩
    · obtain ⟨w, ew, k⟩ := q; rw [hv] at ew; cases ew; exact ⟨M1, x.aft, k⟩
theorem s_ret (ha : PE X a (TEof L W (ea F))) : PS X (.Return (some a) pos) (TSof L W (sRet ea F)) := PS.imp (ps_ret ha) fun D σ H h => by
  obtain ⟨M, env, re, P⟩ := h
  refine stE re P fun d e v H1 M1 A1 D1 P1 => ?_
  split at P1
  · rename_i d' e' er
    obtain ⟨M2, A2, r⟩ := ret_ok A1 D1 er
    exact P1 v σ H1 M2 A2 r
  · exact P1.elim
/-! ### names are set -/
theorem setS_eq {i : Nat} {s : S} (h : setS env i s = some env1) : env1 = env.set i s ∧ i < env.length ∧ isLt (getS env i) = false ∧ ∀ l g, getS env i ≠ .lck l g := by
  unfold setS at h
  have hg : getS env i = (env[i]?).getD .non := rfl
  cases e : env[i]? with
  | none => rw [e] at h; cases h
  | some t =>
    rw [e] at h hg
    have hi := (List.getElem?_eq_some_iff.mp e).1
    have hg : getS env i = t := hg
    cases t <;> simp only [Option.some.injEq, reduceCtorEq] at h <;> exact ⟨h.symm, hi, by rw [hg]; rfl, fun l g z => by rw [hg] at z; cases z⟩
theorem set_slot {i : Nat} {s : S} {v : V} (x : Aft L M0 H0 envA σ0 M H env σ) (h : setS env i s = some env1) (hs : RS1 L M H s (some v)) (hk : isOb s = true → ∃ a, v = .ref a ∧ H0 a = none ∧ ∀ j, isOb (getS env j) = true → sv σ j ≠ some (.ref a)) (hl : isLt s = false) :
    Aft L M0 H0 envA σ0 M H env1 (σ.set i (some v)) := by
  have r := x.re
  obtain ⟨he, hi, hlt, hlk⟩ := setS_eq h
  have hiσ : i < σ.length := by rw [← r.len]; exact hi
  have gs : ∀ j, getS env1 j = if j = i then s else getS env j := fun j => by rw [he, getS_set]; simp [hi]
  have gv : ∀ j, sv (σ.set i (some v)) j = if j = i then some v else sv σ j := fun j => by rw [sv_set]; simp [hiσ]
  have nsl : ∀ c, s ≠ .slf c := fun c z => by rw [z] at hl; cases hl
  refine ⟨⟨by rw [he, List.length_set, List.length_set]; exact r.len, fun j => ?_, fun j l b ne h1 h2 h3 h4 => ?_⟩, x.fr, fun b ⟨j, w⟩ => ?_, x.th, fun j hj => ?_, fun j b hj ej => ?_, fun j l g hj => ?_⟩
  · rw [gs, gv]
    split
    · exact hs
    · exact r.at_ j
  · rw [gs] at h1 h2
    rw [gv] at h3 h4
    by_cases z : j = i
    · rw [if_pos z] at h1 h3
      have zl : l ≠ i := fun z2 => ne (z.trans z2.symm)
      rw [if_neg zl] at h2 h4
      obtain ⟨a, ea, _, n⟩ := hk h1
      subst ea; cases h3
      exact n l h2 h4
    · rw [if_neg z] at h1 h3
      by_cases z2 : l = i
      · rw [if_pos z2] at h2 h4
        obtain ⟨a, ea, _, n⟩ := hk h2
        subst ea; cases h4
        exact n j h1 h3
      · rw [if_neg z2] at h2 h4
        exact r.inj j l b ne h1 h2 h3 h4
  · rw [gs, gv] at w
    by_cases z : j = i
    · rw [if_pos z, if_pos z] at w
      rcases w with ⟨w1, w2⟩ | ⟨c, _, _, _, w, _⟩
      · obtain ⟨a, ea, f, _⟩ := hk (isOb_of_mu w1)
        subst ea; cases w2
        exact .inr f
      · exact absurd w (nsl c)
    · rw [if_neg z, if_neg z] at w
      exact x.ow b ⟨j, w⟩
  · obtain ⟨l1, l2⟩ := x.lt j hj
    have z : j ≠ i := fun z => by rw [z, hlt] at l1; cases l1
    rw [gs, gv, if_neg z, if_neg z]
    exact ⟨l1, l2⟩
  · rw [gs] at hj
    rw [gv] at ej
    by_cases z : j = i
    · rw [if_pos z] at hj ej
      have ob : isOb s = true := by cases s <;> simp_all [isOo, isOb]
      obtain ⟨a, ea, f, _⟩ := hk ob
      subst ea; cases ej
      exact .inr f
    · rw [if_neg z] at hj ej
      exact x.oo j b hj ej
  · obtain ⟨l1, l2⟩ := x.lk j l g hj
    have z : j ≠ i := fun z => hlk l g (by rw [← z]; exact l1)
    rw [gs, gv, if_neg z, if_neg z]
    exact ⟨l1, l2⟩
theorem bind_ok {i : Nat} {d : Ev.D} {v : V} (x : Aft L M0 H0 envA σ0 M H env σ) (D1 : RD L M H env σ H0 d v) (h : bindD env i d = some env1) : ∃ M1, Aft L M0 H0 envA σ0 M1 H env1 (σ.set i (some v)) := by
  have val : ∀ (d : Ev.D), RD L M H env σ H0 d v → (match frz d env with | some (g, e1) => setS e1 i (.val g) | none => none) = some env1 → ∃ M1, Aft L M0 H0 envA σ0 M1 H env1 (σ.set i (some v)) := fun d D1 h => by
    split at h
    · rename_i g e1 ef
      obtain ⟨M2, fz, ax⟩ := frz_ok x D1 ef
      exact ⟨M2, set_slot ax h ⟨v, rfl, fz.rg⟩ (fun z => by cases z) rfl⟩
    · cases h
  cases d with
  | own y =>
    simp only [bindD] at h
    obtain ⟨a, h1, h2, h3, h4, h5, h6⟩ := D1
    subst h1
    exact ⟨M, set_slot x h ⟨a, rfl, h2, h5⟩ (fun _ => ⟨a, rfl, h6, h4⟩) rfl⟩
  | g y => exact val _ D1 h
  | sl j => exact val _ D1 h
end
end Ev

end
section
set_option linter.all false
set_option maxRecDepth 100000
set_option maxHeartbeats 4000000
namespace Ev
open PySem PySem.Spec PyProof.Rows L2
section
variable {L : Lk} {X : Cx} {W : WX} {F : FF} {M M0 M1 M2 M' : Mu} {H H0 H1 H2 H' : Hp} {env envA env1 env2 e e1 : Env} {σ σ0 σ1 σ' : L2.St} {D : Ends}
variable {a b c : Expr} {ea eb ec : EV} {as : AV} {es : List Expr} {pos px : Pos} {st : Stmt} {rest : List Stmt} {sa sb : SV} {ta : TV} {x : Str} {i j : Nat}
theorem s_set {pos' : Pos} (hN : X.N.Nodup) (hi : X.N[i]? = some x) (hx : Loc X.env.scope x) (he : PE X a (TEof L W (ea F))) (hs : swapsWith a (some (.Name x pos')) pos.line X.env = pure false := by rfl) (hf : X.fn x = true ∨ X.env.scope.names.lookup x = some .local := by first | exact .inl rfl | exact .inr rfl | assumption) :
    PS X (.Assign [.Name x pos'] a pos) (TSof L W (sSet i ea F)) := PS.imp (ps_set hN hi hx he hs hf) fun D σ H h => by
  obtain ⟨M, env, re, P⟩ := h
  refine stE re P fun d e v H1 M1 A1 D1 P1 => ?_
  cases eb : bindD e i d with
  | none => rw [eb] at P1; exact P1.elim
  | some e2 =>
    rw [eb] at P1
    obtain ⟨M2, A2⟩ := bind_ok A1.aft D1 eb
    exact P1 _ H1 M2 A2
/-! ### targets -/
structure AftG (L : Lk) (M : Mu) (H : Hp) (env : Env) (σ : L2.St) (sl : List Nat) (M' : Mu) (env' : Env) (σ' : L2.St) : Prop where
  aft : Aft L M H env σ M' H env' σ'
  ob : ∀ i, isOb (getS env' i) = true → isOb (getS env i) = true
  st : ∀ j, j ∉ sl → σ'[j]? = σ[j]?
  ln : σ'.length = σ.length
def TGof (L : Lk) (gv : GV) (sl : List Nat) : TG := fun v σ H Q => ∃ M env g, RE L M H env σ ∧ RG L M H g v ∧ ∃ e1, gv g env = some e1 ∧ ∀ σ' M', AftG L M H env σ sl M' e1 σ' → Q σ' H
def TGsof (L : Lk) (gvs : List GV) (sl : List Nat) : TGs := fun vs σ H Q => ∃ M env gs, RE L M H env σ ∧ RGs L M H gs vs ∧ ∃ e1, gAll gvs gs env = some e1 ∧ ∀ σ' M', AftG L M H env σ sl M' e1 σ' → Q σ' H
theorem PGs.imp {t t' : TGs} (h : PGs X es t) (w : ∀ v σ H Q, t' v σ H Q → t v σ H Q) : PGs X es t' := ⟨fun pins s σ H v u Q I r q => h.run pins s σ H v u Q I r (w v σ H Q q)⟩
theorem g_name (hN : X.N.Nodup) (hi : X.N[i]? = some x) (hx : Loc X.env.scope x) (hf : X.fn x = true ∨ X.env.scope.names.lookup x = some .local := by first | exact .inl rfl | exact .inr rfl | assumption) : PG X (.Name x pos) (TGof L (gNm i) [i]) := PG.imp (pg_name hN hi hx hf) fun v σ H Q h => by
  obtain ⟨M, env, g, re, rg, e1, he, q⟩ := h
  refine q _ M ⟨set_slot (.refl re) he ⟨v, rfl, rg⟩ (fun z => by cases z) rfl, fun j hj => ?_, fun j hj => ?_, List.length_set ..⟩
  · obtain ⟨ee, hi', _⟩ := setS_eq he
    rw [ee, getS_set] at hj
    split at hj
    · cases hj
    · exact hj
  · exact List.getElem?_set_ne (fun z => hj (by rw [z]; exact List.mem_singleton.mpr rfl))
theorem gs_nil : PGs X [] (TGsof L [] []) := PGs.imp pgs_nil fun vs σ H Q h => by
  obtain ⟨M, env, gs, re, rg, e1, he, q⟩ := h
  cases gs with
  | nil =>
    simp only [gAll, Option.some.injEq] at he
    subst he
    unfold RGs at rg
    exact ⟨rg, q σ M ⟨.refl re, fun _ h => h, fun _ _ => rfl, rfl⟩⟩
  | cons g gs => simp [gAll] at he
variable {gv : GV} {gvs : List GV} {sl sl' : List Nat}
theorem gs_cons (h1 : PG X a (TGof L gv sl)) (h2 : PGs X es (TGsof L gvs sl')) (hs : (assignEach (a :: es) X.env).map (·.2) = assign a X.env :: (assignEach es X.env).map (·.2) := by rfl) : PGs X (a :: es) (TGsof L (gv :: gvs) (sl ++ sl')) := PGs.imp (pgs_cons h1 h2 hs) fun vs σ H Q h => by
  obtain ⟨M, env, gs, re, rg, e1, he, q⟩ := h
  cases gs with
  | nil => simp [gAll] at he
  | cons g gs =>
    simp only [gAll] at he
    split at he
    · rename_i e2 h2
      unfold RGs at rg
      obtain ⟨v, r, rfl, k1, k2⟩ := rg
      exact ⟨v, r, rfl, M, env, g, re, k1, e2, h2, fun σ2 M2 A2 => ⟨M2, e2, gs, A2.aft.re, RGs.to (A2.aft.ext re) _ _ k2, e1, he, fun σ' M' A => q σ' M' ⟨A2.aft.trans A.aft, fun i h => A2.ob i (A.ob i h), fun j hj => (A.st j fun z => hj (List.mem_append_right _ z)).trans (A2.st j fun z => hj (List.mem_append_left _ z)), A.ln.trans A2.ln⟩⟩⟩
    · cases he
theorem gAll_len : ∀ {gvs : List GV} {gs : List G} {e e1 : Env}, gAll gvs gs e = some e1 → gs.length = gvs.length
  | [], [], _, _, _ => rfl
  | [], _ :: _, _, _, h => by simp [gAll] at h
  | _ :: _, [], _, _, h => by simp [gAll] at h
  | t :: ts, g :: gs, e, e1, h => by
    simp only [gAll] at h
    split at h
    · simp [gAll_len h]
    · cases h
theorem PG.or {e : Expr} {t t' : TG} (h : PG X e t) (h' : PG X e t') : PG X e (fun v σ H Q => t v σ H Q ∨ t' v σ H Q) := ⟨fun pins s σ H v u Q I r q => by
  rcases q with q | q
  · exact h.run pins s σ H v u Q I r q
  · exact h'.run pins s σ H v u Q I r q⟩
theorem g_tup {k : Nat} (hk : X.K = L.K) (hc : X.calm = true) (h : PGs X es (TGsof L gvs sl)) (hn : (assignEach es X.env).length = gvs.length := by rfl) (hst : (assignEach es X.env).findIdx? (·.1) = none := by rfl) : PG X (.Tuple es k pos) (TGof L (gTp gvs) sl) := PG.imp (PG.or (pg_tup hc h hn hst) (pg_lst hc h hn hst)) fun v σ H Q h => by
  obtain ⟨M, env, g, re, rg, e1, he, q⟩ := h
  unfold gTp at he
  split at he
  · rename_i gs
    obtain ⟨p, vs, rfl, k, r, _⟩ := RV.sqt hk (.inl rg)
    exact .inl ⟨p, vs, rfl, k, by rw [← r.len]; exact gAll_len he, M, env, gs, re, r, e1, he, q⟩
  · rename_i gs
    obtain ⟨p, vs, rfl, k, _, r⟩ := RV.sql hk (.inl rg)
    exact .inr ⟨p, vs, rfl, k, by rw [← r.len]; exact gAll_len he, M, env, gs, re, r, e1, he, q⟩
  · cases he
theorem s_asg (he : PE X a (TEof L W (ea F))) (hg : PG X c (TGof L gv sl)) (hs : swapsWithSole [c] a pos.line X.env = pure false := by rfl) (hw : swappedStores [c] a X.env = pure none := by rfl)
    (h1 : (assignEach [c] X.env).map (·.2) = [assign c X.env] := by rfl) : PS X (.Assign [c] a pos) (TSof L W (sAsg gv ea F)) := PS.imp (ps_asg he hg hs hw h1) fun D σ H h => by
  obtain ⟨M, env, re, P⟩ := h
  refine stE re P fun d e v H1 M1 A1 D1 P1 => ?_
  split at P1
  · rename_i g e2 ef
    obtain ⟨M2, fz, ax⟩ := frz_ok A1.aft D1 ef
    cases eg : gv g e2 with
    | none => rw [eg] at P1; exact P1.elim
    | some e3 =>
      rw [eg] at P1
      exact ⟨M2, e2, g, ax.re, fz.rg, e3, eg, fun σ' M' A => P1 σ' H1 M' (ax.trans A.aft)⟩
  · exact P1.elim
/-- a value's binding leaves the others -/
theorem bind_rd {d : Ev.D} {v : V} (x : Aft L M0 H0 envA σ0 M H env σ) (D1 : RD L M H env σ H0 d v) (hd : isSl d = false) (h : bindD env i d = some env1) : ∃ M1, Aft L M0 H0 envA σ0 M1 H env1 (σ.set i (some v)) ∧
    ∀ d' v', isSl d' = false → RD L M H env σ H0 d' v' → (∀ x y, d' = .own x → d = .own y → v' ≠ v) → RD L M1 H env1 (σ.set i (some v)) H0 d' v' := by
  have main : ∀ {s : S} {M1 : Mu}, setS env i s = some env1 → Aft L M0 H0 envA σ0 M1 H env1 (σ.set i (some v)) → (∀ a, M1 a ↔ M a) → (isOb s = true → ∃ y, d = .own y) →
      ∀ d' v', isSl d' = false → RD L M H env σ H0 d' v' → (∀ x y, d' = .own x → d = .own y → v' ≠ v) → RD L M1 H env1 (σ.set i (some v)) H0 d' v' := fun {s M1} hs A hm hob d' v' hd' r ne => by
    have xt : Ext M H M1 H := fun a o e m => ⟨e, fun z => m ((hm a).mp z)⟩
    cases d' with
    | sl q => cases hd'
    | g y => exact RG.to xt _ _ r
    | own y =>
      obtain ⟨a, ev, m, n, ns, k, f⟩ := r
      obtain ⟨he, hi, _⟩ := setS_eq hs
      have hiσ : i < σ.length := by rw [← x.re.len]; exact hi
      have gs : ∀ j, getS env1 j = if j = i then s else getS env j := fun j => by rw [he, getS_set]; simp [hi]
      have gv : ∀ j, sv (σ.set i (some v)) j = if j = i then some v else sv σ j := fun j => by rw [sv_set]; simp [hiσ]
      have nsl : ∀ c, s ≠ .slf c := fun c z => by
        obtain ⟨y, ey⟩ := hob (by rw [z]; rfl)
        subst ey
        simp only [bindD] at h
        have := (setS_eq h).1
        have e1 := gs i
        rw [if_pos rfl, this, getS_set, if_pos ⟨rfl, hi⟩, z] at e1
        cases e1
      refine ⟨a, ev, (hm a).mpr m, fun ⟨j, w⟩ => ?_, fun j hj ej => ?_, k.to xt fun _ q => q, f⟩
      · rw [gs, gv] at w
        by_cases z : j = i
        · rw [if_pos z, if_pos z] at w
          rcases w with ⟨w1, w2⟩ | ⟨c, _, _, _, w, _⟩
          · obtain ⟨y', ey⟩ := hob (isOb_of_mu w1)
            exact ne _ _ rfl ey (by rw [ev]; exact (Option.some.inj w2).symm)
          · exact nsl c w
        · rw [if_neg z, if_neg z] at w
          exact n ⟨j, w⟩
      · rw [gs] at hj
        rw [gv] at ej
        by_cases z : j = i
        · rw [if_pos z] at hj ej
          obtain ⟨y', ey⟩ := hob hj
          exact ne _ _ rfl ey (by rw [ev]; exact (Option.some.inj ej).symm)
        · rw [if_neg z] at hj ej
          exact ns j hj ej
  cases d with
  | sl q => cases hd
  | g y =>
    have h : setS env i (.val y) = some env1 := h
    have A := set_slot x h ⟨v, rfl, D1⟩ (fun z => by cases z) rfl
    exact ⟨M, A, main h A (fun _ => Iff.rfl) fun z => by cases z⟩
  | own y =>
    have h : setS env i (.obj y) = some env1 := h
    obtain ⟨a, h1, h2, h3, h4, h5, h6⟩ := D1
    subst h1
    have A := set_slot x h ⟨a, rfl, h2, h5⟩ (fun _ => ⟨a, rfl, h6, h4⟩) rfl
    exact ⟨M, A, main h A (fun _ => Iff.rfl) fun _ => ⟨y, rfl⟩⟩
theorem ixN_nat' {n j : Nat} (hj : j < n) : ixN n (j : Int) = some j := by
  unfold ixN
  rw [if_pos (by omega), if_pos (by omega)]
  simp
def setAll (σ : L2.St) : List Nat → List V → L2.St
  | i :: is, v :: vs => setAll (σ.set i (some v)) is vs
  | _, _ => σ
theorem par_ok : ∀ {is : List Nat} {ds : List Ev.D} {vs : List V} {env env1 : Env} {σ : L2.St} {M : Mu}, Aft L M0 H0 envA σ0 M H env σ → RDs L M H env σ H0 ds vs → parSet is ds env = some env1 → vs.length = is.length ∧ ∃ M1, Aft L M0 H0 envA σ0 M1 H env1 (setAll σ is vs)
  | [], [], vs, env, env1, σ, M, x, D, h => by
    simp only [parSet, Option.some.injEq] at h; subst h
    have : vs = [] := D
    subst this
    exact ⟨rfl, M, x⟩
  | [], _ :: _, _, _, _, _, _, _, _, h => by simp [parSet] at h
  | _ :: _, [], _, _, _, _, _, _, _, h => by simp [parSet] at h
  | i :: is, d :: ds, vs, env, env1, σ, M, x, D, h => by
    simp only [parSet] at h
    split at h
    · cases h
    · rename_i hsl
      split at h
      · rename_i e2 eb
        obtain ⟨v, r, rfl, h1, h2, h3⟩ := D
        obtain ⟨M2, A2, rd⟩ := bind_rd x h1 (by simpa using hsl) eb
        have nos : ∀ {is : List Nat} {ds : List Ev.D} {e e1 : Env}, parSet is ds e = some e1 → ∀ d ∈ ds, isSl d = false := by
          intro is
          induction is with
          | nil =>
            intro ds e e1 h d hd
            cases ds with
            | nil => cases hd
            | cons _ _ => simp [parSet] at h
          | cons i is ih =>
            intro ds e e1 h d hd
            cases ds with
            | nil => cases hd
            | cons d0 ds =>
              simp only [parSet] at h
              split at h
              · cases h
              · rename_i hh
                split at h
                · rcases List.mem_cons.mp hd with rfl | hd
                  · simpa using hh
                  · exact ih h d hd
                · cases h
        have hn := nos h
        have D2 : RDs L M2 H e2 (σ.set i (some v)) H0 ds r := by
          clear h
          induction ds generalizing r with
          | nil => exact h2
          | cons d' ds ih =>
            obtain ⟨v', r', rfl, k1, k2, k3⟩ := h2
            refine ⟨v', r', rfl, rd _ _ (hn d' (List.mem_cons_self ..)) k1 fun a b ea eb => ?_, ih _ k2 (fun z ez y hy w ew => h3 z ez y (by rw [List.zip_cons_cons]; exact List.mem_cons_of_mem _ hy) w ew) (fun d hd => hn d (List.mem_cons_of_mem _ hd)), k3⟩
            exact h3 b eb (d', v') (by rw [List.zip_cons_cons]; exact List.mem_cons_self ..) a ea
        obtain ⟨l, M3, A3⟩ := par_ok A2 D2 h
        exact ⟨by simp [l], M3, A3⟩
      · cases h
theorem s_par2 {y : Str} {py pt : Pos} {kt k2 pt2} (hc : X.calm = true) (hN : X.N.Nodup) (hi : X.N[i]? = some x) (hj : X.N[j]? = some y) (hij : i ≠ j)
    (hx : X.env.scope.names.lookup x = some .local) (hy : X.env.scope.names.lookup y = some .local) (ha : PA X [a, b] (TAof L W (as F)))
    (hw : swappedStores [.Tuple [.Name x px, .Name y py] kt pt] (.Tuple [a, b] k2 pt2) X.env = pure (some [x, y]) := by rfl)
    (hs : swapsWithSole [.Tuple [.Name x px, .Name y py] kt pt] (.Tuple [a, b] k2 pt2) pos.line X.env = pure false := by rfl) :
    PS X (.Assign [.Tuple [.Name x px, .Name y py] kt pt] (.Tuple [a, b] k2 pt2) pos) (TSof L W (sPar [i, j] as F)) := PS.imp (ps_par hc hN hi hj hij hx hy ha hw hs) fun D σ H h => by
  obtain ⟨M, env, re, P⟩ := h
  refine stA re P fun ds e vs H1 M1 A1 D1 P1 => ?_
  cases ep : parSet [i, j] ds e with
  | none => rw [ep] at P1; exact P1.elim
  | some e2 =>
    rw [ep] at P1
    obtain ⟨l, M2, A2⟩ := par_ok A1.aft D1 ep
    match vs, l, A2 with
    | [v, w], _, A2 => exact ⟨v, w, rfl, P1 _ H1 M2 A2⟩
theorem s_par3 {l : Nat} {y z : Str} {py pz pt : Pos} {kt k2 pt2} (hc : X.calm = true) (hN : X.N.Nodup) (hi : X.N[i]? = some x) (hj : X.N[j]? = some y) (hl : X.N[l]? = some z) (hij : i ≠ j) (hil : i ≠ l) (hjl : j ≠ l)
    (hx : X.env.scope.names.lookup x = some .local) (hy : X.env.scope.names.lookup y = some .local) (hz : X.env.scope.names.lookup z = some .local) (ha : PA X [a, b, c] (TAof L W (as F)))
    (hw : swappedStores [.Tuple [.Name x px, .Name y py, .Name z pz] kt pt] (.Tuple [a, b, c] k2 pt2) X.env = pure (some [x, y, z]) := by rfl)
    (hs : swapsWithSole [.Tuple [.Name x px, .Name y py, .Name z pz] kt pt] (.Tuple [a, b, c] k2 pt2) pos.line X.env = pure false := by rfl) :
    PS X (.Assign [.Tuple [.Name x px, .Name y py, .Name z pz] kt pt] (.Tuple [a, b, c] k2 pt2) pos) (TSof L W (sPar [i, j, l] as F)) := PS.imp (ps_par3 hc hN hi hj hl hij hil hjl hx hy hz ha hw hs) fun D σ H h => by
  obtain ⟨M, env, re, P⟩ := h
  refine stA re P fun ds e vs H1 M1 A1 D1 P1 => ?_
  cases ep : parSet [i, j, l] ds e with
  | none => rw [ep] at P1; exact P1.elim
  | some e2 =>
    rw [ep] at P1
    obtain ⟨ll, M2, A2⟩ := par_ok A1.aft D1 ep
    match vs, ll, A2 with
    | [u, v, w], _, A2 => exact ⟨u, v, w, rfl, P1 _ H1 M2 A2⟩
/-- name op= e, ints -/
theorem s_aug {op : Operator} {o : B2} {g : Int → Int → Int} {pos' : Pos} (ho : PIp X op (ipI g)) (hg : ∀ a b, augI o a b = some (g a b)) (hN : X.N.Nodup) (hi : X.N[i]? = some x) (hx : Loc X.env.scope x) (he : PE X a (TEof L W (ea F)))
    (hf : X.fn x = true ∨ X.env.scope.names.lookup x = some .local := by first | exact .inl rfl | exact .inr rfl | assumption) : PS X (.AugAssign (.Name x pos') op a pos) (TSof L W (sAug i o ea F)) := PS.imp (ps_aug hN hi hx he ho hf) fun D σ H h => by
  obtain ⟨M, env, re, P⟩ := h
  have q := re.at_ i
  unfold sAug at P
  split at P
  · rename_i a0 es
    rw [es] at q
    obtain ⟨v, ev, rg⟩ := q
    unfold RG at rg; subst rg
    refine ⟨_, sv_some ev, stE re P fun d e v H1 M1 A1 D1 P1 => ?_⟩
    split at P1
    · rename_i b0 ex
      simp only [hg, forceI_eq] at P1
      refine ⟨a0, b0, rfl, (A1.re.view D1 ex).int, ?_⟩
      cases et : setS e i (.val (.int (g a0 b0))) with
      | none => rw [et] at P1; exact P1.elim
      | some e2 =>
        rw [et] at P1
        exact P1 _ H1 M1 (set_slot A1.aft et ⟨_, rfl, rg_int⟩ (fun z => by cases z) rfl)
    · exact P1.elim
  · exact P.elim
/-! ### o[i] = v -/
theorem set_any (hu : X.A.units + 1 < cLine) : PSet X (fun o i v H Q => rSetL o i v H Q ∨ rSetD o i v H Q) := by
  intro pins s σ H o i v ov iv u Q I ro ri rv h
  rcases h with h | h
  · exact set_list pins s σ H o i v ov iv u Q I ro ri rv h
  · exact set_dict hu pins s σ H o i v ov iv u Q I ro ri rv h
theorem putK_rel {kk : Key} {g : G} {v : V} (hg : RG L M H g v) : ∀ {kvs : List (Key × V)} {xs : List G}, RGs L M H xs (kvs.map (·.2)) → (Ev.putK (keyG kk) g (kvs.map fun p => keyG p.1) xs).1 = (L2.putK kvs kk v).map (fun p => keyG p.1) ∧ RGs L M H (Ev.putK (keyG kk) g (kvs.map fun p => keyG p.1) xs).2 ((L2.putK kvs kk v).map (·.2)) := by
  intro kvs xs r
  have any : (kvs.map fun p => keyG p.1).any (fun x => keyB x (keyG kk)) = kvs.any fun kv => decide (kv.1 = kk) := by
    rw [List.any_map]
    congr 1
    funext p
    exact keyB_key _ _
  unfold Ev.putK L2.putK
  rw [any]
  by_cases h : (kvs.any fun kv => decide (kv.1 = kk)) = true
  · rw [if_pos h, if_pos h]
    refine ⟨?_, ?_⟩
    · rw [List.map_map]
      show kvs.map (fun p => keyG p.1) = _
      refine List.map_congr_left fun p _ => ?_
      simp only [Function.comp]
      split <;> rfl
    · clear h any
      simp only
      induction kvs generalizing xs with
      | nil =>
        unfold RGs at r
        cases xs with
        | nil => exact .nil
        | cons x xs => simp at r
      | cons p kvs ih =>
        cases xs with
        | nil => unfold RGs at r; simp at r
        | cons x xs =>
          simp only [List.map_cons] at r ⊢
          unfold RGs at r
          obtain ⟨w, t, e, h1, h2⟩ := r
          simp only [List.cons.injEq] at e
          obtain ⟨e1, e2⟩ := e
          subst e1 e2
          simp only [setK, keyB_key]
          refine .cons ?_ (ih h2)
          by_cases z : p.1 = kk
          · simp only [z, decide_true, if_true]; exact hg
          · simp only [z, decide_false, Bool.false_eq_true, if_false]; exact h1
  · rw [if_neg h, if_neg h]
    refine ⟨by simp, ?_⟩
    simp only [List.map_append, List.map_cons, List.map_nil]
    exact r.app (.cons hg .nil)
theorem rc_dct {xs : List G} {kvs : List (Key × V)} {l : Addr} (h : RGs L M H xs (kvs.map (·.2))) (m : M l) : RC L M (L2.upd H l (.dK kvs)) (.dct (kvs.map fun p => keyG p.1) xs) l := by
  unfold RC
  exact ⟨kvs, upd_same, rfl, RGs.to (fun b u eb mb => ⟨by rw [upd_ne (fun z => mb (by rw [z]; exact m))]; exact eb, mb⟩) _ _ h⟩
theorem s_setI {ix : Expr} {ei : EV} {pos' : Pos} (hu : X.A.units + 1 < cLine) (hN : X.N[i]? = some x) (hv : Vis X.env.scope x) (hi : PE X ix (TEof L W (ei F))) (he : PE X a (TEof L W (ea F)))
    (hd : (x == ("__debug__" : Str)) = false := by decide) (hcd : (x == ("__classdict__" : Str)) = false := by decide)
    (ha : ∀ v, assign (.Subscript (.Name x px) ix pos') X.env v = (do
      let ov ← holding [v] (eval (.Name x px) X.env)
      let iv ← holding [v, ov] (eval ix X.env)
      standAt pos'
      holding [v, ov, iv] (setItem ov iv v)
      release [v, ov, iv] []) := by intro _; rfl)
    (hs : swapsWithSole [.Subscript (.Name x px) ix pos'] a pos.line X.env = pure false := by rfl) (hw : swappedStores [.Subscript (.Name x px) ix pos'] a X.env = pure none := by rfl)
    (h1 : (assignEach [.Subscript (.Name x px) ix pos'] X.env).map (·.2) = [assign (.Subscript (.Name x px) ix pos') X.env] := by rfl) :
    PS X (.Assign [.Subscript (.Name x px) ix pos'] a pos) (TSof L W (sSetI i ei ea F)) := PS.imp (ps_asg he (pg_sub (pe_var hN hv hd hcd) hi (set_any hu) ha) hs hw h1) fun D σ H h => by
  obtain ⟨M, env, re, P⟩ := h
  unfold sSetI at P
  split at P
  · rename_i ho
    obtain ⟨g0, eo⟩ := Option.isSome_iff_exists.mp ho
    obtain ⟨l, el, _, _⟩ := obj_at re eo
    refine stE re P fun d e v H1 M1 A1 D1 P1 => ⟨.ref l, sv_some el, stE' A1 P1 fun k e2 kv H2 M2 A2 A2' D2 P2 => ?_⟩
    have D1' := D1.to A2'.aft A1.re A2'.ob
    split at P2
    · rename_i kg g e3 ek ef
      have kview := A2.re.view D2 ek
      obtain ⟨M3, fz, ax⟩ := frz_ok A2.aft D1' ef
      have A3 : AftE L M H env σ M3 H2 e3 := ⟨ax, fun i hi => A2.ob i (fz.ob i hi)⟩
      split at P2
      · rename_i o eo3
        split at P2
        · rename_i o' est
          obtain ⟨l', el', rc, ml⟩ := obj_at A3.re eo3
          rw [el] at el'; cases el'
          cases ep : putO e3 i o' with
          | none => rw [ep] at P2; exact P2.elim
          | some e4 =>
            rw [ep] at P2
            have fin : ∀ ho, RC L M3 (L2.upd H2 l ho) o' l → D.nx σ (L2.upd H2 l ho) := fun ho rk => P2 σ _ M3 (A3.trans (putO_ok A3.re eo3 el rk ep)).aft
            unfold storeG at est
            split at est
            · rename_i xs
              split at est
              · rename_i j0
                simp only [Option.ite_none_right_eq_some, Bool.and_eq_true, decide_eq_true_eq, Option.some.injEq] at est
                obtain ⟨⟨q0, q1⟩, rfl⟩ := est
                unfold RC at rc
                obtain ⟨vs, hv2, rgs⟩ := rc
                have hl := rgs.len
                refine .inl ⟨l, vs, j0, j0.toNat, rfl, kview.int, hv2, ?_, fin _ (rc_lst (rgs.set fz.rg _) ml)⟩
                have : ixN vs.length ((j0.toNat : Nat) : Int) = some j0.toNat := ixN_nat' (by omega)
                rwa [Int.toNat_of_nonneg q0] at this
              · cases est
            · rename_i ks xs
              simp only [Option.ite_none_right_eq_some, Bool.and_eq_true, decide_eq_true_eq, Option.some.injEq] at est
              obtain ⟨⟨q0, q1⟩, rfl⟩ := est
              unfold RC at rc
              obtain ⟨kvs, hv2, rfl, rgs⟩ := rc
              have hkv : RG L M2 H2 kg kv := kview.flat (by cases kg <;> simp_all [isKey, flatG])
              obtain ⟨kk, rfl, rfl⟩ := rv_key hkv q0
              obtain ⟨p1, p2⟩ := putK_rel (kk := kk) fz.rg rgs
              have := line100
              rw [List.length_map] at q1
              refine .inr ⟨l, _, rfl, DPut.k hv2 (by omega), fin _ ?_⟩
              rw [p1]
              exact rc_dct p2 ml
            · cases est
        · exact P2.elim
      · exact P2.elim
    · exact P2.elim
  · exact P.elim
end
end Ev

end
section
set_option linter.all false
set_option maxRecDepth 100000
set_option maxHeartbeats 4000000
namespace Ev
open PySem PySem.Spec PyProof.Rows L2
theorem wipeE_len (e : Env) : ∀ vs, (wipeE e vs).length = e.length
  | [] => rfl
  | v :: vs => by simp [wipeE, wipeE_len e vs]
theorem getS_wipe : ∀ (vs : List Nat) (e : Env) (j : Nat), getS (wipeE e vs) j = if j ∈ vs then .non else getS e j
  | [], e, j => by simp [wipeE]
  | v :: vs, e, j => by
    rw [wipeE, getS_set, getS_wipe vs e j]
    by_cases h : j = v
    · subst h
      by_cases hl : j < (wipeE e vs).length
      · simp [hl]
      · simp [hl]
        intro _
        rw [wipeE_len] at hl
        unfold getS; rw [List.getElem?_eq_none (by omega)]; rfl
    · simp [h]
theorem sv_wipe : ∀ (vs : List Nat) (σ : L2.St) (j : Nat), sv (wipe σ vs) j = if j ∈ vs then none else sv σ j
  | [], σ, j => by simp [wipe]
  | v :: vs, σ, j => by
    rw [wipe, sv_set, sv_wipe vs σ j]
    by_cases h : j = v
    · subst h
      by_cases hl : j < (wipe σ vs).length
      · simp [hl]
      · simp [hl]
        intro _
        rw [wipe_length] at hl
        unfold sv; rw [List.getElem?_eq_none (by omega)]
    · simp [h]
/-- what is walked, as it is seen at each turn -/
structure Src (L : Lk) (K : PySem.W.Frag) (J : It) (gs : List G) (S : Mu → Hp → Env → L2.St → Prop) : Prop where
  keep : ∀ M H e σ M' H' e' σ', RE L M H e σ → S M H e σ → Aft L M H e σ M' H' e' σ' → S M' H' e' σ'
  go : ∀ M H e σ i, RE L M H e σ → S M H e σ → i < gs.length → J.go i H
  yld : ∀ M H e σ i x H', RE L M H e σ → S M H e σ → i < gs.length → J.yld i H x H' → ∃ g M', gs[i]? = some g ∧ (∀ a o, H a = some o → H' a = some o ∧ (M' a ↔ M a)) ∧ RG L M' H' g x
  stop : ∀ M H e σ i, RE L M H e σ → S M H e σ → gs.length ≤ i → J.stop i H
  wip : ∀ M H e σ nm, RE L M H e σ → (∀ v ∈ nm, isLck (getS e v) = false) → S M H e σ → S M H (wipeE e nm) (wipe σ nm)
  upd : ∀ M H e σ q o, M q → S M H e σ → S M (L2.upd H q o) e σ
def TIof (L : Lk) (W : WX) (ev : Env → R (List G × Option Nat)) : TI := fun σ H Rr => ∃ M env, RE L M H env σ ∧ PostE L W σ M H env (fun xl e => ∀ J S H' M', AftE L M H env σ M' H' e → (∀ k, xl.2 = some k → ∃ g, objOf e k = some g) → Src L L.K J xl.1 S → (∀ M2 H2 e2, (e2 = lockO xl.2 e) → M2 = M' → H2 = H' → S M2 H2 e2 σ) → Rr J H') (ev env)
section
variable {L : Lk} {X : Cx} {W : WX} {F : FF} {M M0 M1 M2 M' : Mu} {H H0 H1 H2 H' : Hp} {env envA env1 env2 e e1 : Env} {σ σ0 σ1 σ' : L2.St} {D : Ends}
variable {a b c tg : Expr} {ea eb ec : EV} {as : AV} {es : List Expr} {pos p px : Pos} {st : Stmt} {rest : List Stmt} {sa sb : SV} {ta : TV} {x : Str} {i j : Nat}
theorem PI.imp' {t t' : TI} (h : PI X tg a t) (w : ∀ σ H R, t' σ H R → t σ H R) : PI X tg a t' := PI.imp h w
/-- a value that does not change -/
theorem src_tup {gs : List G} {q : Addr} : Src L L.K (Itt L.K q) gs (fun M H e σ => RG L M H (.tup gs) (.ref q)) := by
  refine ⟨fun M H e σ M' H' e' σ' r h x => RG.to (x.ext r) _ _ h, fun M H e σ i r h hi => ?_, fun M H e σ i x H' r h _ y => ?_, fun M H e σ i r h hi => ?_, fun _ _ _ _ _ _ _ h => h, fun M H e σ q o m h => RG.to (fun b u eb mb => ⟨by rw [upd_ne (fun z => mb (by rw [z]; exact m))]; exact eb, mb⟩) _ _ h⟩
  · obtain ⟨a, vs, ea, k, rs, _⟩ := RV.tup (.inl h)
    cases ea
    obtain ⟨v, ev, _⟩ := rs.get (List.getElem?_eq_getElem hi)
    exact ⟨vs, v, k, ev⟩
  · obtain ⟨a, vs, ea, k, rs, _⟩ := RV.tup (.inl h)
    cases ea
    obtain ⟨rfl, f⟩ := y
    obtain ⟨g, eg, rg⟩ := rs.getV (f vs k)
    exact ⟨g, M, eg, fun _ _ e => ⟨e, Iff.rfl⟩, rg⟩
  · obtain ⟨a, vs, ea, k, rs, _⟩ := RV.tup (.inl h)
    cases ea
    exact ⟨vs, k, by rw [← rs.len]; exact hi⟩
theorem src_lst {gs : List G} {q : Addr} : Src L L.K (Itl L.K q) gs (fun M H e σ => RG L M H (.lst gs) (.ref q)) := by
  refine ⟨fun M H e σ M' H' e' σ' r h x => RG.to (x.ext r) _ _ h, fun M H e σ i r h hi => ?_, fun M H e σ i x H' r h _ y => ?_, fun M H e σ i r h hi => ?_, fun _ _ _ _ _ _ _ h => h, fun M H e σ q o m h => RG.to (fun b u eb mb => ⟨by rw [upd_ne (fun z => mb (by rw [z]; exact m))]; exact eb, mb⟩) _ _ h⟩
  · obtain ⟨a, vs, ea, k, _, rs⟩ := RV.lst (.inl h)
    cases ea
    obtain ⟨v, ev, _⟩ := rs.get (List.getElem?_eq_getElem hi)
    exact ⟨vs, v, k, ev⟩
  · obtain ⟨a, vs, ea, k, _, rs⟩ := RV.lst (.inl h)
    cases ea
    obtain ⟨rfl, f⟩ := y
    obtain ⟨g, eg, rg⟩ := rs.getV (f vs k)
    exact ⟨g, M, eg, fun _ _ e => ⟨e, Iff.rfl⟩, rg⟩
  · obtain ⟨a, vs, ea, k, _, rs⟩ := RV.lst (.inl h)
    cases ea
    exact ⟨vs, k, by rw [← rs.len]; exact hi⟩
/-- a slot's list -/
theorem src_slot {gs : List G} {q : Addr} {k : Nat} {l : Bool} : Src L L.K (Itl L.K q) gs (fun M H e σ => getS e k = .lck l (.lst gs) ∧ sv σ k = some (.ref q)) := by
  have at_ : ∀ {M H e σ}, RE L M H e σ → (getS e k = .lck l (.lst gs) ∧ sv σ k = some (.ref q)) → ∃ vs, SqL L.K H q vs ∧ RGs L M H gs vs := fun {M H e σ} r h => by
    have rk := r.at_ k
    rw [h.1, h.2] at rk
    obtain ⟨a, ea, m, rc⟩ := rk
    cases ea
    unfold RC at rc
    obtain ⟨vs, hv, rs⟩ := rc
    exact ⟨vs, .inl (.inl hv), rs⟩
  refine ⟨fun M H e σ M' H' e' σ' r h x => ?_, fun M H e σ i r h hi => ?_, fun M H e σ i x H' r h _ y => ?_, fun M H e σ i r h hi => ?_, fun M H e σ nm r hn h => ?_, fun _ _ _ _ _ _ _ h => h⟩
  · obtain ⟨h1, h2⟩ := x.lk k _ _ h.1
    exact ⟨h1, h2.trans h.2⟩
  · obtain ⟨vs, k, rs⟩ := at_ r h
    obtain ⟨v, ev, _⟩ := rs.get (List.getElem?_eq_getElem hi)
    exact ⟨vs, v, k, ev⟩
  · obtain ⟨vs, k, rs⟩ := at_ r h
    obtain ⟨rfl, f⟩ := y
    obtain ⟨g, eg, rg⟩ := rs.getV (f vs k)
    exact ⟨g, M, eg, fun _ _ e => ⟨e, Iff.rfl⟩, rg⟩
  · obtain ⟨vs, k, rs⟩ := at_ r h
    exact ⟨vs, k, by rw [← rs.len]; exact hi⟩
  · have kn : k ∉ nm := fun z => by have := hn k z; rw [h.1] at this; cases this
    rw [getS_wipe, sv_wipe, if_neg kn, if_neg kn]
    exact h
theorem rangeG_len : ∀ (n : Nat) (lo : Int), (rangeG lo n).length = n
  | 0, _ => rfl
  | n + 1, lo => by simp [rangeG, rangeG_len n]
theorem rangeG_get : ∀ (n : Nat) (lo : Int) (i : Nat), i < n → (rangeG lo n)[i]? = some (.int (lo + i))
  | 0, _, _, h => by omega
  | n + 1, lo, 0, _ => by simp [rangeG]
  | n + 1, lo, i + 1, h => by
    rw [rangeG, List.getElem?_cons_succ, rangeG_get n (lo + 1) i (by omega)]
    congr 2
    omega
theorem src_range {lo : Int} {n : Nat} : Src L L.K (Itr lo n) (rangeG lo n) (fun _ _ _ _ => True) := by
  refine ⟨fun _ _ _ _ _ _ _ _ _ _ _ => True.intro, fun M H e σ i r _ hi => ?_, fun M H e σ i x H' r _ hi y => ?_, fun M H e σ i r _ hi => ?_, fun _ _ _ _ _ _ _ _ => True.intro, fun _ _ _ _ _ _ _ _ => True.intro⟩
  · rw [rangeG_len] at hi; exact hi
  · obtain ⟨rfl, rfl⟩ := y
    rw [rangeG_len] at hi
    exact ⟨_, M, rangeG_get n lo i hi, fun _ _ e => ⟨e, Iff.rfl⟩, rg_int⟩
  · rw [rangeG_len] at hi; exact hi
/-! ### what is walked: the rules -/
theorem stI {ev : Env → R (List G × Option Nat)} {k : List G × Option Nat → Env → RS} {Q : It → Hp → Prop} (re : RE L M H env σ) (P : PostS L W σ M H env D ((ev env).st k))
    (h : ∀ xl e J S H1 M1, AftE L M H env σ M1 H1 e → (∀ k, xl.2 = some k → ∃ g, objOf e k = some g) → Src L L.K J xl.1 S → S M1 H1 (lockO xl.2 e) σ → PostS L W σ M H env D (k xl e) → Q J H1) : TIof L W ev σ H Q := by
  refine ⟨M, env, re, ?_⟩
  cases e : ev env with
  | ok d e1 => rw [e] at P; exact fun J S H1 M1 A1 ho sr s0 => h d e1 J S H1 M1 A1 ho sr (s0 _ _ _ rfl rfl rfl) P
  | exn c p e1 => rw [e] at P; exact fun cls dd H' M' A1 r => P cls dd σ H' M' A1.aft r
  | bad => rw [e] at P; exact P
theorem goI {β : Type} {ok : β → Env → Prop} {ev : Env → R (List G × Option Nat)} {k : List G × Option Nat → Env → R β} {Q : It → Hp → Prop} (re : RE L M H env σ) (P : PostE L W σ M H env ok ((ev env).bind k))
    (h : ∀ xl e J S H1 M1, AftE L M H env σ M1 H1 e → (∀ k, xl.2 = some k → ∃ g, objOf e k = some g) → Src L L.K J xl.1 S → S M1 H1 (lockO xl.2 e) σ → PostE L W σ M H env ok (k xl e) → Q J H1) : TIof L W ev σ H Q := by
  refine ⟨M, env, re, ?_⟩
  cases e : ev env with
  | ok d e1 => rw [e] at P; exact fun J S H1 M1 A1 ho sr s0 => h d e1 J S H1 M1 A1 ho sr (s0 _ _ _ rfl rfl rfl) P
  | exn c p e1 => rw [e] at P; exact fun cls dd H' M' A1 r => P cls dd H' M' A1 r
  | bad => rw [e] at P; exact P
/-- a value of the frame that nothing else holds any more, or one that does not change -/
theorem view_rg {d : Ev.D} {v : V} {g : G} (hd : isSl d = false) (A : AftE L M H env σ M1 H1 e) (D1 : RD L M1 H1 e σ H d v) (hv : view d e = some g) : ∃ M2, AftE L M H env σ M2 H1 e ∧ RG L M2 H1 g v := by
  have ef : frz d e = some (g, e) := by
    cases d with
    | g x => simp only [view, Option.some.injEq] at hv; subst hv; rfl
    | own x => simp only [view, Option.some.injEq] at hv; subst hv; rfl
    | sl q => cases hd
  obtain ⟨M2, fz, ax⟩ := frz_ok A.aft D1 ef
  exact ⟨M2, ⟨ax, A.ob⟩, fz.rg⟩
def iSeq (K : PySem.W.Frag) (tl : TE) : TI := fun σ H R => tl σ H fun x H1 => (∃ a, x = .ref a ∧ (∃ xs, SqL K H1 a xs) ∧ R (Itl K a) H1) ∨ ∃ a, x = .ref a ∧ (∃ xs, SqT K H1 a xs) ∧ R (Itt K a) H1
theorem pi_seq {l : Expr} {tl : TE} (hl : PE X l tl) : PI X tg l (iSeq X.K tl) := by
  refine ⟨fun pins s σ H R I h => ?_⟩
  refine thn (hl.run pins s σ H _ I h) fun v s1 ⟨x, H1, I1, r1, q1⟩ => ?_
  rcases q1 with ⟨a, e, ⟨xs, hq⟩, q⟩ | ⟨a, e, ⟨xs, hq⟩, q⟩
  · subst e
    cases r1
    obtain ⟨its, rv, p, hz⟩ := I1.list hq
    refine wpAny_pyIter_list p.isList ?_
    refine ⟨s1.heap.objs.size, [s1.heap.objs.size], _, _, H1, rfl, I1.kept (t' := s1.toks) fun b o e => Heap.get?_push_of_some _ e, turn_list a _, ⟨_, Heap.get?_push_size _ rfl, rfl, rfl⟩, fun b hb => ?_, q⟩
    have e : b = s1.heap.objs.size := by simpa using hb
    subst e
    exact I1.fpOk (Nat.le_refl _) (I1.hok.fresh (Nat.le_refl _))
  · subst e
    cases r1
    obtain ⟨its, rv, p, hz⟩ := I1.tuple hq
    refine wpAny_pyIter_tuple (show s1.heap.IsTuple a its.toArray from p) ?_
    refine ⟨s1.heap.objs.size, [s1.heap.objs.size], _, _, H1, rfl, I1.kept (t' := s1.toks) fun b o e => Heap.get?_push_of_some _ e, turn_tuple a _, ⟨_, Heap.get?_push_size _ rfl, rfl, rfl⟩, fun b hb => ?_, q⟩
    have e : b = s1.heap.objs.size := by simpa using hb
    subst e
    exact I1.fpOk (Nat.le_refl _) (I1.hok.fresh (Nat.le_refl _))
theorem i_seq (hk : X.K = L.K) (ha : PE X a (TEof L W (ea F))) : PI X tg a (TIof L W (iE ea F)) := by
  refine PI.imp (pi_seq ha) fun σ H R h => ?_
  obtain ⟨M, env, re, P⟩ := h
  refine goE (.refl re) P fun d e v H1 M1 A1 A1' D1 P1 => ?_
  split at P1
  · rename_i gs ev
    obtain ⟨M2, A2, rg⟩ : ∃ M2, AftE L M H env σ M2 H1 e ∧ RG L M2 H1 (.tup gs) v := by
      obtain ⟨a, vs, ea, k, rs, rg⟩ := (A1.re.view D1 ev).tup
      exact ⟨M1, A1, rg⟩
    obtain ⟨q, vs, rfl, k, rs, _⟩ := RV.sqt hk (.inl rg)
    refine .inr ⟨q, rfl, ⟨vs, k⟩, ?_⟩
    rw [hk]
    exact P1 _ _ H1 M2 A2 (fun k z => by cases z) src_tup (fun _ _ _ _ e2 e3 => by rw [e2, e3]; exact rg)
  · rename_i gs ev
    cases d with
    | g y =>
      obtain ⟨M2, A2, rg⟩ := view_rg rfl A1 D1 ev
      obtain ⟨q, vs, rfl, k, _, rs⟩ := RV.sql hk (.inl rg)
      refine .inl ⟨q, rfl, ⟨vs, k⟩, ?_⟩
      rw [hk]
      exact P1 _ _ H1 M2 A2 (fun k z => by cases z) src_lst (fun _ _ _ _ e2 e3 => by rw [e2, e3]; exact rg)
    | own y =>
      obtain ⟨M2, A2, rg⟩ := view_rg rfl A1 D1 ev
      obtain ⟨q, vs, rfl, k, _, rs⟩ := RV.sql hk (.inl rg)
      refine .inl ⟨q, rfl, ⟨vs, k⟩, ?_⟩
      rw [hk]
      exact P1 _ _ H1 M2 A2 (fun k z => by cases z) src_lst (fun _ _ _ _ e2 e3 => by rw [e2, e3]; exact rg)
    | sl k =>
      have hv : sv σ k = some v := D1
      obtain ⟨q, vs, rfl, kk, _, rs⟩ := (A1.re.view D1 ev).sql hk
      refine .inl ⟨q, rfl, ⟨vs, kk⟩, ?_⟩
      rw [hk]
      have q0 := A1.re.at_ k
      simp only at P1
      simp only [view] at ev
      cases es : getS e k <;> rw [es] at P1 ev q0 <;> simp only [Option.some.injEq, reduceCtorEq] at ev <;> subst ev
      · obtain ⟨w, ew, rg⟩ := q0
        rw [hv] at ew; cases ew
        exact P1 _ _ H1 M1 A1 (fun k z => by cases z) src_lst (fun _ _ _ _ e2 e3 => by rw [e2, e3]; exact rg)
      · refine P1 _ _ H1 M1 A1 (fun k' z => by cases z; exact ⟨_, by unfold objOf; rw [es]⟩) (src_slot (k := k) (l := false)) (fun _ _ _ e1 _ _ => ?_)
        rw [e1]
        refine ⟨?_, hv⟩
        show getS (lock e k) k = _
        unfold lock
        rw [es]
        simp only
        rw [getS_set, if_pos ⟨rfl, getS_lt (by rw [es]; exact fun z => by cases z)⟩]
      · refine P1 _ _ H1 M1 A1 (fun k' z => by cases z; exact ⟨_, by unfold objOf; rw [es]⟩) (src_slot (k := k) (l := true)) (fun _ _ _ e1 _ _ => ?_)
        rw [e1]
        refine ⟨?_, hv⟩
        show getS (lock e k) k = _
        unfold lock
        rw [es]
        simp only
        rw [getS_set, if_pos ⟨rfl, getS_lt (by rw [es]; exact fun z => by cases z)⟩]
      · obtain ⟨w, ew, rg⟩ := q0
        rw [hv] at ew; cases ew
        exact P1 _ _ H1 M1 A1 (fun k z => by cases z) src_lst (fun _ _ _ _ e2 e3 => by rw [e2, e3]; exact rg)
      · rename_i l
        exact P1 _ _ H1 M1 A1 (fun k z => by cases z) (src_slot (k := k) (l := l)) (fun _ _ _ e1 _ _ => by rw [e1]; exact ⟨es, hv⟩)
  · exact P1.elim
theorem lo62 {n : Int} (h : n < 1000000) : n < 2 ^ 62 := Int.lt_of_lt_of_le (b := 1000000) h (by decide)
theorem hi62 {n : Int} (h : -1000000 ≤ n) : -(2 ^ 62) ≤ n := Int.le_trans (b := -1000000) (by decide) h
theorem i_range1 (hg : Gl X "range") (hm : X.mg "range" = none) (ha : PE X a (TEof L W (ea F))) (hs : starEach [a] X.env = (false, eval a X.env) :: starEach [] X.env := by rfl) (hs' : starEach [a] X.env = [(false, eval a X.env)] := by rfl) : PI X tg (.Call (.Name "range" p) [a] [] pos) (TIof L W (iR1 ea F)) := by
  refine PI.imp (pi_range1 hg hm (pa_cons ha pa_nil hs) hs') fun σ H R h => ?_
  obtain ⟨M, env, re, P⟩ := h
  refine goE (.refl re) P fun d e v H1 M1 A1 A1' D1 P1 => ?_
  split at P1
  · rename_i n ev
    split at P1
    · rename_i hb
      simp only [okR, Bool.and_eq_true, decide_eq_true_eq] at hb
      have hv := (A1.re.view D1 ev).int
      subst hv
      exact ⟨n, rfl, hi62 hb.2, lo62 hb.1, P1 _ _ H1 M1 A1 (fun k z => by cases z) src_range (fun _ _ _ _ _ _ => True.intro)⟩
    · exact P1.elim
  · exact P1.elim
theorem i_range2 (hg : Gl X "range") (hm : X.mg "range" = none) (ha : PE X a (TEof L W (ea F))) (hb : PE X b (TEof L W (eb F))) (h1 : starEach [a, b] X.env = (false, eval a X.env) :: starEach [b] X.env := by rfl) (h2 : starEach [b] X.env = (false, eval b X.env) :: starEach [] X.env := by rfl)
    (hs' : starEach [a, b] X.env = [(false, eval a X.env), (false, eval b X.env)] := by rfl) (hs2 : starEach [b] X.env = [(false, eval b X.env)] := by rfl) : PI X tg (.Call (.Name "range" p) [a, b] [] pos) (TIof L W (iR2 ea eb F)) := by
  refine PI.imp (pi_range2 hg hm (pa_cons ha (pa_cons hb pa_nil h2) h1) hs' hs2) fun σ H R h => ?_
  obtain ⟨M, env, re, P⟩ := h
  refine goE (.refl re) P fun d1 e1 v1 H1 M1 A1 A1' D1 P1 => goE A1 P1 fun d2 e2 v2 H2 M2 A2 A2' D2 P2 => ?_
  split at P2
  · rename_i m n em en
    split at P2
    · rename_i hb
      simp only [okR, Bool.and_eq_true, decide_eq_true_eq] at hb
      have q1 := (A2.re.view (D1.to A2'.aft A1.re A2'.ob) em).int
      have q2 := (A2.re.view D2 en).int
      subst q1 q2
      exact ⟨m, n, rfl, ⟨hi62 hb.1.2, lo62 hb.1.1, hi62 hb.2.2, lo62 hb.2.1⟩, P2 _ _ H2 M2 A2 (fun k z => by cases z) src_range (fun _ _ _ _ _ _ => True.intro)⟩
    · exact P2.elim
  · exact P2.elim
/-! ### locks -/
theorem lock_ok {k : Nat} (r : RE L M H e σ) : Aft L M H e σ M H (lockO (some k) e) σ := by
  show Aft L M H e σ M H (lock e k) σ
  unfold lock
  have q := r.at_ k
  have main : ∀ {s : S}, isOb (getS e k) = true → isMu (getS e k) = true → RS1 L M H s (sv σ k) → isMu s = false → (isLt (getS e k) = true → isLt s = true) → isOo s = isOo (getS e k) → (∀ c, s ≠ .slf c) → (∀ l g, getS e k ≠ .lck l g) → Aft L M H e σ M H (e.set k s) σ := fun {s} ob mu rs nm lt oo nsl nlk => by
    have hi : k < e.length := getS_lt fun z => by rw [z] at mu; cases mu
    have gs : ∀ j, getS (e.set k s) j = if j = k then s else getS e j := fun j => by rw [getS_set]; simp [hi]
    refine ⟨r.set rs (fun _ => ob) fun j _ => r.at_ j, fun a o ea _ => ⟨ea, Iff.rfl⟩, fun a ⟨j, w⟩ => .inl ⟨j, ?_⟩, fun a w => r.has w, fun j hj => ⟨?_, rfl⟩, fun j a hj ej => .inl ⟨j, ?_, ej⟩, fun j l g hj => ⟨?_, rfl⟩⟩
    · rw [gs] at w
      split at w
      · rcases w with ⟨w, _⟩ | ⟨c, _, _, _, w, _⟩
        · rw [nm] at w; cases w
        · exact absurd w (nsl c)
      · exact w
    · rw [gs]
      split
      · rename_i z; rw [z] at hj; exact lt hj
      · exact hj
    · rw [gs] at hj
      split at hj
      · rename_i z; rw [z, ← oo]; exact hj
      · exact hj
    · rw [gs]
      split
      · rename_i z; rw [z] at hj; exact absurd hj (nlk l g)
      · exact hj
  cases es : getS e k <;> rw [es] at q <;> try exact .refl r
  · exact main (by rw [es]; rfl) (by rw [es]; rfl) q rfl (fun z => by rw [es] at z; cases z) (by rw [es]; rfl) (fun c z => by cases z) (fun l g z => by rw [es] at z; cases z)
  · exact main (by rw [es]; rfl) (by rw [es]; rfl) q rfl (fun z => rfl) (by rw [es]; rfl) (fun c z => by cases z) (fun l g z => by rw [es] at z; cases z)
theorem unlock_ok {k : Nat} {g : G} (A1 : AftE L M H env σ M1 H1 e) (hk : objOf e k = some g) (A2 : Aft L M1 H1 (lockO (some k) e) σ M' H' e1 σ') : Aft L M H env σ M' H' (unlockO (some k) e1) σ' := by
  have x : Aft L M H env σ M' H' e1 σ' := A1.aft.trans ((lock_ok A1.re).trans A2)
  have r := x.re
  have q := r.at_ k
  show Aft L M H env σ M' H' (unlock e1 k) σ'
  unfold unlock
  -- the slot at the walk's start
  have mu : isMu (getS e k) = true := by
    unfold objOf at hk
    cases es : getS e k <;> rw [es] at hk <;> first | (cases hk; done) | rfl
  have hi0 : k < e.length := getS_lt fun z => by rw [z] at mu; cases mu
  have lk0 : ∃ l, getS (lockO (some k) e) k = .lck l g := by
    show ∃ l, getS (lock e k) k = _
    unfold objOf at hk
    unfold lock
    cases es : getS e k <;> rw [es] at hk <;> simp only [Option.some.injEq, reduceCtorEq] at hk <;> subst hk
    · exact ⟨false, by simp only; rw [getS_set, if_pos ⟨rfl, hi0⟩]⟩
    · exact ⟨true, by simp only; rw [getS_set, if_pos ⟨rfl, hi0⟩]⟩
  obtain ⟨l0, lk0⟩ := lk0
  obtain ⟨lk1, lv1⟩ := A2.lk k l0 g lk0
  have nlk : ∀ l g, getS env k ≠ .lck l g := fun l g' z => by
    obtain ⟨z1, _⟩ := A1.aft.lk k l g' z
    rw [z1] at mu; cases mu
  have main : ∀ {s : S}, RS1 L M' H' s (sv σ' k) → isOb s = true → isLt s = isLt (getS e1 k) → isOo s = isOo (getS e1 k) → (∀ c, s ≠ .slf c) → Aft L M H env σ M' H' (e1.set k s) σ' := fun {s} rs ob lt oo nsl => by
    have hi : k < e1.length := getS_lt fun z => by rw [lk1] at z; cases z
    have gs : ∀ j, getS (e1.set k s) j = if j = k then s else getS e1 j := fun j => by rw [getS_set]; simp [hi]
    refine ⟨r.set rs (fun _ => by rw [lk1]; rfl) fun j _ => r.at_ j, x.fr, fun a ⟨j, w⟩ => ?_, x.th, fun j hj => ?_, fun j a hj ej => ?_, fun j l g' hj => ?_⟩
    · rw [gs] at w
      by_cases z : j = k
      · rw [if_pos z] at w
        subst z
        rcases w with ⟨_, w⟩ | ⟨c, _, _, _, w, _⟩
        · exact A1.aft.ow a ⟨j, .inl ⟨mu, by rw [← lv1]; exact w⟩⟩
        · exact absurd w (nsl c)
      · rw [if_neg z] at w
        exact x.ow a ⟨j, w⟩
    · obtain ⟨l1, l2⟩ := x.lt j hj
      refine ⟨?_, l2⟩
      rw [gs]
      split
      · rename_i z; rw [z] at l1; rw [lt]; exact l1
      · exact l1
    · refine x.oo j a ?_ ej
      rw [gs] at hj
      split at hj
      · rename_i z; rw [z, ← oo]; exact hj
      · exact hj
    · obtain ⟨l1, l2⟩ := x.lk j l g' hj
      refine ⟨?_, l2⟩
      rw [gs]
      split
      · rename_i z; rw [z] at hj; exact absurd hj (nlk l g')
      · exact l1
  rw [lk1] at q ⊢
  cases l0
  · exact main q rfl (by rw [lk1]; rfl) (by rw [lk1]; rfl) (fun c z => by cases z)
  · exact main q rfl (by rw [lk1]; rfl) (by rw [lk1]; rfl) (fun c z => by cases z)
/-! ### for -/
theorem s_for {gv : GV} {sl : List Nat} {it : IV} {body : List Stmt} (hp : PassesOwn (model X.prog X.w) X.A X.env X.xe) (hc : X.calm = true) (hi : PI X tg a (TIof L W (it F))) (hg : PG X tg (TGof L gv sl)) (hb : PSs X body (TSof L W (sb F)))
    (hs : ∀ x, foldedSetIterable a X.env x = pure x := by intro _; rfl) : PS X (.For tg a body [] pos) (TSof L W (sFor gv it sb F)) := by
  refine PS.imp (ps_for hp hc hi hg hb hs) fun D σ H h => ?_
  obtain ⟨M, env, re, P⟩ := h
  refine stI re P fun xl e J S H1 M1 A1 ho sr s0 P1 => ?_
  obtain ⟨gs, o⟩ := xl
  simp only at P1 ho sr s0
  have AL : Aft L M1 H1 e σ M1 H1 (lockO o e) σ := by
    cases o with
    | none => exact .refl A1.re
    | some k => exact lock_ok A1.re
  have fin : ∀ {σ' H' M' e'}, Aft L M1 H1 (lockO o e) σ M' H' e' σ' → Aft L M H env σ M' H' (unlockO o e') σ' := fun {σ' H' M' e'} A2 => by
    cases o with
    | none => exact A1.aft.trans (AL.trans A2)
    | some k =>
      obtain ⟨g, hg⟩ := ho k rfl
      exact unlock_ok A1 hg A2
  refine ⟨fun i m σ' H' => i + m = gs.length ∧ ∃ M' e', Aft L M1 H1 (lockO o e) σ M' H' e' σ' ∧ S M' H' e' σ' ∧ PostS L W σ M H env D (wrapU o (forL (forStep gv sb F) (gs.drop i) e')), ⟨gs.length, by omega, M1, lockO o e, .refl AL.re, s0, P1⟩, fun i m σ' H' hW => ?_⟩
  obtain ⟨hm, M', e', A2, s2, P2⟩ := hW
  by_cases hlt : i < gs.length
  · refine .inr ⟨sr.go _ _ _ _ i A2.re s2 hlt, fun σ2 H2 => ∃ M2 e2, Aft L M1 H1 (lockO o e) σ M2 H2 e2 σ2 ∧ S M2 H2 e2 σ2 ∧ PostS L W σ M H env D (wrapU o (forL (forStep gv sb F) (gs.drop (i + 1)) e2)), fun σ2 H2 ⟨M2, e2, a1, a2, a3⟩ => ⟨m - 1, by omega, by omega, M2, e2, a1, a2, a3⟩, fun x H2 hy => ?_⟩
    obtain ⟨g, M2, eg, kp, rg⟩ := sr.yld _ _ _ _ i x H2 A2.re s2 hlt hy
    have AK := AftE.kp A2.re kp
    rw [List.drop_eq_getElem_cons hlt] at P2
    have eg' : gs[i] = g := by rw [List.getElem?_eq_getElem hlt] at eg; exact Option.some.inj eg
    rw [eg'] at P2
    unfold forL forStep at P2
    cases et : gv g e' with
    | none => rw [et] at P2; exact P2.elim
    | some e2 =>
      rw [et] at P2
      simp only at P2
      refine ⟨M2, e', g, AK.re, rg, e2, et, fun σ3 M3 AG => ?_⟩
      have A3 := A2.trans (AK.aft.trans AG.aft)
      have s3 := sr.keep _ _ _ _ _ _ _ _ A2.re s2 (AK.aft.trans AG.aft)
      refine ⟨M3, e2, AG.aft.re, ?_⟩
      cases er : sb F e2 with
      | ini c fs e4 => rw [er] at P2; exact P2.elim
      | nx e4 => rw [er] at P2; exact fun σ4 H4 M4 A4 => ⟨M4, e4, A3.trans A4, sr.keep _ _ _ _ _ _ _ _ A3.re s3 A4, P2⟩
      | ct e4 => rw [er] at P2; exact fun σ4 H4 M4 A4 => ⟨M4, e4, A3.trans A4, sr.keep _ _ _ _ _ _ _ _ A3.re s3 A4, P2⟩
      | bk e4 => rw [er] at P2; exact fun σ4 H4 M4 A4 => P2 σ4 H4 M4 (fin (A3.trans A4))
      | rt d e4 => rw [er] at P2; exact fun v σ4 H4 M4 A4 r => P2 v σ4 H4 M4 (A1.aft.trans (AL.trans (A3.trans A4))) (r.trans (A1.aft.trans (AL.trans A3)))
      | exn c p e4 => rw [er] at P2; exact fun cls dd σ4 H4 M4 A4 r => P2 cls dd σ4 H4 M4 (A1.aft.trans (AL.trans (A3.trans A4))) r
      | bad => rw [er] at P2; exact P2.elim
  · refine .inl ⟨sr.stop _ _ _ _ i A2.re s2 (by omega), ?_⟩
    rw [List.drop_eq_nil_of_le (by omega)] at P2
    exact P2 σ' H' M' (fin A2)
/-! ### while -/
theorem stT2 {ev : Env → R Bool} {k : Bool → Env → RS} {Q : Bool → Hp → Prop} (A : Aft L M0 H0 envA σ0 M H env σ) (P : PostS L W σ0 M0 H0 envA D ((ev env).st k))
    (h : ∀ b e H1 M1, AftE L M H env σ M1 H1 e → PostS L W σ0 M0 H0 envA D (k b e) → Q b H1) : TTof L W ev σ H Q := by
  refine ⟨M, env, A.re, ?_⟩
  cases e : ev env with
  | ok d e1 => rw [e] at P; exact fun H1 M1 A1 => h d e1 H1 M1 A1 P
  | exn c p e1 => rw [e] at P; exact fun cls dd H' M' A1 r => P cls dd σ H' M' (A.trans A1.aft) r
  | bad => rw [e] at P; exact P
theorem s_while {n : Nat} {body : List Stmt} (hp : PassesOwn (model X.prog X.w) X.A X.env X.xe) (hc : PT X a (TTof L W (ta F))) (hb : PSs X body (TSof L W (sb F))) : PS X (.While a body [] pos) (TSof L W (sWhile n ta sb F)) := by
  refine PS.imp (ps_while hp hc hb) fun D σ H h => ?_
  obtain ⟨M, env, re, P⟩ := h
  refine ⟨fun m σ' H' => ∃ M' e', Aft L M H env σ M' H' e' σ' ∧ PostS L W σ M H env D (whileL (ta F) (sb F) m e'), ⟨n, M, env, .refl re, P⟩, fun m σ' H' ⟨M', e', A, P'⟩ => ?_⟩
  cases m with
  | zero => exact P'.elim
  | succ m =>
    unfold whileL at P'
    refine stT2 A P' fun t e1 H1 M1 A1 P1 => ?_
    have A2 := A.trans A1.aft
    cases t with
    | false => rw [if_neg Bool.false_ne_true]; exact P1 σ' H1 M1 A2
    | true =>
      rw [if_pos rfl]
      simp only at P1
      refine ⟨fun σ2 H2 => ∃ M2 e2, Aft L M H env σ M2 H2 e2 σ2 ∧ PostS L W σ M H env D (whileL (ta F) (sb F) m e2), fun σ2 H2 q => ⟨m, Nat.lt_succ_self m, q⟩, M1, e1, A2.re, ?_⟩
      cases er : sb F e1 with
      | ini c fs e4 => rw [er] at P1; exact P1.elim
      | nx e4 => rw [er] at P1; exact fun σ4 H4 M4 A4 => ⟨M4, e4, A2.trans A4, P1⟩
      | ct e4 => rw [er] at P1; exact fun σ4 H4 M4 A4 => ⟨M4, e4, A2.trans A4, P1⟩
      | bk e4 => rw [er] at P1; exact fun σ4 H4 M4 A4 => P1 σ4 H4 M4 (A2.trans A4)
      | rt d e4 => rw [er] at P1; exact fun v σ4 H4 M4 A4 r => P1 v σ4 H4 M4 (A2.trans A4) (r.trans A2)
      | exn c p e4 => rw [er] at P1; exact fun cls dd σ4 H4 M4 A4 r => P1 cls dd σ4 H4 M4 (A2.trans A4) r
      | bad => rw [er] at P1; exact P1.elim
end
end Ev

end
section
set_option linter.all false
set_option maxRecDepth 100000
set_option maxHeartbeats 4000000
namespace Ev
open PySem PySem.Spec PyProof.Rows L2
section
variable {L : Lk} {X : Cx} {W : WX} {F : FF} {M M0 M1 M2 M3 M' : Mu} {H H0 H1 H2 H3 H' : Hp} {env envA env1 env2 e e0 e1 ew : Env} {σ σ0 σ1 σ' σw : L2.St} {nm : List Nat}
theorem RC.notown {g : G} {a b : Addr} (k : RC L M H g a) (h : H a = some (.own b)) : False := by
  cases g <;> simp only [RC] at k
  all_goals (obtain ⟨ws, q, _⟩ := k; rw [h] at q; cases q)
/-! ### own names are wiped -/
theorem getS_keep : ∀ (vs : List Nat) (e0 e : Env) (j : Nat), j < e.length → getS (keepE e0 e vs) j = if j ∈ vs then getS e0 j else getS e j
  | [], e0, e, j, _ => by simp [keepE]
  | v :: vs, e0, e, j, hl => by
    have len : (keepE e0 e vs).length = e.length := by
      clear hl
      induction vs with
      | nil => rfl
      | cons w vs ih => simp [keepE, ih]
    rw [keepE, getS_set, getS_keep vs e0 e j hl]
    by_cases h : j = v
    · subst h; simp [len, hl]
    · simp [h]
theorem keepE_len (e0 e : Env) : ∀ vs, (keepE e0 e vs).length = e.length
  | [] => rfl
  | v :: vs => by simp [keepE, keepE_len e0 e vs]
theorem sub_of {vs : List Nat} (i : Nat) (h : getS (wipeE e vs) i ≠ .non) : i ∉ vs ∧ getS (wipeE e vs) i = getS e i := by
  rw [getS_wipe] at h ⊢
  split at h
  · exact absurd rfl h
  · rename_i z; exact ⟨z, by rw [if_neg z]⟩
theorem own_wipe {b : Addr} (w : own H (wipeE e nm) (wipe σ nm) b) : Ev.own H e σ b ∧ ∃ j, j ∉ nm ∧ ((isMu (getS e j) = true ∧ sv σ j = some (.ref b)) ∨ ∃ c a C fs, getS e j = .slf c ∧ sv σ j = some (.ref a) ∧ H a = some (.ins C b fs)) := by
  obtain ⟨j, w⟩ := w
  have hj : getS (wipeE e nm) j ≠ .non := fun z => by
    rcases w with ⟨w, _⟩ | ⟨c, _, _, _, w, _⟩
    · rw [z] at w; cases w
    · rw [z] at w; cases w
  obtain ⟨hn, eg⟩ := sub_of j hj
  rw [eg, sv_wipe, if_neg hn] at w
  exact ⟨⟨j, w⟩, j, hn, w⟩
theorem wipe_re (r : RE L M H e σ) : RE L M H (wipeE e nm) (wipe σ nm) := by
  refine ⟨by rw [wipeE_len, wipe_length]; exact r.len, fun j => ?_, fun i j a ne h1 h2 h3 h4 => ?_⟩
  · rw [getS_wipe, sv_wipe]
    split
    · exact True.intro
    · exact r.at_ j
  · rw [getS_wipe] at h1 h2
    rw [sv_wipe] at h3 h4
    split at h1
    · cases h1
    · split at h2
      · cases h2
      · rename_i n1 n2
        rw [if_neg n1] at h3
        rw [if_neg n2] at h4
        exact r.inj i j a ne h1 h2 h3 h4
/-- the names of a block are emptied again -/
theorem wipe_aft (x : Aft L M0 H0 e0 σ0 M H e σ) (h0 : ∀ v ∈ nm, getS e0 v = .non) : Aft L M0 H0 e0 σ0 M H (wipeE e nm) (wipe σ nm) := by
  have nn : ∀ j, getS e0 j ≠ .non → j ∉ nm := fun j h z => h (h0 j z)
  refine ⟨wipe_re x.re, x.fr, fun b w => x.ow b (own_wipe w).1, x.th, fun j hj => ?_, fun j a hj ej => ?_, fun j l g hj => ?_⟩
  · have n := nn j (fun z => by rw [z] at hj; cases hj)
    rw [getS_wipe, sv_wipe, if_neg n, if_neg n]
    exact x.lt j hj
  · have hn : j ∉ nm := fun z => by rw [getS_wipe, if_pos z] at hj; cases hj
    rw [getS_wipe, if_neg hn] at hj
    rw [sv_wipe, if_neg hn] at ej
    exact x.oo j a hj ej
  · have n := nn j (fun z => by rw [z] at hj; cases hj)
    rw [getS_wipe, sv_wipe, if_neg n, if_neg n]
    exact x.lk j l g hj
/-- behind a block: its names are as they were -/
theorem keep_ok (r : RE L M1 H1 e σ) (x : Aft L M1 H1 (wipeE e nm) (wipe σ nm) M' H' e1 (wipe σ nm)) (ob : ∀ i, isOb (getS e1 i) = true → isOb (getS (wipeE e nm) i) = true) : AftE L M1 H1 e σ M' H' (keepE e e1 nm) := by
  have rw' := wipe_re (nm := nm) r
  have len : e1.length = e.length := by rw [x.re.len, wipe_length]; exact r.len.symm
  have gk : ∀ j, getS (keepE e e1 nm) j = if j ∈ nm then getS e j else getS e1 j := fun j => by
    by_cases hl : j < e1.length
    · exact getS_keep nm e e1 j hl
    · have n1 : getS (keepE e e1 nm) j = .non := by unfold getS; rw [List.getElem?_eq_none (by rw [keepE_len]; omega)]; rfl
      have n2 : getS e j = .non := by unfold getS; rw [List.getElem?_eq_none (by omega)]; rfl
      have n3 : getS e1 j = .non := by unfold getS; rw [List.getElem?_eq_none (by omega)]; rfl
      rw [n1, n2, n3]; simp
  have s1 : ∀ j, j ∉ nm → sv (wipe σ nm) j = sv σ j := fun j h => by rw [sv_wipe, if_neg h]
  have g1 : ∀ j, j ∉ nm → getS (wipeE e nm) j = getS e j := fun j h => by rw [getS_wipe, if_neg h]
  -- what a kept slot holds is not the block's
  have away : ∀ j b, j ∈ nm → isOb (getS e j) = true → sv σ j = some (.ref b) → ¬ Ev.own H1 (wipeE e nm) (wipe σ nm) b := fun j b hj hob hv w => by
    obtain ⟨_, i, hi, w⟩ := own_wipe w
    have ne : j ≠ i := fun z => hi (by rw [← z]; exact hj)
    rcases w with ⟨w1, w2⟩ | ⟨c, a, C, fs, w1, w2, w3⟩
    · exact r.inj j i b ne hob (isOb_of_mu w1) hv w2
    · have ri := r.at_ i
      rw [w1] at ri
      obtain ⟨a', dx, e2, _, _, k1, k2, _⟩ := ri
      rw [w2] at e2; cases e2
      rw [w3] at k1; cases k1
      have rj := r.at_ j
      cases es : getS e j <;> rw [es] at hob rj <;> simp [isOb] at hob <;> simp only [RS1] at rj
      · obtain ⟨a2, e3, _, kk⟩ := rj; rw [hv] at e3; cases e3; exact (RC.notown kk k2)
      · obtain ⟨a2, e3, _, kk⟩ := rj; rw [hv] at e3; cases e3; exact (RC.notown kk k2)
      · obtain ⟨a2, e3, _, kk⟩ := rj; rw [hv] at e3; cases e3; exact (RC.notown kk k2)
      · obtain ⟨a2, dx, e3, _, _, kk, _⟩ := rj; rw [hv] at e3; cases e3; rw [k2] at kk; cases kk
  have awayD : ∀ j b a, j ∈ nm → isSlf (getS e j) = true → sv σ j = some (.ref a) → H1 b = some (.own a) → ¬ Ev.own H1 (wipeE e nm) (wipe σ nm) b := fun j b a hj hsl hv hb w => by
    obtain ⟨_, i, hi, w⟩ := own_wipe w
    have ne : j ≠ i := fun z => hi (by rw [← z]; exact hj)
    have ri := r.at_ i
    rcases w with ⟨w1, w2⟩ | ⟨c, a2, C, fs, w1, w2, w3⟩
    · cases es : getS e i <;> rw [es] at w1 ri <;> simp [isMu] at w1 <;> simp only [RS1] at ri
      · obtain ⟨a2, e3, _, kk⟩ := ri; rw [w2] at e3; cases e3; exact (RC.notown kk hb)
      · obtain ⟨a2, e3, _, kk⟩ := ri; rw [w2] at e3; cases e3; exact (RC.notown kk hb)
      · obtain ⟨a2, dx, e3, _, _, kk, _⟩ := ri; rw [w2] at e3; cases e3; rw [hb] at kk; cases kk
    · rw [w1] at ri
      obtain ⟨a3, dx, e2, _, _, k1, k2, _⟩ := ri
      rw [w2] at e2; cases e2
      rw [w3] at k1; cases k1
      rw [hb] at k2; cases k2
      have obj : isOb (getS e j) = true := by cases es : getS e j <;> rw [es] at hsl <;> simp [isSlf] at hsl; rfl
      exact r.inj j i a ne obj (by rw [w1]; rfl) hv w2
  have xt := x.ext rw'
  have obk : ∀ j, isOb (getS (keepE e e1 nm) j) = true → isOb (getS e j) = true := fun j hj => by
    rw [gk] at hj
    split at hj
    · exact hj
    · rename_i h; rw [← g1 j h]; exact ob j hj
  refine ⟨⟨⟨by rw [keepE_len, len]; exact r.len, fun j => ?_, fun i j a ne h1 h2 h3 h4 => r.inj i j a ne (obk i h1) (obk j h2) h3 h4⟩, fun b o eb nw => ?_, fun b ⟨j, w⟩ => ?_, fun b w => ?_, fun j hj => ⟨?_, rfl⟩, fun j a hj ej => ?_, fun j l g hj => ⟨?_, rfl⟩⟩, obk⟩
  · rw [gk]
    split
    · rename_i hj
      have rj := r.at_ j
      cases es : getS e j with
      | non => exact True.intro
      | val g => rw [es] at rj; obtain ⟨v, e2, k⟩ := rj; exact ⟨v, e2, RG.to xt _ _ k⟩
      | lfz g => rw [es] at rj; obtain ⟨v, e2, k⟩ := rj; exact ⟨v, e2, RG.to xt _ _ k⟩
      | obj g => rw [es] at rj; obtain ⟨a, e2, m, k⟩ := rj; have n := away j a hj (by rw [es]; rfl) e2; obtain ⟨o, q⟩ := k.has; exact ⟨a, e2, (x.fr a o q n).2.mpr m, k.to xt fun o' q' => (x.fr a o' q' n).1⟩
      | len g => rw [es] at rj; obtain ⟨a, e2, m, k⟩ := rj; have n := away j a hj (by rw [es]; rfl) e2; obtain ⟨o, q⟩ := k.has; exact ⟨a, e2, (x.fr a o q n).2.mpr m, k.to xt fun o' q' => (x.fr a o' q' n).1⟩
      | lck l g => rw [es] at rj; obtain ⟨a, e2, m, k⟩ := rj; have n := away j a hj (by rw [es]; rfl) e2; obtain ⟨o, q⟩ := k.has; exact ⟨a, e2, (x.fr a o q n).2.mpr m, k.to xt fun o' q' => (x.fr a o' q' n).1⟩
      | slf c =>
        rw [es] at rj; obtain ⟨a, dx, e2, m, md, h1, h2, h3⟩ := rj
        have n := away j a hj (by rw [es]; rfl) e2
        have n2 := awayD j dx a hj (by rw [es]; rfl) e2 h2
        exact ⟨a, dx, e2, (x.fr a _ h1 n).2.mpr m, (x.fr dx _ h2 n2).2.mpr md, (x.fr a _ h1 n).1, (x.fr dx _ h2 n2).1, h3⟩
    · rename_i hj
      have := x.re.at_ j
      rw [s1 j hj] at this
      exact this
  · exact x.fr b o eb fun w => nw (own_wipe w).1
  · rw [gk] at w
    by_cases hj : j ∈ nm
    · rw [if_pos hj] at w
      rcases w with w | ⟨c, a, C, fs, w1, w2, w3⟩
      · exact .inl ⟨j, .inl w⟩
      · have rj := r.at_ j
        rw [w1] at rj
        obtain ⟨a', dx, e2, m, md, h1, h2, h3⟩ := rj
        rw [w2] at e2; cases e2
        have n := away j a hj (by rw [w1]; rfl) w2
        have := (x.fr a _ h1 n).1
        rw [w3] at this; cases this
        exact .inl ⟨j, .inr ⟨c, a, _, _, w1, w2, h1⟩⟩
    · rw [if_neg hj] at w
      rcases x.ow b ⟨j, by rw [s1 j hj]; exact w⟩ with z | z
      · exact .inl (own_wipe z).1
      · exact .inr z
  · by_cases z : Ev.own H1 (wipeE e nm) (wipe σ nm) b
    · exact x.th b z
    · obtain ⟨o, q⟩ := r.has w
      exact ⟨o, (x.fr b o q z).1⟩
  · rw [gk]
    split
    · exact hj
    · rename_i h; exact (x.lt j (by rw [g1 j h]; exact hj)).1
  · rw [gk] at hj
    split at hj
    · exact .inl ⟨j, hj, ej⟩
    · rename_i h
      rcases x.oo j a hj (by rw [s1 j h]; exact ej) with ⟨i, h1, h2⟩ | z
      · have hn : i ∉ nm := fun z => by rw [getS_wipe, if_pos z] at h1; cases h1
        exact .inl ⟨i, by rw [← g1 i hn]; exact h1, by rw [← s1 i hn]; exact h2⟩
      · exact .inr z
  · rw [gk]
    split
    · exact hj
    · rename_i h; exact (x.lk j l g (by rw [g1 j h]; exact hj)).1
/-! ### the new list lies apart -/
def hide (q : Addr) (H : Hp) : Hp := fun b => if b = q then none else H b
theorem hide_ne {q b : Addr} (h : b ≠ q) : hide q H b = H b := if_neg h
theorem hide_upd {q : Addr} {o : HO} : hide q (L2.upd H q o) = hide q H := by
  funext b
  by_cases h : b = q
  · unfold hide; rw [if_pos h, if_pos h]
  · rw [hide_ne h, hide_ne h, upd_ne h]
/-- the list under way at q: nobody's yet -/
structure Acc (L : Lk) (M : Mu) (H : Hp) (e : Env) (σ : L2.St) (q : Addr) (gs : List G) : Prop where
  m : M q
  own : ¬ Ev.own H e σ q
  sl : ∀ i, isOb (getS e i) = true → sv σ i ≠ some (.ref q)
  rc : RC L M H (.lst gs) q
theorem Acc.to {q : Addr} {gs : List G} (a : Acc L M H e σ q gs) (r : RE L M H e σ) (x : Aft L M H e σ M' H' e1 σ1) (ob : ∀ i, isOb (getS e1 i) = true → isOb (getS e i) = true ∧ sv σ1 i = sv σ i) : Acc L M' H' e1 σ1 q gs := by
  obtain ⟨o, ho⟩ := a.rc.has
  obtain ⟨h1, h2⟩ := x.fr q o ho a.own
  refine ⟨h2.mpr a.m, fun w => ?_, fun i hi => ?_, a.rc.to (x.ext r) fun o' ho' => (x.fr q o' ho' a.own).1⟩
  · rcases x.ow q w with z | z
    · exact a.own z
    · rw [ho] at z; cases z
  · obtain ⟨h3, h4⟩ := ob i hi
    rw [h4]; exact a.sl i h3
theorem rs_hide {q : Addr} {s : S} {o : Option V} (hl : ∃ vs, H q = some (.lst vs)) (n : isOb s = true → o ≠ some (.ref q)) (m : M q) : RS1 L M H s o ↔ RS1 L M (hide q H) s o := by
  obtain ⟨vs0, hq⟩ := hl
  have x1 : Ext M H M (hide q H) := fun b u eb mb => ⟨by rw [hide_ne (fun z => mb (by rw [z]; exact m))]; exact eb, mb⟩
  have x2 : Ext M (hide q H) M H := fun b u eb mb => ⟨by rw [← hide_ne (q := q) (H := H) (fun z => mb (by rw [z]; exact m))]; exact eb, mb⟩
  cases s with
  | non => exact Iff.rfl
  | val g => exact ⟨fun ⟨v, e, k⟩ => ⟨v, e, RG.to x1 _ _ k⟩, fun ⟨v, e, k⟩ => ⟨v, e, RG.to x2 _ _ k⟩⟩
  | lfz g => exact ⟨fun ⟨v, e, k⟩ => ⟨v, e, RG.to x1 _ _ k⟩, fun ⟨v, e, k⟩ => ⟨v, e, RG.to x2 _ _ k⟩⟩
  | obj g => exact ⟨fun ⟨a, e, mm, k⟩ => ⟨a, e, mm, k.to x1 fun u h => by rw [hide_ne (fun z => n rfl (by rw [e, z]))]; exact h⟩, fun ⟨a, e, mm, k⟩ => ⟨a, e, mm, k.to x2 fun u h => by rw [← hide_ne (q := q) (H := H) (fun z => n rfl (by rw [e, z]))]; exact h⟩⟩
  | len g => exact ⟨fun ⟨a, e, mm, k⟩ => ⟨a, e, mm, k.to x1 fun u h => by rw [hide_ne (fun z => n rfl (by rw [e, z]))]; exact h⟩, fun ⟨a, e, mm, k⟩ => ⟨a, e, mm, k.to x2 fun u h => by rw [← hide_ne (q := q) (H := H) (fun z => n rfl (by rw [e, z]))]; exact h⟩⟩
  | lck l g => exact ⟨fun ⟨a, e, mm, k⟩ => ⟨a, e, mm, k.to x1 fun u h => by rw [hide_ne (fun z => n rfl (by rw [e, z]))]; exact h⟩, fun ⟨a, e, mm, k⟩ => ⟨a, e, mm, k.to x2 fun u h => by rw [← hide_ne (q := q) (H := H) (fun z => n rfl (by rw [e, z]))]; exact h⟩⟩
  | slf c =>
    constructor
    · rintro ⟨a, dx, e, mm, md, h1, h2, h3⟩
      have n1 : a ≠ q := fun z => n rfl (by rw [e, z])
      have n2 : dx ≠ q := fun z => by rw [z, hq] at h2; cases h2
      exact ⟨a, dx, e, mm, md, by rw [hide_ne n1]; exact h1, by rw [hide_ne n2]; exact h2, h3⟩
    · rintro ⟨a, dx, e, mm, md, h1, h2, h3⟩
      have n1 : a ≠ q := fun z => n rfl (by rw [e, z])
      have n2 : dx ≠ q := fun z => by unfold hide at h2; rw [if_pos z] at h2; cases h2
      exact ⟨a, dx, e, mm, md, by rw [← hide_ne (H := H) n1]; exact h1, by rw [← hide_ne (H := H) n2]; exact h2, h3⟩
theorem Acc.hid {q : Addr} {gs : List G} (a : Acc L M H e σ q gs) (r : RE L M H e σ) : RE L M (hide q H) e σ := by
  have hl : ∃ vs, H q = some (.lst vs) := by have := a.rc; unfold RC at this; obtain ⟨vs, h, _⟩ := this; exact ⟨vs, h⟩
  exact ⟨r.len, fun j => (rs_hide hl (a.sl j) a.m).mp (r.at_ j), r.inj⟩
theorem own_hide {q : Addr} {b : Addr} (sl : ∀ i, isOb (getS e i) = true → sv σ i ≠ some (.ref q)) : own (hide q H) e σ b ↔ own H e σ b := by
  constructor
  · rintro ⟨j, w | ⟨c, a, C, fs, w1, w2, w3⟩⟩
    · exact ⟨j, .inl w⟩
    · have n1 : a ≠ q := fun z => sl j (by rw [w1]; rfl) (by rw [w2, z])
      exact ⟨j, .inr ⟨c, a, C, fs, w1, w2, by rw [← hide_ne (H := H) n1]; exact w3⟩⟩
  · rintro ⟨j, w | ⟨c, a, C, fs, w1, w2, w3⟩⟩
    · exact ⟨j, .inl w⟩
    · have n1 : a ≠ q := fun z => sl j (by rw [w1]; rfl) (by rw [w2, z])
      exact ⟨j, .inr ⟨c, a, C, fs, w1, w2, by rw [hide_ne n1]; exact w3⟩⟩
/-- a step, the list not seen -/
theorem Acc.step {q : Addr} {gs gs' : List G} (a : Acc L M H e σ q gs) (x : Aft L M H e σ M' H' e1 σ1) (a' : Acc L M' H' e1 σ1 q gs') : Aft L M (hide q H) e σ M' (hide q H') e1 σ1 := by
  refine ⟨a'.hid x.re, fun b o eb nw => ?_, fun b w => ?_, fun b w => ?_, x.lt, fun i b hi ei => ?_, x.lk⟩
  · have n1 : b ≠ q := fun z => by unfold hide at eb; rw [if_pos z] at eb; cases eb
    rw [hide_ne n1] at eb
    obtain ⟨h1, h2⟩ := x.fr b o eb fun w => nw ((own_hide a.sl).mpr w)
    exact ⟨by rw [hide_ne n1]; exact h1, h2⟩
  · rcases x.ow b ((own_hide a'.sl).mp w) with z | z
    · exact .inl ((own_hide a.sl).mpr z)
    · refine .inr ?_
      unfold hide
      split
      · rfl
      · exact z
  · have w' := (own_hide a.sl).mp w
    have n1 : b ≠ q := fun z => a.own (by rw [← z]; exact w')
    obtain ⟨o, h⟩ := x.th b w'
    exact ⟨o, by rw [hide_ne n1]; exact h⟩
  · rcases x.oo i b hi ei with z | z
    · exact .inl z
    · refine .inr ?_
      unfold hide
      split
      · rfl
      · exact z
/-- the list grows -/
theorem Acc.grow {q : Addr} {gs : List G} {g : G} {v : V} (a : Acc L M H e σ q gs) (r : RE L M H e σ) (hg : RG L M H g v) : ∃ vs, H q = some (.lst vs) ∧ vs.length = gs.length ∧ RE L M (L2.upd H q (.lst (vs ++ [v]))) e σ ∧ Acc L M (L2.upd H q (.lst (vs ++ [v]))) e σ q (gs ++ [g]) := by
  have k := a.rc
  unfold RC at k
  obtain ⟨vs, hv, rs⟩ := k
  have rc' := rc_lst (l := q) (rs.app (.cons hg .nil)) a.m
  have re' : RE L M (L2.upd H q (.lst (vs ++ [v]))) e σ := by
    have r1 := a.hid r
    rw [← hide_upd (o := .lst (vs ++ [v]))] at r1
    exact ⟨r1.len, fun j => (rs_hide ⟨_, upd_same⟩ (a.sl j) a.m).mpr (r1.at_ j), r1.inj⟩
  refine ⟨vs, hv, rs.len.symm, re', a.m, fun w => ?_, a.sl, rc'⟩
  have := (own_hide (H := L2.upd H q (.lst (vs ++ [v]))) a.sl).mpr w
  rw [hide_upd] at this
  exact a.own ((own_hide a.sl).mp this)
end
end Ev

end
section
set_option linter.all false
set_option maxRecDepth 100000
set_option maxHeartbeats 4000000
namespace Ev
open PySem PySem.Spec PyProof.Rows L2
def Wf : WX := fun _ _ _ _ => False
section
variable {L : Lk} {X : Cx} {W : WX} {F : FF} {M M0 M1 M2 M3 M' : Mu} {H H0 H1 H2 H3 H' : Hp} {env envA env1 env2 e e0 e1 ew : Env} {σ σ0 σ1 σ' σw : L2.St} {nm : List Nat}
theorem wipe_at : ∀ (vs : List Nat) (σ : L2.St) (j : Nat), (wipe σ vs)[j]? = if j ∈ vs ∧ j < σ.length then some none else σ[j]?
  | [], σ, j => by simp [wipe]
  | v :: vs, σ, j => by
    rw [wipe]
    by_cases h : j = v
    · subst h
      by_cases hl : j < σ.length
      · rw [List.getElem?_set_self (by rw [wipe_length]; exact hl)]; simp [hl]
      · rw [List.getElem?_eq_none (by rw [List.length_set, wipe_length]; omega), List.getElem?_eq_none (by omega)]; simp [hl]
    · rw [List.getElem?_set_ne (Ne.symm h), wipe_at vs σ j]; simp [h]
theorem wipe_eq {sl : List Nat} (h : ∀ j, j ∉ sl → σ'[j]? = (wipe σ nm)[j]?) (hl : σ'.length = (wipe σ nm).length) (hs : ∀ j ∈ sl, j ∈ nm) : wipe σ' nm = wipe σ nm := by
  refine List.ext_getElem? fun j => ?_
  rw [wipe_length] at hl
  rw [wipe_at, wipe_at, hl]
  by_cases hj : j ∈ nm ∧ j < σ.length
  · rw [if_pos hj, if_pos hj]
  · rw [if_neg hj, if_neg hj]
    by_cases hn : j ∈ nm
    · have hge : σ.length ≤ j := by
        rcases Nat.lt_or_ge j σ.length with z | z
        · exact absurd ⟨hn, z⟩ hj
        · exact z
      rw [List.getElem?_eq_none (by omega), List.getElem?_eq_none hge]
    · rw [h j (fun z => hn (hs j z)), wipe_at, if_neg fun z => hn z.1]
theorem Acc.wipe {q : Addr} {gs : List G} (a : Acc L M H e σ q gs) : Acc L M H (wipeE e nm) (L2.wipe σ nm) q gs := by
  refine ⟨a.m, fun w => a.own (own_wipe w).1, fun i hi ei => ?_, a.rc⟩
  have hn : i ∉ nm := fun z => by rw [getS_wipe, if_pos z] at hi; cases hi
  rw [getS_wipe, if_neg hn] at hi
  rw [sv_wipe, if_neg hn] at ei
  exact a.sl i hi ei
theorem goF {ev : Env → R Ev.D} {k : Ev.D → Env → R (Option G)} {r : R (Option G) → Prop} {Q : VK} (re : RE L M H env σ) (hb : ∀ x, r x → ∃ a e, x = .ok a e) (P : r ((ev env).bind k))
    (h : ∀ d e v H1 M1, AftE L M H env σ M1 H1 e → RD L M1 H1 e σ H d v → r (k d e) → Q v H1) : TEof L Wf ev σ H Q := by
  refine ⟨M, env, re, ?_⟩
  cases e : ev env with
  | ok d e1 => rw [e] at P; exact fun v H1 M1 A1 D1 => h d e1 v H1 M1 A1 D1 P
  | exn c p e1 => rw [e] at P; obtain ⟨_, _, z⟩ := hb _ P; cases z
  | bad => rw [e] at P; obtain ⟨_, _, z⟩ := hb _ P; cases z
theorem goFT {ev : Env → R Bool} {k : Bool → Env → R (Option G)} {r : R (Option G) → Prop} {Q : Bool → Hp → Prop} (re : RE L M H env σ) (hb : ∀ x, r x → ∃ a e, x = .ok a e) (P : r ((ev env).bind k))
    (h : ∀ b e H1 M1, AftE L M H env σ M1 H1 e → r (k b e) → Q b H1) : TTof L Wf ev σ H Q := by
  refine ⟨M, env, re, ?_⟩
  cases e : ev env with
  | ok d e1 => rw [e] at P; exact fun H1 M1 A1 => h d e1 H1 M1 A1 P
  | exn c p e1 => rw [e] at P; obtain ⟨_, _, z⟩ := hb _ P; cases z
  | bad => rw [e] at P; obtain ⟨_, _, z⟩ := hb _ P; cases z
variable {el : EV} {gv : GV} {sl : List Nat} {it : IV} {c : TV}
theorem lc_main {Q : VK} (hsl : ∀ j ∈ sl, j ∈ nm) (h : TEof L W (eComp nm el gv it c F) σ H Q) : tLc (TIof L W (it F)) (TGof L gv sl) (TTof L Wf (c F)) (TEof L Wf (el F)) nm σ H Q := by
  obtain ⟨M, env, re, P⟩ := h
  refine goI re P fun xl e J S H1 M1 A1 ho sr s0 P1 => ?_
  obtain ⟨gs, o⟩ := xl
  simp only at P1 ho sr s0
  split at P1
  · exact P1.elim
  rename_i hlk
  have hlk : ∀ v ∈ nm, isLck (getS (lockO o e) v) = false := by
    have : (nm.all fun v => !isLck (getS (lockO o e) v)) = true := by simpa using hlk
    intro v hv
    have := List.all_eq_true.mp this v hv
    simpa using this
  intro q hq
  have AL : Aft L M1 H1 e σ M1 H1 (lockO o e) σ := by
    cases o with
    | none => exact .refl A1.re
    | some k => exact lock_ok A1.re
  have rel := AL.re
  have n0 : New L M1 H1 (more M1 q) (L2.upd H1 q (.lst [])) (.own (.lst [])) (.ref q) := .lst hq .nil
  have rel2 := (AftE.kp rel n0.kp).re
  have acc0 : Acc L (more M1 q) (L2.upd H1 q (.lst [])) (lockO o e) σ q [] := by
    obtain ⟨a, ea, m, nw, ns, k, _⟩ := n0.rd' rel
    cases ea
    exact ⟨m, nw, ns, k⟩
  have hid0 : hide q (L2.upd H1 q (.lst [])) = H1 := by
    rw [hide_upd]
    funext b
    by_cases z : b = q
    · rw [z]; unfold hide; rw [if_pos rfl, hq]
    · exact hide_ne z
  have s1 : S (more M1 q) (L2.upd H1 q (.lst [])) (lockO o e) σ := sr.keep _ _ _ _ _ _ _ _ rel s0 (AftE.kp rel n0.kp).aft
  have s2 := sr.wip _ _ _ _ nm rel2 hlk s1
  have rew := wipe_re (nm := nm) rel2
  have accw := acc0.wipe (nm := nm)
  refine ⟨fun i m H' => i + m = gs.length ∧ ∃ M' e' acc, RE L M' H' e' (wipe σ nm) ∧ Acc L M' H' e' (wipe σ nm) q acc ∧ S M' H' e' (wipe σ nm) ∧ Aft L (more M1 q) (hide q (L2.upd H1 q (.lst []))) (wipeE (lockO o e) nm) (wipe σ nm) M' (hide q H') e' (wipe σ nm) ∧
    (∀ j, isOb (getS e' j) = true → isOb (getS (wipeE (lockO o e) nm) j) = true) ∧ (∀ v ∈ nm, getS e' v = .non) ∧ PostE L W σ M H env (okD L σ M H env Q) (compEnd nm o e (compL (compStep nm el gv c F) (gs.drop i) acc.reverse e')),
    ⟨gs.length, by omega, _, _, [], rew, accw, s2, .refl (accw.hid rew), fun _ h => h, fun v hv => by rw [getS_wipe, if_pos hv], P1⟩, fun i m H' hW => ?_⟩
  obtain ⟨hm, M', e', acc, r', a', s', x', ob', nn', P'⟩ := hW
  by_cases hlt : i < gs.length
  · refine .inr ⟨sr.go _ _ _ _ i r' s' hlt, fun H2 => ∃ M2 e2 acc2, RE L M2 H2 e2 (wipe σ nm) ∧ Acc L M2 H2 e2 (wipe σ nm) q acc2 ∧ S M2 H2 e2 (wipe σ nm) ∧ Aft L (more M1 q) (hide q (L2.upd H1 q (.lst []))) (wipeE (lockO o e) nm) (wipe σ nm) M2 (hide q H2) e2 (wipe σ nm) ∧
      (∀ j, isOb (getS e2 j) = true → isOb (getS (wipeE (lockO o e) nm) j) = true) ∧ (∀ v ∈ nm, getS e2 v = .non) ∧ PostE L W σ M H env (okD L σ M H env Q) (compEnd nm o e (compL (compStep nm el gv c F) (gs.drop (i + 1)) acc2.reverse e2)),
      fun H2 ⟨M2, e2, acc2, h1, h2, h3, h4, h5, h6, h7⟩ => ⟨m - 1, by omega, by omega, M2, e2, acc2, h1, h2, h3, h4, h5, h6, h7⟩, fun x H2 hy => ?_⟩
    obtain ⟨g, M2, eg, kp, rg⟩ := sr.yld _ _ _ _ i x H2 r' s' hlt hy
    have AK := AftE.kp r' kp
    rw [List.drop_eq_getElem_cons hlt] at P'
    have eg' : gs[i] = g := by rw [List.getElem?_eq_getElem hlt] at eg; exact Option.some.inj eg
    rw [eg'] at P'
    unfold compL at P'
    -- a turn ends well
    have hb : ∀ x, PostE L W σ M H env (okD L σ M H env Q) (compEnd nm o e (compK (fun acc e => compL (compStep nm el gv c F) (gs.drop (i + 1)) acc e) acc.reverse x)) → ∃ a e, x = .ok a e := fun x hx => by
      cases x with
      | ok a e => exact ⟨a, e, rfl⟩
      | exn _ _ _ => exact hx.elim
      | bad => exact hx.elim
    unfold compStep at P'
    cases et : gv g e' with
    | none => rw [et] at P'; exact P'.elim
    | some e2 =>
      rw [et] at P'
      simp only at P'
      refine ⟨M2, e', g, AK.re, rg, e2, et, fun σ2 M3 AG => ⟨wipe_eq AG.st AG.ln hsl, ?_⟩⟩
      have hw : wipe σ2 nm = wipe σ nm := wipe_eq AG.st AG.ln hsl
      have A3 := AK.aft.trans AG.aft
      have ob3 : ∀ j, isOb (getS e2 j) = true → isOb (getS e' j) = true := fun j hj => AK.ob j (AG.ob j hj)
      -- the end of a turn
      have done : ∀ {M5 H5 e5}, Aft L M3 H2 e2 σ2 M5 H5 e5 σ2 → (∀ j, isOb (getS e5 j) = true → isOb (getS e2 j) = true) → RE L M5 H5 (wipeE e5 nm) (wipe σ nm) ∧ Acc L M5 H5 (wipeE e5 nm) (wipe σ nm) q acc ∧ S M5 H5 (wipeE e5 nm) (wipe σ nm) ∧ Aft L (more M1 q) (hide q (L2.upd H1 q (.lst []))) (wipeE (lockO o e) nm) (wipe σ nm) M5 (hide q H5) (wipeE e5 nm) (wipe σ nm) ∧ (∀ j, isOb (getS (wipeE e5 nm) j) = true → isOb (getS (wipeE (lockO o e) nm) j) = true) := fun {M5 H5 e5} A5 ob5 => by
        have A6 := wipe_aft (nm := nm) (A3.trans A5) nn'
        rw [hw] at A6
        have ob6 : ∀ j, isOb (getS (wipeE e5 nm) j) = true → isOb (getS e' j) = true := fun j hj => by
          rw [getS_wipe] at hj
          split at hj
          · cases hj
          · exact ob3 j (ob5 j hj)
        have a6 := a'.to r' A6 fun j hj => ⟨ob6 j hj, rfl⟩
        exact ⟨A6.re, a6, sr.keep _ _ _ _ _ _ _ _ r' s' A6, x'.trans (a'.step A6 a6), fun j hj => ob' j (ob6 j hj)⟩
      refine goFT (r := fun x => PostE L W σ M H env (okD L σ M H env Q) (compEnd nm o e (compK (fun acc e => compL (compStep nm el gv c F) (gs.drop (i + 1)) acc e) acc.reverse x))) AG.aft.re hb P' fun t e3 H4 M4 A4 P4 => ?_
      cases t with
      | false =>
        rw [if_neg Bool.false_ne_true]
        obtain ⟨h1, h2, h3, h4, h5⟩ := done A4.aft A4.ob
        exact ⟨M4, _, acc, h1, h2, h3, h4, h5, fun v hv => by rw [getS_wipe, if_pos hv], P4⟩
      | true =>
        rw [if_pos rfl]
        refine goF (r := fun x => PostE L W σ M H env (okD L σ M H env Q) (compEnd nm o e (compK (fun acc e => compL (compStep nm el gv c F) (gs.drop (i + 1)) acc e) acc.reverse x))) A4.re hb P4 fun d e4 y H5 M5 A5 D5 P5 => ?_
        cases ef : frz d e4 with
        | none => rw [ef] at P5; exact P5.elim
        | some ge =>
          obtain ⟨g5, e5⟩ := ge
          rw [ef] at P5
          simp only [compK] at P5
          obtain ⟨M6, fz, ax⟩ := frz_ok (A5.aft) D5 ef
          obtain ⟨h1, h2, h3, h4, h5⟩ := done (A4.aft.trans ax) (fun j hj => A4.ob j (A5.ob j (fz.ob j hj)))
          obtain ⟨vs, hv, lv, rg', ag⟩ := h2.grow h1 fz.rg
          -- no more than the line
          have hlen : vs.length < sizeLine := by
            have mono : ∀ (xs : List G) (ac : List G) (e : Env) (r : List G) (e1 : Env), compL (compStep nm el gv c F) xs ac e = .ok r e1 → ac.length ≤ r.length := by
              intro xs
              induction xs with
              | nil => intro ac e r e1 h; simp only [compL, R.ok.injEq] at h; rw [← h.1, List.length_reverse]; exact Nat.le_refl _
              | cons x xs ih =>
                intro ac e r e1 h
                unfold compL at h
                unfold compK at h
                split at h
                · have := ih _ _ _ _ h; rw [List.length_cons] at this; omega
                · exact ih _ _ _ _ h
                · cases h
            cases hc : compL (compStep nm el gv c F) (gs.drop (i + 1)) (g5 :: acc.reverse) (wipeE e5 nm) with
            | ok r e7 =>
              rw [hc] at P5
              unfold compEnd at P5
              have := mono _ _ _ _ _ hc
              rw [List.length_cons, List.length_reverse] at this
              by_cases z : r.length ≤ 100000
              · have := line100; omega
              · simp only at P5
                rw [if_neg z] at P5
                exact P5.elim
            | exn _ _ _ => rw [hc] at P5; exact P5.elim
            | bad => rw [hc] at P5; exact P5.elim
          refine ⟨vs, hv, hlen, M6, _, acc ++ [g5], rg', ag, sr.upd _ _ _ _ _ _ h2.m h3, by rw [hide_upd (H := H5)]; exact h4, h5, fun v hv => by rw [getS_wipe, if_pos hv], ?_⟩
          rw [List.reverse_append]
          exact P5
  · refine .inl ⟨sr.stop _ _ _ _ i r' s' (by omega), ?_⟩
    rw [List.drop_eq_nil_of_le (by omega)] at P'
    unfold compL compEnd at P'
    simp only [List.reverse_reverse] at P'
    split at P'
    · -- the list is done
      have x1 : Aft L M1 H1 (wipeE (lockO o e) nm) (wipe σ nm) M' (hide q H') e' (wipe σ nm) := by
        rw [hid0] at x'
        refine (AftE.kp (wipe_re (nm := nm) rel) (M' := more M1 q) (H' := H1) fun a u ea => ⟨ea, ?_⟩).aft.trans x'
        have ne : a ≠ q := fun z => by rw [z, hq] at ea; cases ea
        exact ⟨fun z => z.elim id fun z => absurd z ne, fun z => .inl z⟩
      have k1 := keep_ok rel x1 ob'
      have hq0 : ∀ a u, hide q H' a = some u → H' a = some u ∧ (M' a ↔ M' a) := fun a u h => by
        have ne : a ≠ q := fun z => by unfold hide at h; rw [if_pos z] at h; cases h
        rw [hide_ne ne] at h
        exact ⟨h, Iff.rfl⟩
      have k2 := k1.trans (.kp k1.re hq0)
      have obk : ∀ j, isOb (getS (keepE (lockO o e) e' nm) j) = true → isOb (getS (lockO o e) j) = true := k2.ob
      have obl : ∀ j, isOb (getS (lockO o e) j) = true → isOb (getS e j) = true := fun j hj => by
        cases o with
        | none => exact hj
        | some k =>
          have hj : isOb (getS (lock e k) j) = true := hj
          unfold lock at hj
          cases es : getS e k <;> rw [es] at hj <;> simp only at hj <;> try exact hj
          all_goals (rw [getS_set] at hj; split at hj)
          all_goals first | exact hj | (rename_i z; rw [z.1, es]; rfl)
      have obu : ∀ j, isOb (getS (unlockO o (keepE (lockO o e) e' nm)) j) = true → isOb (getS (keepE (lockO o e) e' nm) j) = true := fun j hj => by
        cases o with
        | none => exact hj
        | some k =>
          have hj : isOb (getS (unlock (keepE (lockO (some k) e) e' nm) k) j) = true := hj
          unfold unlock at hj
          split at hj
          · rename_i g es
            rw [getS_set] at hj
            split at hj
            · rename_i z; rw [z.1, es]; rfl
            · exact hj
          · rename_i g es
            rw [getS_set] at hj
            split at hj
            · rename_i z; rw [z.1, es]; rfl
            · exact hj
          · exact hj
      have fin : AftE L M H env σ M' H' (unlockO o (keepE (lockO o e) e' nm)) := by
        refine ⟨?_, fun j hj => A1.ob j (obl j (obk j (obu j hj)))⟩
        cases o with
        | none => exact A1.aft.trans k2.aft
        | some k =>
          obtain ⟨g, hg⟩ := ho k rfl
          exact unlock_ok A1 hg k2.aft
      have rcq := a'.rc
      refine P' _ H' M' fin ⟨q, rfl, a'.m, fun ⟨j, w⟩ => ?_, fun j hj ej => acc0.sl j (obk j (obu j hj)) ej, rcq, A1.aft.free hq⟩
      rcases w with ⟨w1, w2⟩ | ⟨cc, a2, C, fs, w1, w2, w3⟩
      · exact acc0.sl j (obk j (obu j (isOb_of_mu w1))) w2
      · have rj := fin.re.at_ j
        rw [w1] at rj
        obtain ⟨a3, dx, e3, _, _, q1, q2, _⟩ := rj
        rw [w2] at e3; cases e3
        rw [w3] at q1; cases q1
        exact RC.notown rcq q2
    · exact P'.elim
/-! ### the rules -/
variable {elt tg iter : Expr} {ifs : List Expr} {scope : Scope} {ownN : List (Str × Nat)} {pos : Pos}
theorem y_nil : PTs X [] (TTof L Wf (tYesT F)) := ⟨fun pins s σ H Q I h => by
  obtain ⟨M, env, re, P⟩ := h
  exact pts_nil.run pins s σ H Q I (P H M (.refl re))⟩
theorem y_one {t : Expr} (h : PT X t (TTof L Wf (c F))) : PTs X [t] (TTof L Wf (c F)) := pts_one h
theorem c_comp (hc : X.calm = true) (hN : X.N.Nodup) (hsl : ∀ j ∈ sl, j ∈ ownN.map (·.2)) (hi : PI X tg iter (TIof L W (it F))) (ok : BlkOk X.N X.env.scope scope ownN)
    (hg : ∀ (s : Shared) (H : Hp) (C : Addr) (cl : List (Str × Addr)) (fp : List Addr), PG (X.blk s H scope (compEnvC scope cl C X.env) fp) tg (TGof L gv sl)) (ht : ∀ (s : Shared) (H : Hp) (C : Addr) (cl : List (Str × Addr)) (fp : List Addr), PTs (X.blk s H scope (compEnvC scope cl C X.env) fp) ifs (TTof L Wf (c F)))
    (he : ∀ (s : Shared) (H : Hp) (C : Addr) (cl : List (Str × Addr)) (fp : List Addr), PE (X.blk s H scope (compEnvC scope cl C X.env) fp) elt (TEof L Wf (el F))) (hs : ∀ x, foldedSetIterable iter X.env x = pure x := by intro _; rfl) :
    PE X (.ListComp elt [⟨tg, iter, ifs, 0⟩] scope pos) (TEof L W (eComp (ownN.map (·.2)) el gv it c F)) := PE.imp (pe_lc hc hN hi ok hg ht he hs) fun σ H Q h => lc_main hsl h
theorem s_setLc {i : Nat} {y : Str} {py spos : Pos} (hc : X.calm = true) (hN : X.N.Nodup) (hsl : ∀ j ∈ sl, j ∈ ownN.map (·.2)) (hy : X.N[i]? = some y) (hyl : X.env.scope.names.lookup y = some .local)
    (hsw : swapsWith (.ListComp elt [⟨tg, iter, ifs, 0⟩] scope pos) (some (.Name y py)) spos.line X.env = pure true) (hi : PI X tg iter (TIof L W (it F))) (ok : BlkOk X.N X.env.scope scope ownN)
    (hg : ∀ (s : Shared) (H : Hp) (C : Addr) (cl : List (Str × Addr)) (fp : List Addr), PG (X.blk s H scope (compEnvC scope cl C X.env) fp) tg (TGof L gv sl)) (ht : ∀ (s : Shared) (H : Hp) (C : Addr) (cl : List (Str × Addr)) (fp : List Addr), PTs (X.blk s H scope (compEnvC scope cl C X.env) fp) ifs (TTof L Wf (c F)))
    (he : ∀ (s : Shared) (H : Hp) (C : Addr) (cl : List (Str × Addr)) (fp : List Addr), PE (X.blk s H scope (compEnvC scope cl C X.env) fp) elt (TEof L Wf (el F))) (hs : ∀ x, foldedSetIterable iter X.env x = pure x := by intro _; rfl) :
    PS X (.Assign [.Name y py] (.ListComp elt [⟨tg, iter, ifs, 0⟩] scope pos) spos) (TSof L W (sSet i (eComp (ownN.map (·.2)) el gv it c) F)) := PS.imp (ps_setLc hc hN hy hyl hsw hi ok hg ht he hs) fun D σ H h => by
  obtain ⟨M, env, re, P⟩ := h
  refine lc_main hsl (stE re P fun d e v H1 M1 A1 D1 P1 => ?_)
  cases eb : bindD e i d with
  | none => rw [eb] at P1; exact P1.elim
  | some e2 =>
    rw [eb] at P1
    obtain ⟨M2, A2⟩ := bind_ok A1.aft D1 eb
    exact P1 _ H1 M2 A2
end
end Ev

end
section
set_option linter.all false
set_option maxRecDepth 100000
set_option maxHeartbeats 4000000
namespace Ev
open PySem PySem.Spec PyProof.Rows L2
section
theorem meets_enum1 {v : Value} {o : Obj} {Hh : Heap → Prop} (B : Begins v o Hh) :
    Meets (Builtin.«enumerate.__new__» ⟨[.type "enumerate", v], []⟩) (fun _ R s => Hh s.heap ∧
      R (.ok (.ret (.ref (s.heap.push o).objs.size))) { s with heap := (s.heap.push o).push { cls := .type "enumerate", data := .fields #[.none, .bool false, .ref s.heap.objs.size, rawInt 0, .none, .none] } }) :=
  .of_wp fun prog w A R s h => by
    obtain ⟨hp, g, d, tk, os⟩ := s; obtain ⟨h1, h⟩ := h
    have hsub := sub_enumerate
    have q1 : ∀ {A' : Around} {E : Value → Shared → Prop} {Q : Value → Shared → Prop}, Q (.ref hp.objs.size) ⟨hp.push o, g, d, tk, os⟩ → wpAny (model prog w) A' (pyIter v) Q E ⟨hp, g, d, tk, os⟩ :=
      fun q => B.iter prog w _ _ ⟨hp, g, d, tk, os⟩ _ h1 q
    wp_walk using q1
    refine wpAny_stack_any fun st => wpAny_pure ?_
    split
    · rename_i c _ _ _ _ _
      cases (c == Value.type "enumerate")
      · wp_walk using q1
        exact ⟨_, rfl, h⟩
      · wp_walk using q1
        exact ⟨_, rfl, h⟩
    · wp_walk using q1
      exact ⟨_, rfl, h⟩
theorem call_enum1 {prog : Program} {w : World} {A : Around} {E : Value → Shared → Prop} {s : Shared} {v : Value} {o : Obj} {Hh : Heap → Prop} {Q : Value → Shared → Prop} (B : Begins v o Hh) (h1 : Hh s.heap)
    (h : ∀ h', IsEnum h' (s.heap.objs.size + 1) s.heap.objs.size 0 .none → h'.get? s.heap.objs.size = some o → h'.objs.size = s.heap.objs.size + 2 →
      (∀ b o, s.heap.get? b = some o → h'.get? b = some o) → Q (.ref (s.heap.objs.size + 1)) { s with heap := h' }) :
    wpAny (model prog w) A (call (.type "enumerate") [v]) Q E s := by
  refine callType_new F.called_enumerate (by decide) (F.typeCall_enumerate_1 _) (F.newCall_enumerate_1 _) (fun obj => F.args_object_init_2 obj _) F.entry_enumerate_new
    (meets_enum1 B) ⟨h1, ?_⟩
  have hz : (s.heap.push o).objs.size = s.heap.objs.size + 1 := Heap.size_push ..
  show _ ∧ _
  rw [hz]
  have he : IsEnum ((s.heap.push o).push { cls := .type "enumerate", data := .fields #[.none, .bool false, .ref s.heap.objs.size, rawInt 0, .none, .none] }) (s.heap.objs.size + 1) s.heap.objs.size 0 .none := by
    have := Heap.get?_push_size (s.heap.push o) (o := { cls := .type "enumerate", data := .fields #[.none, .bool false, .ref s.heap.objs.size, rawInt 0, .none, .none] }) rfl
    rw [hz] at this; exact this
  refine ⟨⟨_, he, rfl⟩, h _ he (Heap.get?_push_of_some _ (Heap.get?_push_size _ B.free)) (by rw [Heap.size_push, hz]) fun b o x => Heap.get?_push_of_some _ (Heap.get?_push_of_some _ x)⟩
/-- the tuple at a, each item in a new pair -/
def IteT (K : PySem.W.Frag) (a : Addr) : It :=
  ⟨fun i H => ∃ (xs : List V) (x : V), SqT K H a xs ∧ xs[i]? = some x, fun i H v H' => ∃ T x, v = .ref T ∧ H T = none ∧ H' = upd H T (.tup [.int (i : Nat), x]) ∧ ∀ xs, SqT K H a xs → xs[i]? = some x, fun i H => ∃ xs : List V, SqT K H a xs ∧ xs.length ≤ i⟩
theorem turn_enumT {P : Program} {w : World} {K : PySem.W.Frag} {elts : List Expr} {kk : Nat} {tpos : Pos} (a e it : Addr) :
    Turn P w K (.Tuple elts kk tpos) (IteT K a) [e, it] e (fun i h => (∃ old, IsEnum h e it ((i : Nat) : Int) old) ∧ h.IsTupleIter it a i ∧ e ≠ it ∧ a ≠ it ∧ e ≠ a) where
  mem := by simp
  obj := fun i h st b hb => by
    obtain ⟨⟨old, he⟩, ⟨o, ho, hc, hd⟩, _⟩ := st
    have e' : b = e ∨ b = it := by simpa using hb
    rcases e' with z | z
    · rw [z]; exact ⟨_, he, fun v q => nomatch q⟩
    · rw [z]; exact ⟨o, ho, fun v q => by rw [hd] at q; cases q⟩
  keep := fun i h h' st k => let ⟨⟨old, he⟩, hi, hne⟩ := st; ⟨⟨old, k e (by simp) _ he⟩, hi.at fun o q => k it (by simp) o q, hne⟩
  item := by
    intro X hP hw hK hc i pins s σ H E I hf st hg
    subst hP hw hK
    obtain ⟨⟨old, he⟩, hit, hne, hai, hea⟩ := st
    obtain ⟨xs, x, hq, hx⟩ := hg
    obtain ⟨its, rv, p, hz⟩ := I.tuple hq
    obtain ⟨u, hu, ru⟩ := rv.get hx
    have hel : e < s.heap.objs.size := Heap.lt_size he
    have hil : it < s.heap.objs.size := by obtain ⟨_, q, _⟩ := hit; exact Heap.lt_size q
    have hlt : i < its.toArray.size := by rw [List.size_toArray]; exact (List.getElem?_eq_some_iff.mp hu).1
    refine wpAny_pyNext_enum_itemD (Draws.tuple (prog := X.prog) (w := X.w) (A := X.A.in1) (I.ok.hd hc) it a hai its.toArray) he ⟨hit, show s.heap.IsTuple a its.toArray from p⟩ hlt hne (by simp [hne, hea]) fun x' h' tk hP ho hst hT hsz hk => ?_
    have ex : x' = u := by
      have hu' : its.toArray[i]? = some u := by simpa using hu
      rw [hu'] at hP; exact (Option.some.inj hP).symm
    subst ex
    refine ⟨_, rfl, wpAny_letOwnedTupleGo_enum (s := { s with heap := h', toks := tk + 1 }) ho fun h'' he' sb => ?_⟩
    have hT2 : h''.get? s.heap.objs.size = some { cls := .type "tuple", data := .seq #[.int i tk, x'] } := (sb.2 _ (Nat.ne_of_gt hel)).trans hT
    have new : ObjOk X.prog X.w (upd H s.heap.objs.size (.tup [.int (i : Nat), x])) h'' s.heap.objs.size (.tup [.int (i : Nat), x]) :=
      ⟨by show 2 ≤ sizeLine; decide, [.int i tk, x'], .cons ⟨_, rfl⟩ (.cons ru .nil), ⟨_, hT2, rfl, _, rfl⟩⟩
    have I1 : Inv X pins σ (upd H s.heap.objs.size (.tup [.int (i : Nat), x])) { s with heap := h'', toks := tk + 1 } :=
      I.turnedNew (ch := [e, it]) (fun b ob hb q => (sb.2 b (fun z => hb (by simp [z]))).trans (hk b ob (fun z => hb (by simp [z])) (fun z => hb (by simp [z])) q)) hf (Nat.le_refl _) new
    refine ⟨.ref s.heap.objs.size, _, I1, rfl, ⟨_, x, rfl, I.hok.fresh (Nat.le_refl _), rfl, fun ys hy => by rw [I.tuple_inj hy hq]; exact hx⟩, ⟨⟨x', ?_⟩, hst.1.at fun o q => (sb.2 it (Ne.symm hne)).trans q, hne, hai, hea⟩, fun b hb => ?_⟩
    · have e1 : ((i + 1 : Nat) : Int) = (i : Int) + 1 := by omega
      rw [e1]; exact he'
    · have hb' : b < s.heap.objs.size := by
        have e' : b = e ∨ b = it := by simpa using hb
        rcases e' with z | z
        · rw [z]; exact hel
        · rw [z]; exact hil
      rw [upd_ne (Nat.ne_of_lt hb')]
      exact (hf b hb).1
  done := by
    intro X hP hw hK hc i pins s σ H E I hf st hg
    subst hP hw hK
    obtain ⟨⟨old, he⟩, hit, hne, hai, hea⟩ := st
    obtain ⟨xs, hq, hx⟩ := hg
    obtain ⟨its, rv, p, hz⟩ := I.tuple hq
    obtain ⟨f0, f1, f2, f3, f4, f5⟩ := hf it (by simp)
    have hl := rv.length
    have hT : s.TypeIs (.ref e) "enumerate" := ⟨_, he, rfl⟩
    unfold pyNext
    refine wpAny_bind (wpAny_attempt (wpAny_callSpecial?_slot (name := Str.ofString "__next__") hT F.slot_enumerate_next
      (wpAny_call_entry F.slot_enumerate_next hT F.entry_enumerate_next ?_ (F.args_enumerate_next_1 _))))
    show wpAny _ _ (field (.ref e) 2 >>= _) _ _ _
    refine wpAny_bind (wpAny_field he rfl (x := .ref it) rfl ?_)
    refine wpAny_bind (wpAny_nextOf_tuple_end (I.ok.hd hc) hit (show s.heap.IsTuple a its.toArray from p) (by simp; omega) fun h' x he' hx' => ?_)
    obtain ⟨o, ho, hc⟩ := hx'
    refine wpAny_bind (wpAny_isInstance (T := "StopIteration") (b := true) ⟨o, ho, hc⟩ isSubtype_stop ?_)
    exact wpAny_pure ⟨rfl, I.turned (t' := s.toks) (fun b o hb q => he' b o hb q) f0 f1 f3 f4 f5⟩
  self := fun A i s Q E st h => let ⟨⟨_, he⟩, _⟩ := st; wpAny_pyIter_enum he h
def iEnumA (K : PySem.W.Frag) (ta : TA) : TI := fun σ H R => ta σ H fun vs H1 => ∃ a xs, vs = [.ref a] ∧ ((SqL K H1 a xs ∧ R (Ite K a) H1) ∨ (SqT K H1 a xs ∧ R (IteT K a) H1))
theorem pi_enumA {X : Cx} {e : Expr} {ta : TA} {p pos tpos : Pos} {elts : List Expr} {kk : Nat} (hg : Gl X "enumerate") (hm : X.mg "enumerate" = none) (ha : PA X [e] ta) (hs : starEach [e] X.env = [(false, eval e X.env)] := by rfl) :
    PI X (.Tuple elts kk tpos) (.Call (.Name "enumerate" p) [e] [] pos) (iEnumA X.K ta) := by
  refine ⟨fun pins s σ H R I h => ?_⟩
  refine Call_ (ld_blt I hg hm boot_enumerate (PyProof.Rows.callWith_type1 (thn (ha.run pos pins s σ H _ I h) fun us s1 ⟨vs, H1, I1, r1, q1⟩ => ?_) hs rfl))
  obtain ⟨a, xs, ex, q1⟩ := q1
  subst ex
  cases r1 with
  | cons r rr =>
    cases rr
    cases r
    have hle : ∀ b, b ∈ [s1.heap.objs.size + 1, s1.heap.objs.size] → s1.heap.objs.size ≤ b := fun b hb => by
      have e' : b = s1.heap.objs.size + 1 ∨ b = s1.heap.objs.size := by simpa using hb
      rcases e' with z | z
      · rw [z]; exact Nat.le_add_right _ _
      · rw [z]; exact Nat.le_refl _
    rcases q1 with ⟨hq, q⟩ | ⟨hq, q⟩
    · obtain ⟨its, rv, p', hz⟩ := I1.list hq
      refine call_enumerate_list p'.isList fun h' he hit hsz hk => wpAny_pyIter_enum he ?_
      have I2 : Inv X pins σ H1 { s1 with heap := h' } := I1.kept (t' := s1.toks) hk
      exact ⟨s1.heap.objs.size + 1, [s1.heap.objs.size + 1, s1.heap.objs.size], _, _, H1, rfl, I2, turn_enum a (s1.heap.objs.size + 1) s1.heap.objs.size, ⟨⟨.none, he⟩, hit, Nat.succ_ne_self _⟩, fun b hb => I1.fpOk (hle b hb) (I1.hok.fresh (hle b hb)), q⟩
    · obtain ⟨its, rv, p', hz⟩ := I1.tuple hq
      have pt : s1.heap.IsTuple a its.toArray := p'
      have hlt : a < s1.heap.objs.size := by obtain ⟨_, e, _⟩ := id pt; exact Heap.lt_size e
      refine call_enum1 (begins_tuple a its.toArray) pt fun h' he hit hsz hk => wpAny_pyIter_enum he ?_
      have I2 : Inv X pins σ H1 { s1 with heap := h' } := I1.kept (t' := s1.toks) hk
      exact ⟨s1.heap.objs.size + 1, [s1.heap.objs.size + 1, s1.heap.objs.size], _, _, H1, rfl, I2, turn_enumT a (s1.heap.objs.size + 1) s1.heap.objs.size, ⟨⟨.none, he⟩, ⟨_, hit, rfl, rfl⟩, Nat.succ_ne_self _, Nat.ne_of_lt hlt, Nat.ne_of_gt (Nat.lt_succ_of_lt hlt)⟩, fun b hb => I1.fpOk (hle b hb) (I1.hok.fresh (hle b hb)), q⟩
end
section
variable {L : Lk} {X : Cx} {W : WX} {F : FF} {M M0 M1 M2 M3 M' : Mu} {H H0 H1 H2 H3 H' : Hp} {env e : Env} {σ : L2.St}
variable {a b : Expr} {ea eb : EV} {p pos tpos : Pos} {elts : List Expr} {kk : Nat}
theorem rg_up {g : G} {v : V} {q : Addr} {o : HO} (h : RG L M H g v) (m : M q) : RG L M (L2.upd H q o) g v := RG.to (fun b u eb mb => ⟨by rw [upd_ne (fun z => mb (by rw [z]; exact m))]; exact eb, mb⟩) _ _ h
theorem enumG_len : ∀ (xs : List G) (k : Int), (enumG k xs).length = xs.length
  | [], _ => rfl
  | x :: xs, k => by simp [enumG, enumG_len xs]
theorem enumG_get : ∀ (xs : List G) (k : Int) (i : Nat) (g : G), xs[i]? = some g → (enumG k xs)[i]? = some (.tup [.int (k + i), g])
  | [], _, _, _, h => by simp at h
  | x :: xs, k, 0, g, h => by simp at h; subst h; simp [enumG]
  | x :: xs, k, i + 1, g, h => by
    rw [enumG, List.getElem?_cons_succ, enumG_get xs (k + 1) i g (by simpa using h)]
    congr 4
    omega
theorem src_enumT {gs : List G} {q : Addr} : Src L L.K (IteT L.K q) (enumG 0 gs) (fun M H e σ => RG L M H (.tup gs) (.ref q)) := by
  refine ⟨fun M H e σ M' H' e' σ' r h x => RG.to (x.ext r) _ _ h, fun M H e σ i r h hi => ?_, fun M H e σ i x H' r h hi y => ?_, fun M H e σ i r h hi => ?_, fun _ _ _ _ _ _ _ h => h, fun M H e σ q o m h => rg_up h m⟩
  · rw [enumG_len] at hi
    obtain ⟨a, vs, ea, k, rs, _⟩ := RV.tup (.inl h)
    cases ea
    obtain ⟨v, ev, _⟩ := rs.get (List.getElem?_eq_getElem hi)
    exact ⟨vs, v, k, ev⟩
  · obtain ⟨a, vs, ea, k, rs, _⟩ := RV.tup (.inl h)
    cases ea
    obtain ⟨T, y0, rfl, hT, rfl, f⟩ := y
    obtain ⟨g, eg, rg⟩ := rs.getV (f vs k)
    have n : New L M H (less M T) (upd H T (.tup [.int (i : Nat), y0])) (.g (.tup [.int (i : Nat), g])) (.ref T) := .tup hT (.cons rg_int (.cons rg .nil))
    refine ⟨_, less M T, ?_, n.kp, n.rd⟩
    rw [enumG_get gs 0 i g eg]
    simp
  · rw [enumG_len] at hi
    obtain ⟨a, vs, ea, k, rs, _⟩ := RV.tup (.inl h)
    cases ea
    exact ⟨vs, k, by rw [← rs.len]; exact hi⟩
theorem src_enumL {gs : List G} {q : Addr} : Src L L.K (Ite L.K q) (enumG 0 gs) (fun M H e σ => RG L M H (.lst gs) (.ref q)) := by
  refine ⟨fun M H e σ M' H' e' σ' r h x => RG.to (x.ext r) _ _ h, fun M H e σ i r h hi => ?_, fun M H e σ i x H' r h hi y => ?_, fun M H e σ i r h hi => ?_, fun _ _ _ _ _ _ _ h => h, fun M H e σ q o m h => rg_up h m⟩
  · rw [enumG_len] at hi
    obtain ⟨a, vs, ea, k, _, rs⟩ := RV.lst (.inl h)
    cases ea
    obtain ⟨v, ev, _⟩ := rs.get (List.getElem?_eq_getElem hi)
    exact ⟨vs, v, k, ev⟩
  · obtain ⟨a, vs, ea, k, _, rs⟩ := RV.lst (.inl h)
    cases ea
    obtain ⟨T, y0, rfl, hT, rfl, f⟩ := y
    obtain ⟨g, eg, rg⟩ := rs.getV (f vs k)
    have n : New L M H (less M T) (upd H T (.tup [.int (i : Nat), y0])) (.g (.tup [.int (i : Nat), g])) (.ref T) := .tup hT (.cons rg_int (.cons rg .nil))
    refine ⟨_, less M T, ?_, n.kp, n.rd⟩
    rw [enumG_get gs 0 i g eg]
    simp
  · rw [enumG_len] at hi
    obtain ⟨a, vs, ea, k, _, rs⟩ := RV.lst (.inl h)
    cases ea
    exact ⟨vs, k, by rw [← rs.len]; exact hi⟩
theorem i_enum (hk : X.K = L.K) (hg : Gl X "enumerate") (hm : X.mg "enumerate" = none) (ha : PE X a (TEof L W (ea F))) (hs : starEach [a] X.env = (false, eval a X.env) :: starEach [] X.env := by rfl) (hs' : starEach [a] X.env = [(false, eval a X.env)] := by rfl) :
    PI X (.Tuple elts kk tpos) (.Call (.Name "enumerate" p) [a] [] pos) (TIof L W (iN ea F)) := by
  refine PI.imp (pi_enumA hg hm (pa_cons ha pa_nil hs) hs') fun σ H R h => ?_
  obtain ⟨M, env, re, P⟩ := h
  refine goE (.refl re) P fun d e v H1 M1 A1 A1' D1 P1 => ?_
  split at P1
  · rename_i gs esl ev
    obtain ⟨M2, A2, rg⟩ := view_rg esl A1 D1 ev
    obtain ⟨q, vs, rfl, k, rs, _⟩ := RV.sqt hk (.inl rg)
    refine ⟨q, vs, rfl, .inr ⟨k, ?_⟩⟩
    rw [hk]
    exact P1 _ _ H1 M2 A2 (fun k z => by cases z) src_enumT (fun _ _ _ _ e2 e3 => by rw [e2, e3]; exact rg)
  · rename_i gs esl ev
    obtain ⟨M2, A2, rg⟩ := view_rg esl A1 D1 ev
    obtain ⟨q, vs, rfl, k, _, rs⟩ := RV.sql hk (.inl rg)
    refine ⟨q, vs, rfl, .inl ⟨k, ?_⟩⟩
    rw [hk]
    exact P1 _ _ H1 M2 A2 (fun k z => by cases z) src_enumL (fun _ _ _ _ e2 e3 => by rw [e2, e3]; exact rg)
  · exact P1.elim
/-! ### zip -/
theorem zipG_len : ∀ (xs ys : List G), (zipG xs ys).length = min xs.length ys.length
  | [], ys => by simp [zipG]
  | x :: xs, [] => by simp [zipG]
  | x :: xs, y :: ys => by simp [zipG, zipG_len xs ys]
theorem zipG_get : ∀ (xs ys : List G) (i : Nat) (g k : G), xs[i]? = some g → ys[i]? = some k → (zipG xs ys)[i]? = some (.tup [g, k])
  | [], _, _, _, _, h, _ => by simp at h
  | _ :: _, [], _, _, _, _, h => by simp at h
  | x :: xs, y :: ys, 0, g, k, h1, h2 => by simp at h1 h2; subst h1 h2; simp [zipG]
  | x :: xs, y :: ys, i + 1, g, k, h1, h2 => by rw [zipG, List.getElem?_cons_succ]; exact zipG_get xs ys i g k (by simpa using h1) (by simpa using h2)
theorem src_zipT {xs ys : List G} {q r : Addr} : Src L L.K (RZ.ItzT L.K q r) (zipG xs ys) (fun M H e σ => RG L M H (.tup xs) (.ref q) ∧ RG L M H (.tup ys) (.ref r)) := by
  refine ⟨fun M H e σ M' H' e' σ' r h x => ⟨RG.to (x.ext r) _ _ h.1, RG.to (x.ext r) _ _ h.2⟩, fun M H e σ i _ h hi => ?_, fun M H e σ i x H' _ h hi y => ?_, fun M H e σ i _ h hi => ?_, fun _ _ _ _ _ _ _ h => h, fun M H e σ q o m h => ⟨rg_up h.1 m, rg_up h.2 m⟩⟩
  · rw [zipG_len] at hi
    obtain ⟨a, vs, ea, k, rs, _⟩ := RV.tup (.inl h.1)
    obtain ⟨b, ws, eb, k', rs', _⟩ := RV.tup (.inl h.2)
    cases ea; cases eb
    obtain ⟨v, ev, _⟩ := rs.get (List.getElem?_eq_getElem (show i < xs.length by omega))
    obtain ⟨w, ew, _⟩ := rs'.get (List.getElem?_eq_getElem (show i < ys.length by omega))
    exact ⟨vs, ws, v, w, k, k', ev, ew⟩
  · obtain ⟨a, vs, ea, k, rs, _⟩ := RV.tup (.inl h.1)
    obtain ⟨b, ws, eb, k', rs', _⟩ := RV.tup (.inl h.2)
    cases ea; cases eb
    obtain ⟨T, y0, y1, rfl, hT, rfl, f, f'⟩ := y
    obtain ⟨g, eg, rg⟩ := rs.getV (f vs k)
    obtain ⟨g', eg', rg'⟩ := rs'.getV (f' ws k')
    have n : New L M H (less M T) (upd H T (.tup [y0, y1])) (.g (.tup [g, g'])) (.ref T) := .tup hT (.cons rg (.cons rg' .nil))
    exact ⟨_, less M T, zipG_get xs ys i g g' eg eg', n.kp, n.rd⟩
  · rw [zipG_len] at hi
    obtain ⟨a, vs, ea, k, rs, _⟩ := RV.tup (.inl h.1)
    obtain ⟨b, ws, eb, k', rs', _⟩ := RV.tup (.inl h.2)
    cases ea; cases eb
    have := rs.len
    have := rs'.len
    exact ⟨vs, ws, k, k', by omega⟩
theorem src_zipL {xs ys : List G} {q r : Addr} : Src L L.K (Itz L.K q r) (zipG xs ys) (fun M H e σ => RG L M H (.lst xs) (.ref q) ∧ RG L M H (.lst ys) (.ref r)) := by
  refine ⟨fun M H e σ M' H' e' σ' r h x => ⟨RG.to (x.ext r) _ _ h.1, RG.to (x.ext r) _ _ h.2⟩, fun M H e σ i _ h hi => ?_, fun M H e σ i x H' _ h hi y => ?_, fun M H e σ i _ h hi => ?_, fun _ _ _ _ _ _ _ h => h, fun M H e σ q o m h => ⟨rg_up h.1 m, rg_up h.2 m⟩⟩
  · rw [zipG_len] at hi
    obtain ⟨a, vs, ea, k, _, rs⟩ := RV.lst (.inl h.1)
    obtain ⟨b, ws, eb, k', _, rs'⟩ := RV.lst (.inl h.2)
    cases ea; cases eb
    obtain ⟨v, ev, _⟩ := rs.get (List.getElem?_eq_getElem (show i < xs.length by omega))
    obtain ⟨w, ew, _⟩ := rs'.get (List.getElem?_eq_getElem (show i < ys.length by omega))
    exact ⟨vs, ws, v, w, k, k', ev, ew⟩
  · obtain ⟨a, vs, ea, k, _, rs⟩ := RV.lst (.inl h.1)
    obtain ⟨b, ws, eb, k', _, rs'⟩ := RV.lst (.inl h.2)
    cases ea; cases eb
    obtain ⟨T, y0, y1, rfl, hT, rfl, f, f'⟩ := y
    obtain ⟨g, eg, rg⟩ := rs.getV (f vs k)
    obtain ⟨g', eg', rg'⟩ := rs'.getV (f' ws k')
    have n : New L M H (less M T) (upd H T (.tup [y0, y1])) (.g (.tup [g, g'])) (.ref T) := .tup hT (.cons rg (.cons rg' .nil))
    exact ⟨_, less M T, zipG_get xs ys i g g' eg eg', n.kp, n.rd⟩
  · rw [zipG_len] at hi
    obtain ⟨a, vs, ea, k, _, rs⟩ := RV.lst (.inl h.1)
    obtain ⟨b, ws, eb, k', _, rs'⟩ := RV.lst (.inl h.2)
    cases ea; cases eb
    have := rs.len
    have := rs'.len
    exact ⟨vs, ws, k, k', by omega⟩
theorem i_zip (hk : X.K = L.K) (hg : Gl X "zip") (hm : X.mg "zip" = none) (ha : PE X a (TEof L W (ea F))) (hb : PE X b (TEof L W (eb F))) (h1 : starEach [a, b] X.env = (false, eval a X.env) :: starEach [b] X.env := by rfl) (h2 : starEach [b] X.env = (false, eval b X.env) :: starEach [] X.env := by rfl) (hpl : (backTo pos (starEach [b] X.env)).any (·.1) = false := by rfl) :
    PI X (.Tuple elts kk tpos) (.Call (.Name "zip" p) [a, b] [] pos) (TIof L W (iZ ea eb F)) := by
  refine PI.imp (RZ.pi_zipA hg hm (pa_cons ha (pa_cons hb pa_nil h2) h1) h1 hpl) fun σ H R h => ?_
  obtain ⟨M, env, re, P⟩ := h
  refine goE (.refl re) P fun d e v H1 M1 A1 A1' D1 P1 => goE A1 P1 fun d2 e2 w H2 M2 A2 A2' D2 P2 => ?_
  have two : ∀ {gx gy : G}, (isSl d || isSl d2) = false → view d e2 = some gx → view d2 e2 = some gy → ∃ M3, AftE L M H env σ M3 H2 e2 ∧ RG L M3 H2 gx v ∧ RG L M3 H2 gy w := fun {gx gy} hsl ex ey => by
    simp only [Bool.or_eq_false_iff] at hsl
    obtain ⟨s1, s2⟩ := hsl
    have D1' := D1.to A2'.aft A1.re A2'.ob
    have D2' : RD L M2 H2 e2 σ H d2 w := D2.back fun a h => A1.aft.free h
    have fx : ∀ {d : Ev.D} {g : G}, isSl d = false → view d e2 = some g → frz d e2 = some (g, e2) := fun {d g} hs hv => by
      cases d with
      | g x => simp only [view, Option.some.injEq] at hv; subst hv; rfl
      | own x => simp only [view, Option.some.injEq] at hv; subst hv; rfl
      | sl q => cases hs
    obtain ⟨M3, fz, ax⟩ := frz_ok A2.aft D1' (fx s1 ex)
    have A3 : AftE L M H env σ M3 H2 e2 := ⟨ax, A2.ob⟩
    have D3 : RD L M3 H2 e2 σ H d2 w := fz.rd _ _ _ D2' fun x y ex' ey' ev => by
      subst ex' ey'
      obtain ⟨a1, q1, _, _, _, k1, _⟩ := D1
      obtain ⟨a2, q2, _, _, _, _, f2⟩ := D2
      rw [q1, q2] at ev; cases ev
      obtain ⟨o, q⟩ := k1.has
      rw [f2] at q; cases q
    obtain ⟨M4, fz2, ax2⟩ := frz_ok A3.aft D3 (fx s2 ey)
    exact ⟨M4, ⟨ax2, A2.ob⟩, RG.to (fun a o eo m => ⟨eo, fun z => m (fz2.sub a z)⟩) _ _ fz.rg, fz2.rg⟩
  split at P2
  · rename_i xs ys hsl ex ey
    obtain ⟨M3, A3, r1, r2⟩ := two hsl ex ey
    obtain ⟨q1, vs, rfl, k1, _, _⟩ := RV.sqt hk (.inl r1)
    obtain ⟨q2, ws, rfl, k2, _, _⟩ := RV.sqt hk (.inl r2)
    refine ⟨q1, q2, vs, ws, rfl, .inr ⟨k1, k2, ?_⟩⟩
    rw [hk]
    exact P2 _ _ H2 M3 A3 (fun k z => by cases z) src_zipT (fun _ _ _ _ e2 e3 => by rw [e2, e3]; exact ⟨r1, r2⟩)
  · rename_i xs ys hsl ex ey
    obtain ⟨M3, A3, r1, r2⟩ := two hsl ex ey
    obtain ⟨q1, vs, rfl, k1, _, _⟩ := RV.sql hk (.inl r1)
    obtain ⟨q2, ws, rfl, k2, _, _⟩ := RV.sql hk (.inl r2)
    refine ⟨q1, q2, vs, ws, rfl, .inl ⟨k1, k2, ?_⟩⟩
    rw [hk]
    exact P2 _ _ H2 M3 A3 (fun k z => by cases z) src_zipL (fun _ _ _ _ e2 e3 => by rw [e2, e3]; exact ⟨r1, r2⟩)
  · exact P2.elim
end
end Ev

end
section
set_option linter.all false
set_option maxRecDepth 100000
set_option maxHeartbeats 4000000
namespace Ev
open PySem PySem.Spec PyProof.Rows L2
section
variable {L : Lk} {X : Cx} {CX : CXT} {W : WX} {F F' : FF} {M M0 M1 M2 M3 M' : Mu} {H H0 H1 H2 H3 H' : Hp} {env e : Env} {σ : L2.St}
variable {a b : Expr} {ea eb : EV} {as : AV} {es : List Expr} {p pos px : Pos} {n k : Nat} {fd : FD}
/-! ### a property -/
def E0' : XK := fun _ _ _ => False
theorem c_prop {C : CT} {at_ : Str} {c0 f0 : Nat} {pa g : Addr} {fdd : FuncData} {ps : List Str} (hk : X.K = L.K) (hA : ∀ c x, attrOf C c n = some x → c = c0 ∧ x = .prop f0) (hF : isFD F f0 fd F') (cl : SlX.SCls X.K (L.ca c0))
    (h1 : PySem.W.findIn X.K (.ref (L.ca c0)) at_ = some (some (.ref pa))) (h2 : PySem.W.specialIn X.K (.ref pa) "__get__" = some (some (.builtin "property.__get__")))
    (h3 : PySem.W.takesIn X.K (.ref pa) = some true) (h4 : ∃ rest, PySem.W.recIn X.K pa "property" = some (.ref g :: rest)) (FO : FnOk X.prog X.w X.K X.mg X.base CX k g fdd ps (spF L fd F')) (hb : Binds X.K fdd ps []) (hr : Room (k + 1) X.A)
    (hx : ∀ (H : Hp) (s : Shared) (e : Value) (s' : Shared), CX X.stack H s E0' e s' → False) (ha : PE X a (TEof L W (ea F))) (hba : attributeBase a at_ X.env (eval a X.env) = eval a X.env := by rfl) : PE X (.Attribute a at_ pos) (TEof L W (eAttr C ea n F)) := by
  refine PE.imp (SlX.pe_propSl ha cl h1 h2 h3 h4 (FO.raw hb .nil) hr hx hba) fun σ H Q h => ?_
  obtain ⟨M, env, re, P⟩ := h
  refine goE (.refl re) P fun d1 e1 v1 H1 M1 A1 A1' D1 P1 => ?_
  split at P1
  · rename_i c fs ex
    obtain ⟨q, dx, ws, rfl, hs, r, rg, sc⟩ := (A1.re.view D1 ex).ins
    cases ea0 : attrOf C c n with
    | none => rw [ea0] at P1; exact P1.elim
    | some x =>
      obtain ⟨rfl, rfl⟩ := hA c x ea0
      rw [ea0] at P1
      simp only at P1
      rw [hF] at P1
      by_cases hnp : fd.np = 1
      case neg => rw [if_neg (by simp only [List.length_cons, List.length_nil]; omega)] at P1; exact P1.elim
      rw [if_pos (by simp [hnp])] at P1
      refine ⟨q, dx, _, rfl, hs, ?_⟩
      -- the callee's frame
      have D0 : RDs L M1 H1 e1 σ H1 [.g (.ins c fs)] [.ref q] := ⟨.ref q, [], rfl, rg, rfl, fun x z => nomatch z⟩
      have ea1 : argsS e1 [.g (.ins c fs)] = some [.val (.ins c fs)] := rfl
      have cre := call_re (fd := fd) (dfl := []) (dvs := []) A1.re D0 ea1 (by simp [lent]) .nil
      have fr := call_fr (fd := fd) (dfl := []) (dvs := []) (show [V.ref q].length = [Ev.D.g (.ins c fs)].length from rfl) ea1
      refine ⟨M1, [.val (.ins c fs)], by simp [hnp], by simp [hnp], cre, ?_⟩
      split at P1
      · rename_i r0 s0 e2 ef
        have ef : fin (fd.body F' (env0 fd [.val (.ins c fs)])) = .ok (.g r0) (s0 :: e2) := ef
        rw [ef]
        refine ⟨rfl, ?_⟩
        intro v H' M' σ' y rd
        obtain ⟨A2, rdf⟩ := call_aft (.refl A1.re) D0 (by simp [lent]) fr y (show back e1 [.g (.ins c fs)] (s0 :: e2) = some e1 by simp [back])
        exact P1 v H' M' (A1.trans A2) (rdf (.g r0) v rd)
      · exact P1.elim
  · exact P1.elim
/-! ### the last statement of an __init__ -/
/-- self.f = ..: the slot -/
def gAt (K : PySem.W.Frag) (f : Str) : TG := fun v σ H Q => ∃ a C dx p vs i, σ[0]? = some (some (.ref a)) ∧ SlX.Slt H a C dx vs ∧ SlX.SCls K C ∧ SlX.Slot1 K C f p i ∧ Q σ (SlX.slH H a C dx (SlX.putS i v vs))
theorem pg_at {f : Str} (h0 : X.N[0]? = some ("self" : Str)) (hv : Vis X.env.scope "self") : PG X (.Attribute (.Name "self" px) f pos) (gAt X.K f) := by
  refine ⟨fun pins s σ H v u Q I r h => ?_⟩
  obtain ⟨a, C, dx, p, vs, i, e0, hs, hc, ht, q⟩ := h
  rw [assign_Attribute]
  refine wpAny_bind (wpAny_holding (thn ((pe_var (pos := px) h0 hv).run pins s σ H (fun x H1 => x = .ref a ∧ H1 = H) I ⟨.ref a, e0, rfl, rfl⟩) fun ov s1 ⟨x, H1, I1, r1, e1, e2⟩ => ?_))
  subst e1 e2
  cases r1
  refine wpAny_bind (wpAny_standAt (wpAny_bind (wpAny_holding (SlX.setslot_ok I1 hs hc ht r fun s2 I2 => wpAny_release ⟨σ, _, I2, q⟩))))
def gAts (K : PySem.W.Frag) : List Str → TGs
  | [] => gNil
  | f :: fs => gCons (gAt K f) (gAts K fs)
def putAll : List Nat → List V → List (Option V) → List (Option V)
  | i :: is, v :: vs, cur => putAll is vs (SlX.putS i v cur)
  | _, _, cur => cur
theorem slt_slH {a C dx : Addr} {vs : List (Option V)} (ne : dx ≠ a) : SlX.slH H a C dx vs a = some (SlX.SlO a C dx vs) ∧ SlX.slH H a C dx vs dx = some (.xd []) ∧ ∀ b, b ≠ a → b ≠ dx → SlX.slH H a C dx vs b = H b := by
  unfold SlX.slH
  exact ⟨upd_same, by rw [upd_ne ne]; exact upd_same, fun b h1 h2 => by rw [upd_ne h1, upd_ne h2]⟩
theorem ats_run {a C dx : Addr} (h0 : σ[0]? = some (some (.ref a))) (hc : SlX.SCls X.K C) (ne : dx ≠ a) : ∀ {fs : List Str} {is : List Nat} {vs : List V} {cur : List (Option V)} {H : Hp} {Q : L2.St → Hp → Prop}, fs.length = is.length → vs.length = is.length →
    (∀ (k : Nat) (f : Str) (i : Nat), fs[k]? = some f → is[k]? = some i → ∃ p, SlX.Slot1 X.K C f p i) → SlX.Slt H a C dx cur → (∀ H', (is = [] → H' = H) → (is ≠ [] → H' a = some (SlX.SlO a C dx (putAll is vs cur)) ∧ H' dx = some (.xd [])) → (∀ b, b ≠ a → b ≠ dx → H' b = H b) → Q σ H') → gAts X.K fs vs σ H Q
  | [], [], vs, cur, H, Q, _, l2, _, _, q => by
    have : vs = [] := List.eq_nil_of_length_eq_zero l2
    exact ⟨this, q H (fun _ => rfl) (fun z => absurd rfl z) fun _ _ _ => rfl⟩
  | f :: fs, i :: is, v :: vs, cur, H, Q, l1, l2, hs, sl, q => by
    obtain ⟨p, ht⟩ := hs 0 f i rfl rfl
    obtain ⟨k1, k2, k3⟩ := slt_slH (H := H) (C := C) (vs := SlX.putS i v cur) ne
    refine ⟨v, vs, rfl, a, C, dx, p, cur, i, h0, sl, hc, ht, ats_run h0 hc ne (by simpa using l1) (by simpa using l2) (fun k f' i' e1 e2 => hs (k + 1) f' i' e1 e2) (.inr ⟨k1, k2⟩) fun H' e1 e2 e3 => q H' (fun z => by cases z) (fun _ => ?_) fun b n1 n2 => (e3 b n1 n2).trans (k3 b n1 n2)⟩
    cases is with
    | nil => rw [e1 rfl]; cases vs <;> exact ⟨k1, k2⟩
    | cons _ _ => exact e2 (by simp)
  | [], _ :: _, _, _, _, _, l1, _, _, _, _ => by simp at l1
  | _ :: _, [], _, _, _, _, l1, _, _, _, _ => by simp at l1
  | _ :: _, _ :: _, [], _, _, _, _, l2, _, _, _ => by simp at l2
theorem rgs_perm {gs : List G} {vs : List V} (h : RGs L M H gs vs) : ∀ {pm : List Nat}, (∀ j ∈ pm, j < gs.length) → RGs L M H (pm.map fun j => (gs[j]?).getD .non) (pm.map fun j => (vs[j]?).getD .non)
  | [], _ => .nil
  | j :: pm, hp => by
    simp only [List.map_cons]
    have hj := hp j (List.mem_cons_self ..)
    obtain ⟨v, ev, r⟩ := h.get (List.getElem?_eq_getElem hj)
    rw [ev, List.getElem?_eq_getElem hj]
    exact .cons r (rgs_perm h fun j hj => hp j (List.mem_cons_of_mem _ hj))
theorem s_ini {tgs : List Expr} {fs : List Str} {is pm : List Nat} {kt k2 : Nat} {pt pt2 : Pos} (hk : X.K = L.K) (hc : X.calm = true) (hg : PGs X tgs (gAts X.K fs)) (ha : PA X es (TAof L W (as F))) (l1 : fs.length = is.length) (hne : is ≠ []) (hil : is.length ≤ 100)
    (hsl : ∀ c, L.sl c = true → SlX.SCls L.K (L.ca c) ∧ ∀ (k : Nat) (f : Str) (i : Nat), fs[k]? = some f → is[k]? = some i → ∃ p, SlX.Slot1 L.K (L.ca c) f p i)
    (hpm : ∀ vs : List V, vs.length = is.length → putAll is vs [] = (pm.map fun j => (vs[j]?).getD .non).map some) (hpl : ∀ j ∈ pm, j < is.length)
    (hs : swapsWithSole [.Tuple tgs kt pt] (.Tuple es k2 pt2) pos.line X.env = pure false := by rfl) (hw : swappedStores [.Tuple tgs kt pt] (.Tuple es k2 pt2) X.env = pure none := by rfl)
    (h1 : (assignEach [.Tuple tgs kt pt] X.env).map (·.2) = [assign (.Tuple tgs kt pt) X.env] := by rfl) (hn : (assignEach tgs X.env).length = is.length := by rfl) (hst : (assignEach tgs X.env).findIdx? (·.1) = none := by rfl) (hel : es.length = is.length := by rfl)
    (hlen : ∀ ds e e', as F e = .ok ds e' → ds.length = is.length) :
    PS X (.Assign [.Tuple tgs kt pt] (.Tuple es k2 pt2) pos) (TSof L W (sIni pm as F)) := by
  refine PS.imp (ps_asg (pe_tup ha) (pg_tup hc hg hn hst) hs hw h1) fun D σ H h => ?_
  obtain ⟨M, env, re, P⟩ := h
  unfold sIni at P
  split at P
  · rename_i hsf
    have lt0 : isLt (getS env 0) = true := by cases es : getS env 0 <;> rw [es] at hsf <;> simp [isSlf] at hsf; rfl
    have P : PostS L W σ M H env D ((as F env).st fun ds e => match frzs ds e with
      | some (gs, e) => match getS e 0 with
        | .slf c => .ini c (pm.map fun j => (gs[j]?).getD .non) (e.set 0 (.lfz (.ins c (pm.map fun j => (gs[j]?).getD .non))))
        | _ => .bad
      | none => .bad) := P
    cases eA : as F env with
    | exn c p e => rw [eA] at P; exact ⟨M, env, re, by rw [eA]; exact fun cls dd H' M' A r => P cls dd σ H' M' A.aft r⟩
    | bad => rw [eA] at P; exact P.elim
    | ok ds e =>
      rw [eA] at P
      refine ⟨M, env, re, ?_⟩
      rw [eA]
      intro vs H1 M1 A1 D1
      have P : PostS L W σ M H env D (match frzs ds e with
        | some (gs, e) => match getS e 0 with
          | .slf c => .ini c (pm.map fun j => (gs[j]?).getD .non) (e.set 0 (.lfz (.ins c (pm.map fun j => (gs[j]?).getD .non))))
          | _ => .bad
        | none => .bad) := P
      have lds := hlen ds env e eA
      have lvs : vs.length = is.length := D1.at_.1.trans lds
      split at P
      · rename_i gs e2 ef
        obtain ⟨M2, A2, rg, _⟩ := frzs_ok A1 D1 ef
        split at P
        · rename_i c e0
          have q0 := A2.re.at_ 0
          rw [e0] at q0
          obtain ⟨a, dx, ea, ma, md, ha1, hd1, sc⟩ := q0
          have nda : dx ≠ a := fun z => by rw [z, ha1] at hd1; cases hd1
          obtain ⟨cl, st⟩ := hsl c sc
          have := line100
          have hsz : vs.length ≤ sizeLine := by omega
          refine ⟨hsz, fun q hq => ⟨q, vs, rfl, .inl (.inl upd_same), lvs, ?_⟩⟩
          have nqa : a ≠ q := fun z => by rw [z, hq] at ha1; cases ha1
          have nqd : dx ≠ q := fun z => by rw [z, hq] at hd1; cases hd1
          refine ats_run (sv_some ea) (by rw [hk]; exact cl) nda l1 lvs (fun k f i e1 e2 => by rw [hk]; exact st k f i e1 e2) (.inl ⟨by rw [upd_ne nqa]; exact ha1, rfl⟩) fun H3 _ e3 e4 => ?_
          obtain ⟨e3a, e3d⟩ := e3 hne
          rw [hpm vs lvs] at e3a
          -- what stays
          have old : ∀ b o, H1 b = some o → b ≠ a → b ≠ dx → H3 b = some o := fun b o eb n1 n2 => by
            have n3 : b ≠ q := fun z => by rw [z, hq] at eb; cases eb
            rw [e4 b n1 n2, upd_ne n3]; exact eb
          have xt : Ext M2 H1 (less (less M2 a) dx) H3 := fun b o eb mb => ⟨old b o eb (fun z => mb (by rw [z]; exact ma)) (fun z => mb (by rw [z]; exact md)), fun z => mb z.1.1⟩
          have rgi : RG L (less (less M2 a) dx) H3 (.ins c (pm.map fun j => (gs[j]?).getD .non)) (.ref a) := by
            unfold RG
            refine ⟨a, dx, _, rfl, fun z => z.1.2 rfl, fun z => z.2 rfl, e3a, e3d, ?_, sc⟩
            have rg3 := RGs.to xt _ _ rg
            have lg := rg.len
            exact rgs_perm rg3 fun j hj => by have := hpl j hj; omega
          have hi : 0 < e2.length := getS_lt fun z => by rw [z] at e0; cases e0
          have gs' : ∀ s j, getS (e2.set 0 s) j = if j = 0 then s else getS e2 j := fun s j => by rw [getS_set]; simp [hi]
          have r2 := A2.re
          have step : Aft L M2 H1 e2 σ (less (less M2 a) dx) H3 (e2.set 0 (.lfz (.ins c (pm.map fun j => (gs[j]?).getD .non)))) σ := by
            have ob0 : isOb (getS e2 0) = true := by rw [e0]; rfl
            have oth : ∀ j, j ≠ 0 → RS1 L (less (less M2 a) dx) H3 (getS e2 j) (sv σ j) := fun j hj => by
              have rj := r2.at_ j
              have na : ∀ b, isOb (getS e2 j) = true → sv σ j = some (.ref b) → b ≠ a := fun b hb eb z => r2.inj j 0 a hj hb ob0 (by rw [eb, z]) ea
              have nd : ∀ {g b}, RC L M2 H1 g b → b ≠ dx := fun {g b} k z => by rw [z] at k; exact k.notown hd1
              cases es : getS e2 j with
              | non => exact True.intro
              | val g => rw [es] at rj; obtain ⟨v, e2, k⟩ := rj; exact ⟨v, e2, RG.to xt _ _ k⟩
              | lfz g => rw [es] at rj; obtain ⟨v, e2, k⟩ := rj; exact ⟨v, e2, RG.to xt _ _ k⟩
              | obj g => rw [es] at rj na; obtain ⟨b, e2, m, k⟩ := rj; have n1 := na b rfl e2; exact ⟨b, e2, ⟨⟨m, n1⟩, nd k⟩, k.to xt fun u h => old b u h n1 (nd k)⟩
              | len g => rw [es] at rj na; obtain ⟨b, e2, m, k⟩ := rj; have n1 := na b rfl e2; exact ⟨b, e2, ⟨⟨m, n1⟩, nd k⟩, k.to xt fun u h => old b u h n1 (nd k)⟩
              | lck l g => rw [es] at rj na; obtain ⟨b, e2, m, k⟩ := rj; have n1 := na b rfl e2; exact ⟨b, e2, ⟨⟨m, n1⟩, nd k⟩, k.to xt fun u h => old b u h n1 (nd k)⟩
              | slf c' =>
                rw [es] at rj na; obtain ⟨b, dy, e2, m, md', h1, h2, h3⟩ := rj
                have n1 := na b rfl e2
                have n2 : b ≠ dx := fun z => by rw [z, hd1] at h1; cases h1
                have n3 : dy ≠ a := fun z => by rw [z, ha1] at h2; cases h2
                have n4 : dy ≠ dx := fun z => by rw [z, hd1] at h2; cases h2; exact n1 rfl
                exact ⟨b, dy, e2, ⟨⟨m, n1⟩, n2⟩, ⟨⟨md', n3⟩, n4⟩, old b _ h1 n1 n2, old dy _ h2 n3 n4, h3⟩
            have ownA : own H1 e2 σ a := ⟨0, .inl ⟨by rw [e0]; rfl, ea⟩⟩
            have ownD : own H1 e2 σ dx := ⟨0, .inr ⟨c, a, _, _, e0, ea, ha1⟩⟩
            refine ⟨r2.set (show RS1 L _ _ (.lfz _) _ from ⟨.ref a, ea, rgi⟩) (fun z => by cases z) oth, fun b o eb nw => ?_, fun b ⟨j, w⟩ => .inl ?_, fun b w => ?_, fun j hj => ⟨?_, rfl⟩, fun j b hj ej => .inl ⟨j, ?_, ej⟩, fun j l g hj => ⟨?_, rfl⟩⟩
            · have n1 : b ≠ a := fun z => nw (by rw [z]; exact ownA)
              have n2 : b ≠ dx := fun z => nw (by rw [z]; exact ownD)
              exact ⟨old b o eb n1 n2, ⟨fun z => z.1.1, fun z => ⟨⟨z, n1⟩, n2⟩⟩⟩
            · rw [gs'] at w
              by_cases z : j = 0
              · rw [if_pos z] at w; rcases w with ⟨w, _⟩ | ⟨_, _, _, _, w, _⟩ <;> cases w
              · rw [if_neg z] at w
                rcases w with w | ⟨c', a', C', fs', w1, w2, w3⟩
                · exact ⟨j, .inl w⟩
                · have rj := r2.at_ j
                  rw [w1] at rj
                  obtain ⟨b', dy, e5, m, md', h1, h2, h3⟩ := rj
                  rw [w2] at e5; cases e5
                  have n1 : a' ≠ a := fun z2 => r2.inj j 0 a z (by rw [w1]; rfl) ob0 (by rw [w2, z2]) ea
                  have n2 : a' ≠ dx := fun z2 => by rw [z2, hd1] at h1; cases h1
                  have := old a' _ h1 n1 n2
                  rw [w3] at this; cases this
                  exact ⟨j, .inr ⟨c', a', _, _, w1, w2, h1⟩⟩
            · by_cases n1 : b = a
              · exact ⟨_, by rw [n1]; exact e3a⟩
              · by_cases n2 : b = dx
                · exact ⟨_, by rw [n2]; exact e3d⟩
                · obtain ⟨o, h⟩ := r2.has w
                  exact ⟨o, old b o h n1 n2⟩
            · rw [gs']
              split
              · rfl
              · exact hj
            · rw [gs'] at hj
              split at hj
              · cases hj
              · exact hj
            · rw [gs', if_neg fun z => by rw [z, e0] at hj; cases hj]
              exact hj
          exact P.2 a σ H3 _ (A2.aft.trans step) ea rgi
        · exact P.elim
      · exact P.elim
  · exact P.elim
end
end Ev

end
section
set_option linter.all false
set_option maxRecDepth 100000
set_option maxHeartbeats 4000000
namespace Ev
open PySem PySem.Spec PyProof.Rows L2
abbrev WE' (E : XK) : WX := fun cls d _ H => E cls d H
section
variable {L : Lk} {F F' : FF} {P : Program} {w : World} {K : PySem.W.Frag} {mg : Str → Option Value} {base : Heap} {x qual : Str} {st : Stmt} {dvs : List V} {f : Addr} {fdd : FuncData} {N ps : List Str} {k : Nat} {fd : FD}
theorem start_sig {vs : List V} (hN : N.length = fd.ns) (hv : vs.length = fd.np) : L2.start N vs = sig0 fd vs := by
  unfold L2.start sig0
  rw [hN, hv]
/-- a def by its body -/
theorem ev_ok (FDD : FunD K x qual (defArgs st) (defBody st) (defScope st) dvs [] f fdd) (S : FnScope N ps (defScope st)) (hps : ps.length = fd.np) (hN : N.length = fd.ns)
    (hb : ∀ (cdv : Value) (A : Around) (outer : List PySem.Env) (s : Shared) (H : Hp) (E : XK), Room k (A.deeper (envOfC qual (defScope st) s.heap.objs.size f cdv)) → PSs (cxOf CX0 P w K mg base N qual (defScope st) f cdv A outer s H E).nox (defBody st) (TSof L (WE' E) (fd.body F'))) :
    FnOk P w K mg base CX0 (k + 1) f fdd ps (spF L fd F') := by
  refine FDD.ok S (fun vs H Q E h => ?_) (fun cdv A outer s H vs Q E hr h => ⟨_, PSs.nox (hb cdv A outer s H E hr), ?_⟩)
  · obtain ⟨M, ss, _, hv, _⟩ := h
    rw [hv, hps]
  · obtain ⟨M, ss, hs, hv, re, q⟩ := h
    rw [start_sig hN hv]
    refine ⟨M, _, re, ?_⟩
    cases e : fd.body F' (env0 fd ss) with
    | ini c fs e1 =>
      rw [e] at q
      exact absurd q.1 (by simp [isMade])
    | nx e1 => rw [e] at q; exact fun σ' H' M' A => q.2 .non H' M' σ' A (show RG L M' H' .non .non from rg_non)
    | bk e1 => rw [e] at q; exact q.elim
    | ct e1 => rw [e] at q; exact q.elim
    | rt d e1 => rw [e] at q; exact fun v σ' H' M' A r => q.2 v H' M' σ' A r
    | exn c p e1 => rw [e] at q; exact fun cls dd σ' H' M' A r => q cls dd H' M' σ' A r
    | bad => rw [e] at q; exact q.elim
/-- an __init__ by its body -/
theorem evi_ok (FDD : FunD K x qual (defArgs st) (defBody st) (defScope st) dvs [] f fdd) (S : FnScope N ps (defScope st)) (hps : ps.length = fd.np) (hN : N.length = fd.ns)
    (hb : ∀ (cdv : Value) (A : Around) (outer : List PySem.Env) (s : Shared) (H : Hp) (E : XK), Room k (A.deeper (envOfC qual (defScope st) s.heap.objs.size f cdv)) → PSs (cxOf CX0 P w K mg base N qual (defScope st) f cdv A outer s H E).nox (defBody st) (TSof L (WE' E) (fd.body F'))) :
    FnOk P w K mg base CX0 (k + 1) f fdd ps (spI L fd F') := by
  refine FDD.ok S (fun vs H Q E h => ?_) (fun cdv A outer s H vs Q E hr h => ⟨_, PSs.nox (hb cdv A outer s H E hr), ?_⟩)
  · obtain ⟨M, ss, c, a, r, hv, _⟩ := h
    rw [hv, hps]
  · obtain ⟨M, ss, c, a, r, hv, hs, hvs, re, q⟩ := h
    rw [start_sig hN hv]
    refine ⟨M, _, re, ?_⟩
    cases e : fd.body F' (env0 fd (.slf c :: ss)) with
    | ini c fs e1 =>
      rw [e] at q
      refine ⟨rfl, fun a' σ' H' M' A h0 rg => ?_⟩
      subst hvs
      have : a' = a := by
        have h0 : sv (sig0 fd (V.ref a :: r)) 0 = some (V.ref a') := h0
        cases h0; rfl
      subst this
      exact q H' M' σ' A rg
    | nx e1 => rw [e] at q; exact q.elim
    | bk e1 => rw [e] at q; exact q.elim
    | ct e1 => rw [e] at q; exact q.elim
    | rt d e1 =>
      rw [e] at q
      cases d with
      | g x => exact q.elim
      | sl i => exact q.elim
      | own x =>
        cases x <;> first | exact q.elim | skip
        intro v σ' H' M' A rd
        obtain ⟨b, _, _, _, _, k, _⟩ := rd
        unfold RC at k
        exact k.elim
    | exn c p e1 => rw [e] at q; exact fun cls dd σ' H' M' A r => q cls dd H' M' σ' A r
    | bad => rw [e] at q; exact q.elim
end
section
variable {L : Lk} {X : Cx} {W : WX} {F : FF} {M : Mu} {H : Hp} {env : Env} {σ : L2.St} {a b c : Expr} {ea eb ec : EV} {pos p : Pos}
/-- a name of the frame -/
theorem cv (i : Nat) {x : Str} {pos : Pos} (hN : X.N[i]? = some x := by rfl) (hv : Vis X.env.scope x := by first | exact Or.inl rfl | exact Or.inr (Or.inl rfl) | exact Or.inr (Or.inr rfl)) (hd : (x == ("__debug__" : Str)) = false := by decide)
    (hcd : (x == ("__classdict__" : Str)) = false := by decide) : PE X (.Name x pos) (TEof L W (eV i F)) := c_var hN hv hd hcd
theorem ck {i : Int} {x : Str} {u : Tok} {pos : Pos} (hm : X.mg x = some (.int i u)) (hg : Gl X x := by rfl) (hd : (x == ("__debug__" : Str)) = false := by decide) : PE X (.Name x pos) (TEof L W (eK (.int i) F)) :=
  c_glob (v := .int i) (fun _ _ => rg_int) hg hm ⟨u, rfl⟩ hd
theorem bin_bl {o : B2} (h : isCmp o = true) {x y : G} {e e1 : Env} {d : Ev.D} (k : res (b2 o x y) e = .ok d e1) : ∃ t, d = .g (.bl t) := by
  rw [res_eq] at k
  cases eo : b2 o x y with
  | none => rw [eo] at k; cases k
  | some d' =>
    rw [eo] at k
    obtain ⟨t, rfl⟩ := b2_bl h eo
    cases k
    exact ⟨t, rfl⟩
theorem chain_bl {o o' : B2} (h' : isCmp o' = true) {e e1 : Env} {d : Ev.D} (k : eChain o o' ea eb ec F e = .ok d e1) : ∃ t, d = .g (.bl t) := by
  unfold eChain at k
  cases e1' : ea F e with
  | ok d1 e2 =>
    rw [e1'] at k
    simp only [R.bind] at k
    cases e2' : eb F e2 with
    | ok d2 e3 =>
      rw [e2'] at k
      simp only at k
      split at k
      · split at k
        · cases e3' : ec F e3 with
          | ok d3 e4 =>
            rw [e3'] at k
            simp only at k
            split at k
            · exact bin_bl h' k
            · cases k
          | exn _ _ _ => rw [e3'] at k; cases k
          | bad => rw [e3'] at k; cases k
        · cases k; exact ⟨false, rfl⟩
        · cases k
      · cases k
    | exn _ _ _ => rw [e2'] at k; cases k
    | bad => rw [e2'] at k; cases k
  | exn _ _ _ => rw [e1'] at k; cases k
  | bad => rw [e1'] at k; cases k
/-- a value that is a bool, as a test -/
theorem test_of {ev : EV} (hbl : ∀ e d e1, ev F e = .ok d e1 → ∃ t, d = .g (.bl t)) {Q : Bool → Hp → Prop} (h : TTof L W (tV ev F) σ H Q) : TEof L W (ev F) σ H fun v H' => ∃ k, v = .bl k ∧ Q k H' := by
  obtain ⟨M, env, re, P⟩ := h
  refine ⟨M, env, re, ?_⟩
  unfold tV at P
  cases e : ev F env with
  | ok d e1 =>
    rw [e] at P
    obtain ⟨t, rfl⟩ := hbl _ _ _ e
    intro v H' M' A r
    have r : RG L M' H' (.bl t) v := r
    unfold RG at r
    exact ⟨t, r, P H' M' A⟩
  | exn c p e1 => rw [e] at P; exact P
  | bad => rw [e] at P; exact P
theorem chain_core {op op' : CmpOp} {o o' : B2} {r r' : R2} (hs : ∀ (M : Mu) (H : Hp) (gx gy : G) (d : Ev.D) (vx vy : V) (Q : VK), b2 o gx gy = some d → RV L M H gx vx → RV L M H gy vy → (∀ v H' M', New L M H M' H' d v → Q v H') → r vx vy H Q)
    (hs' : ∀ (M : Mu) (H : Hp) (gx gy : G) (d : Ev.D) (vx vy : V) (Q : VK), b2 o' gx gy = some d → RV L M H gx vx → RV L M H gy vy → (∀ v H' M', New L M H M' H' d v → Q v H') → r' vx vy H Q) {Q : VK}
    (h : TEof L W (eChain o o' ea eb ec F) σ H Q) : tChain r r' (TEof L W (ea F)) (TEof L W (eb F)) (TEof L W (ec F)) σ H Q := by
  obtain ⟨M, env, re, P⟩ := h
  refine goE (.refl re) P fun d1 e1 v1 H1 M1 A1 A1' D1 P1 => goE A1 P1 fun d2 e2 v2 H2 M2 A2 A2' D2 P2 => ?_
  split at P2
  · rename_i x y ex ey
    have V1 := A2.re.view (D1.to A2'.aft A1.re A2'.ob) ex
    have V2 := A2.re.view D2 ey
    split at P2
    · rename_i eo
      refine hs M2 H2 x y _ v1 v2 _ eo V1 V2 fun v H3 M3 n => ?_
      have ev : v = .bl true := by have := n.rd; simp only at this; unfold RG at this; exact this
      refine ⟨true, ev, ?_⟩
      rw [if_pos rfl]
      have A3 := AftE.kp A2.re n.kp
      refine goE (A2.trans A3) P2 fun d3 e3 v3 H4 M4 A4 A4' D4 P4 => ?_
      split at P4
      · rename_i y' z ey' ez
        obtain ⟨d, eo', q⟩ := fin_res A4 P4
        have D2' : RD L M4 H4 e3 σ H1 d2 v2 := (D2.to A3.aft A2.re A3.ob).to A4'.aft A3.re A4'.ob
        exact hs' M4 H4 y' z d v2 v3 Q eo' (A4.re.view D2' ey') (A4.re.view D4 ez) q
      · exact P4.elim
    · rename_i eo
      refine hs M2 H2 x y _ v1 v2 _ eo V1 V2 fun v H3 M3 n => ?_
      have ev : v = .bl false := by have := n.rd; simp only at this; unfold RG at this; exact this
      refine ⟨false, ev, ?_⟩
      rw [if_neg Bool.false_ne_true]
      have := fin_ok A2 P2 n
      rw [ev] at this
      exact this
    · exact P2.elim
  · exact P2.elim
theorem t_chain {op op' : CmpOp} {o o' : B2} (hs : B2S L X (compareOp op) o) (hs' : B2S L X (compareOp op') o') (ha : PE X a (TEof L W (ea F))) (hb : PE X b (TEof L W (eb F))) (hc : PE X c (TEof L W (ec F))) (h' : isCmp o' = true := by rfl)
    (hm : lastMarks [op, op'] [b, c] = false := by with_unfolding_all rfl) : PT X (.Compare a [op, op'] [b, c] pos) (TTof L W (tV (eChain o o' ea eb ec) F)) := by
  obtain ⟨r, hr, hs⟩ := hs
  obtain ⟨r', hr', hs'⟩ := hs'
  exact PT.imp (pt_chain hr hr' ha hb hc hm) fun σ H Q h => chain_core (op := op) (op' := op') hs hs' (test_of (fun _ _ _ k => chain_bl h' k) h)
theorem pass0A {X : Cx} {W : WX} : ∀ σ, PassesAt CX0 X σ (WE W σ) := fun _ _ _ _ _ _ _ h => h.elim
/-- a def that runs no further -/
theorem fn_bad {P : Program} {w : World} {K : PySem.W.Frag} {mg : Str → Option Value} {base : Heap} {k : Nat} {f : Addr} {fdd : FuncData} {ps : List Str} {n m : Nat} {F' : FF} : FnOk P w K mg base CX0 k f fdd ps (spF L ⟨n, m, sBad⟩ F') :=
  ⟨fun vs H Q E h => by obtain ⟨M, ss, _, _, _, q⟩ := h; exact q.elim, fun A outer s H args us vs Q E hr e0 hb r h => by obtain ⟨M, ss, _, _, _, q⟩ := h; exact q.elim⟩
theorem fni_bad {P : Program} {w : World} {K : PySem.W.Frag} {mg : Str → Option Value} {base : Heap} {k : Nat} {f : Addr} {fdd : FuncData} {ps : List Str} {n m : Nat} {F' : FF} : FnOk P w K mg base CX0 k f fdd ps (spI L ⟨n, m, sBad⟩ F') :=
  ⟨fun vs H Q E h => by obtain ⟨M, ss, c, a, r, _, _, _, _, q⟩ := h; exact q.elim, fun A outer s H args us vs Q E hr e0 hb r h => by obtain ⟨M, ss, c, a, r, _, _, _, _, q⟩ := h; exact q.elim⟩
theorem isFD_bad {P : List FD} {n np ns : Nat} : isFD (callF P 0) n ⟨np, ns, sBad⟩ (callF P 0) := fun args => by
  show R.bad = _
  split <;> rfl
theorem acons_len {F : FF} {a : EV} {r : AV} {n : Nat} (hr : ∀ e ds e', r F e = .ok ds e' → ds.length = n) : ∀ e ds e', aCons a r F e = .ok ds e' → ds.length = n + 1 := fun e ds e' h => by
  unfold aCons at h
  cases e1 : a F e with
  | ok d e2 =>
    rw [e1] at h
    simp only [R.bind] at h
    cases e3 : r F e2 with
    | ok ds2 e4 =>
      rw [e3] at h
      cases h
      rw [List.length_cons, hr _ _ _ e3]
    | exn _ _ _ => rw [e3] at h; cases h
    | bad => rw [e3] at h; cases h
  | exn _ _ _ => rw [e1] at h; cases h
  | bad => rw [e1] at h; cases h
theorem anil_len {F : FF} : ∀ e ds e', aNil F e = .ok ds e' → ds.length = 0 := fun e ds e' h => by cases h; rfl
end
end Ev

end
section
set_option linter.all false
set_option maxRecDepth 100000
set_option maxHeartbeats 4000000
namespace Ev
open PySem PySem.Spec PyProof.Rows L2
/-! comprehensions of two clauses -/
def comp2K (next : List G → Env → R (List G)) (nm : List Nat) : R (List G) → R (List G)
  | .ok gs e => next gs.reverse (wipeE e nm)
  | _ => .bad
def comp2In (nm1 : List Nat) (el : EV) (t1 : GV) (it1 : IV) (c1 : TV) (F : FF) (acc : List G) (e : Env) : R (List G) := (it1 F e).bind fun xl e1 => match xl.2 with
  | none => compL (compStep nm1 el t1 c1 F) xl.1 acc (wipeE e1 nm1)
  | some _ => .bad
def comp2T (nm1 : List Nat) (el : EV) (t1 : GV) (it1 : IV) (c1 : TV) (F : FF) (acc : List G) : Bool → Env → R (List G)
  | true, e => comp2In nm1 el t1 it1 c1 F acc e
  | false, e => .ok acc.reverse e
def comp2Step (nm1 : List Nat) (el : EV) (t : GV) (c : TV) (t1 : GV) (it1 : IV) (c1 : TV) (F : FF) (x : G) (acc : List G) (e : Env) : R (List G) := match t x e with
  | some e => (c F e).bind (comp2T nm1 el t1 it1 c1 F acc)
  | none => .bad
def compL2 (step : G → List G → Env → R (List G)) (nm : List Nat) : List G → List G → Env → R (List G)
  | [], acc, e => .ok acc.reverse e
  | x :: xs, acc, e => comp2K (fun acc e => compL2 step nm xs acc e) nm (step x acc e)
def eComp2 (nm nm1 : List Nat) (el : EV) (t : GV) (it : IV) (c : TV) (t1 : GV) (it1 : IV) (c1 : TV) : EV := fun F e => (it F e).bind fun xl e =>
  if (nm.all fun v => !isLck (getS (lockO xl.2 e) v)) = false then .bad else compEnd nm xl.2 e (compL2 (comp2Step nm1 el t c t1 it1 c1 F) nm xl.1 [] (wipeE (lockO xl.2 e) nm))
section
variable {L : Lk} {X : Cx} {W : WX} {F : FF} {M M0 M1 M2 M3 M' : Mu} {H H0 H1 H2 H3 H' : Hp} {env envA env1 env2 e e0 e1 ew : Env} {σ σ0 σ1 σ' σw : L2.St} {nm nm1 : List Nat}
theorem wipe_wipe (h : ∀ j ∈ nm1, j ∈ nm) : wipe (wipe σ nm1) nm = wipe σ nm := by
  refine List.ext_getElem? fun j => ?_
  rw [wipe_at, wipe_at, wipe_at, wipe_length]
  by_cases hj : j ∈ nm ∧ j < σ.length
  · rw [if_pos hj, if_pos hj]
  · rw [if_neg hj, if_neg hj]
    by_cases h2 : j ∈ nm1 ∧ j < σ.length
    · exact absurd ⟨h j h2.1, h2.2⟩ hj
    · rw [if_neg h2]
theorem goFT2 {β : Type} {ev : Env → R Bool} {k : Bool → Env → R β} {r : R β → Prop} {Q : Bool → Hp → Prop} (re : RE L M H env σ) (hb : ∀ x, r x → ∃ a e, x = .ok a e) (P : r ((ev env).bind k))
    (h : ∀ b e H1 M1, AftE L M H env σ M1 H1 e → r (k b e) → Q b H1) : TTof L Wf ev σ H Q := by
  refine ⟨M, env, re, ?_⟩
  cases e : ev env with
  | ok d e1 => rw [e] at P; exact fun H1 M1 A1 => h d e1 H1 M1 A1 P
  | exn c p e1 => rw [e] at P; obtain ⟨_, _, z⟩ := hb _ P; cases z
  | bad => rw [e] at P; obtain ⟨_, _, z⟩ := hb _ P; cases z
theorem goFI {β : Type} {ev : Env → R (List G × Option Nat)} {k : List G × Option Nat → Env → R β} {r : R β → Prop} {Q : It → Hp → Prop} (re : RE L M H env σ) (hb : ∀ x, r x → ∃ a e, x = .ok a e) (P : r ((ev env).bind k))
    (h : ∀ xl e J S H1 M1, AftE L M H env σ M1 H1 e → (∀ k, xl.2 = some k → ∃ g, objOf e k = some g) → Src L L.K J xl.1 S → S M1 H1 (lockO xl.2 e) σ → r (k xl e) → Q J H1) : TIof L Wf ev σ H Q := by
  refine ⟨M, env, re, ?_⟩
  cases e : ev env with
  | ok d e1 => rw [e] at P; exact fun J S H1 M1 A1 ho sr s0 => h d e1 J S H1 M1 A1 ho sr (s0 _ _ _ rfl rfl rfl) P
  | exn c p e1 => rw [e] at P; obtain ⟨_, _, z⟩ := hb _ P; cases z
  | bad => rw [e] at P; obtain ⟨_, _, z⟩ := hb _ P; cases z
theorem compL_len {step : G → Env → R (Option G)} : ∀ (xs : List G) (ac : List G) (e : Env) (r : List G) (e1 : Env), compL step xs ac e = .ok r e1 → ac.length ≤ r.length
  | [], ac, e, r, e1, h => by simp only [compL, R.ok.injEq] at h; rw [← h.1, List.length_reverse]; exact Nat.le_refl _
  | x :: xs, ac, e, r, e1, h => by
    unfold compL at h
    unfold compK at h
    split at h
    · have := compL_len _ _ _ _ _ h; rw [List.length_cons] at this; omega
    · exact compL_len _ _ _ _ _ h
    · cases h
theorem comp2_len {nm1 : List Nat} {el : EV} {t : GV} {c : TV} {t1 : GV} {it1 : IV} {c1 : TV} {F : FF} {x : G} {acc r : List G} {e e1 : Env} (h : comp2Step nm1 el t c t1 it1 c1 F x acc e = .ok r e1) : acc.length ≤ r.length := by
  unfold comp2Step at h
  split at h
  · cases e2 : c F _ with
    | ok b e3 =>
      rw [e2] at h
      cases b with
      | false => simp only [R.bind, comp2T, R.ok.injEq] at h; rw [← h.1, List.length_reverse]; exact Nat.le_refl _
      | true =>
        simp only [R.bind, comp2T, comp2In] at h
        cases e4 : it1 F e3 with
        | ok xl e5 =>
          rw [e4] at h
          simp only at h
          split at h
          · exact compL_len _ _ _ _ _ h
          · cases h
        | exn _ _ _ => rw [e4] at h; cases h
        | bad => rw [e4] at h; cases h
    | exn _ _ _ => rw [e2] at h; cases h
    | bad => rw [e2] at h; cases h
  · cases h
theorem compL2_len {step : G → List G → Env → R (List G)} (hs : ∀ x acc e r e1, step x acc e = .ok r e1 → acc.length ≤ r.length) : ∀ (xs : List G) (ac : List G) (e : Env) (r : List G) (e1 : Env), compL2 step nm xs ac e = .ok r e1 → ac.length ≤ r.length
  | [], ac, e, r, e1, h => by simp only [compL2, R.ok.injEq] at h; rw [← h.1, List.length_reverse]; exact Nat.le_refl _
  | x :: xs, ac, e, r, e1, h => by
    unfold compL2 at h
    cases es : step x ac e with
    | ok g e2 =>
      rw [es] at h
      have h1 := hs _ _ _ _ _ es
      have h2 := compL2_len hs _ _ _ _ _ (show compL2 step nm xs g.reverse (wipeE e2 nm) = .ok r e1 from h)
      rw [List.length_reverse] at h2
      omega
    | exn _ _ _ => rw [es] at h; cases h
    | bad => rw [es] at h; cases h
variable {el : EV} {gv gv1 : GV} {sl sl1 : List Nat} {it it1 : IV} {c c1 : TV}
theorem lc2_main {Q : VK} (hsl : ∀ j ∈ sl, j ∈ nm) (hsl1 : ∀ j ∈ sl1, j ∈ nm1) (hn1 : ∀ j ∈ nm1, j ∈ nm) (h : TEof L W (eComp2 nm nm1 el gv it c gv1 it1 c1 F) σ H Q) :
    tLc2 (TIof L W (it F)) (TGof L gv sl) (TTof L Wf (c F)) (TIof L Wf (it1 F)) (TGof L gv1 sl1) (TTof L Wf (c1 F)) (TEof L Wf (el F)) nm nm1 σ H Q := by
  obtain ⟨M, env, re, P⟩ := h
  refine goI re P fun xl e J S H1 M1 A1 ho sr s0 P1 => ?_
  obtain ⟨gs, o⟩ := xl
  simp only at P1 ho sr s0
  split at P1
  · exact P1.elim
  rename_i hlk
  have hlk : ∀ v ∈ nm, isLck (getS (lockO o e) v) = false := by
    have : (nm.all fun v => !isLck (getS (lockO o e) v)) = true := by simpa using hlk
    intro v hv
    have := List.all_eq_true.mp this v hv
    simpa using this
  intro q hq
  have AL : Aft L M1 H1 e σ M1 H1 (lockO o e) σ := by
    cases o with
    | none => exact .refl A1.re
    | some k => exact lock_ok A1.re
  have rel := AL.re
  have n0 : New L M1 H1 (more M1 q) (L2.upd H1 q (.lst [])) (.own (.lst [])) (.ref q) := .lst hq .nil
  have rel2 := (AftE.kp rel n0.kp).re
  have acc0 : Acc L (more M1 q) (L2.upd H1 q (.lst [])) (lockO o e) σ q [] := by
    obtain ⟨a, ea, m, nw, ns, k, _⟩ := n0.rd' rel
    cases ea
    exact ⟨m, nw, ns, k⟩
  have hid0 : hide q (L2.upd H1 q (.lst [])) = H1 := by
    rw [hide_upd]
    funext b
    by_cases z : b = q
    · rw [z]; unfold hide; rw [if_pos rfl, hq]
    · exact hide_ne z
  have s1 : S (more M1 q) (L2.upd H1 q (.lst [])) (lockO o e) σ := sr.keep _ _ _ _ _ _ _ _ rel s0 (AftE.kp rel n0.kp).aft
  have s2 := sr.wip _ _ _ _ nm rel2 hlk s1
  have rew := wipe_re (nm := nm) rel2
  have accw := acc0.wipe (nm := nm)
  obtain ⟨Pst, hPst⟩ : ∃ Pst : R (List G) → Prop, Pst = fun x => PostE L W σ M H env (okD L σ M H env Q) (compEnd nm o e x) := ⟨_, rfl⟩
  have hok : ∀ x, Pst x → ∃ a e, x = .ok a e := fun x hx => by
    subst hPst
    cases x with
    | ok a e => exact ⟨a, e, rfl⟩
    | exn _ _ _ => exact hx.elim
    | bad => exact hx.elim
  have hlen : ∀ {xs e}, Pst (.ok xs e) → xs.length < sizeLine := fun {xs e} hx => by
    subst hPst
    unfold compEnd at hx
    by_cases z : xs.length ≤ 100000
    · have := line100
      have l2 : (100000 : Nat) < sizeLine := by rw [sizeLine_eq]; omega
      omega
    · simp only at hx
      rw [if_neg z] at hx
      exact hx.elim
  have P1' : Pst (compL2 (comp2Step nm1 el gv c gv1 it1 c1 F) nm gs [] (wipeE (lockO o e) nm)) := by rw [hPst]; exact P1
  have sl2 : ∀ x acc e r e1, comp2Step nm1 el gv c gv1 it1 c1 F x acc e = .ok r e1 → acc.length ≤ r.length := fun _ _ _ _ _ h => comp2_len h
  refine ⟨fun i m H' => i + m = gs.length ∧ ∃ M' e' acc, RE L M' H' e' (wipe σ nm) ∧ Acc L M' H' e' (wipe σ nm) q acc ∧ S M' H' e' (wipe σ nm) ∧ Aft L (more M1 q) (hide q (L2.upd H1 q (.lst []))) (wipeE (lockO o e) nm) (wipe σ nm) M' (hide q H') e' (wipe σ nm) ∧
    (∀ j, isOb (getS e' j) = true → isOb (getS (wipeE (lockO o e) nm) j) = true) ∧ (∀ v ∈ nm, getS e' v = .non) ∧ Pst (compL2 (comp2Step nm1 el gv c gv1 it1 c1 F) nm (gs.drop i) acc.reverse e'),
    ⟨gs.length, by omega, _, _, [], rew, accw, s2, .refl (accw.hid rew), fun _ h => h, fun v hv => by rw [getS_wipe, if_pos hv], P1'⟩, fun i m H' hW => ?_⟩
  obtain ⟨hm, M', e', acc, r', a', s', x', ob', nn', P'⟩ := hW
  by_cases hlt : i < gs.length
  · refine .inr ⟨sr.go _ _ _ _ i r' s' hlt, fun H2 => ∃ M2 e2 acc2, RE L M2 H2 e2 (wipe σ nm) ∧ Acc L M2 H2 e2 (wipe σ nm) q acc2 ∧ S M2 H2 e2 (wipe σ nm) ∧ Aft L (more M1 q) (hide q (L2.upd H1 q (.lst []))) (wipeE (lockO o e) nm) (wipe σ nm) M2 (hide q H2) e2 (wipe σ nm) ∧
      (∀ j, isOb (getS e2 j) = true → isOb (getS (wipeE (lockO o e) nm) j) = true) ∧ (∀ v ∈ nm, getS e2 v = .non) ∧ Pst (compL2 (comp2Step nm1 el gv c gv1 it1 c1 F) nm (gs.drop (i + 1)) acc2.reverse e2),
      fun H2 ⟨M2, e2, acc2, h1, h2, h3, h4, h5, h6, h7⟩ => ⟨m - 1, by omega, by omega, M2, e2, acc2, h1, h2, h3, h4, h5, h6, h7⟩, fun x H2 hy => ?_⟩
    obtain ⟨g, M2, eg, kp, rg⟩ := sr.yld _ _ _ _ i x H2 r' s' hlt hy
    have AK := AftE.kp r' kp
    rw [List.drop_eq_getElem_cons hlt] at P'
    have eg' : gs[i] = g := by rw [List.getElem?_eq_getElem hlt] at eg; exact Option.some.inj eg
    rw [eg'] at P'
    unfold compL2 at P'
    obtain ⟨rr, hrr⟩ : ∃ rr : R (List G) → Prop, rr = fun x => Pst (comp2K (fun acc e => compL2 (comp2Step nm1 el gv c gv1 it1 c1 F) nm (gs.drop (i + 1)) acc e) nm x) := ⟨_, rfl⟩
    have P' : rr (comp2Step nm1 el gv c gv1 it1 c1 F g acc.reverse e') := by rw [hrr]; exact P'
    have hokr : ∀ x, rr x → ∃ a e, x = .ok a e := fun x hx => by
      subst hrr
      cases x with
      | ok a e => exact ⟨a, e, rfl⟩
      | exn _ _ _ => obtain ⟨_, _, z⟩ := hok _ hx; cases z
      | bad => obtain ⟨_, _, z⟩ := hok _ hx; cases z
    have nxt : ∀ {xs e}, rr (.ok xs e) → Pst (compL2 (comp2Step nm1 el gv c gv1 it1 c1 F) nm (gs.drop (i + 1)) xs.reverse (wipeE e nm)) := fun {xs e} hx => by rw [hrr] at hx; exact hx
    have rlen : ∀ {xs e}, rr (.ok xs e) → xs.length < sizeLine := fun {xs e} hx => by
      have hx := nxt hx
      obtain ⟨a, e9, h9⟩ := hok _ hx
      have h8 := compL2_len sl2 _ _ _ _ _ h9
      rw [h9] at hx
      have := hlen hx
      rw [List.length_reverse] at h8
      omega
    unfold comp2Step at P'
    cases et : gv g e' with
    | none => rw [et] at P'; obtain ⟨_, _, z⟩ := hokr _ P'; cases z
    | some e2 =>
      rw [et] at P'
      simp only at P'
      refine ⟨M2, e', g, AK.re, rg, e2, et, fun σ2 M3 AG => ⟨wipe_eq AG.st AG.ln hsl, ?_⟩⟩
      have hw : wipe σ2 nm = wipe σ nm := wipe_eq AG.st AG.ln hsl
      have A3 := AK.aft.trans AG.aft
      have ob3 : ∀ j, isOb (getS e2 j) = true → isOb (getS e' j) = true := fun j hj => AK.ob j (AG.ob j hj)
      refine goFT2 (r := rr) AG.aft.re hokr P' fun t e3 H4 M4 A4 P4 => ?_
      have A34 := A3.trans A4.aft
      have ob34 : ∀ j, isOb (getS e3 j) = true → isOb (getS e' j) = true := fun j hj => ob3 j (A4.ob j hj)
      cases t with
      | false =>
        rw [if_neg Bool.false_ne_true]
        have A6 := wipe_aft (nm := nm) A34 nn'
        rw [hw] at A6
        have ob6 : ∀ j, isOb (getS (wipeE e3 nm) j) = true → isOb (getS e' j) = true := fun j hj => by
          rw [getS_wipe] at hj
          split at hj
          · cases hj
          · exact ob34 j hj
        have a6 := a'.to r' A6 fun j hj => ⟨ob6 j hj, rfl⟩
        have P5 := nxt P4
        rw [List.reverse_reverse] at P5
        exact ⟨M4, _, acc, A6.re, a6, sr.keep _ _ _ _ _ _ _ _ r' s' A6, x'.trans (a'.step A6 a6), fun j hj => ob' j (ob6 j hj), fun v hv => by rw [getS_wipe, if_pos hv], P5⟩
      | true =>
        rw [if_pos rfl]
        have P4 : rr (comp2In nm1 el gv1 it1 c1 F acc.reverse e3) := P4
        unfold comp2In at P4
        refine goFI (r := rr) A4.re hokr P4 fun xl1 e4 J1 S1 H5 M5 A5 ho1 sr1 t0 P5 => ?_
        obtain ⟨gs1, o1⟩ := xl1
        cases o1 with
        | some k => obtain ⟨_, _, z⟩ := hokr _ P5; cases z
        | none =>
        simp only [lockO] at P5 t0 sr1
        have A35 := A34.trans A5.aft
        have ob35 : ∀ j, isOb (getS e4 j) = true → isOb (getS e' j) = true := fun j hj => ob34 j (A5.ob j hj)
        have nl : ∀ v ∈ nm1, isLck (getS e4 v) = false := fun v hv => by
          have h1 : isOb (getS e4 v) = false := by
            cases z : isOb (getS e4 v) with
            | false => rfl
            | true => have := ob35 v z; rw [nn' v (hn1 v hv)] at this; cases this
          cases z : getS e4 v <;> rw [z] at h1 <;> first | rfl | cases h1
        have nn1' : ∀ v ∈ nm1, getS e' v = .non := fun v hv => nn' v (hn1 v hv)
        have AW := wipe_aft (nm := nm1) A35 nn1'
        have obW : ∀ j, isOb (getS (wipeE e4 nm1) j) = true → isOb (getS e' j) = true := fun j hj => by
          rw [getS_wipe] at hj
          split at hj
          · cases hj
          · exact ob35 j hj
        have aW := a'.to r' AW fun j hj => ⟨obW j hj, by
          have hj' := hj
          rw [getS_wipe] at hj'
          split at hj'
          · cases hj'
          · rename_i hnj
            rw [sv_wipe, if_neg hnj]
            have hst := AG.st j
            by_cases hs : j ∈ sl
            · exfalso
              have := obW j hj
              rw [nn' j (hsl j hs)] at this
              cases this
            · unfold sv; rw [hst hs]⟩
        have sW := sr1.wip _ _ _ _ nm1 A5.re nl t0
        have SW := sr.keep _ _ _ _ _ _ _ _ r' s' AW
        refine ⟨fun j k H' => j + k = gs1.length ∧ ∃ M' e5 acc5, RE L M' H' e5 (wipe σ2 nm1) ∧ Acc L M' H' e5 (wipe σ2 nm1) q acc5 ∧ S M' H' e5 (wipe σ2 nm1) ∧ S1 M' H' e5 (wipe σ2 nm1) ∧ Aft L (more M1 q) (hide q (L2.upd H1 q (.lst []))) (wipeE (lockO o e) nm) (wipe σ nm) M' (hide q H') e5 (wipe σ2 nm1) ∧
          (∀ j, isOb (getS e5 j) = true → isOb (getS e' j) = true) ∧ (∀ v ∈ nm1, getS e5 v = .non) ∧ rr (compL (compStep nm1 el gv1 c1 F) (gs1.drop j) acc5.reverse e5),
          ⟨gs1.length, by omega, _, _, acc, AW.re, aW, SW, sW, x'.trans (a'.step AW aW), obW, fun v hv => by rw [getS_wipe, if_pos hv], P5⟩, fun j k H6 hW1 => ?_⟩
        obtain ⟨hk, M6, e5, acc5, r6, a6, s6, t6, x6, ob6, nn6, P6⟩ := hW1
        by_cases hlt1 : j < gs1.length
        · refine .inr ⟨sr1.go _ _ _ _ j r6 t6 hlt1, fun H7 => ∃ M7 e7 acc7, RE L M7 H7 e7 (wipe σ2 nm1) ∧ Acc L M7 H7 e7 (wipe σ2 nm1) q acc7 ∧ S M7 H7 e7 (wipe σ2 nm1) ∧ S1 M7 H7 e7 (wipe σ2 nm1) ∧ Aft L (more M1 q) (hide q (L2.upd H1 q (.lst []))) (wipeE (lockO o e) nm) (wipe σ nm) M7 (hide q H7) e7 (wipe σ2 nm1) ∧
            (∀ j, isOb (getS e7 j) = true → isOb (getS e' j) = true) ∧ (∀ v ∈ nm1, getS e7 v = .non) ∧ rr (compL (compStep nm1 el gv1 c1 F) (gs1.drop (j + 1)) acc7.reverse e7),
            fun H7 ⟨M7, e7, acc7, h1, h2, h3, h4, h5, h6, h7, h8⟩ => ⟨k - 1, by omega, by omega, M7, e7, acc7, h1, h2, h3, h4, h5, h6, h7, h8⟩, fun x1 H7 hy1 => ?_⟩
          obtain ⟨g1, M7, eg1, kp1, rg1⟩ := sr1.yld _ _ _ _ j x1 H7 r6 t6 hlt1 hy1
          have AK1 := AftE.kp r6 kp1
          rw [List.drop_eq_getElem_cons hlt1] at P6
          have eg1' : gs1[j] = g1 := by rw [List.getElem?_eq_getElem hlt1] at eg1; exact Option.some.inj eg1
          rw [eg1'] at P6
          unfold compL at P6
          obtain ⟨qq, hqq⟩ : ∃ qq : R (Option G) → Prop, qq = fun x => rr (compK (fun acc e => compL (compStep nm1 el gv1 c1 F) (gs1.drop (j + 1)) acc e) acc5.reverse x) := ⟨_, rfl⟩
          have P6 : qq (compStep nm1 el gv1 c1 F g1 e5) := by rw [hqq]; exact P6
          have hokq : ∀ x, qq x → ∃ a e, x = .ok a e := fun x hx => by
            subst hqq
            cases x with
            | ok a e => exact ⟨a, e, rfl⟩
            | exn _ _ _ => obtain ⟨_, _, z⟩ := hokr _ hx; cases z
            | bad => obtain ⟨_, _, z⟩ := hokr _ hx; cases z
          unfold compStep at P6
          cases et1 : gv1 g1 e5 with
          | none => rw [et1] at P6; obtain ⟨_, _, z⟩ := hokq _ P6; cases z
          | some e7 =>
            rw [et1] at P6
            simp only at P6
            refine ⟨M7, e5, g1, AK1.re, rg1, e7, et1, fun σ3 M8 AG1 => ⟨wipe_eq AG1.st AG1.ln hsl1, ?_⟩⟩
            have hw1 : wipe σ3 nm1 = wipe σ2 nm1 := wipe_eq AG1.st AG1.ln hsl1
            have B3 := AK1.aft.trans AG1.aft
            have obB3 : ∀ j, isOb (getS e7 j) = true → isOb (getS e5 j) = true := fun j hj => AK1.ob j (AG1.ob j hj)
            have done : ∀ {M9 H9 e9}, Aft L M8 H7 e7 σ3 M9 H9 e9 σ3 → (∀ j, isOb (getS e9 j) = true → isOb (getS e7 j) = true) → RE L M9 H9 (wipeE e9 nm1) (wipe σ2 nm1) ∧ Acc L M9 H9 (wipeE e9 nm1) (wipe σ2 nm1) q acc5 ∧ S M9 H9 (wipeE e9 nm1) (wipe σ2 nm1) ∧ S1 M9 H9 (wipeE e9 nm1) (wipe σ2 nm1) ∧ Aft L (more M1 q) (hide q (L2.upd H1 q (.lst []))) (wipeE (lockO o e) nm) (wipe σ nm) M9 (hide q H9) (wipeE e9 nm1) (wipe σ2 nm1) ∧ (∀ j, isOb (getS (wipeE e9 nm1) j) = true → isOb (getS e' j) = true) := fun {M9 H9 e9} A9 ob9 => by
              have C6 := wipe_aft (nm := nm1) (B3.trans A9) nn6
              rw [hw1] at C6
              have obC : ∀ j, isOb (getS (wipeE e9 nm1) j) = true → isOb (getS e5 j) = true := fun j hj => by
                rw [getS_wipe] at hj
                split at hj
                · cases hj
                · exact obB3 j (ob9 j hj)
              have aC := a6.to r6 C6 fun j hj => ⟨obC j hj, rfl⟩
              exact ⟨C6.re, aC, sr.keep _ _ _ _ _ _ _ _ r6 s6 C6, sr1.keep _ _ _ _ _ _ _ _ r6 t6 C6, x6.trans (a6.step C6 aC), fun j hj => ob6 j (obC j hj)⟩
            refine goFT (r := qq) AG1.aft.re hokq P6 fun t e8 H8 M9 A8 P8 => ?_
            cases t with
            | false =>
              rw [if_neg Bool.false_ne_true]
              obtain ⟨h1, h2, h3, h4, h5, h6⟩ := done A8.aft A8.ob
              rw [hqq] at P8
              exact ⟨M9, _, acc5, h1, h2, h3, h4, h5, h6, fun v hv => by rw [getS_wipe, if_pos hv], P8⟩
            | true =>
              rw [if_pos rfl]
              refine goF (r := qq) A8.re hokq P8 fun d e9 y H9 M10 A9 D9 P9 => ?_
              cases ef : frz d e9 with
              | none => rw [ef] at P9; obtain ⟨_, _, z⟩ := hokq _ P9; cases z
              | some ge =>
                obtain ⟨g5, e10⟩ := ge
                rw [ef] at P9
                rw [hqq] at P9
                simp only [compK] at P9
                obtain ⟨M11, fz, ax⟩ := frz_ok (A9.aft) D9 ef
                obtain ⟨h1, h2, h3, h4, h5, h6⟩ := done (A8.aft.trans ax) (fun j hj => A8.ob j (A9.ob j (fz.ob j hj)))
                obtain ⟨vs, hv, lv, rg', ag⟩ := h2.grow h1 fz.rg
                have hl9 : vs.length < sizeLine := by
                  obtain ⟨a9, e11, h9⟩ := hokr _ P9
                  have h8 := compL_len _ _ _ _ _ h9
                  rw [h9] at P9
                  have := rlen P9
                  rw [List.length_cons, List.length_reverse] at h8
                  omega
                refine ⟨vs, hv, hl9, M11, _, acc5 ++ [g5], rg', ag, sr.upd _ _ _ _ _ _ h2.m h3, sr1.upd _ _ _ _ _ _ h2.m h4, by rw [hide_upd (H := H9)]; exact h5, h6, fun v hv => by rw [getS_wipe, if_pos hv], ?_⟩
                rw [List.reverse_append]
                exact P9
        · refine .inl ⟨sr1.stop _ _ _ _ j r6 t6 (by omega), ?_⟩
          rw [List.drop_eq_nil_of_le (by omega)] at P6
          unfold compL at P6
          have P7 := nxt P6
          rw [List.reverse_reverse] at P7
          have hww : wipe (wipe σ2 nm1) nm = wipe σ nm := (wipe_wipe hn1).trans hw
          have R7 := wipe_re (nm := nm) r6
          rw [hww] at R7
          have a7 := a6.wipe (nm := nm)
          rw [hww] at a7
          have nl7 : ∀ v ∈ nm, isLck (getS e5 v) = false := fun v hv => by
            have h1 : isOb (getS e5 v) = false := by
              cases z : isOb (getS e5 v) with
              | false => rfl
              | true => have := ob6 v z; rw [nn' v hv] at this; cases this
            cases z : getS e5 v <;> rw [z] at h1 <;> first | rfl | cases h1
          have s7 := sr.wip _ _ _ _ nm r6 nl7 s6
          rw [hww] at s7
          have x7 := wipe_aft (nm := nm) x6 (fun v hv => by rw [getS_wipe, if_pos hv])
          rw [hww] at x7
          have hidw : Aft L (more M1 q) (hide q (L2.upd H1 q (.lst []))) (wipeE (lockO o e) nm) (wipe σ nm) M6 (hide q H6) (wipeE e5 nm) (wipe σ nm) := x7
          exact ⟨M6, _, acc5, R7, a7, s7, hidw, fun j hj => by
            rw [getS_wipe] at hj
            split at hj
            · cases hj
            · exact ob' j (ob6 j hj), fun v hv => by rw [getS_wipe, if_pos hv], P7⟩
  · refine .inl ⟨sr.stop _ _ _ _ i r' s' (by omega), ?_⟩
    rw [List.drop_eq_nil_of_le (by omega)] at P'
    rw [hPst] at P'
    unfold compL2 compEnd at P'
    simp only [List.reverse_reverse] at P'
    split at P'
    · -- the list is done
      have x1 : Aft L M1 H1 (wipeE (lockO o e) nm) (wipe σ nm) M' (hide q H') e' (wipe σ nm) := by
        rw [hid0] at x'
        refine (AftE.kp (wipe_re (nm := nm) rel) (M' := more M1 q) (H' := H1) fun a u ea => ⟨ea, ?_⟩).aft.trans x'
        have ne : a ≠ q := fun z => by rw [z, hq] at ea; cases ea
        exact ⟨fun z => z.elim id fun z => absurd z ne, fun z => .inl z⟩
      have k1 := keep_ok rel x1 ob'
      have hq0 : ∀ a u, hide q H' a = some u → H' a = some u ∧ (M' a ↔ M' a) := fun a u h => by
        have ne : a ≠ q := fun z => by unfold hide at h; rw [if_pos z] at h; cases h
        rw [hide_ne ne] at h
        exact ⟨h, Iff.rfl⟩
      have k2 := k1.trans (.kp k1.re hq0)
      have obk : ∀ j, isOb (getS (keepE (lockO o e) e' nm) j) = true → isOb (getS (lockO o e) j) = true := k2.ob
      have obl : ∀ j, isOb (getS (lockO o e) j) = true → isOb (getS e j) = true := fun j hj => by
        cases o with
        | none => exact hj
        | some k =>
          have hj : isOb (getS (lock e k) j) = true := hj
          unfold lock at hj
          cases es : getS e k <;> rw [es] at hj <;> simp only at hj <;> try exact hj
          all_goals (rw [getS_set] at hj; split at hj)
          all_goals first | exact hj | (rename_i z; rw [z.1, es]; rfl)
      have obu : ∀ j, isOb (getS (unlockO o (keepE (lockO o e) e' nm)) j) = true → isOb (getS (keepE (lockO o e) e' nm) j) = true := fun j hj => by
        cases o with
        | none => exact hj
        | some k =>
          have hj : isOb (getS (unlock (keepE (lockO (some k) e) e' nm) k) j) = true := hj
          unfold unlock at hj
          split at hj
          · rename_i g es
            rw [getS_set] at hj
            split at hj
            · rename_i z; rw [z.1, es]; rfl
            · exact hj
          · rename_i g es
            rw [getS_set] at hj
            split at hj
            · rename_i z; rw [z.1, es]; rfl
            · exact hj
          · exact hj
      have fin : AftE L M H env σ M' H' (unlockO o (keepE (lockO o e) e' nm)) := by
        refine ⟨?_, fun j hj => A1.ob j (obl j (obk j (obu j hj)))⟩
        cases o with
        | none => exact A1.aft.trans k2.aft
        | some k =>
          obtain ⟨g, hg⟩ := ho k rfl
          exact unlock_ok A1 hg k2.aft
      have rcq := a'.rc
      refine P' _ H' M' fin ⟨q, rfl, a'.m, fun ⟨j, w⟩ => ?_, fun j hj ej => acc0.sl j (obk j (obu j hj)) ej, rcq, A1.aft.free hq⟩
      rcases w with ⟨w1, w2⟩ | ⟨cc, a2, C, fs, w1, w2, w3⟩
      · exact acc0.sl j (obk j (obu j (isOb_of_mu w1))) w2
      · have rj := fin.re.at_ j
        rw [w1] at rj
        obtain ⟨a3, dx, e3, _, _, q1, q2, _⟩ := rj
        rw [w2] at e3; cases e3
        rw [w3] at q1; cases q1
        exact RC.notown rcq q2
    · exact P'.elim
/-! ### the rules -/
variable {elt tg iter tg1 iter1 : Expr} {ifs ifs1 : List Expr} {scope : Scope} {ownN : List (Str × Nat)} {pos : Pos}
theorem c_comp2 (hc : X.calm = true) (hN : X.N.Nodup) (hsl : ∀ j ∈ sl, j ∈ ownN.map (·.2)) (hsl1 : ∀ j ∈ sl1, j ∈ nm1) (hn1 : ∀ j ∈ nm1, j ∈ ownN.map (·.2)) (hi : PI X tg iter (TIof L W (it F))) (ok : BlkOk X.N X.env.scope scope ownN)
    (hg : ∀ (s : Shared) (H : Hp) (C : Addr) (cl : List (Str × Addr)) (fp : List Addr), PG (X.blk s H scope (compEnvC scope cl C X.env) fp) tg (TGof L gv sl)) (ht : ∀ (s : Shared) (H : Hp) (C : Addr) (cl : List (Str × Addr)) (fp : List Addr), PTs (X.blk s H scope (compEnvC scope cl C X.env) fp) ifs (TTof L Wf (c F)))
    (hi1 : ∀ (s : Shared) (H : Hp) (C : Addr) (cl : List (Str × Addr)) (fp : List Addr), PI (X.blk s H scope (compEnvC scope cl C X.env) fp) tg1 iter1 (TIof L Wf (it1 F)))
    (hg1 : ∀ (s : Shared) (H : Hp) (C : Addr) (cl : List (Str × Addr)) (fp : List Addr), PG (X.blk s H scope (compEnvC scope cl C X.env) fp) tg1 (TGof L gv1 sl1)) (ht1 : ∀ (s : Shared) (H : Hp) (C : Addr) (cl : List (Str × Addr)) (fp : List Addr), PTs (X.blk s H scope (compEnvC scope cl C X.env) fp) ifs1 (TTof L Wf (c1 F)))
    (he : ∀ (s : Shared) (H : Hp) (C : Addr) (cl : List (Str × Addr)) (fp : List Addr), PE (X.blk s H scope (compEnvC scope cl C X.env) fp) elt (TEof L Wf (el F))) (hs : ∀ x, foldedSetIterable iter X.env x = pure x := by intro _; rfl)
    (hs1 : ∀ env x, foldedSetIterable iter1 env x = pure x := by intro _ _; rfl) :
    PE X (.ListComp elt [⟨tg, iter, ifs, 0⟩, ⟨tg1, iter1, ifs1, 0⟩] scope pos) (TEof L W (eComp2 (ownN.map (·.2)) nm1 el gv it c gv1 it1 c1 F)) :=
  PE.imp (pe_lc2 hc hN hi ok hn1 hg ht hi1 hg1 ht1 he hs hs1) fun σ H Q h => lc2_main hsl hsl1 hn1 h
theorem s_setLc2 {i : Nat} {y : Str} {py spos : Pos} (hy : X.N[i]? = some y) (hyl : X.env.scope.names.lookup y = some .local)
    (hsw : swapsWith (.ListComp elt [⟨tg, iter, ifs, 0⟩, ⟨tg1, iter1, ifs1, 0⟩] scope pos) (some (.Name y py)) spos.line X.env = pure true) (hc : X.calm = true) (hN : X.N.Nodup) (hsl : ∀ j ∈ sl, j ∈ ownN.map (·.2)) (hsl1 : ∀ j ∈ sl1, j ∈ nm1) (hn1 : ∀ j ∈ nm1, j ∈ ownN.map (·.2)) (hi : PI X tg iter (TIof L W (it F))) (ok : BlkOk X.N X.env.scope scope ownN)
    (hg : ∀ (s : Shared) (H : Hp) (C : Addr) (cl : List (Str × Addr)) (fp : List Addr), PG (X.blk s H scope (compEnvC scope cl C X.env) fp) tg (TGof L gv sl)) (ht : ∀ (s : Shared) (H : Hp) (C : Addr) (cl : List (Str × Addr)) (fp : List Addr), PTs (X.blk s H scope (compEnvC scope cl C X.env) fp) ifs (TTof L Wf (c F)))
    (hi1 : ∀ (s : Shared) (H : Hp) (C : Addr) (cl : List (Str × Addr)) (fp : List Addr), PI (X.blk s H scope (compEnvC scope cl C X.env) fp) tg1 iter1 (TIof L Wf (it1 F)))
    (hg1 : ∀ (s : Shared) (H : Hp) (C : Addr) (cl : List (Str × Addr)) (fp : List Addr), PG (X.blk s H scope (compEnvC scope cl C X.env) fp) tg1 (TGof L gv1 sl1)) (ht1 : ∀ (s : Shared) (H : Hp) (C : Addr) (cl : List (Str × Addr)) (fp : List Addr), PTs (X.blk s H scope (compEnvC scope cl C X.env) fp) ifs1 (TTof L Wf (c1 F)))
    (he : ∀ (s : Shared) (H : Hp) (C : Addr) (cl : List (Str × Addr)) (fp : List Addr), PE (X.blk s H scope (compEnvC scope cl C X.env) fp) elt (TEof L Wf (el F))) (hs : ∀ x, foldedSetIterable iter X.env x = pure x := by intro _; rfl)
    (hs1 : ∀ env x, foldedSetIterable iter1 env x = pure x := by intro _ _; rfl) :
    PS X (.Assign [.Name y py] (.ListComp elt [⟨tg, iter, ifs, 0⟩, ⟨tg1, iter1, ifs1, 0⟩] scope pos) spos) (TSof L W (sSet i (eComp2 (ownN.map (·.2)) nm1 el gv it c gv1 it1 c1) F)) := PS.imp (ps_setLc2 hc hN hy hyl hsw hi ok hn1 hg ht hi1 hg1 ht1 he hs hs1) fun D σ H h => by
  obtain ⟨M, env, re, P⟩ := h
  refine lc2_main hsl hsl1 hn1 (stE re P fun d e v H1 M1 A1 D1 P1 => ?_)
  cases eb : bindD e i d with
  | none => rw [eb] at P1; exact P1.elim
  | some e2 =>
    rw [eb] at P1
    obtain ⟨M2, A2⟩ := bind_ok A1.aft D1 eb
    exact P1 _ H1 M2 A2
end
end Ev

end
section
set_option linter.all false
set_option maxRecDepth 100000
set_option maxHeartbeats 4000000
namespace Ev
open PySem PySem.Spec PyProof.Rows L2
theorem hu65 {A : Around} {k : Nat} (hr : Room k A) : A.units + 65 < cLine := by have := hr.un; omega
/-! ### further combinators -/
/-- x in D, D a dict of the module with text keys and int values -/
def eInK (neg : Bool) (tb : List (Str × Int)) (a : EV) : EV := fun F e => (a F e).bind fun x e => match view x e with
  | some (.str s) => .ok (.g (.bl (if neg then !(tb.lookup s).isSome else (tb.lookup s).isSome))) e
  | _ => .bad
def eIxK (tb : List (Str × Int)) (a : EV) : EV := fun F e => (a F e).bind fun x e => match view x e with
  | some (.str s) => match tb.lookup s with
    | some i => .ok (.g (.int i)) e
    | none => .bad
  | _ => .bad
/-- [..] * n -/
def eRep (a b : EV) : EV := fun F e => (a F e).bind fun x e => (b F e).bind fun y e => match x, view y e with
  | .own (.lst xs), some (.int k) => if decide (0 ≤ k) && decide (k ≤ 1000) && decide (xs.length ≤ 100) then .ok (.own (.lst (List.replicate k.toNat xs).flatten)) e else .bad
  | _, _ => .bad
/-- max(l, default = c) -/
def maxI : List Int → Int → Int
  | [], c => c
  | x :: xs, _ => xs.foldl max x
def eMaxD (a : EV) (c : Int) : EV := fun F e => (a F e).bind fun x e => match view x e with
  | some (.lst xs) => match intsOf xs with
    | some is => .ok (.g (.int (maxI is c))) e
    | none => .bad
  | _ => .bad
/-- tuple(range(a)), list(range(a)) -/
def okT (n : Int) : Bool := decide (n ≤ 100000) && decide (-100000 ≤ n)
def eTupR (a : EV) : EV := fun F e => (a F e).bind fun x e => match view x e with
  | some (.int n) => if okT n then .ok (.g (.tup (rangeG 0 n.toNat))) e else .bad
  | _ => .bad
def eLstR (a : EV) : EV := fun F e => (a F e).bind fun x e => match view x e with
  | some (.int n) => if okT n then .ok (.own (.lst (rangeG 0 n.toNat))) e else .bad
  | _ => .bad
def eLstR2 (a b : EV) : EV := fun F e => (a F e).bind fun x e => (b F e).bind fun y e => match view x e, view y e with
  | some (.int m), some (.int n) => if okT m && okT n then .ok (.own (.lst (rangeG m (n - m).toNat))) e else .bad
  | _, _ => .bad
def mulOk (i j : Int) : Bool := (decide (-18446744073709551616 < i) && decide (i < 18446744073709551616)) || (decide (-18446744073709551616 < j) && decide (j < 18446744073709551616))
/-- x *= e -/
def sMul (i : Nat) (x : EV) : SV := fun F e => match getS e i with
  | .val (.int a) => (x F e).st fun d e => match view d e with
    | some (.int b) => if mulOk a b then forceI (a * b) fun c => nxO (setS e i (.val (.int c))) else .bad
    | _ => .bad
  | _ => .bad

/-! ### written dicts -/
def entB (e : DictEntry) (p : Str × Int) : Bool := (match e.key with | .str x _ => decide (x = p.1) | _ => false) && (match e.val with | .int i _ => decide (i = p.2) | _ => false)
def entsB : List DictEntry → List (Str × Int) → Bool
  | [], [] => true
  | e :: es, p :: ps => entB e p && entsB es ps
  | _, _ => false
def dicB (K : PySem.W.Frag) (d : Addr) (tb : List (Str × Int)) : Bool := match K.lookup d with
  | some ⟨_, _, .dict es _, _⟩ => entsB es.toList tb
  | _ => false
theorem isStr_key {e : DictEntry} {p : Str × Int} (h : entB e p = true) (z : Str) : (e.key.isStr z = decide (p.1 = z)) ∧ (∃ t, e.val = .int p.2 t) ∧ e.refKey = false := by
  unfold entB at h
  simp only [Bool.and_eq_true] at h
  obtain ⟨h1, h2⟩ := h
  cases ek : e.key with
  | str x t =>
    rw [ek] at h1
    simp only [decide_eq_true_eq] at h1
    subst h1
    refine ⟨?_, ?_, by unfold DictEntry.refKey; rw [ek]⟩
    · rw [PySem.W.isStr_of]
      simp only [Value.isStrOf]
      by_cases q : p.1 = z
      · simp [q]
      · simp [q]
    · cases ev : e.val with
      | int i t' => rw [ev] at h2; simp only [decide_eq_true_eq] at h2; subst h2; exact ⟨_, rfl⟩
      | _ => rw [ev] at h2; cases h2
  | _ => rw [ek] at h1; cases h1
theorem dicB_ns {K : PySem.W.Frag} {d : Addr} {tb : List (Str × Int)} (h : dicB K d tb = true) (z : Str) : ∃ r, PySem.W.nsIn K d z = some r ∧ (match tb.lookup z with | some i => ∃ t, r = some (.int i t) | none => r = none) := by
  unfold dicB at h
  unfold PySem.W.nsIn
  split at h
  · rename_i es n _ e
    rw [e]
    simp only
    have key : ∀ (l : List DictEntry) (tb : List (Str × Int)), entsB l tb = true → (match tb.lookup z with | some i => ∃ en t, l.find? (·.key.isStr z) = some en ∧ en.val = .int i t | none => l.find? (·.key.isStr z) = none) ∧ l.any (·.refKey) = false := by
      intro l
      induction l with
      | nil => intro tb h; cases tb with | nil => exact ⟨rfl, rfl⟩ | cons _ _ => cases h
      | cons en l ih =>
        intro tb h
        cases tb with
        | nil => cases h
        | cons p tb =>
          simp only [entsB, Bool.and_eq_true] at h
          obtain ⟨k1, ⟨t, k2⟩, k3⟩ := isStr_key h.1 z
          obtain ⟨i1, i2⟩ := ih tb h.2
          refine ⟨?_, by simp [k3, i2]⟩
          obtain ⟨px, pi⟩ := p
          rw [List.lookup_cons, List.find?_cons, k1]
          by_cases q : px = z
          · subst q
            simp only [BEq.rfl, decide_true]
            exact ⟨en, t, rfl, k2⟩
          · have q2 : (z == px) = false := by rw [beq_eq_false_iff_ne]; exact fun w => q w.symm
            simp only [q2, decide_eq_false q]
            exact i1
    obtain ⟨k1, k2⟩ := key _ _ h
    cases el : tb.lookup z with
    | some i =>
      rw [el] at k1
      obtain ⟨en, t, e1, e2⟩ := k1
      rw [e1]
      exact ⟨_, rfl, t, by rw [e2]⟩
    | none =>
      rw [el] at k1
      rw [k1, k2]
      exact ⟨_, rfl, rfl⟩
  · cases h
section
variable {L : Lk} {X : Cx} {W : WX} {F : FF} {M M0 M1 M2 : Mu} {H H0 H1 H2 : Hp} {env env0 env1 env2 : Env} {σ : L2.St}
variable {a b c : Expr} {ea eb ec : EV} {pos p : Pos} {x : Str}
/-- a text of the module -/
theorem cks {s : Str} {u : Tok} {pos : Pos} (hm : X.mg x = some (.str s u)) (hg : Gl X x := by rfl) (hd : (x == ("__debug__" : Str)) = false := by decide) : PE X (.Name x pos) (TEof L W (eK (.str s) F)) :=
  c_glob (v := .str s) (fun _ _ => rg_str) hg hm ⟨u, rfl⟩ hd
/-- a tuple of the module -/
theorem ckt {g : G} {d : Addr} {pos : Pos} (hm : X.mg x = some (.ref d)) (hr : ∀ M H, RG L M H g (.ref d)) (hg : Gl X x := by rfl) (hd : (x == ("__debug__" : Str)) = false := by decide) : PE X (.Name x pos) (TEof L W (eK g F)) :=
  c_glob (v := .ref d) hr hg hm rfl hd
theorem c_inK {tb : List (Str × Int)} {d : Addr} {es : Array DictEntry} {n : Nat} (D : KDict X.K X.w d es n) (hb : dicB X.K d tb = true) (ha : PE X a (TEof L W (ea F))) (hm : X.mg x = some (.ref d)) (hg : Gl X x := by rfl) (hd : (x == ("__debug__" : Str)) = false := by decide)
    (hmk : behindInMarks .In (.Name x p) = false := by first | exact nobehind _ (by decide) (by decide) | rfl) : PE X (.Compare a [.In] [.Name x p] pos) (TEof L W (eInK false tb ea F)) := by
  refine PE.imp (pe_cmpR (op_in_kd D) ha (pe_glob (v := .ref d) hg hm rfl hd) hmk) fun σ H Q h => ?_
  obtain ⟨M, env, re, P⟩ := h
  refine goE (.refl re) P fun d1 e1 v1 H1 M1 A1 A1' D1 P1 => ?_
  split at P1
  · rename_i s ev
    obtain ⟨r, e1, e2⟩ := dicB_ns hb s
    have hr : r.isSome = (tb.lookup s).isSome := by
      cases el : tb.lookup s with
      | none => rw [el] at e2; rw [e2]; rfl
      | some i => rw [el] at e2; obtain ⟨t, rfl⟩ := e2; rfl
    refine ⟨s, r, (A1.re.view D1 ev).str, rfl, e1, ?_⟩
    rw [hr]
    exact fin_ok A1 P1 (.same rg_bl)
  · exact P1.elim
theorem c_notinK {tb : List (Str × Int)} {d : Addr} {es : Array DictEntry} {n : Nat} (D : KDict X.K X.w d es n) (hb : dicB X.K d tb = true) (ha : PE X a (TEof L W (ea F))) (hm : X.mg x = some (.ref d)) (hg : Gl X x := by rfl) (hd : (x == ("__debug__" : Str)) = false := by decide)
    (hmk : behindInMarks .NotIn (.Name x p) = false := by first | exact nobehind _ (by decide) (by decide) | rfl) : PE X (.Compare a [.NotIn] [.Name x p] pos) (TEof L W (eInK true tb ea F)) := by
  refine PE.imp (pe_cmpR (op_notIn_kd D) ha (pe_glob (v := .ref d) hg hm rfl hd) hmk) fun σ H Q h => ?_
  obtain ⟨M, env, re, P⟩ := h
  refine goE (.refl re) P fun d1 e1 v1 H1 M1 A1 A1' D1 P1 => ?_
  split at P1
  · rename_i s ev
    obtain ⟨r, e1, e2⟩ := dicB_ns hb s
    have hr : r.isSome = (tb.lookup s).isSome := by
      cases el : tb.lookup s with
      | none => rw [el] at e2; rw [e2]; rfl
      | some i => rw [el] at e2; obtain ⟨t, rfl⟩ := e2; rfl
    refine ⟨s, r, (A1.re.view D1 ev).str, rfl, e1, ?_⟩
    rw [hr]
    exact fin_ok A1 P1 (.same rg_bl)
  · exact P1.elim
theorem c_ixK {tb : List (Str × Int)} {d : Addr} {es : Array DictEntry} {n : Nat} (D : KDict X.K X.w d es n) (hb : dicB X.K d tb = true) (ha : PE X a (TEof L W (ea F))) (hm : X.mg x = some (.ref d)) (hg : Gl X x := by rfl) (hd : (x == ("__debug__" : Str)) = false := by decide) (hp : PlainIx a := by exact fun _ _ => rfl) :
    PE X (.Subscript (.Name x p) a pos) (TEof L W (eIxK tb ea F)) := by
  refine PE.imp (pe_ix ix_kdict (pe_glob (v := .ref d) hg hm rfl hd) ha hp) fun σ H Q h => ?_
  obtain ⟨M, env, re, P⟩ := h
  refine goE (.refl re) P fun d1 e1 v1 H1 M1 A1 A1' D1 P1 => ?_
  split at P1
  · rename_i s ev
    split at P1
    · rename_i i el
      obtain ⟨r, e1, e2⟩ := dicB_ns hb s
      rw [el] at e2
      obtain ⟨t, rfl⟩ := e2
      refine ⟨d, s, .int i, rfl, (A1.re.view D1 ev).str, ⟨es, n, _, D.at_, D.lit, e1, ⟨t, rfl⟩⟩, fin_ok A1 P1 (.same rg_int)⟩
    · exact P1.elim
  · exact P1.elim
theorem c_rep (ha : PE X a (TEof L W (ea F))) (hb : PE X b (TEof L W (eb F))) : PE X (.BinOp a .Mult b pos) (TEof L W (eRep ea eb F)) := by
  refine PE.imp (pe_op op_rep ha hb) fun σ H Q h => ?_
  obtain ⟨M, env, re, P⟩ := h
  refine goE (.refl re) P fun d1 e1 v1 H1 M1 A1 A1' D1 P1 => goE A1 P1 fun d2 e2 v2 H2 M2 A2 A2' D2 P2 => ?_
  split at P2
  · rename_i xs k ev
    split at P2
    · rename_i hk
      simp only [Bool.and_eq_true, decide_eq_true_eq] at hk
      have D1' := D1.to A2'.aft A1.re A2'.ob
      obtain ⟨l, rfl, m, nw, ns, kc, f0⟩ := D1'
      unfold RC at kc
      obtain ⟨vs, hl, r⟩ := kc
      have hlen := r.len
      refine ⟨l, k, vs, rfl, (A2.re.view D2 ev).int, hl, by omega, by omega, ?_, fun q hq => ?_⟩
      · have h1 : vs.length * k.toNat ≤ 100 * 1000 := Nat.mul_le_mul (by omega) (by omega)
        have := line100
        omega
      · exact fin_ok A2 P2 (.lst hq (r.rep k.toNat))
    · exact P2.elim
  · exact P2.elim
end
end Ev

end
section
set_option linter.all false
set_option maxRecDepth 100000
set_option maxHeartbeats 4000000
namespace Ev
open PySem PySem.Spec PyProof.Rows L2
section
variable {L : Lk} {X : Cx} {W : WX} {F : FF} {M M0 M1 M2 : Mu} {H H0 H1 H2 : Hp} {env env0 env1 env2 : Env} {σ : L2.St}
variable {a b c : Expr} {ea eb ec : EV} {pos p : Pos} {x : Str}
theorem dp_ints : ∀ ns : List Int, DpAll X.K H (ns.map V.int) (ns.map PyData.int)
  | [] => .nil
  | n :: ns => .cons (.int n) (dp_ints ns)
theorem alike_ints (ns : List Int) : PySem.W.AlikeAll (ns.map PyData.int) := by
  refine ⟨fun x hx y hy => ?_, fun x hx => ?_⟩
  · obtain ⟨i, _, rfl⟩ := List.mem_map.mp hx
    obtain ⟨j, _, rfl⟩ := List.mem_map.mp hy
    simp [PySem.W.alike]
  · obtain ⟨i, _, rfl⟩ := List.mem_map.mp hx
    exact fun z => by cases z
theorem depth_ints : ∀ ns : List Int, PyData.depthAll (ns.map PyData.int) = 0
  | [] => by simp [PyData.depthAll]
  | n :: ns => by simp [PyData.depthAll, PyData.depth, depth_ints ns]
def rMaxDef (K : PySem.W.Frag) : List V → List V → Hp → VK → Prop := fun xs zs H Q => ∃ a ns c, xs = [.ref a] ∧ zs = [.int c] ∧ SqL K H a (ns.map V.int) ∧ Q (.int (maxI ns c)) H
theorem cr_maxDef (hc : X.calm = true) (hu : X.A.units + 65 < cLine) : CallRK X (.builtin "max") [Str.ofString "default"] (rMaxDef X.K) := by
  intro pins s σ H xs zs us ws Q I rx rz h
  obtain ⟨a, ns, c, rfl, rfl, hs, q⟩ := h
  rw [Vals.ref1 rx]
  obtain ⟨u, rfl, ru⟩ := vals1 rz
  obtain ⟨t, rfl⟩ := ru
  obtain ⟨as, hrd⟩ := Dp.reads I (.list (ns.map PyData.int)) (.ref a) (.ref a) (.lst hs (dp_ints ns)) rfl
  show wpAny _ _ (call (.builtin "max") [.ref a] [(Str.ofString "default", .int c t)]) _ _ s
  cases hrd with
  | list h1 h2 h3 hr =>
  refine PySem.W.max_list_default (I.ok.hd hc) ⟨_, h1, h2, _, h3⟩ hr (alike_ints ns) (by rw [depth_ints]; omega) (fun e h' tk hk => ?_) (fun y ys i v h' tk bs e hv r hk => ?_)
  · cases ns with
    | nil => exact ⟨.int c, H, I.kept hk, ⟨_, rfl⟩, q⟩
    | cons n ns => cases e
  · cases ns with
    | nil => cases e
    | cons n ns =>
      simp only [List.map_cons, List.cons.injEq] at e
      obtain ⟨e1, e2⟩ := e
      subst e1 e2
      rw [PySem.W.maxD_ints] at r
      cases r with
      | int i t => exact ⟨.int _, H, I.kept hk, ⟨_, rfl⟩, q⟩
theorem c_maxD {c0 : Int} {j : Nat} {p1 p2 p3 : Pos} (hk : X.K = L.K) (hc : X.calm = true) (hu : X.A.units + 65 < cLine) (hg : Gl X "max") (hm : X.mg "max" = none) (ha : PE X a (TEof L W (ea F)))
    (na : starEach [a] X.env = (false, eval a X.env) :: starEach [] X.env := by rfl) (he : backTo pos (starEach [a] X.env) = (false, eval a X.env) :: backTo pos (starEach [] X.env) := by rfl) (hpl : (backTo pos (starEach [a] X.env)).any (·.1) = false := by rfl) :
    PE X (.Call (.Name "max" p1) [a] [⟨some "default", .Constant (.int c0) j p2, p3⟩] pos) (TEof L W (eMaxD ea c0 F)) := by
  refine PE.imp (pe_callBK (cr_maxDef hc hu) hg hm boot_max (pa_cons ha pa_nil na) (pk_cons pe_int pk_nil) (by decide) (by decide) he hpl) fun σ H Q h => ?_
  obtain ⟨M, env, re, P⟩ := h
  refine goE (.refl re) P fun d1 e1 v1 H1 M1 A1 A1' D1 P1 => ?_
  split at P1
  · rename_i xs ev
    split at P1
    · rename_i is ei
      obtain ⟨l, vs, rfl, k, _, r⟩ := (A1.re.view D1 ev).sql hk
      rw [r.ints ei] at k
      exact ⟨l, is, c0, rfl, rfl, k, fin_ok A1 P1 (.same rg_int)⟩
    · exact P1.elim
  · exact P1.elim
theorem rgs_rg : ∀ (n : Nat) (lo : Int), RGs L M H (rangeG lo n) ((List.range n).map fun (i : Nat) => V.int (lo + (i : Int)))
  | 0, lo => .nil
  | n + 1, lo => by
    rw [List.range_succ_eq_map, List.map_cons, List.map_map]
    refine .cons (by simp only [Int.natCast_zero, Int.add_zero]; exact rg_int) ?_
    have := rgs_rg n (lo + 1)
    have e : (List.map ((fun (i : Nat) => V.int (lo + (i : Int))) ∘ Nat.succ) (List.range n)) = (List.range n).map fun (i : Nat) => V.int (lo + 1 + (i : Int)) := by
      refine List.map_congr_left fun i _ => ?_
      simp only [Function.comp, Nat.succ_eq_add_one]
      congr 1
      omega
    rw [e]
    exact this
theorem rgv_rel {m n : Int} : RGs L M H (rangeG m (n - m).toNat) (rgV m n) := rgs_rg _ _
theorem c_tupR {p1 p2 : Pos} (hc : X.calm = true) (hg : Gl X "tuple") (hm : X.mg "tuple" = none) (hg2 : Gl X "range") (hm2 : X.mg "range" = none) (ha : PE X a (TEof L W (ea F))) (na : starEach [a] X.env = (false, eval a X.env) :: starEach [] X.env := by rfl) : PE X (.Call (.Name "tuple" p) [.Call (.Name "range" p1) [a] [] p2] [] pos) (TEof L W (eTupR ea F)) := by
  refine PE.imp (pe_tupRg (e := .Call (.Name "range" p1) [a] [] p2) hc hg hm (prg_1 hg2 hm2 ha na)) fun σ H Q h => ?_
  obtain ⟨M, env, re, P⟩ := h
  refine goE (.refl re) P fun d1 e1 v1 H1 M1 A1 A1' D1 P1 => ?_
  split at P1
  · rename_i n ev
    split at P1
    · rename_i hk
      simp only [okT, Bool.and_eq_true, decide_eq_true_eq] at hk
      refine ⟨n, (A1.re.view D1 ev).int, ⟨by omega, by omega, by omega, by omega, by omega⟩, fun q hq => ?_⟩
      have e : (n - 0).toNat = n.toNat := by rw [Int.sub_zero]
      have r := rgv_rel (L := L) (M := M1) (H := H1) (m := 0) (n := n)
      rw [e] at r
      exact fin_ok A1 P1 (.tup hq r)
    · exact P1.elim
  · exact P1.elim
theorem c_lstR {p1 p2 : Pos} (hc : X.calm = true) (hg : Gl X "list") (hm : X.mg "list" = none) (hg2 : Gl X "range") (hm2 : X.mg "range" = none) (ha : PE X a (TEof L W (ea F))) (na : starEach [a] X.env = (false, eval a X.env) :: starEach [] X.env := by rfl) : PE X (.Call (.Name "list" p) [.Call (.Name "range" p1) [a] [] p2] [] pos) (TEof L W (eLstR ea F)) := by
  refine PE.imp (pe_listRg (e := .Call (.Name "range" p1) [a] [] p2) hc hg hm (prg_1 hg2 hm2 ha na)) fun σ H Q h => ?_
  obtain ⟨M, env, re, P⟩ := h
  refine goE (.refl re) P fun d1 e1 v1 H1 M1 A1 A1' D1 P1 => ?_
  split at P1
  · rename_i n ev
    split at P1
    · rename_i hk
      simp only [okT, Bool.and_eq_true, decide_eq_true_eq] at hk
      refine ⟨n, (A1.re.view D1 ev).int, ⟨by omega, by omega, by omega, by omega, by omega⟩, fun q hq => ?_⟩
      have e : (n - 0).toNat = n.toNat := by rw [Int.sub_zero]
      have r := rgv_rel (L := L) (M := M1) (H := H1) (m := 0) (n := n)
      rw [e] at r
      exact fin_ok A1 P1 (.lst hq r)
    · exact P1.elim
  · exact P1.elim
theorem c_lstR2 {p1 p2 : Pos} (hc : X.calm = true) (hg : Gl X "list") (hm : X.mg "list" = none) (hg2 : Gl X "range") (hm2 : X.mg "range" = none) (ha : PE X a (TEof L W (ea F))) (hb : PE X b (TEof L W (eb F))) (na : starEach [a, b] X.env = (false, eval a X.env) :: starEach [b] X.env := by rfl) (nb : starEach [b] X.env = (false, eval b X.env) :: starEach [] X.env := by rfl) (hp : (backTo p2 (starEach [b] X.env)).any (·.1) = false := by rfl) : PE X (.Call (.Name "list" p) [.Call (.Name "range" p1) [a, b] [] p2] [] pos) (TEof L W (eLstR2 ea eb F)) := by
  refine PE.imp (pe_listRg (e := .Call (.Name "range" p1) [a, b] [] p2) hc hg hm (prg_2 hg2 hm2 ha hb na nb hp)) fun σ H Q h => ?_
  obtain ⟨M, env, re, P⟩ := h
  refine goE (.refl re) P fun d1 e1 v1 H1 M1 A1 A1' D1 P1 => goE A1 P1 fun d2 e2 v2 H2 M2 A2 A2' D2 P2 => ?_
  split at P2
  · rename_i m n ev1 ev2
    split at P2
    · rename_i hk
      simp only [okT, Bool.and_eq_true, decide_eq_true_eq] at hk
      refine ⟨m, n, (A2.re.view (D1.to A2'.aft A1.re A2'.ob) ev1).int, (A2.re.view D2 ev2).int, ⟨by omega, by omega, by omega, by omega, by omega⟩, fun q hq => ?_⟩
      exact fin_ok A2 P2 (.lst hq rgv_rel)
    · exact P2.elim
  · exact P2.elim
/-- name *= e -/
theorem ip_mul : PIp X .Mult (fun x y H Q => ∃ i j, x = .int i ∧ y = .int j ∧ CMul i j ∧ Q (.int (i * j)) H) := by
  intro pins s σ H x y v u Q I r1 r2 h
  obtain ⟨i, j, e1, e2, hm, q⟩ := h
  subst e1; subst e2
  obtain ⟨t, rfl⟩ := r1
  obtain ⟨t', rfl⟩ := r2
  exact imul_int ⟨.int _, H, I.tok _, ⟨_, rfl⟩, q⟩ hm.ok
theorem s_augM {i : Nat} {pos' : Pos} (hN : X.N.Nodup) (hi : X.N[i]? = some x) (hx : Loc X.env.scope x) (he : PE X a (TEof L W (ea F)))
    (hf : X.fn x = true ∨ X.env.scope.names.lookup x = some .local := by first | exact .inl rfl | exact .inr rfl | assumption) : PS X (.AugAssign (.Name x pos') .Mult a pos) (TSof L W (sMul i ea F)) := PS.imp (ps_aug hN hi hx he ip_mul hf) fun D σ H h => by
  obtain ⟨M, env, re, P⟩ := h
  have q := re.at_ i
  unfold sMul at P
  split at P
  · rename_i a0 es
    rw [es] at q
    obtain ⟨v, ev, rg⟩ := q
    unfold RG at rg; subst rg
    refine ⟨_, sv_some ev, stE re P fun d e v H1 M1 A1 D1 P1 => ?_⟩
    split at P1
    · rename_i b0 ex
      split at P1
      · rename_i hm
        simp only [forceI_eq] at P1
        refine ⟨a0, b0, rfl, (A1.re.view D1 ex).int, ?_, ?_⟩
        · simp only [mulOk, Bool.or_eq_true, Bool.and_eq_true, decide_eq_true_eq] at hm
          exact hm
        cases et : setS e i (.val (.int (a0 * b0))) with
        | none => rw [et] at P1; exact P1.elim
        | some e2 =>
          rw [et] at P1
          exact P1 _ H1 M1 (set_slot A1.aft et ⟨_, rfl, rg_int⟩ (fun z => by cases z) rfl)
      · exact P1.elim
    · exact P1.elim
  · exact P.elim
end
end Ev

end
section
set_option linter.all false
set_option maxRecDepth 100000
set_option maxHeartbeats 4000000
namespace Ev
open PySem PySem.Spec PyProof.Rows L2
theorem inK_bl {neg : Bool} {tb : List (Str × Int)} {ea : EV} {F : FF} : ∀ e d e1, eInK neg tb ea F e = .ok d e1 → ∃ t, d = .g (.bl t) := fun e d e1 h => by
  unfold eInK at h
  cases e2 : ea F e with
  | ok d2 e3 =>
    rw [e2] at h
    simp only [R.bind] at h
    split at h
    · cases h; exact ⟨_, rfl⟩
    · cases h
  | exn _ _ _ => rw [e2] at h; cases h
  | bad => rw [e2] at h; cases h
def onlyB (C : CT) (n c0 f0 : Nat) : Bool := (List.range C.length).all fun c => match attrOf C c n with
  | none => true
  | some (.prop f) => decide (c = c0) && decide (f = f0)
  | some (.fld _) => false
theorem attr_only {C : CT} {n c0 f0 : Nat} (h : onlyB C n c0 f0 = true) : ∀ c x, attrOf C c n = some x → c = c0 ∧ x = .prop f0 := fun c x e => by
  have hc : c < C.length := by
    rcases Nat.lt_or_ge c C.length with z | z
    · exact z
    · unfold attrOf at e; rw [List.getElem?_eq_none z] at e; cases e
  have := List.all_eq_true.mp h c (List.mem_range.mpr hc)
  rw [e] at this
  cases x with
  | fld j => cases this
  | prop f => simp only [Bool.and_eq_true, decide_eq_true_eq] at this; exact ⟨this.1, by rw [this.2]⟩
section
variable {L : Lk} {X : Cx} {W : WX} {F : FF} {M M0 M1 M2 : Mu} {H H0 H1 H2 : Hp} {env env0 env1 env2 : Env} {σ : L2.St}
variable {a b c : Expr} {ea eb ec : EV} {pos p : Pos} {x : Str}
theorem t_inK {tb : List (Str × Int)} {d : Addr} {es : Array DictEntry} {n : Nat} (D : KDict X.K X.w d es n) (hb : dicB X.K d tb = true) (ha : PE X a (TEof L W (ea F))) (hm : X.mg x = some (.ref d)) (hg : Gl X x := by rfl) (hd : (x == ("__debug__" : Str)) = false := by decide)
    (hmk : behindInMarks .In (.Name x p) = false := by first | exact nobehind _ (by decide) (by decide) | rfl) : PT X (.Compare a [.In] [.Name x p] pos) (TTof L W (tV (eInK false tb ea) F)) := by
  refine PT.imp (pt_cmpR (op_in_kd D) ha (pe_glob (v := .ref d) hg hm rfl hd) hmk) fun σ H Q h => ?_
  obtain ⟨M, env, re, P⟩ := test_of inK_bl h
  refine goE (.refl re) P fun d1 e1 v1 H1 M1 A1 A1' D1 P1 => ?_
  split at P1
  · rename_i s ev
    obtain ⟨r, e1, e2⟩ := dicB_ns hb s
    have hr : r.isSome = (tb.lookup s).isSome := by
      cases el : tb.lookup s with
      | none => rw [el] at e2; rw [e2]; rfl
      | some i => rw [el] at e2; obtain ⟨t, rfl⟩ := e2; rfl
    refine ⟨s, r, (A1.re.view D1 ev).str, rfl, e1, ?_⟩
    rw [hr]
    exact fin_ok A1 P1 (.same rg_bl)
  · exact P1.elim
theorem t_notinK {tb : List (Str × Int)} {d : Addr} {es : Array DictEntry} {n : Nat} (D : KDict X.K X.w d es n) (hb : dicB X.K d tb = true) (ha : PE X a (TEof L W (ea F))) (hm : X.mg x = some (.ref d)) (hg : Gl X x := by rfl) (hd : (x == ("__debug__" : Str)) = false := by decide)
    (hmk : behindInMarks .NotIn (.Name x p) = false := by first | exact nobehind _ (by decide) (by decide) | rfl) : PT X (.Compare a [.NotIn] [.Name x p] pos) (TTof L W (tV (eInK true tb ea) F)) := by
  refine PT.imp (pt_cmpR (op_notIn_kd D) ha (pe_glob (v := .ref d) hg hm rfl hd) hmk) fun σ H Q h => ?_
  obtain ⟨M, env, re, P⟩ := test_of inK_bl h
  refine goE (.refl re) P fun d1 e1 v1 H1 M1 A1 A1' D1 P1 => ?_
  split at P1
  · rename_i s ev
    obtain ⟨r, e1, e2⟩ := dicB_ns hb s
    have hr : r.isSome = (tb.lookup s).isSome := by
      cases el : tb.lookup s with
      | none => rw [el] at e2; rw [e2]; rfl
      | some i => rw [el] at e2; obtain ⟨t, rfl⟩ := e2; rfl
    refine ⟨s, r, (A1.re.view D1 ev).str, rfl, e1, ?_⟩
    rw [hr]
    exact fin_ok A1 P1 (.same rg_bl)
  · exact P1.elim
theorem c_propE {CX : CXT} {C : CT} {F' : FF} {fd : FD} {n k : Nat} {at_ : Str} {c0 f0 : Nat} {g : Addr} {fdd : FuncData} {ps : List Str} (hk : X.K = L.K) (hA : onlyB C n c0 f0 = true) (hF : isFD F f0 fd F') (cl : SlX.SCls X.K (L.ca c0))
    (pf : ∃ pa, PySem.W.findIn X.K (.ref (L.ca c0)) at_ = some (some (.ref pa)) ∧ PySem.W.specialIn X.K (.ref pa) "__get__" = some (some (.builtin "property.__get__")) ∧ PySem.W.takesIn X.K (.ref pa) = some true ∧ ∃ rest, PySem.W.recIn X.K pa "property" = some (.ref g :: rest))
    (FO : FnOk X.prog X.w X.K X.mg X.base CX k g fdd ps (spF L fd F')) (hb : Binds X.K fdd ps []) (hr : Room (k + 1) X.A)
    (hx : ∀ (H : Hp) (s : Shared) (e : Value) (s' : Shared), CX X.stack H s E0' e s' → False) (ha : PE X a (TEof L W (ea F))) (hba : attributeBase a at_ X.env (eval a X.env) = eval a X.env := by rfl) : PE X (.Attribute a at_ pos) (TEof L W (eAttr C ea n F)) := by
  obtain ⟨pa, h1, h2, h3, h4⟩ := pf
  exact c_prop hk (attr_only hA) hF cl h1 h2 h3 h4 FO hb hr hx ha hba
theorem noX : ∀ {st : List PySem.Env} (H : Hp) (s : Shared) (e : Value) (s' : Shared), CX0 st H s E0' e s' → False := fun _ _ _ _ h => h
end
end Ev

end
section
set_option linter.all false
set_option maxRecDepth 100000
set_option maxHeartbeats 2000000
namespace Ev
open PySem PySem.Spec PyProof.Rows L2
/-! except clauses, with and without a name, in any order -/
abbrev HTs : Type := Addr → Value → Option Addr → TS
/-- the suite of a clause that gives its name: slot i -/
def asTs (i : Nat) (ts : HTs) : HTs := fun a cls d D σ H =>
  ts a cls d { nx := fun σ1 H1 => D.nx (σ1.set i none) H1, rt := D.rt, bk := fun σ1 H1 => D.bk (σ1.set i none) H1, ct := fun σ1 H1 => D.ct (σ1.set i none) H1 } (σ.set i (some (.ref a))) H
abbrev SuiteOk (X : Cx) (b : List Stmt) (ts : HTs) : Prop :=
  ∀ (a : Addr) (oe : Obj) (cls : Value) (d : Option Addr) (pn : List (Addr × Obj)), Zc cls d oe → (∃ vs, oe.data = .fields vs) → PSs (X.suite a ((a, oe) :: pn)) b (ts a cls d)
inductive Clauses (X : Cx) : List ExceptHandler → List (Value × HTs) → Prop
  | nil : Clauses X [] []
  | bare {x : Str} {c : Value} {ts : HTs} {b0 : Stmt} {bs : List Stmt} {p1 p2 : Pos} {r : List ExceptHandler} {l : List (Value × HTs)} (hc : Names X x c) (hs : SuiteOk X (b0 :: bs) ts) (t : Clauses X r l) :
      Clauses X (.ExceptHandler (some (.Name x p1)) none (b0 :: bs) p2 :: r) ((c, ts) :: l)
  | as_ {x n : Str} {i : Nat} {c : Value} {ts : HTs} {b0 : Stmt} {bs : List Stmt} {p1 p2 : Pos} {r : List ExceptHandler} {l : List (Value × HTs)} (hi : X.N[i]? = some n) (hl : X.env.kindOf n = some .local) (hc : Names X x c) (hs : SuiteOk X (b0 :: bs) ts) (t : Clauses X r l) :
      Clauses X (.ExceptHandler (some (.Name x p1)) (some n) (b0 :: bs) p2 :: r) ((c, asTs i ts) :: l)
section
variable {X : Cx} {pins : List (Addr × Obj)} {D : Ends} {Wout : WX}
/-- an exception that has come down: the clauses, one after the other -/
theorem clauses_run {s' sI : Shared} {B h3 : Heap} {a : Addr} {cls : Value} {d : Option Addr} {σ : L2.St} {H : Hp} (ok : X.Ok) (hs : X.stack = X.env :: X.outer) (hf : X.env.frame = some X.env.locals) (hN : X.N.Nodup) (tk : Takes X Wout)
    (J : Inv X pins σ H sI) (nb : ∀ b o, sI.heap.get? b = some o → b ∉ frs X.stack → B.get? b = some o) (up : sI.heap.UpToSlots h3) (na : H a = none) (os : s'.os = sI.os) (ag : AllBare s'.gens)
    (fl : HandSPX.FlyingZ B (X.env :: X.outer) a (Zc cls d) h3) (nL : a ≠ X.env.locals) (nF : a ∉ X.fs) :
    ∀ {hds : List ExceptHandler} {l : List (Value × HTs)}, Clauses X hds l → wMany X.K Wout D l cls d σ H →
      wpAny (model X.prog X.w) X.A (handleBy (.ref a) X.env hds) (SP X pins D) X.xe { s' with heap := h3 } := by
  have J3 : Inv X pins σ H { s' with heap := h3 } := J.landed nb fl.1 up os ag
  obtain ⟨oe3, vs3, he3, hz3, hd3⟩ := fl.there
  have S3 := J3.suite he3 hd3 na nL nF
  have isA : PySem.W.Looks (model X.prog X.w) h3 (typeOf (.ref a)) cls := fun A Q E s k q => wpAny_typeOf_ref (k _ _ he3) (by rw [hz3.1]; exact q)
  have named : ∀ {x : Str} {c : Value} {p1 : Pos} {Q : Value → Shared → Prop} {E : Value → Shared → Prop}, Names X x c → Q c { s' with heap := h3 } → wpAny (model X.prog X.w) (X.A.mark (some (.ref a))) (eval (.Name x p1) X.env) Q E { s' with heap := h3 } := by
    intro x c p1 Q E hc q
    obtain ⟨g1, g2, g3⟩ := hc
    rcases g3 with g3 | ⟨g3, g4, g5⟩
    · exact ld_glob (X := X.suite a ((a, oe3) :: (X.pn ++ pins))) S3 g1 g3 q g2
    · exact ld_blt (X := X.suite a ((a, oe3) :: (X.pn ++ pins))) S3 g1 g3 g4 q g5 g2
  have enter : ∀ {P : Flow → Shared → Prop} {m : Sem Flow}, True := trivial
  intro hds l hk
  induction hk with
  | nil =>
    intro w
    refine wpAny_handleBy_nil ?_
    obtain ⟨_, _, _, oe, vs, T, _, _, he, _, hd, h1, _⟩ := id fl
    have out : wpAny (model X.prog X.w) X.A (setFlight (.ref a) X.env.frame) (fun _ s4 => wpAny (model X.prog X.w) X.A (throw (.ref a) : Sem Flow) (SP X pins D) X.xe s4) X.xe { s' with heap := h3 } := by
      rw [hf]
      refine HandSPX.setFlight_upZ fl fun h4 held up4 => wpAny_throw (tk _ _ ⟨a, B, sI, pins, σ, H, cls, d, rfl, J, nb, up.trans up4, .inr (.inr ?_), na, os, ag, w⟩)
      rw [hs]; exact held
    unfold PySem.passOn
    refine wpAny_bind (wpAny_field he hd h1 ?_)
    rw [if_neg (by simp : ¬ ((Value.ref T == Value.none) = true))]
    first | exact wpAny_bind (wpAny_pure (wpAny_bind out)) | exact wpAny_bind out
  | bare hc hsu t ih =>
    intro w
    obtain ⟨b, hb, yes, no⟩ := w
    refine wpAny_handleBy_cons (codeAny_handlers_test ?_) (by intro q; cases q)
    refine named hc ((PySem.W.exm_one (M := model X.prog X.w) J3.kIn isA hb).here ?_)
    cases b with
    | false => exact ih (no rfl)
    | true =>
      refine codeAny_handlers_suite (HandSPX.lands_againZ fl fun h4 fl4 up4 => ?_)
      obtain ⟨oe4, _, he4, hz4, hd4⟩ := fl4.there
      have S4 := (J.landed (s' := { s' with heap := h4 }) nb fl4.1 (up.trans up4) os ag).suite he4 hd4 na nL nF
      refine wpAny_mono ((hsu a oe4 cls d (X.pn ++ pins) hz4 ⟨_, hd4⟩).run [] _ _ H _ S4 (yes rfl a na)) (fun f s6 e => ?_) fun _ _ z => False.elim z
      cases f with
      | next => obtain ⟨_, _, S6, q⟩ := e; exact ⟨_, _, S6.unsuite ok, q⟩
      | brk => obtain ⟨_, _, S6, q⟩ := e; exact ⟨_, _, S6.unsuite ok, q⟩
      | cont => obtain ⟨_, _, S6, q⟩ := e; exact ⟨_, _, S6.unsuite ok, q⟩
      | ret u => obtain ⟨_, _, _, S6, r, q⟩ := e; exact ⟨_, _, _, S6.unsuite ok, r, q⟩
  | @as_ x n i c ts b0 bs p1 p2 rr ll hi hl hc hsu t ih =>
    intro w
    obtain ⟨b, hb, yes, no⟩ := w
    refine wpAny_handleBy_cons (codeAny_handlers_test ?_) (by intro q; cases q)
    refine named hc ((PySem.W.exm_one (M := model X.prog X.w) J3.kIn isA hb).here ?_)
    cases b with
    | false => exact ih (no rfl)
    | true =>
      refine codeAny_handlers_suite_as (HandSPX.lands_againZ fl fun h4 fl4 up4 => ?_)
      obtain ⟨oe4, _, he4, hz4, hd4⟩ := fl4.there
      have S4 := (J.landed (s' := { s' with heap := h4 }) nb fl4.1 (up.trans up4) os ag).suite he4 hd4 na nL nF
      refine store_ok (X := X.suite a ((a, oe4) :: (X.pn ++ pins))) (v := .ref a) S4 hN hi (.inl hl) rfl (fun s5 S5 => ?_) (.inr hl)
      refine wpAny_mono ((hsu a oe4 cls d (X.pn ++ pins) hz4 ⟨_, hd4⟩).run [] s5 _ H _ S5 (yes rfl a na)) (fun f s6 e => ?_) fun _ _ z => False.elim z
      have over : ∀ {σ6 : L2.St} {H6 : Hp} {Q : Shared → Prop}, Inv (X.suite a ((a, oe4) :: (X.pn ++ pins))) [] σ6 H6 s6 → (∀ s7, Inv X pins (σ6.set i none) H6 s7 → Q s7) →
          wpAny (model X.prog X.w) X.A (do bindName X.env n .none; unbindBehindTheSuite X.env n p2) (fun _ s7 => Q s7) X.xe s6 := fun S6 hq => gone_ok (S6.unsuite ok) hN hi hl hq
      cases f with
      | next => obtain ⟨_, _, S6, q⟩ := e; exact over S6 fun s7 J7 => ⟨_, _, J7, q⟩
      | brk => obtain ⟨_, _, S6, q⟩ := e; exact over S6 fun s7 J7 => ⟨_, _, J7, q⟩
      | cont => obtain ⟨_, _, S6, q⟩ := e; exact over S6 fun s7 J7 => ⟨_, _, J7, q⟩
      | ret u => obtain ⟨_, _, _, S6, r, q⟩ := e; exact over S6 fun s7 J7 => ⟨_, _, _, J7, r, q⟩
theorem ps_tryC {body : List Stmt} {h0 : ExceptHandler} {hds : List ExceptHandler} {l : List (Value × HTs)} {pos : Pos} {tb : WX → TS} (hs : X.stack = X.env :: X.outer) (hf : X.env.frame = some X.env.locals) (hN : X.N.Nodup) (tk : Takes X Wout)
    (hb : ∀ (W : WX) (pn : List (Addr × Obj)) (xe : Value → Shared → Prop), Takes (X.tr pn xe) W → PassesOwn (model X.prog X.w) X.A X.env xe → PSs (X.tr pn xe) body (tb W))
    (hh : Clauses X (h0 :: hds) l) : PS X (.Try body (h0 :: hds) [] [] pos) (fun D σ H => tb (wMany X.K Wout D l) D σ H) := by
  refine ⟨fun pins s σ H D I h => ?_⟩
  have ok := I.ok
  have hfr : X.A.frames = some (X.env :: X.outer) := by rw [ok.frames, hs]
  refine wpAny_Try_except ?_
  have T := hb (wMany X.K Wout D l) (X.pn ++ pins) (fun e s1 => wpAny (model X.prog X.w) X.A (noteFrame e X.env) (fun _ s2 => wpAny (model X.prog X.w) X.A (setFlight e none) (fun _ s3 =>
    wpAny (model X.prog X.w) X.A (handleBy e X.env (h0 :: hds)) (SP X pins D) X.xe s3) X.xe s2) X.xe s1) (fun u s' xx => ?_) PassesOwn.looking
  · refine wpAny_mono (T.run [] s σ H D (I.toTry _) h) (fun f s1 e => ?_) fun _ _ z => z
    cases f with
    | next => obtain ⟨_, _, J, q⟩ := e; exact wpAny_execs_nil ⟨_, _, J.ofTry ok, q⟩
    | brk => obtain ⟨_, _, J, q⟩ := e; exact ⟨_, _, J.ofTry ok, q⟩
    | cont => obtain ⟨_, _, J, q⟩ := e; exact ⟨_, _, J.ofTry ok, q⟩
    | ret u => obtain ⟨_, _, _, J, r, q⟩ := e; exact ⟨_, _, _, J.ofTry ok, r, q⟩
  · obtain ⟨a, B, sI, pins', σ', H', cls, d, rfl, J', nb, up, sky, na, os, ag, w⟩ := xx
    have J : Inv X pins σ' H' sI := J'.ofTry ok
    have sky' : Sky B (X.env :: X.outer) a (Zc cls d) X.env.locals s'.heap := by rw [← hs]; exact sky
    refine Sky.land Zc.steady hfr hf sky' fun h3 fl3 up3 => ?_
    obtain ⟨oe3, vs3, he3, _, hd3⟩ := fl3.there
    have nfr : a ∉ frs (X.env :: X.outer) := fun hm => by
      obtain ⟨_, o', e', hnf⟩ := fl3.2.2.1.mem hm
      rw [he3] at e'; cases e'
      exact hnf _ hd3
    refine clauses_run ok hs hf hN tk J nb (up.trans up3) na os ag fl3 (fun z => nfr ?_) (fun hm => nfr ?_) hh w
    · exact List.mem_filterMap.mpr ⟨X.env, List.mem_cons_self, by rw [hf, z]⟩
    · obtain ⟨e, he, q⟩ := List.mem_filterMap.mp hm
      exact List.mem_filterMap.mpr ⟨e, List.mem_cons_of_mem _ he, q⟩
end
end Ev

end
section
set_option linter.all false
set_option maxRecDepth 100000
set_option maxHeartbeats 2000000
namespace Ev
open PySem PySem.Spec PyProof.Rows L2 PySem.W Builtin Builtin.ObjectAttr
/-! an own error over a built-in one: def __init__(self, f): super().__init__('..'); self.f = f -/
structure SupB (B newId initId : String) (bmB : List Value) : Prop where
  fb : ExcBaseFacts B newId initId bmB
  kf : KxsFacts B initId
  sf : StoreFacts B bmB "object.__setattr__" "object"
/-- its text -/
structure SupT (st : Stmt) (f : Str) : Prop where
  body : ∃ p0 p1 p2 m j p3 p4 p5 p6 p7 p8 p9, defBody st = [.Expr (.Call (.Attribute (.Call (.Name "super" p0) [] [] p1) "__init__" p2) [.Constant (.str m) j p3] [] p4) p5, .Assign [.Attribute (.Name "self" p6) f p7] (.Name f p8) p9] ∧
    ∀ (q : Str) (L a cc : Addr) (cd : Value), ∃ pl : Sem Bool, PySem.eval (.Call (.Attribute (.Call (.Name "super" p0) [] [] p1) "__init__" p2) [.Constant (.str m) j p3] [] p4) (ksEnv q (defScope st) L a cd cc) = (do
      let ov ← attributeBase (.Call (.Name "super" p0) [] [] p1) "__init__" (ksEnv q (defScope st) L a cd cc) (PySem.eval (.Call (.Name "super" p0) [] [] p1) (ksEnv q (defScope st) L a cd cc))
      standAt p2.atName
      let (fn, first) ← holding [ov] (getMethod ov "__init__" pl)
      callWith p4 fn first (backTo p4 (starEach [.Constant (.str m) j p3] (ksEnv q (defScope st) L a cd cc))) [])
  sSup : (defScope st).names.lookup ("super" : Str) = some .globalImplicit
  sCls : (defScope st).names.lookup ("__class__" : Str) = some .free
  sSlf : (defScope st).names.lookup ("self" : Str) = some .local
  sF : (defScope st).names.lookup f = some .local
  kind : (defScope st).kind = .function
  noc : ∀ x ∈ (defScope st).names, x.2 ≠ .cell
  co : (defScope st).isCoroutine = false
  gen : (defScope st).isGenerator = false
  par : ∃ ar, ((defArgs st).posonlyargs ++ (defArgs st).args).head? = some ar ∧ ar.arg = "self"
  bind : ∀ (q : Str) (kV doc pm : Value) (an : Option Addr) (cdv ct : Value) (cc : Addr) (a b : Value), bindArgs (ksFn "__init__" q (defArgs st) (defBody st) (defScope st) .none kV doc pm an cdv ct cc) ⟨[a, b], []⟩ = pure [(("self" : Str), a), (f, b)]
  ne : f ≠ "self"
  dbg : (f == ("__debug__" : Str)) = false
structure SupK (P : Program) (K : Frag) (C fI cc cda : Addr) (B newId initId : String) (bmB : List Value) (f qual : Str) (st : Stmt) : Prop where
  fn : ∃ oc od kV doc pm an ct osl, K.lookup fI = some ⟨oc, od, .func (ksFn "__init__" qual (defArgs st) (defBody st) (defScope st) .none kV doc pm an (.ref cda) ct cc), osl⟩
  cd : codeIn K (.ref cda) qual = true
  code : ∃ ccl cdd vs ccs file tf, K.lookup cda = some ⟨ccl, cdd, .fields vs, ccs⟩ ∧ vs[2]? = some (.str file tf) ∧ ((P.main.file : Str) == file) = true
  cell : ∃ cl cld csl, K.lookup cc = some ⟨cl, cld, .cell (some (.ref C)), csl⟩
  exi : excInitIn K C bmB newId = true
  exo : excOver K C bmB = true
  ini : findIn K (.ref C) "__init__" = some (some (.ref fI))
  tI : typeIn K (.ref fI) = some (.type "function")
  sup : ks_superIn K C C "__init__" = some (some (.builtin initId))
  subB : subIn K (.ref C) (.type B) = some true
  mroC : mroIn K C (.ref C) = some true
  sta : nsIn K cStatics "thirdparty.any" = some none
  sa : findIn K (.ref C) "__setattr__" = some (some (.builtin "object.__setattr__"))
  tk : takerIn K C f = some none
  hd : hasDictIn K C = true
  exC : subIn K (.ref C) (.type "BaseException") = some true
  tyC : typeIn K (.ref C) = some (.type "type")
  kC : keepIn K (.ref C) = true
  top : (P.main.scope.names.lookup ("super" : Str)).isSome = false
section
variable {P : Program} {w : World} {K : Frag} {C fI cc cda : Addr} {B newId initId : String} {bmB : List Value} {f qual : Str} {st : Stmt} {mg : Str → Option Value} {base hp : Heap}
/-- self.f = v, the first store -/
theorem sup_store {A : Around} {Q : Unit → Shared → Prop} {E : Value → Shared → Prop} {e t0 : Addr} {v : Value} {s : Shared} (SB : SupB B newId initId bmB) (T : SupK P K C fI cc cda B newId initId bmB f qual st) (X : K.In s.heap) (he : s.heap.get? e = some (excObj C t0 none .none))
    (hq : ∀ h' tk' dx, (∀ b o, b ≠ e → s.heap.get? b = some o → h'.get? b = some o) → s.heap.objs.size ≤ dx → dx ≠ e → h'.get? e = some (excObj C t0 (some dx) .none) → h'.Ns1 dx (fun y => if y = f then some v else none) → Q () { s with heap := h', toks := tk' }) :
    wpAny (model P w) A (setAttr (.ref e) f v) Q E s := by
  obtain ⟨h, g, d, t, os⟩ := s
  have at0 : InstAt h e (excObj C t0 none .none) C none := ⟨he, rfl, rfl, trivial⟩
  have es : e ≠ h.objs.size := Nat.ne_of_lt (Heap.lt_size he)
  obtain ⟨cd, hcd, hdd⟩ := any_some T.hd
  have hcl : Looks (model P w) h (classData C) cd := looks_clsIn X hcd
  refine set_plain (od := none) X at0 T.sa ?_
  refine osa_openX (s := ⟨h, g, d, _, os⟩) (od := none) SB.sf X at0 T.exo T.tk fun b => ?_
  obtain ⟨nm, bs, mro, ns, qn, hd, sn, sb, ab, col, del⟩ := cd
  have hdd : hd = true := hdd
  subst hdd
  show wpAny _ _ (storeInOwnDict (.ref e) (.ref C) (.str f _) f v b) _ _ _
  unfold storeInOwnDict
  unfold ownDictForStores
  repeat (first
    | with_reducible refine HandSPX.store_in_new ?_ ?_
    | with_reducible refine wpAny_loadPart_at he ?_
    | with_reducible refine hcl.at ?_
    | wp_step)
  · refine ⟨_, #[], _, (Heap.get?_update_ne _ _ _ _ es.symm).trans (Heap.get?_push_at rfl rfl), rfl, ?_, ?_⟩
    · intro x hx
      exact absurd hx (by simp)
    · exact fun _ => rfl
  · intro h' tk' hn hs
    have he1 : (h.push { cls := .type "dict", data := .dict #[] }).get? e = some (excObj C t0 none .none) := Heap.get?_push_of_some _ he
    refine hq h' tk' h.objs.size (fun b o hb ho => ?_) (Nat.le_refl _) es.symm ?_ hn
    · rw [hs.2 b (Nat.ne_of_lt (Heap.lt_size ho)), Heap.get?_update_ne _ _ _ _ hb]
      exact Heap.get?_push_of_some _ ho
    · rw [hs.2 e es]
      exact Heap.get?_update_self _ he1 rfl
/-- the run of __init__ -/
theorem sup_init {A : Around} {R : Result → Shared → Prop} {e t0 : Addr} {u : Value} {h g : Heap} {ga : Array GenState} {d : Drawn} {t : Nat} {os : OsState} (SB : SupB B newId initId bmB) (ST : SupT st f) (T : SupK P K C fI cc cda B newId initId bmB f qual st)
    (Md : Mod K mg base) (bk : ∀ b o, base.get? b = some o → g.get? b = some o) (hms : mg "super" = none) (hA : A.depth < recursionLimit)
    (gk : ∀ b o, g.get? b = some o → h.get? b = some o) (gsz : g.objs.size ≤ h.objs.size) (ge : g.get? e = none) (he : h.get? e = some (excObj C t0 none .none))
    (hq : ∀ h' t1 dx tk', (∀ b o, g.get? b = some o → h'.get? b = some o) → g.objs.size ≤ dx → dx ≠ e → h'.get? e = some (excObj C t1 (some dx) .none) → h'.Ns1 dx (fun y => if y = f then some u else none) → R (.ok (.ret .none)) ⟨h', ga, d, tk', os⟩) :
    codeAny (model P w) A (.call (.ref fI) ⟨[.ref e, u], []⟩) R ⟨h, ga, d, t, os⟩ := by
  obtain ⟨oc, od, kV, doc, pm, an, ct, osl, lk⟩ := T.fn
  obtain ⟨p0, p1, p2, m, j, p3, p4, p5, p6, p7, p8, p9, hb, hcall⟩ := ST.body
  obtain ⟨ar, har, hself⟩ := ST.par
  have Kg : K.In g := Md.kin.keeps bk
  have Kh : K.In h := Kg.keeps gk
  have lim : h.NoLimit := Md.nolimit.keeps fun b o z => gk b o (bk b o z)
  have hkf : f ≠ "self" := ST.ne
  refine ks_codeAny_call_defAt (fd := ksFn "__init__" qual (defArgs st) (defBody st) (defScope st) .none kV doc pm an (.ref cda) ct cc) (body := defBody st) (binds := [(("self" : Str), Value.ref e), (f, u)]) hA (Kh _ _ lk) rfl lim (codeRec_of Kh T.cd) rfl (.of_eq (ST.bind ..)) ST.noc (fun x hx => ?_) (fun h1 hns hk1 => ?_) ST.co ST.gen ST.kind
  · simp only [List.mem_cons, List.not_mem_nil, or_false] at hx
    rcases hx with rfl | rfl
    · exact ST.sSlf
    · exact ST.sF
  · have F1 : Fr g h.objs.size h1 (fun x => ([(("self" : Str), Value.ref e), (f, u)] : List (Str × Value)).reverse.lookup x) := ⟨hns, fun b o z => hk1 b o (gk b o z), gsz⟩
    have N1 : News g h.objs.size h1 [(e, excObj C t0 none .none)] := by
      intro p hp
      simp only [List.mem_cons, List.not_mem_nil, or_false] at hp
      subst hp
      exact ⟨hk1 _ _ he, Nat.ne_of_lt (Heap.lt_size he), ge⟩
    have mSelf : (([(("self" : Str), Value.ref e), (f, u)] : List (Str × Value)).reverse.lookup ("self" : Str)) = some (.ref e) := by
      have : (("self" : Str) == f) = false := by simpa using Ne.symm hkf
      simp [List.lookup, this]
    have mF : (([(("self" : Str), Value.ref e), (f, u)] : List (Str × Value)).reverse.lookup f) = some u := by simp [List.lookup]
    obtain ⟨ccl, cdd, vs, ccs, file, tf, lc, lv, lf⟩ := T.code
    obtain ⟨cl, cld, csl, lcell⟩ := T.cell
    obtain ⟨cdD, hD, _⟩ := any_some T.hd
    obtain ⟨mb, hb1, hb2⟩ := Md.blt
    show _root_.PySem.wpAt (model P w) _ (.func (defBody st) (ksEnv qual (defScope st) h.objs.size fI (.ref cda) cc)) (execs (defBody st) (ksEnv qual (defScope st) h.objs.size fI (.ref cda) cc)) _ _ _
    rw [hb]
    have ek : (ksEnv qual (defScope st) h.objs.size fI (.ref cda) cc).scope.kind = .function := ST.kind
    obtain ⟨pl, hcall⟩ := hcall qual h.objs.size fI cc (.ref cda)
    have hin : interactive (ksEnv qual (defScope st) h.objs.size fI (.ref cda) cc) = false := by
      unfold interactive; rw [ek]; rfl
    refine ks_wpAt_execs_cons (ks_wpAt_Expr_any (ks_wpAt_MethodCall ?_ hcall) hin rfl)
    -- super()
    obtain ⟨oD, hD1, hD2⟩ : ∃ oD, h1.get? C = some oD ∧ oD.data = .cls cdD := by
      unfold clsIn at hD
      split at hD
      · rename_i c dd cd' sl ho
        cases hD
        exact ⟨_, hk1 _ _ (Kh _ _ ho), rfl⟩
      · cases hD
    have K1 : K.In h1 := Kg.keeps F1.keep
    refine ks_wpAt_super_base (env := ksEnv qual (defScope st) h.objs.size fI (.ref cda) cc) ST.sSup ST.sCls rfl rfl (K1 _ _ lk) rfl har rfl (K1 _ _ lc) rfl lv lf T.top ?_
    refine ks_loadName_global ek ST.sSup (Calls.loadGlobal_builtin (env := ksEnv qual (defScope st) h.objs.size fI (.ref cda) cc) (Md.glob.keeps fun b o z => F1.keep b o (bk b o z)) hms (hb1.keeps fun b o z => F1.keep b o (bk b o z)) ((hb2 _ (by decide)).trans rfl) ⟨rfl, ?_⟩)
    refine wpAny_loadName_free ek ST.sCls rfl ⟨_, K1 _ _ lcell, rfl⟩ ?_
    refine wpAny_loadName_local ek (by rw [hself]; exact ST.sSlf) F1.ns (by rw [hself]; exact mSelf) ?_
    refine ks_wpAny_isType_cls hD1 hD2 ⟨rfl, ?_⟩
    refine ks_wpAny_call_super hD1 hD2 (N1 _ (List.mem_cons_self ..)).1 rfl (fun c z => by cases z) (looks_mroIn K1 T.mroC) (fun h2 e2 k2 => ?_)
    obtain ⟨F2, N2, l2⟩ := ks_newsPush (s := ⟨h1, ga, d, t + 2, os⟩) F1 N1 rfl e2 k2
    -- .__init__
    refine kxs_method (B := B) (i := initId) (s := ⟨h2, ga, d, _, os⟩) SB.kf F2 Kg N2 (List.mem_cons_self ..) (InstAt.of_exc0 N2 (List.mem_cons_of_mem _ (List.mem_cons_self ..))) T.sta T.sup T.subB (by decide) (fun q h3 F3 N3 l3 => ?_)
    refine kxs_callWith1 (i := initId) (x := e) N3 (List.mem_cons_self ..) ?_
    refine wpAny_mono (Q := fun us s' => (∃ tk, us = [.str m tk]) ∧ ∃ t', s' = ⟨h3, ga, d, t', os⟩) (E := fun _ _ => False) ?_ (fun us s' z => ?_) (fun _ _ z => z.elim)
    · exact spliced_more (Calls.Constant_str (spliced_none ⟨⟨_, rfl⟩, _, rfl⟩))
    · obtain ⟨⟨tk, rfl⟩, t', rfl⟩ := z
      refine ⟨kxs_at N3 (List.mem_cons_self ..), ?_⟩
      have q1 : q ≠ e := fun z => absurd (l3 (e, excObj C t0 none .none) (List.mem_cons_of_mem _ (List.mem_cons_self ..))) (by rw [z]; exact Nat.lt_irrefl _)
      have q2 : h1.objs.size ≠ e := fun z => absurd (l2 (e, excObj C t0 none .none) (List.mem_cons_self ..)) (by show ¬ e < h1.objs.size; rw [z]; exact Nat.lt_irrefl _)
      refine kxs_call (s := ⟨h3, ga, d, t', os⟩) F3 Kg N3 SB.fb T.exi (List.mem_cons_self ..) (UpdF.tail q1 (UpdF.tail q2 (UpdF.head fun _ z => nomatch z))) (by show 1 ≤ sizeLine; rw [sizeLine_eq]; omega) (fun t2 h4 F4 N4 l4 => ?_)
      -- self.f = f
      show _root_.PySem.wpAt _ _ _ (execs [.Assign [.Attribute (.Name "self" p6) f p7] (.Name f p8) p9] _) _ _ _
      have K4 : K.In h4 := Kg.keeps F4.keep
      refine ks_wpAt_execs_cons (ks_wpAt_Assign_Attr (wpAt_of_wpAny (wpAny_Name (wpAny_loadName_local ek ST.sF F4.ns mF ?_) ST.dbg)))
      refine wpAny_Name (wpAny_loadName_local ek ST.sSlf F4.ns mSelf ?_)
      have he4 : h4.get? e = some (excObj C t2 none .none) := (N4 _ (List.mem_cons_of_mem _ (List.mem_cons_of_mem _ (List.mem_cons_of_mem _ (List.mem_cons_self ..))))).1
      refine sup_store (s := ⟨h4, ga, d, t', os⟩) SB T K4 he4 (fun h5 tk5 dx k5 d5 dne e5 n5 => ?_)
      refine wpAt_of_wpAny (wpAny_execs_nil ?_)
      refine hq h5 t2 dx tk5 (fun b o z => k5 b o (fun y => ?_) (F4.keep b o z)) ?_ dne e5 n5
      · rw [y, ge] at z; cases z
      · refine Nat.le_trans ?_ d5
        obtain ⟨_, _, _, hL, _⟩ := F4.ns
        exact Nat.le_trans gsz (Nat.le_of_lt (Heap.lt_size hL))
/-- C(e) -/
def tMkS (C : Addr) (f : Str) (te : TE) : L2.St → Hp → XK → Prop := fun σ H Q => te σ H fun v H1 => ∀ dx, H1 dx = none → Q (.ref C) (some dx) (upd H1 dx (.xd [(f, v)]))
theorem pmk_sup {X : Cx} {x : Str} {k : Nat} {e : Expr} {te : TE} {p pos : Pos} (SB : SupB B newId initId bmB) (ST : SupT st f) (T : SupK X.prog X.K C fI cc cda B newId initId bmB f qual st) (hms : X.mg "super" = none) (hr : Room (k + 1) X.A)
    (hg : Gl X x) (hm : X.mg x = some (.ref C)) (he : PE X e te) (hdb : (x == ("__debug__" : Str)) = false := by decide) (hs : starEach [e] X.env = (false, PySem.eval e X.env) :: starEach [] X.env := by rfl) (hpl : (backTo pos (starEach [] X.env)).any (·.1) = false := by rfl) :
    PMk X (.Call (.Name x p) [e] [] pos) (tMkS C f te) := by
  intro pins s σ H Q I h
  have ha : PA X [e] (tCons te tNil) := pa_cons he pa_nil hs
  refine wpAny_Call_Name_kw (ld_glob I hg hm ?_ hdb)
  refine callWith_K (h₀ := X.base) I.ok.mod.kin T.kC (thn (ha.run pos pins s σ H (fun vs H1 => match vs with
    | [v] => ∀ dx, H1 dx = none → Q (.ref C) (some dx) (upd H1 dx (.xd [(f, v)]))
    | _ => False) I h) fun us s1 hh => ?_) hs hpl
  obtain ⟨vs, H1, I1, r1, hq⟩ := hh
  refine ⟨I1.kIn, ?_⟩
  cases r1 with
  | nil => exact hq.elim
  | @cons v u vr ur ru rr =>
    cases rr with
    | cons _ _ => exact hq.elim
    | nil =>
      obtain ⟨hp, g, dr, tk, os⟩ := s1
      obtain ⟨nm, N', qn, bs, bm, hdct, sn, sub, ab, col, dd, k0, k1, k2, k3, k5, hC, hT⟩ := excInit_of I1.kIn T.exi
      have hn : H1 (hp.objs.size + 1) = none := I1.hok.fresh (Nat.le_succ _)
      have ge : hp.get? (hp.objs.size + 1) = none := by
        cases z : hp.get? (hp.objs.size + 1) with
        | none => rfl
        | some o => exact absurd (Heap.lt_size z) (Nat.not_lt.mpr (Nat.le_succ _))
      show wpAny _ _ (call (.ref C) [u]) _ _ _
      refine wpAny_call (HandSPX.call_own SB.fb hT hC (looks_findIn I1.kIn T.ini) (fun self => bind_fn I1.kIn self T.tI) (by show 1 ≤ sizeLine; rw [sizeLine_eq]; omega)
        (sup_init (g := hp) (t0 := hp.objs.size) SB ST T I1.ok.mod I1.bk hms (hr.make C [u] []).depth (fun b o z => Heap.get?_push_of_some _ (Heap.get?_push_of_some _ z)) (by simp only [HandSPX.excO, Heap.push]; simp; omega) ge (by heap_get) (fun h' t1 dx tk' kp d1 dne e1 n1 => ?_)))
      refine ⟨rfl, ?_⟩
      obtain ⟨G, g1, g2⟩ := restrict h' fun b => decide (b ≠ hp.objs.size + 1)
      have gk : ∀ b, b ≠ hp.objs.size + 1 → G.get? b = h'.get? b := fun b hb => g1 b (decide_eq_true hb)
      have gn : G.get? (hp.objs.size + 1) = none := g2 _ (by simp)
      have J : Inv X pins σ (upd H1 dx (.xd [(f, v)])) ⟨G, g, dr, tk', os⟩ := I1.laid (t' := tk') (h' := G) (fun b o z => by
          rw [gk b fun y => by rw [y, ge] at z; cases z]
          exact kp b o z) d1 ⟨_, n1.at fun o y => (gk dx dne).trans y, relO_put (fs := []) ru fun _ => True.intro⟩
      refine ⟨hp.objs.size + 1, _, _, ⟨G, g, dr, tk', os⟩, _, .ref C, some dx, rfl, J, fun b o z => ?_, gn, e1, ⟨rfl, rfl⟩, rfl, rfl, ?_, rfl, I1.bare, raises_own T.exC T.tyC, hq dx (I1.hok.fresh d1)⟩
      · have hb : b ≠ hp.objs.size + 1 := fun y => by
          have z : G.get? b = some o := z
          rw [y, gn] at z; cases z
        exact (gk b hb).symm.trans z
      · rw [upd_ne (Ne.symm dne)]; exact hn
end
end Ev

end
section
set_option linter.all false
set_option maxRecDepth 100000
set_option maxHeartbeats 4000000
namespace Ev
open PySem PySem.Spec PyProof.Rows L2
/-! exceptions: raise, try, what leaves a def -/
/-- a clause: the classes that it was asked for, the slot of its name, what it hands back -/
structure Hd where
  tb : List (Nat × Bool)
  sl : Option Nat
  h : List G → Option G
def hdl : List Hd → Nat → List G → Env → RS
  | [], c, p, e => .exn c p e
  | k :: r, c, p, e => match k.tb.lookup c with
    | some true => if (match k.sl with | some i => decide (i < e.length) | none => true) then (match k.h p with | some g => .rt (.g g) e | none => .bad) else .bad
    | some false => hdl r c p e
    | none => .bad
def tryR (hs : List Hd) : RS → RS
  | .exn c p e => hdl hs c p e
  | r => r
def sTry (b : SV) (hs : List Hd) : SV := fun F e => tryR hs (b F e)
def hK (g : G) : List G → Option G := fun _ => some g
def hF : List G → Option G := fun p => match p with | [g] => some g | _ => none
def hT (hs : List (List G → Option G)) : List G → Option G := fun p => match hs.mapM fun h => h p with | some gs => some (.tup gs) | none => none

def Kp (M : Mu) (H : Hp) (M' : Mu) (H' : Hp) : Prop := ∀ a o, H a = some o → H' a = some o ∧ (M' a ↔ M a)
theorem Kp.refl {M : Mu} {H : Hp} : Kp M H M H := fun _ _ e => ⟨e, Iff.rfl⟩
theorem Kp.trans {M M1 M2 : Mu} {H H1 H2 : Hp} (x : Kp M H M1 H1) (y : Kp M1 H1 M2 H2) : Kp M H M2 H2 := fun a o e => by
  obtain ⟨e1, m1⟩ := x a o e
  obtain ⟨e2, m2⟩ := y a o e1
  exact ⟨e2, m2.trans m1⟩
theorem RX.kp {L : Lk} {M M' : Mu} {H H' : Hp} {c : Nat} {p : List G} {cls : Value} {d : Option Addr} (h : RX L M H c p cls d) (k : Kp M H M' H') : RX L M' H' c p cls d := by
  refine ⟨h.1, fun g hg => ?_⟩
  obtain ⟨a, v, e1, m, e2, r⟩ := h.2 g hg
  obtain ⟨e3, m2⟩ := k a _ e2
  exact ⟨a, v, e1, fun z => m (m2.mp z), e3, RG.to (ext_kp k) _ _ r⟩
/-- what a clause's suite hands back: from what the exception keeps -/
def tSu (L : Lk) (ok : Nat → Prop) (i : Option Nat) (h : List G → Option G) (a : Addr) (cls : Value) (d : Option Addr) : TE := fun σ H Q =>
  ∃ M c p g, ok c ∧ RX L M H c p cls d ∧ h p = some g ∧ (∀ j, i = some j → σ[j]? = some (some (.ref a))) ∧ ∀ v H' M', Kp M H M' H' → RG L M' H' g v → Q v H'
def tSuA (L : Lk) (ok : Nat → Prop) (i : Option Nat) (hs : List (List G → Option G)) (a : Addr) (cls : Value) (d : Option Addr) : TA := fun σ H Q =>
  ∃ M c p gs, ok c ∧ RX L M H c p cls d ∧ hs.mapM (fun h => h p) = some gs ∧ (∀ j, i = some j → σ[j]? = some (some (.ref a))) ∧ ∀ vs H' M', Kp M H M' H' → RGs L M' H' gs vs → Q vs H'
def SuE (L : Lk) (X : Cx) (ok : Nat → Prop) (i : Option Nat) (h : List G → Option G) (E : Expr) : Prop :=
  ∀ (a : Addr) (oe : Obj) (cls : Value) (d : Option Addr) (pn : List (Addr × Obj)), Zc cls d oe → (∃ vs, oe.data = .fields vs) → PE (X.suite a ((a, oe) :: pn)) E (tSu L ok i h a cls d)
def SuA (L : Lk) (X : Cx) (ok : Nat → Prop) (i : Option Nat) (hs : List (List G → Option G)) (es : List Expr) : Prop :=
  ∀ (a : Addr) (oe : Obj) (cls : Value) (d : Option Addr) (pn : List (Addr × Obj)), Zc cls d oe → (∃ vs, oe.data = .fields vs) → PA (X.suite a ((a, oe) :: pn)) es (tSuA L ok i hs a cls d)
section
variable {L : Lk} {X : Cx} {W : WX} {F F' : FF} {ok : Nat → Prop} {i : Option Nat} {h : List G → Option G} {hs : List (List G → Option G)} {E : Expr} {es : List Expr} {pos : Pos}
theorem su_str {x : Str} {j : Nat} : SuE L X ok i (hK (.str x)) (.Constant (.str x) j pos) := fun a oe cls d pn hz hf => PE.imp pe_str fun σ H Q q => by
  obtain ⟨M, c, p, g, _, _, e, _, k⟩ := q
  cases e
  exact k _ H M .refl rg_str
theorem su_bl {b : Bool} {j : Nat} (hc : ∀ X : Cx, PE X (.Constant (.bool b) j pos) (tC (.bl b))) : SuE L X ok i (hK (.bl b)) (.Constant (.bool b) j pos) := fun a oe cls d pn hz hf => PE.imp (hc _) fun σ H Q q => by
  obtain ⟨M, c, p, g, _, _, e, _, k⟩ := q
  cases e
  exact k _ H M .refl rg_bl
/-- n.f -/
theorem su_f {n f : Str} {k : Nat} {np : Pos} (hN : X.N[k]? = some n) (hl : X.env.kindOf n = some .local) (hc : ∀ c, ok c → XfC X.K (L.ce c) ∧ PySem.W.findIn X.K (.ref (L.ce c)) f = some none ∧ L.ef c = f) (hd : (n == ("__debug__" : Str)) = false := by decide) (hcd : (n == ("__classdict__" : Str)) = false := by decide) :
    SuE L X ok (some k) hF (.Attribute (.Name n np) f pos) := fun a oe cls d pn hz hf => by
  refine ⟨fun pins s σ H Q I q => ?_⟩
  obtain ⟨M, c, p, g, hok, rx, e, sl, kk⟩ := q
  obtain ⟨t1, t2, t3⟩ := hc c hok
  have hv : PE (X.suite a ((a, oe) :: pn)) (.Name n np) (tVar k) := pe_var hN (Or.inl hl) hd hcd
  refine (pe_xf (C := L.ce c) t1 t2 hz hf hv).run pins s σ H Q I ?_
  unfold hF at e
  split at e
  · cases e
    obtain ⟨dd, v, e1, _, e2, r⟩ := rx.2 g rfl
    refine ⟨.ref a, sl k rfl, rfl, rx.1, dd, _, v, e1, e2, ?_, kk v H M .refl r⟩
    rw [t3]; simp [List.lookup]
  · cases e
theorem su_nil : SuA L X ok i [] [] := fun a oe cls d pn hz hf => PA.imp pa_nil fun σ H Q q => by
  obtain ⟨M, c, p, gs, _, _, e, _, k⟩ := q
  have : gs = [] := by simpa using e.symm
  subst this
  exact k [] H M .refl .nil
theorem su_cons (h1 : SuE L X ok i h E) (h2 : SuA L X ok i hs es) (hst : ∀ X : Cx, starEach (E :: es) X.env = (false, PySem.eval E X.env) :: starEach es X.env) : SuA L X ok i (h :: hs) (E :: es) := fun a oe cls d pn hz hf =>
  PA.imp (pa_cons (h1 a oe cls d pn hz hf) (h2 a oe cls d pn hz hf) (hst _)) fun σ H Q q => by
  obtain ⟨M, c, p, gs, hok, rx, e, sl, k⟩ := q
  have e : (do let r ← h p; let rs ← hs.mapM fun h => h p; pure (r :: rs) : Option (List G)) = some gs := by rw [← e, List.mapM_cons]
  cases e1 : h p with
  | none => rw [e1] at e; cases e
  | some g =>
    cases e2 : hs.mapM fun h => h p with
    | none => rw [e1, e2] at e; cases e
    | some r =>
      rw [e1, e2] at e
      cases e
      refine ⟨M, c, p, g, hok, rx, e1, sl, fun v H1 M1 k1 r1 => ⟨M1, c, p, r, hok, rx.kp k1, e2, sl, fun vs H2 M2 k2 r2 => ?_⟩⟩
      exact k _ H2 M2 (k1.trans k2) (.cons (RG.to (ext_kp k2) _ _ r1) r2)
theorem su_tup {x1} (h2 : SuA L X ok i hs es) (hl : hs.length ≤ 100) : SuE L X ok i (hT hs) (.Tuple es x1 pos) := fun a oe cls d pn hz hf => PE.imp (pe_tup (h2 a oe cls d pn hz hf)) fun σ H Q q => by
  obtain ⟨M, c, p, g, hok, rx, e, sl, k⟩ := q
  unfold hT at e
  cases e2 : hs.mapM fun h => h p with
  | none => rw [e2] at e; cases e
  | some gs =>
    rw [e2] at e
    cases e
    have hgs : gs.length = hs.length := by
      have : ∀ (hs : List (List G → Option G)) (gs : List G), hs.mapM (fun h => h p) = some gs → gs.length = hs.length := by
        intro hs
        induction hs with
        | nil => intro gs e; have : gs = [] := by simpa using e.symm
                 subst this; rfl
        | cons h hs ih =>
          intro gs e
          have e : (do let r ← h p; let rs ← hs.mapM fun h => h p; pure (r :: rs) : Option (List G)) = some gs := by rw [← e, List.mapM_cons]
          cases e1 : h p with
          | none => rw [e1] at e; cases e
          | some g =>
            cases e2 : hs.mapM fun h => h p with
            | none => rw [e1, e2] at e; cases e
            | some r => rw [e1, e2] at e; cases e; simp [ih r e2]
      exact this hs gs e2
    refine ⟨M, c, p, gs, hok, rx, e2, sl, fun vs H1 M1 k1 r1 => ⟨?_, fun q hq => ?_⟩⟩
    · have := r1.len; rw [← this, hgs, sizeLine_eq]; omega
    · have n : New L M1 H1 (fun b => M1 b ∧ b ≠ q) (upd H1 q (.tup vs)) (.g (.tup gs)) (.ref q) := by
        have kp : Kp M1 H1 (fun b => M1 b ∧ b ≠ q) (upd H1 q (.tup vs)) := fun b o e => by
          have hb : b ≠ q := fun z => by rw [z, hq] at e; cases e
          exact ⟨by rw [upd_ne hb]; exact e, ⟨fun z => z.1, fun z => ⟨z, hb⟩⟩⟩
        refine ⟨kp, ?_⟩
        show RG L _ _ (.tup gs) (.ref q)
        unfold RG
        exact ⟨q, vs, rfl, .inl ⟨fun z => z.2 rfl, .inl upd_same⟩, RGs.to (ext_kp kp) _ _ r1⟩
      exact k _ _ _ (k1.trans n.kp) n.rd
/-- the clauses of the text, those of the evaluator -/
inductive Cla (L : Lk) (X : Cx) : List ExceptHandler → List Hd → Prop
  | nil : Cla L X [] []
  | bare {x : Str} {c : Value} {k : Hd} {E : Expr} {p0 p1 p2 : Pos} {r : List ExceptHandler} {ks : List Hd} (hsl : k.sl = none) (hc : Names X x c) (hx : ∀ q ∈ k.tb, PySem.W.exmOne X.K (.ref (L.ce q.1)) c = some q.2) (hE : SuE L X (fun c => k.tb.lookup c = some true) none k.h E) (t : Cla L X r ks) :
      Cla L X (.ExceptHandler (some (.Name x p1)) none [.Return (some E) p0] p2 :: r) (k :: ks)
  | as_ {x n : Str} {i : Nat} {c : Value} {k : Hd} {E : Expr} {p0 p1 p2 : Pos} {r : List ExceptHandler} {ks : List Hd} (hsl : k.sl = some i) (hi : X.N[i]? = some n) (hl : X.env.kindOf n = some .local) (hc : Names X x c) (hx : ∀ q ∈ k.tb, PySem.W.exmOne X.K (.ref (L.ce q.1)) c = some q.2)
      (hE : SuE L X (fun c => k.tb.lookup c = some true) (some i) k.h E) (t : Cla L X r ks) :
      Cla L X (.ExceptHandler (some (.Name x p1)) (some n) [.Return (some E) p0] p2 :: r) (k :: ks)
theorem mem_lookup {tb : List (Nat × Bool)} {c : Nat} {b : Bool} (h : tb.lookup c = some b) : (c, b) ∈ tb := by
  induction tb with
  | nil => cases h
  | cons q tb ih =>
    obtain ⟨j, b'⟩ := q
    rw [List.lookup_cons] at h
    by_cases e : c == j
    · rw [e] at h
      have e : c = j := by simpa using e
      cases h
      rw [e]; exact List.mem_cons_self ..
    · have : (c == j) = false := by simpa using e
      rw [this] at h
      exact List.mem_cons_of_mem _ (ih h)
theorem Cla.said {hds : List ExceptHandler} {ks : List Hd} (cl : Cla L X hds ks) : ∃ l, Clauses X hds l ∧ ∀ {W : WX} {D : Ends} {M0 M : Mu} {H0 H : Hp} {env e : Env} {σ0 σ : L2.St} {c : Nat} {p : List G} {cls : Value} {d : Option Addr},
    Aft L M0 H0 env σ0 M H e σ → RX L M H c p cls d → PostS L W σ0 M0 H0 env D (hdl ks c p e) → wMany X.K W D l cls d σ H := by
  induction cl with
  | nil => exact ⟨[], .nil, fun A rx P => P _ _ _ _ _ A rx⟩
  | @bare x cv k E p0 p1 p2 r ks hsl hc hx hE t ih =>
    obtain ⟨l, h1, h2⟩ := ih
    refine ⟨(cv, fun a cls d D σ H => tSu L (fun c => k.tb.lookup c = some true) none k.h a cls d σ H D.rt) :: l, .bare hc (fun a oe cls d pn hz hf => pss_one (ps_ret (hE a oe cls d pn hz hf))) h1, fun {W D M0 M H0 H env e σ0 σ c p cls d} A rx P => ?_⟩
    unfold hdl at P
    cases el : k.tb.lookup c with
    | none => rw [el] at P; exact P.elim
    | some b =>
      rw [el] at P
      refine ⟨b, by rw [rx.1]; exact hx _ (mem_lookup el), fun hb a na => ?_, fun hb => ?_⟩
      · subst hb
        simp only [hsl, if_true] at P
        cases eh : k.h p with
        | none => rw [eh] at P; exact P.elim
        | some g =>
          rw [eh] at P
          refine ⟨M, c, p, g, el, rx, eh, (fun j hj => nomatch hj), fun v H' M' kp rg => P v σ H' M' (A.trans (AftE.kp A.re kp).aft) rg⟩
      · subst hb; exact h2 A rx P
  | @as_ x n i cv k E p0 p1 p2 r ks hsl hi hl hc hx hE t ih =>
    obtain ⟨l, h1, h2⟩ := ih
    refine ⟨(cv, asTs i fun a cls d D σ H => tSu L (fun c => k.tb.lookup c = some true) (some i) k.h a cls d σ H D.rt) :: l, .as_ hi hl hc (fun a oe cls d pn hz hf => pss_one (ps_ret (hE a oe cls d pn hz hf))) h1, fun {W D M0 M H0 H env e σ0 σ c p cls d} A rx P => ?_⟩
    unfold hdl at P
    cases el : k.tb.lookup c with
    | none => rw [el] at P; exact P.elim
    | some b =>
      rw [el] at P
      refine ⟨b, by rw [rx.1]; exact hx _ (mem_lookup el), fun hb a na => ?_, fun hb => ?_⟩
      · subst hb
        simp only [hsl] at P
        by_cases hlt : i < e.length
        · rw [if_pos (decide_eq_true hlt)] at P
          cases eh : k.h p with
          | none => rw [eh] at P; exact P.elim
          | some g =>
            rw [eh] at P
            refine ⟨M, c, p, g, el, rx, eh, fun j hj => ?_, fun v H' M' kp rg => P v σ H' M' (A.trans (AftE.kp A.re kp).aft) rg⟩
            cases hj
            exact List.getElem?_set_self (by rw [← A.re.len]; exact hlt)
        · rw [if_neg (by simp [hlt])] at P
          exact P.elim
      · subst hb; exact h2 A rx P
theorem s_try {body : List Stmt} {h0 : ExceptHandler} {hds : List ExceptHandler} {ks : List Hd} {b : SV} (hs : X.stack = X.env :: X.outer) (hf : X.env.frame = some X.env.locals) (hN : X.N.Nodup) (tk : Takes X W) (cl : Cla L X (h0 :: hds) ks)
    (hb : ∀ (W : WX) (pn : List (Addr × Obj)) (xe : Value → Shared → Prop), Takes (X.tr pn xe) W → PassesOwn (model X.prog X.w) X.A X.env xe → PSs (X.tr pn xe) body (TSof L W (b F))) :
    PS X (.Try body (h0 :: hds) [] [] pos) (TSof L W (sTry b ks F)) := by
  obtain ⟨l, h1, h2⟩ := cl.said
  refine PS.imp (ps_tryC hs hf hN tk hb h1) fun D σ H q => ?_
  obtain ⟨M, env, re, P⟩ := q
  refine ⟨M, env, re, ?_⟩
  unfold sTry at P
  cases e : b F env with
  | exn c p e1 =>
    rw [e] at P
    exact fun cls dd σ' H' M' A rx => h2 A rx P
  | _ => rw [e] at P; exact P
/-- raise X('..') -/
theorem s_raise {c : Nat} (hc : X.calm = true) (tk : Takes X W) (pm : PMk X E fun _ H Q => Q (.ref (L.ce c)) none H) : PS X (.Raise (some E) none pos) (TSof L W (sRse c aNil F)) := PS.imp (ps_raise hc tk pm) fun D σ H q => by
  obtain ⟨M, env, re, P⟩ := q
  exact P _ none σ H M (.refl re) ⟨rfl, fun g hg => nomatch hg⟩
/-- raise X(e), kept -/
theorem s_raise1 {c : Nat} {ea : EV} (hc : X.calm = true) (tk : Takes X W) (pm : PMk X E (tMkS (L.ce c) (L.ef c) (TEof L W (ea F)))) : PS X (.Raise (some E) none pos) (TSof L W (sRse c (aCons ea aNil) F)) := PS.imp (ps_raise hc tk pm) fun D σ H q => by
  obtain ⟨M, env, re, P⟩ := q
  have P : PostS L W σ M H env D ((ea F env).st fun d e => match frzs [d] e with | some (gs, e) => RS.exn c gs e | none => RS.bad) := by
    unfold sRse aCons aNil at P
    cases e : ea F env with
    | ok d e1 => rw [e] at P; exact P
    | exn _ _ _ => rw [e] at P; exact P
    | bad => rw [e] at P; exact P
  refine stE re P fun d e v H1 M1 A1 D1 P1 dx hdx => ?_
  split at P1
  · rename_i gs e2 ef
    have D1' : RDs L M1 H1 e σ H [d] [v] := ⟨v, [], rfl, D1, rfl, fun x _ y hy => by simp at hy⟩
    obtain ⟨M2, A2, rg, _⟩ := frzs_ok A1 D1' ef
    have kp : Kp M2 H1 (fun b => M2 b ∧ b ≠ dx) (upd H1 dx (.xd [(L.ef c, v)])) := fun b o e => by
      have hb : b ≠ dx := fun z => by rw [z, hdx] at e; cases e
      exact ⟨by rw [upd_ne hb]; exact e, ⟨fun z => z.1, fun z => ⟨z, hb⟩⟩⟩
    refine P1 _ _ σ _ _ (A2.trans (.kp A2.re kp)).aft ⟨rfl, fun g hg => ?_⟩
    subst hg
    obtain ⟨v', r', e3, rg1, _⟩ := (show ∃ v' r, [v] = v' :: r ∧ RG L M2 H1 g v' ∧ RGs L M2 H1 [] r by unfold RGs at rg; exact rg)
    cases e3
    exact ⟨dx, v, rfl, fun z => z.2 rfl, upd_same, RG.to (ext_kp kp) _ _ rg1⟩
  · exact P1.elim
end
section
variable {L : Lk} {F F' : FF} {P : Program} {w : World} {K : PySem.W.Frag} {mg : Str → Option Value} {base : Heap} {x qual : Str} {st : Stmt} {dvs : List V} {f : Addr} {fdd : FuncData} {N ps : List Str} {k : Nat} {fd : FD}
/-- nothing leaves here -/
theorem passF {X : Cx} : ∀ σ, PassesAt (L2.CX P w) X σ (WE Wf σ) := fun _ _ _ _ _ _ _ h => by
  obtain ⟨_, _, _, _, _, _, _, _, _, _, _, _, hE⟩ := h
  exact hE.elim
theorem noXX : ∀ {st : List PySem.Env} (H : Hp) (s : Shared) (e : Value) (s' : Shared), L2.CX P w st H s E0' e s' → False := fun _ _ _ _ h => by
  obtain ⟨_, _, _, _, _, _, _, _, _, _, _, _, hE⟩ := h
  exact hE.elim
/-- a def by its body; exceptions may leave it -/
theorem ev_okX (FDD : FunD K x qual (defArgs st) (defBody st) (defScope st) dvs [] f fdd) (S : FnScope N ps (defScope st)) (hps : ps.length = fd.np) (hN : N.length = fd.ns)
    (hb : ∀ (cdv : Value) (A : Around) (outer : List PySem.Env) (s : Shared) (H : Hp) (E : XK), Room k (A.deeper (envOfC qual (defScope st) s.heap.objs.size f cdv)) → Takes (cxOf (L2.CX P w) P w K mg base N qual (defScope st) f cdv A outer s H E) (WE' E) →
      PSs (cxOf (L2.CX P w) P w K mg base N qual (defScope st) f cdv A outer s H E) (defBody st) (TSof L (WE' E) (fd.body F'))) :
    FnOk P w K mg base (L2.CX P w) (k + 1) f fdd ps (spF L fd F') := by
  refine FDD.ok S (fun vs H Q E h => ?_) (fun cdv A outer s H vs Q E hr h => ⟨_, hb cdv A outer s H E hr (takes_of rfl rfl rfl rfl), ?_⟩)
  · obtain ⟨M, ss, _, hv, _⟩ := h
    rw [hv, hps]
  · obtain ⟨M, ss, hs, hv, re, q⟩ := h
    rw [start_sig hN hv]
    refine ⟨M, _, re, ?_⟩
    cases e : fd.body F' (env0 fd ss) with
    | ini c fs e1 => rw [e] at q; exact absurd q.1 (by simp [isMade])
    | nx e1 => rw [e] at q; exact fun σ' H' M' A => q.2 .non H' M' σ' A (show RG L M' H' .non .non from rg_non)
    | bk e1 => rw [e] at q; exact q.elim
    | ct e1 => rw [e] at q; exact q.elim
    | rt d e1 => rw [e] at q; exact fun v σ' H' M' A r => q.2 v H' M' σ' A r
    | exn c p e1 => rw [e] at q; exact fun cls dd σ' H' M' A r => q cls dd H' M' σ' A r
    | bad => rw [e] at q; exact q.elim
theorem evi_okX (FDD : FunD K x qual (defArgs st) (defBody st) (defScope st) dvs [] f fdd) (S : FnScope N ps (defScope st)) (hps : ps.length = fd.np) (hN : N.length = fd.ns)
    (hb : ∀ (cdv : Value) (A : Around) (outer : List PySem.Env) (s : Shared) (H : Hp) (E : XK), Room k (A.deeper (envOfC qual (defScope st) s.heap.objs.size f cdv)) → Takes (cxOf (L2.CX P w) P w K mg base N qual (defScope st) f cdv A outer s H E) (WE' E) →
      PSs (cxOf (L2.CX P w) P w K mg base N qual (defScope st) f cdv A outer s H E) (defBody st) (TSof L (WE' E) (fd.body F'))) :
    FnOk P w K mg base (L2.CX P w) (k + 1) f fdd ps (spI L fd F') := by
  refine FDD.ok S (fun vs H Q E h => ?_) (fun cdv A outer s H vs Q E hr h => ⟨_, hb cdv A outer s H E hr (takes_of rfl rfl rfl rfl), ?_⟩)
  · obtain ⟨M, ss, c, a, r, hv, _⟩ := h
    rw [hv, hps]
  · obtain ⟨M, ss, c, a, r, hv, hs, hvs, re, q⟩ := h
    rw [start_sig hN hv]
    refine ⟨M, _, re, ?_⟩
    cases e : fd.body F' (env0 fd (.slf c :: ss)) with
    | ini c fs e1 =>
      rw [e] at q
      refine ⟨rfl, fun a' σ' H' M' A h0 rg => ?_⟩
      subst hvs
      have : a' = a := by
        have h0 : sv (sig0 fd (V.ref a :: r)) 0 = some (V.ref a') := h0
        cases h0; rfl
      subst this
      exact q H' M' σ' A rg
    | nx e1 => rw [e] at q; exact q.elim
    | bk e1 => rw [e] at q; exact q.elim
    | ct e1 => rw [e] at q; exact q.elim
    | rt d e1 =>
      rw [e] at q
      cases d with
      | g x => exact q.elim
      | sl i => exact q.elim
      | own x =>
        cases x <;> first | exact q.elim | skip
        intro v σ' H' M' A rd
        obtain ⟨b, _, _, _, _, k, _⟩ := rd
        unfold RC at k
        exact k.elim
    | exn c p e1 => rw [e] at q; exact fun cls dd σ' H' M' A r => q cls dd H' M' σ' A r
    | bad => rw [e] at q; exact q.elim
/-- the law's def: nothing leaves it -/
def spL (L : Lk) (fd : FD) (F : FF) : Sp := fun vs H Q _ => spF L fd F vs H Q fun _ _ _ => False
theorem ev_okL (FDD : FunD K x qual (defArgs st) (defBody st) (defScope st) dvs [] f fdd) (S : FnScope N ps (defScope st)) (hps : ps.length = fd.np) (hN : N.length = fd.ns)
    (hb : ∀ (cdv : Value) (A : Around) (outer : List PySem.Env) (s : Shared) (H : Hp) (E : XK), Room k (A.deeper (envOfC qual (defScope st) s.heap.objs.size f cdv)) →
      PSs (cxOf CX0 P w K mg base N qual (defScope st) f cdv A outer s H E).nox (defBody st) (TSof L Wf (fd.body F'))) :
    FnOk P w K mg base CX0 (k + 1) f fdd ps (spL L fd F') := by
  refine FDD.ok S (fun vs H Q E h => ?_) (fun cdv A outer s H vs Q E hr h => ⟨_, PSs.nox (hb cdv A outer s H E hr), ?_⟩)
  · obtain ⟨M, ss, _, hv, _⟩ := h
    rw [hv, hps]
  · obtain ⟨M, ss, hs, hv, re, q⟩ := h
    rw [start_sig hN hv]
    refine ⟨M, _, re, ?_⟩
    cases e : fd.body F' (env0 fd ss) with
    | ini c fs e1 => rw [e] at q; exact absurd q.1 (by simp [isMade])
    | nx e1 => rw [e] at q; exact fun σ' H' M' A => q.2 .non H' M' σ' A (show RG L M' H' .non .non from rg_non)
    | bk e1 => rw [e] at q; exact q.elim
    | ct e1 => rw [e] at q; exact q.elim
    | rt d e1 => rw [e] at q; exact fun v σ' H' M' A r => q.2 v H' M' σ' A r
    | exn c p e1 => rw [e] at q; exact fun cls dd σ' H' M' A r => q cls dd H' M' σ' A r
    | bad => rw [e] at q; exact q.elim
theorem fn_badX {CX : CXT} {n m : Nat} : FnOk P w K mg base CX k f fdd ps (spF L ⟨n, m, sBad⟩ F') :=
  ⟨fun vs H Q E h => by obtain ⟨M, ss, _, _, _, q⟩ := h; exact q.elim, fun A outer s H args us vs Q E hr e0 hb r h => by obtain ⟨M, ss, _, _, _, q⟩ := h; exact q.elim⟩
theorem fni_badX {CX : CXT} {n m : Nat} : FnOk P w K mg base CX k f fdd ps (spI L ⟨n, m, sBad⟩ F') :=
  ⟨fun vs H Q E h => by obtain ⟨M, ss, c, a, r, _, _, _, _, q⟩ := h; exact q.elim, fun A outer s H args us vs Q E hr e0 hb r h => by obtain ⟨M, ss, c, a, r, _, _, _, _, q⟩ := h; exact q.elim⟩
end
end Ev

end
section
set_option linter.all false
set_option maxRecDepth 100000
set_option maxHeartbeats 4000000
namespace Ev
open PySem PySem.Spec PyProof.Rows L2
/-! i << j; for k, v in d.items() -/
def shlOk (i j : Int) : Bool := decide (0 ≤ j) && decide (j ≤ 1000) && decide (i.natAbs < big)
def eShl (a b : EV) : EV := fun F e => (a F e).bind fun x e => (b F e).bind fun y e => match view x e, view y e with
  | some (.int i), some (.int j) => if shlOk i j then res (some (.g (.int (i * 2 ^ j.toNat)))) e else .bad
  | _, _ => .bad
def iIt (a : EV) : IV := fun F e => (a F e).bind fun d e => match d with
  | .own (.dct ks vs) => .ok (zipG ks vs, none) e
  | _ => .bad
section
variable {L : Lk} {X : Cx} {W : WX} {F : FF} {M M0 M1 M2 M' : Mu} {H H0 H1 H2 H' : Hp} {env envA env1 env2 e e1 : Env} {σ σ0 σ1 σ' : L2.St} {D : Ends}
variable {a b c tg : Expr} {ea eb ec : EV} {pos p px : Pos}
theorem c_shl (ha : PE X a (TEof L W (ea F))) (hb : PE X b (TEof L W (eb F))) : PE X (.BinOp a .LShift b pos) (TEof L W (eShl ea eb F)) := by
  refine PE.imp (pe_op op_shlN ha hb) fun σ H Q h => ?_
  obtain ⟨M, env, re, P⟩ := h
  refine goE (.refl re) P fun d1 e1 v1 H1 M1 A1 A1' D1 P1 => goE A1 P1 fun d2 e2 v2 H2 M2 A2 A2' D2 P2 => ?_
  split at P2
  · rename_i i j ex ey
    split at P2
    · rename_i hk
      unfold shlOk at hk
      simp only [Bool.and_eq_true, decide_eq_true_eq] at hk
      obtain ⟨⟨h0, h1⟩, h2⟩ := hk
      have hj : ((j.toNat : Nat) : Int) = j := by omega
      have hb : Builtin.Int.intBits i ≤ 4097 := by
        have := big_log h2
        unfold Builtin.Int.intBits
        split <;> omega
      refine ⟨i, j.toNat, (A2.re.view (D1.to A2'.aft A1.re A2'.ob) ex).int, by rw [hj]; exact (A2.re.view D2 ey).int, ⟨by omega, by omega⟩, ?_⟩
      rw [res_eq] at P2
      exact fin_ok A2 P2 (.same rg_int)
    · exact P2.elim
  · exact P2.elim
/-! a dict that is walked is locked -/
theorem _root_.Ev.Rd.lockd {q : Addr} {o : Obj} {kvs : List (Key × V)} (hq : H q = some (.dK kvs)) {b : Addr} {u : HO} (h : Rd H b u) : Rd (L2.upd H q (.frz o (.dK kvs))) b u := by
  by_cases z : b = q
  · subst z
    rcases h with h | ⟨o', h⟩
    · rw [hq] at h; cases h
      exact .inr ⟨o, upd_same⟩
    · rw [hq] at h; cases h
  · rcases h with h | ⟨o', h⟩
    · exact .inl (by rw [upd_ne z]; exact h)
    · exact .inr ⟨o', by rw [upd_ne z]; exact h⟩
theorem upd_keep {q b : Addr} {u v : HO} {kvs : List (Key × V)} (hq : H q = some (.dK kvs)) (h : H b = some u) (n : u ≠ .dK kvs) : (L2.upd H q v) b = some u := by
  have z : b ≠ q := fun z => by rw [z, hq] at h; cases h; exact n rfl
  rw [upd_ne z]; exact h
mutual
theorem RG.lockd {q : Addr} {o : Obj} {kvs : List (Key × V)} (hq : H q = some (.dK kvs)) : ∀ (g : G) (v : V), RG L M H g v → RG L M (L2.upd H q (.frz o (.dK kvs))) g v
  | .non, v, h => by unfold RG at h ⊢; exact h
  | .bl b, v, h => by unfold RG at h ⊢; exact h
  | .int i, v, h => by unfold RG at h ⊢; exact h
  | .str s, v, h => by unfold RG at h ⊢; exact h
  | .tup xs, v, h => by
    unfold RG at h ⊢
    obtain ⟨a, vs, e, h1, h2⟩ := h
    refine ⟨a, vs, e, ?_, RGs.lockd hq xs vs h2⟩
    rcases h1 with ⟨m, r⟩ | k
    · exact .inl ⟨m, Ev.Rd.lockd hq r⟩
    · exact .inr k
  | .scr xs, v, h => by
    unfold RG at h ⊢
    obtain ⟨a, vs, e, h1, h2⟩ := h
    refine ⟨a, vs, e, ?_, RGs.lockd hq xs vs h2⟩
    rcases h1 with ⟨m, r⟩ | k
    · exact .inl ⟨m, Ev.Rd.lockd hq r⟩
    · exact .inr k
  | .lst xs, v, h => by
    unfold RG at h ⊢
    obtain ⟨a, vs, e, m, r, h2⟩ := h
    exact ⟨a, vs, e, m, Ev.Rd.lockd hq r, RGs.lockd hq xs vs h2⟩
  | .dct ks xs, v, h => by
    unfold RG at h ⊢
    obtain ⟨a, kvs2, e, m, r, hk, h2⟩ := h
    exact ⟨a, kvs2, e, m, Ev.Rd.lockd hq r, hk, RGs.lockd hq xs _ h2⟩
  | .ins c fs, v, h => by
    unfold RG at h ⊢
    obtain ⟨a, dx, ws, e, m1, m2, h1, h2, h3, h4⟩ := h
    exact ⟨a, dx, ws, e, m1, m2, upd_keep hq h1 (by unfold SlX.SlO; exact nofun), upd_keep hq h2 (by exact nofun), RGs.lockd hq fs ws h3, h4⟩
  | .cls _, _, h => by unfold RG at h; exact h.elim
  | .fn _, _, h => by unfold RG at h; exact h.elim
theorem RGs.lockd {q : Addr} {o : Obj} {kvs : List (Key × V)} (hq : H q = some (.dK kvs)) : ∀ (gs : List G) (vs : List V), RGs L M H gs vs → RGs L M (L2.upd H q (.frz o (.dK kvs))) gs vs
  | [], vs, h => by unfold RGs at h ⊢; exact h
  | g :: gs, vs, h => by
    unfold RGs at h ⊢
    obtain ⟨v, r, e, h1, h2⟩ := h
    exact ⟨v, r, e, RG.lockd hq g v h1, RGs.lockd hq gs r h2⟩
end
theorem RC.lockd {q : Addr} {o : Obj} {kvs : List (Key × V)} (hq : H q = some (.dK kvs)) {g : G} {a : Addr} (ne : a ≠ q) (h : RC L M H g a) : RC L M (L2.upd H q (.frz o (.dK kvs))) g a := by
  cases g <;> first
    | (unfold RC at h; exact h.elim)
    | skip
  · unfold RC at h ⊢
    obtain ⟨vs, e, r⟩ := h
    exact ⟨vs, by rw [upd_ne ne]; exact e, RGs.lockd hq _ _ r⟩
  · unfold RC at h ⊢
    obtain ⟨k2, e, hk, r⟩ := h
    exact ⟨k2, by rw [upd_ne ne]; exact e, hk, RGs.lockd hq _ _ r⟩
theorem RE.lockd {q : Addr} {o : Obj} {kvs : List (Key × V)} (hq : H q = some (.dK kvs)) (hm : ¬ M q) (r : RE L M H env σ) : RE L M (L2.upd H q (.frz o (.dK kvs))) env σ := by
  refine ⟨r.len, fun i => ?_, r.inj⟩
  have k := r.at_ i
  have ne : ∀ {a}, M a → a ≠ q := fun m z => hm (z ▸ m)
  cases e : getS env i <;> rw [e] at k
  · exact k
  · obtain ⟨v, e1, k⟩ := k; exact ⟨v, e1, RG.lockd hq _ _ k⟩
  · obtain ⟨v, e1, m, k⟩ := k; exact ⟨v, e1, m, k.lockd hq (ne m)⟩
  · obtain ⟨v, e1, m, k⟩ := k; exact ⟨v, e1, m, k.lockd hq (ne m)⟩
  · obtain ⟨v, e1, k⟩ := k; exact ⟨v, e1, RG.lockd hq _ _ k⟩
  · obtain ⟨v, e1, m, k⟩ := k; exact ⟨v, e1, m, k.lockd hq (ne m)⟩
  · obtain ⟨a, dx, e1, m1, m2, h1, h2, h3⟩ := k
    exact ⟨a, dx, e1, m1, m2, by rw [upd_ne (ne m1)]; exact h1, by rw [upd_ne (ne m2)]; exact h2, h3⟩
theorem AftE.lockd {q : Addr} {o : Obj} {kvs : List (Key × V)} (hq : H1 q = some (.dK kvs)) (hm : ¬ M1 q) (h0 : H q = none) (x : AftE L M H env σ M1 H1 e) : AftE L M H env σ M1 (L2.upd H1 q (.frz o (.dK kvs))) e := by
  have ow2 : ∀ b, own (L2.upd H1 q (.frz o (.dK kvs))) e σ b → own H1 e σ b := fun b w => by
    obtain ⟨i, w | ⟨c, a, C, fs, w1, w2, w3⟩⟩ := w
    · exact ⟨i, .inl w⟩
    · refine ⟨i, .inr ⟨c, a, C, fs, w1, w2, ?_⟩⟩
      by_cases z : a = q
      · rw [z, upd_same] at w3; cases w3
      · rw [upd_ne z] at w3; exact w3
  refine ⟨⟨x.re.lockd hq hm, fun b u e1 w => ?_, fun b w => x.aft.ow b (ow2 b w), fun b w => ?_, x.aft.lt, x.aft.oo, x.aft.lk⟩, x.ob⟩
  · obtain ⟨e2, m2⟩ := x.aft.fr b u e1 w
    exact ⟨by rw [upd_ne fun z => by rw [z, h0] at e1; cases e1]; exact e2, m2⟩
  · obtain ⟨u, e2⟩ := x.aft.th b w
    by_cases z : b = q
    · exact ⟨_, by rw [z]; exact upd_same⟩
    · exact ⟨u, by rw [upd_ne z]; exact e2⟩
theorem zip_get : ∀ {ks vs : List G} {i : Nat} {k v : G}, ks[i]? = some k → vs[i]? = some v → (zipG ks vs)[i]? = some (.tup [k, v])
  | [], _, i, _, _, h, _ => by simp at h
  | _ :: _, [], i, _, _, _, h => by simp at h
  | k0 :: ks, v0 :: vs, 0, k, v, h1, h2 => by
    simp only [List.getElem?_cons_zero, Option.some.injEq] at h1 h2
    subst h1 h2; rfl
  | k0 :: ks, v0 :: vs, i + 1, k, v, h1, h2 => by
    simp only [List.getElem?_cons_succ] at h1 h2
    rw [zipG, List.getElem?_cons_succ]
    exact zip_get h1 h2
theorem zip_len : ∀ {ks vs : List G}, ks.length = vs.length → (zipG ks vs).length = ks.length
  | [], [], _ => rfl
  | k :: ks, v :: vs, h => by simp [zipG, zip_len (ks := ks) (vs := vs) (by simpa using h)]
/-- a locked dict's entries -/
theorem src_items {q : Addr} {o : Obj} {kvs : List (Key × V)} {vs : List G} : Src L L.K (Iti q o kvs) (zipG (kvs.map fun p => keyG p.1) vs) (fun M H e σ => H q = some (.frz o (.dK kvs)) ∧ ¬ M q ∧ RGs L M H vs (kvs.map (·.2))) := by
  have ln : ∀ {M H}, RGs L M H vs (kvs.map (·.2)) → (zipG (kvs.map fun p => keyG p.1) vs).length = kvs.length := fun r => by
    have := r.len
    rw [List.length_map] at this
    rw [zip_len (by rw [List.length_map]; exact this.symm), List.length_map]
  refine ⟨fun M H e σ M' H' e' σ' r h x => ?_, fun M H e σ i r h hi => ⟨h.1, by rw [ln h.2.2] at hi; exact hi⟩, fun M H e σ i x H' r h hi y => ?_, fun M H e σ i r h hi => ⟨h.1, by rw [ln h.2.2] at hi; exact hi⟩, fun _ _ _ _ _ _ _ h => h, fun M H e σ b u m h => ?_⟩
  · obtain ⟨h1, h2, h3⟩ := h
    obtain ⟨k1, k2⟩ := x.ext r _ _ h1 h2
    exact ⟨k1, k2, RGs.to (x.ext r) _ _ h3⟩
  · obtain ⟨T, k, v, ek, ex, hT, eH⟩ := y
    obtain ⟨h1, h2, h3⟩ := h
    subst ex eH
    have ev : (kvs.map (·.2))[i]? = some v := by rw [List.getElem?_map, ek]; rfl
    obtain ⟨g, eg, rg⟩ := h3.getV ev
    have kp : Kp M H (fun b => M b ∧ b ≠ T) (L2.upd H T (.tup [kV k, v])) := fun b u e => by
      have hb : b ≠ T := fun z => by rw [z, hT] at e; cases e
      exact ⟨by rw [upd_ne hb]; exact e, ⟨fun z => z.1, fun z => ⟨z, hb⟩⟩⟩
    refine ⟨.tup [keyG k, g], _, zip_get (by rw [List.getElem?_map, ek]; rfl) eg, kp, ?_⟩
    unfold RG
    refine ⟨T, _, rfl, .inl ⟨fun z => z.2 rfl, .inl upd_same⟩, .cons ?_ (.cons (RG.to (ext_kp kp) _ _ rg) .nil)⟩
    cases k with
    | inl i => exact rg_int
    | inr s => exact rg_str
  · obtain ⟨h1, h2, h3⟩ := h
    have hb : q ≠ b := fun z => h2 (z ▸ m)
    exact ⟨by rw [upd_ne hb]; exact h1, h2, RGs.to (fun a o ea ma => ⟨by rw [upd_ne (fun z => ma (by rw [z]; exact m))]; exact ea, ma⟩) _ _ h3⟩
theorem i_items {elts : List Expr} {kk : Nat} {tpos apos cpos : Pos} (ha : PE X a (TEof L W (ea F))) (hbase : attributeBase a "items" X.env (PySem.eval a X.env) = PySem.eval a X.env := by rfl) (hline : (apos.endLine == cpos.line) = true := by rfl) :
    PI X (.Tuple elts kk tpos) (.Call (.Attribute a "items" apos) [] [] cpos) (TIof L W (iIt ea F)) := by
  have hl : PE X a fun σ H Q => TEof L W (ea F) σ H fun x H1 => ∃ d kvs, x = V.ref d ∧ H1 d = some (.dK kvs) ∧ ∀ o, Q (.ref d) (L2.upd H1 d (.frz o (.dK kvs))) := by
    refine ⟨fun pins s σ H Q' I h => ?_⟩
    refine thn (ha.run pins s σ H _ I h) fun u s1 ⟨x, H1, I1, rx, d, kvs, ex, hd, q⟩ => ?_
    obtain ⟨od, I2⟩ := I1.lock hd True.intro
    subst ex
    exact ⟨_, _, I2, rx, q od⟩
  refine PI.imp (pi_items hl hbase hline) fun σ H R h => ?_
  obtain ⟨M, env, re, P⟩ := h
  refine goE (.refl re) P fun d e v H1 M1 A1 A1' D1 P1 => ?_
  split at P1
  · rename_i ks vs
    have ef : frz (Ev.D.own (.dct ks vs)) e = some (.dct ks vs, e) := rfl
    have D0 := D1
    obtain ⟨q, ev, m, nw, ns, kc, f0⟩ := D0
    obtain ⟨M2, fz, ax⟩ := frz_ok A1.aft D1 ef
    have A2 : AftE L M H env σ M2 H1 e := ⟨ax, A1.ob⟩
    unfold RC at kc
    obtain ⟨kvs, hk, ek, rs⟩ := kc
    have rg := fz.rg
    rw [ev] at rg
    have hm : ¬ M2 q := by
      unfold RG at rg
      obtain ⟨a', _, e1, m', _⟩ := rg
      cases e1; exact m'
    have rs2 : RGs L M2 H1 vs (kvs.map (·.2)) := by
      unfold RG at rg
      obtain ⟨a', k2, e1, _, rd, _, r2⟩ := rg
      cases e1
      rcases rd with rd | ⟨o, rd⟩
      · rw [hk] at rd; cases rd; exact r2
      · rw [hk] at rd; cases rd
    subst ek
    refine ⟨q, kvs, ev, hk, fun o => ⟨q, o, kvs, rfl, upd_same, ?_⟩⟩
    refine P1 _ _ _ M2 (A2.lockd hk hm f0) (fun k z => by cases z) src_items (fun M3 H3 e3 e4 e5 e6 => ?_)
    rw [e5, e6]
    exact ⟨upd_same, hm, RGs.lockd hk _ _ rs2⟩
  · exact P1.elim
end
end Ev

end
section
set_option linter.all false
set_option maxRecDepth 100000
set_option maxHeartbeats 4000000
namespace Ev
open PySem PySem.Spec PyProof.Rows L2
/-! ### facts of classes with slots, as checks -/
def eqB (a b : Option (Option Value)) : Bool := decide (a = b)
def slB (K : PySem.W.Frag) (C : Addr) (f : Str) (i : Nat) : Bool := match PySem.W.findIn K (.ref C) f with
  | some (some (.ref p)) => eqB (PySem.W.specialIn K (.ref p) "__get__") (some (some (.builtin "member_descriptor.__get__"))) && (decide (PySem.W.takesIn K (.ref p) = some true) && (decide (PySem.W.typeIn K (.ref p) = some (.type "member_descriptor")) &&
      (decide (PySem.W.slotIn K p C = some i) && decide (i < 1000))))
  | _ => false
theorem slB_ok {K : PySem.W.Frag} {C : Addr} {f : Str} {i : Nat} (h : slB K C f i = true) : ∃ p, SlX.Slot1 K C f p i := by
  unfold slB at h
  split at h
  · rename_i p e
    simp only [Bool.and_eq_true, decide_eq_true_eq, eqB] at h
    exact ⟨p, e, h.1, h.2.1, h.2.2.1, h.2.2.2.1, h.2.2.2.2⟩
  · cases h
def clB (K : PySem.W.Frag) (C : Addr) : Bool := PySem.W.plainGet K C Str.empty && (PySem.W.isClsIn K C && (PySem.W.plainOver K C && eqB (PySem.W.findIn K (.ref C) "__setattr__") (some (some (.builtin "object.__setattr__")))))
theorem clB_ok {K : PySem.W.Frag} {C : Addr} (h : clB K C = true) : SlX.SCls K C := by
  unfold clB at h
  simp only [Bool.and_eq_true, decide_eq_true_eq, eqB] at h
  exact ⟨h.1, h.2.1, h.2.2.1, h.2.2.2⟩
def isB (K : PySem.W.Frag) (C : Addr) : Bool := eqB (PySem.W.findIn K (.ref C) "__class__") (some (some (.builtin "object.__class__"))) && (eqB (PySem.W.specialIn K (.builtin "object.__class__") "__get__") (some (some (.builtin "getset_descriptor.__get__"))) &&
  (decide (PySem.W.takesIn K (.builtin "object.__class__") = some true) && decide (PySem.W.mroIn K C (.type "object") = some true)))
theorem isB_ok {K : PySem.W.Frag} {C : Addr} (h : isB K C = true) : SlX.SIsi K C := by
  unfold isB at h
  simp only [Bool.and_eq_true, decide_eq_true_eq, eqB] at h
  exact ⟨h.1, h.2.1, h.2.2.1, h.2.2.2⟩
def insTB (K : PySem.W.Frag) (C : Addr) : Bool := ["int", "bool", "tuple", "str", "list", "dict"].all fun T => decide (PySem.W.kitOne K (.ref C) (.type T) = some false)
def tyOB (K : PySem.W.Frag) (C : Addr) : Bool := ["NoneType", "int", "bool", "tuple", "str", "list", "dict"].all fun T => decide (PySem.W.kitOne K (.type T) (.ref C) = some false)
/-- all of it, for the classes cs by number -/
def kfB (K : PySem.W.Frag) (ca : Nat → Addr) (cs : List Nat) : Bool := cs.all fun c => clB K (ca c) && (isB K (ca c) && (insTB K (ca c) && (tyOB K (ca c) && cs.all fun d => decide (PySem.W.kitOne K (.ref (ca d)) (.ref (ca c)) = some (c == d)))))
theorem kfB_ok {L : Lk} {cs : List Nat} (hs : ∀ c, L.sl c = true → c ∈ cs) (h : kfB L.K L.ca cs = true) : KF L := by
  have at_ : ∀ c, L.sl c = true → clB L.K (L.ca c) = true ∧ isB L.K (L.ca c) = true ∧ insTB L.K (L.ca c) = true ∧ tyOB L.K (L.ca c) = true ∧ ∀ d ∈ cs, PySem.W.kitOne L.K (.ref (L.ca d)) (.ref (L.ca c)) = some (c == d) := fun c hc => by
    have := List.all_eq_true.mp h c (hs c hc)
    simp only [Bool.and_eq_true, List.all_eq_true, decide_eq_true_eq] at this
    exact ⟨this.1, this.2.1, this.2.2.1, this.2.2.2.1, this.2.2.2.2⟩
  refine ⟨fun c hc => ⟨clB_ok (at_ c hc).1, isB_ok (at_ c hc).2.1⟩, fun c T hc hT => ?_, fun c T hc hT => ?_, fun c d hc hd => (at_ c hc).2.2.2.2 d (hs d hd)⟩
  · exact of_decide_eq_true (List.all_eq_true.mp (at_ c hc).2.2.1 T hT)
  · exact of_decide_eq_true (List.all_eq_true.mp (at_ c hc).2.2.2.1 T hT)
/-! ### the hook: He's, and one check more -/
abbrev AlE : Type := Bool × He.AlD
def obsE (ex : PySem.W.Frag → Bool) (fa : List He.Fa) (fn : List He.DefD) (K : PySem.W.Frag) : AlE := (ex K, He.obsD fa fn K)
def obsEG (n : Nat) (ex : PySem.W.Frag → Bool) (fa : List He.Fa) (fn : List He.DefD) (g : Addr → Option Obj) : AlE := obsE ex fa fn (He.frG g (He.asD g n))
def hookE (n : Nat) (ex : PySem.W.Frag → Bool) (fa : List He.Fa) (fn : List He.DefD) : PySem.W.Hook where
  α := AlE
  obs := fun s => obsEG n ex fa fn s.heap.get?
  val := fun _ => (true, He.valD fn)
  says := fun _ h => ∃ K : PySem.W.Frag, K.In h ∧ ex K = true ∧ He.SaysD fa fn K
  of := fun _ _ e => ⟨_, He.frG_in, congrArg (fun z : AlE => z.1) e, congrArg (fun z : AlE => z.2) e⟩
  keeps := fun _ _ _ ⟨K, hK, c⟩ k => ⟨K, PySem.W.Frag.In.keeps hK k, c⟩
theorem obsEG_eq {n : Nat} {ex : PySem.W.Frag → Bool} {fa : List He.Fa} {fn : List He.DefD} {g : Addr → Option Obj} {s : Shared} (h : ∀ a, g a = s.heap.get? a) : obsEG n ex fa fn g = (hookE n ex fa fn).obs s := by
  have e : g = s.heap.get? := funext h
  rw [e] <;> rfl
/-- the law's def at the script -/
theorem law_sp {L : Lk} {fd : FD} {F : FF} {H : Hp} {a : Addr} {ns : List Int} {e : Env} (hnp : fd.np = 1) (hO : Only H) (hS : SqL L.K H a (ns.map V.int)) (h : fin (fd.body F (env0 fd [.val (.scr (ns.map .int))])) = .ok (.g (.bl true)) e) :
    spF L fd F [.ref a] H (fun v _ => v = .bl true) fun _ _ _ => False := by
  have rg : RG L (fun _ => False) H (.scr (ns.map .int)) (.ref a) := by
    unfold RG
    refine ⟨a, ns.map V.int, rfl, ?_, rgs_ints ns⟩
    rcases hS with hS | hS
    · exact .inl ⟨fun z => z, hS⟩
    · exact .inr hS
  refine ⟨fun _ => False, [.val (.scr (ns.map .int))], by simp [hnp], by simp [hnp], ?_, ?_⟩
  · have D0 : RDs L (fun _ => False) H [] [] H [.g (.scr (ns.map .int))] [.ref a] := ⟨.ref a, [], rfl, rg, rfl, fun x z => nomatch z⟩
    exact call_re (fd := fd) (dfl := []) (dvs := []) (env := []) (σ := []) ⟨rfl, fun i => by unfold getS; simp; exact True.intro, fun i j b _ h1 => by simp [getS, isOb] at h1⟩ D0 rfl (by simp [lent]) .nil
  · rw [h]
    refine ⟨rfl, fun v H' M' σ' _ r => ?_⟩
    have r : RG L M' H' (.bl true) v := r
    unfold RG at r
    exact r
end Ev

end
section
set_option linter.all false
set_option maxRecDepth 100000
set_option maxHeartbeats 4000000
namespace Ev
open PySem PySem.Spec PyProof.Rows L2
/-! ### properties, tables: the hook -/
/-- a property of a class: its getter's def -/
structure PrD where
  cls : Str
  at_ : Str
  d : He.DefD
/-- where the getter stands -/
def prA (K : PySem.W.Frag) (c m : Str) : Addr := match PySem.W.recIn K (He.ma K (He.ga K c) m) "property" with
  | some (.ref f :: _) => f
  | _ => 0
def fnAt (K : PySem.W.Frag) (a : Addr) : He.FnW := match K.lookup a with
  | some ⟨_, _, .func g, _⟩ => some (g.name, g.qualname, g.params, g.body, g.scope, g.globals, g.closure, g.builtins)
  | _ => none
def okAt (K : PySem.W.Frag) (d : He.DefD) (a : Addr) : Bool := PySem.W.keepIn K (.ref a) && (match K.lookup a with
  | some ⟨_, _, .func g, _⟩ => PySem.W.codeIn K g.code d.qual && (He.dflB K g.defaults (d.dvs K) && He.kwdB K g.kwdefaults (d.kws K))
  | _ => false)
theorem funAt {K : PySem.W.Frag} {d : He.DefD} {a : Addr} (e : fnAt K a = d.val) (c : okAt K d a = true) : ∃ g, FunD K d.name d.qual d.params d.body d.scope (d.dvs K) (d.kws K) a g := by
  unfold okAt at c
  obtain ⟨kp, c2⟩ := Bool.and_eq_true_iff.mp c
  unfold fnAt at e
  cases q : K.lookup a with
  | none => rw [q] at c2; cases c2
  | some o =>
    obtain ⟨oc, od, dt, osl⟩ := o
    rw [q] at c2 e
    cases dt with
    | func g =>
      obtain ⟨a1, a2, a3, a4, a5, a6, a7, a8, a9, a10, a11, a12, a13, a14, a15⟩ := g
      have e2 : (some (a1, a2, a3, a4, a5, a6, a7, a15) : He.FnW) = some (d.name, d.qual, d.params, .stmts d.body, d.scope, mainGlobals, [], builtinsNs) := e
      simp only [Option.some.injEq, Prod.mk.injEq] at e2
      obtain ⟨r1, r2, r3, r4, r5, r6, r7, r8⟩ := e2
      subst r1 r2 r3 r4 r5 r6 r7 r8
      have c3 : (PySem.W.codeIn K a13 d.qual && (He.dflB K a8 (d.dvs K) && He.kwdB K a9 (d.kws K))) = true := c2
      obtain ⟨k1, k2⟩ := Bool.and_eq_true_iff.mp c3
      obtain ⟨k3, k4⟩ := Bool.and_eq_true_iff.mp k2
      exact ⟨_, ⟨oc, od, a8, a9, a10, a11, a12, a13, a14, osl, rfl, q, k1, He.dflB_ok k3, He.kwdB_ok k4⟩, kp⟩
    | _ => cases c2
def prB (K : PySem.W.Frag) (p : PrD) : Bool := okAt K p.d (prA K p.cls p.at_) && (eqB (PySem.W.findIn K (.ref (He.ga K p.cls)) p.at_) (some (some (.ref (He.ma K (He.ga K p.cls) p.at_)))) &&
  (eqB (PySem.W.specialIn K (.ref (He.ma K (He.ga K p.cls) p.at_)) "__get__") (some (some (.builtin "property.__get__"))) && (decide (PySem.W.takesIn K (.ref (He.ma K (He.ga K p.cls) p.at_)) = some true) &&
  (match PySem.W.recIn K (He.ma K (He.ga K p.cls) p.at_) "property" with | some (.ref f :: _) => decide (f = prA K p.cls p.at_) | _ => false))))
/-- what a property's reading asks -/
structure PrF (K : PySem.W.Frag) (c : Addr) (at_ : Str) (g : Addr) : Prop where
  ex : ∃ pa, PySem.W.findIn K (.ref c) at_ = some (some (.ref pa)) ∧ PySem.W.specialIn K (.ref pa) "__get__" = some (some (.builtin "property.__get__")) ∧ PySem.W.takesIn K (.ref pa) = some true ∧ ∃ rest, PySem.W.recIn K pa "property" = some (.ref g :: rest)
theorem prB_ok {K : PySem.W.Frag} {p : PrD} (h : prB K p = true) : okAt K p.d (prA K p.cls p.at_) = true ∧ PrF K (He.ga K p.cls) p.at_ (prA K p.cls p.at_) := by
  unfold prB at h
  simp only [Bool.and_eq_true, decide_eq_true_eq, eqB] at h
  obtain ⟨h1, h2, h3, h4, h5⟩ := h
  refine ⟨h1, ⟨_, h2, h3, h4, ?_⟩⟩
  split at h5
  · rename_i f r e
    simp only [decide_eq_true_eq] at h5
    subst h5
    exact ⟨r, e⟩
  · cases h5
abbrev AlP : Type := He.AlX × List He.FnW
def exP (ps : List PrD) (ex : PySem.W.Frag → Bool) (K : PySem.W.Frag) : Bool := ex K && ps.all fun p => prB K p
def obsP (n : Nat) (fa : List He.Fa) (fn : List He.DefD) (ts : List He.Tab) (tf : List He.Defn) (ex : PySem.W.Frag → Bool) (ps : List PrD) (g : Addr → Option Obj) : AlP :=
  (He.obsX n fa fn ts tf (exP ps ex) g, ps.map fun p => fnAt (He.frT g (He.asD g n)) (prA (He.frT g (He.asD g n)) p.cls p.at_))
def valP (fn : List He.DefD) (ts : List He.Tab) (ps : List PrD) (w : World) : AlP := (He.valX fn ts w, ps.map fun p => p.d.val)
structure SaysP (fa : List He.Fa) (fn : List He.DefD) (ts : List He.Tab) (tf : List He.Defn) (ex : PySem.W.Frag → Bool) (ps : List PrD) (w : World) (h : Heap) (K : PySem.W.Frag) : Prop where
  x : He.SaysX fa fn ts tf (exP ps ex) w h K
  p : (ps.map fun p => fnAt K (prA K p.cls p.at_)) = ps.map fun p => p.d.val
theorem SaysP.pr {fa : List He.Fa} {fn : List He.DefD} {ts : List He.Tab} {tf : List He.Defn} {ex : PySem.W.Frag → Bool} {ps : List PrD} {w : World} {h : Heap} {K : PySem.W.Frag} (c : SaysP fa fn ts tf ex ps w h K) (i : Nat) {p : PrD} (hp : ps[i]? = some p := by rfl) :
    (∃ g, FunD K p.d.name p.d.qual p.d.params p.d.body p.d.scope (p.d.dvs K) (p.d.kws K) (prA K p.cls p.at_) g) ∧ PrF K (He.ga K p.cls) p.at_ (prA K p.cls p.at_) := by
  have hm := c.x.more
  unfold exP at hm
  have h2 := List.all_eq_true.mp (Bool.and_eq_true_iff.mp hm).2 p (List.mem_of_getElem? hp)
  obtain ⟨k1, k2⟩ := prB_ok h2
  have e : (ps.map fun p => fnAt K (prA K p.cls p.at_))[i]? = (ps.map fun p => p.d.val)[i]? := by rw [c.p]
  rw [List.getElem?_map, List.getElem?_map, hp] at e
  exact ⟨funAt (Option.some.inj e) k1, k2⟩
def hookP (n : Nat) (fa : List He.Fa) (fn : List He.DefD) (ts : List He.Tab) (tf : List He.Defn) (ex : PySem.W.Frag → Bool) (ps : List PrD) : PySem.W.Hook where
  α := AlP
  obs := fun s => obsP n fa fn ts tf ex ps s.heap.get?
  val := fun w => valP fn ts ps w
  says := fun w h => ∃ K : PySem.W.Frag, K.In h ∧ SaysP fa fn ts tf ex ps w h K
  of := fun _ _ e => ⟨_, He.frT_in, He.saysX_of (congrArg (fun z : AlP => z.1) e), congrArg (fun z : AlP => z.2) e⟩
  keeps := fun _ _ _ ⟨K, hK, c⟩ k => ⟨K, PySem.W.Frag.In.keeps hK k, ⟨⟨c.x.t, c.x.more, c.x.hd, c.x.out, fun p hp => k _ _ (c.x.empty p hp)⟩, c.p⟩⟩
theorem obsP_eq {n : Nat} {fa : List He.Fa} {fn : List He.DefD} {ts : List He.Tab} {tf : List He.Defn} {ex : PySem.W.Frag → Bool} {ps : List PrD} {g : Addr → Option Obj} {s : Shared} (h : ∀ a, g a = s.heap.get? a) : obsP n fa fn ts tf ex ps g = (hookP n fa fn ts tf ex ps).obs s := by
  have e : g = s.heap.get? := funext h
  rw [e] <;> rfl
/-- a tuple of the module -/
theorem rg_tup {L : Lk} {M : Mu} {H : Hp} {a : Addr} {xs : List G} {vs : List V} (k : KT L.K a vs) (r : RGs L M H xs vs) : RG L M H (.tup xs) (.ref a) := by
  unfold RG; exact ⟨a, vs, rfl, .inr k, r⟩
/-- tuples of texts and ints of the module -/
def flatV : G → Option V
  | .int i => some (.int i)
  | .str s => some (.str s)
  | .bl b => some (.bl b)
  | .non => some .non
  | _ => none
def flatVs : List G → Option (List V)
  | [] => some []
  | g :: gs => match flatV g, flatVs gs with
    | some v, some vs => some (v :: vs)
    | _, _ => none
def valB : V → Value → Bool
  | .int i, .int j _ => decide (i = j)
  | .str s, .str t _ => decide (s = t)
  | .bl a, .bool b => decide (a = b)
  | .non, .none => true
  | _, _ => false
def valsB : List V → List Value → Bool
  | [], [] => true
  | v :: vs, u :: us => valB v u && valsB vs us
  | _, _ => false
theorem valB_ok {v : V} {u : Value} (h : valB v u = true) : RelV v u := by
  unfold valB at h
  split at h
  · simp only [decide_eq_true_eq] at h; subst h; exact ⟨_, rfl⟩
  · simp only [decide_eq_true_eq] at h; subst h; exact ⟨_, rfl⟩
  · simp only [decide_eq_true_eq] at h; subst h; exact rfl
  · exact rfl
  · cases h
theorem valsB_ok : ∀ {vs : List V} {us : List Value}, valsB vs us = true → Vals vs us
  | [], [], _ => .nil
  | v :: vs, u :: us, h => by
    simp only [valsB, Bool.and_eq_true] at h
    exact .cons (valB_ok h.1) (valsB_ok h.2)
  | [], _ :: _, h => by cases h
  | _ :: _, [], h => by cases h
def tupConB (K : PySem.W.Frag) (x : Str) (gs : List G) : Bool := match K.lookup (He.ga K x) with
  | some ⟨.type c, _, .seq its _, _⟩ => decide (c = "tuple") && (decide (its.size ≤ 1000) && (match flatVs gs with | some vs => valsB vs its.toList | none => false))
  | _ => false
theorem flat_rg {L : Lk} {M : Mu} {H : Hp} {g : G} {v : V} (h : flatV g = some v) : RG L M H g v := by
  cases g <;> simp only [flatV, Option.some.injEq, reduceCtorEq] at h <;> subst h
  · exact rg_non
  · exact rg_bl
  · exact rg_int
  · exact rg_str
theorem flats_rg {L : Lk} {M : Mu} {H : Hp} : ∀ {gs : List G} {vs : List V}, flatVs gs = some vs → RGs L M H gs vs
  | [], vs, h => by cases h; exact .nil
  | g :: gs, vs, h => by
    unfold flatVs at h
    split at h
    · rename_i v vs' h1 h2
      cases h
      exact .cons (flat_rg h1) (flats_rg h2)
    · cases h
theorem tupConB_ok {L : Lk} {x : Str} {gs : List G} (h : tupConB L.K x gs = true) : ∀ M H, RG L M H (.tup gs) (.ref (He.ga L.K x)) := fun M H => by
  unfold tupConB at h
  split at h
  · rename_i c od its n sl e
    simp only [Bool.and_eq_true, decide_eq_true_eq] at h
    obtain ⟨h1, h2, h3⟩ := h
    split at h3
    · rename_i vs ev
      subst h1
      exact rg_tup ⟨_, its, n, e, rfl, rfl, by rw [sizeLine_eq]; omega, valsB_ok h3⟩ (flats_rg ev)
    · cases h3
  · cases h
end Ev

end
section
set_option linter.all false
set_option maxRecDepth 100000
set_option maxHeartbeats 4000000
namespace Ev
open PySem PySem.Spec PyProof.Rows L2 PySem.W
/-! the head's facts of own exception classes -/
def veB : List Value := [.type "ValueError", .type "Exception", .type "BaseException", .type "object"]
def ieB : List Value := [.type "IndexError", .type "LookupError", .type "Exception", .type "BaseException", .type "object"]
def oeB : List Value := [.type "OverflowError", .type "ArithmeticError", .type "Exception", .type "BaseException", .type "object"]
def aeB : List Value := [.type "ArithmeticError", .type "Exception", .type "BaseException", .type "object"]
def leB : List Value := [.type "LookupError", .type "Exception", .type "BaseException", .type "object"]
theorem sup_ValueError : SupB "ValueError" "ValueError.__new__" "ValueError.__init__" veB := ⟨PySem.F.excBase_ValueError, kxs_ValueError, PySem.F.store_ValueError⟩
theorem sup_IndexError : SupB "IndexError" "IndexError.__new__" "IndexError.__init__" ieB := ⟨PySem.F.excBase_IndexError, kxs_IndexError, PySem.F.store_IndexError⟩
theorem sup_OverflowError : SupB "OverflowError" "OverflowError.__new__" "OverflowError.__init__" oeB := ⟨PySem.F.excBase_OverflowError, kxs_OverflowError, PySem.F.store_OverflowError⟩
theorem sup_ArithmeticError : SupB "ArithmeticError" "ArithmeticError.__new__" "ArithmeticError.__init__" aeB := ⟨PySem.F.excBase_ArithmeticError, kxs_ArithmeticError, PySem.F.store_ArithmeticError⟩
theorem sup_LookupError : SupB "LookupError" "LookupError.__new__" "LookupError.__init__" leB := ⟨PySem.F.excBase_LookupError, kxs_LookupError, PySem.F.store_LookupError⟩
/-- an own class over ValueError, made with a text -/
structure EcK (K : Frag) (C : Addr) : Prop where
  xi : excIn K C veB "ValueError.__new__" = true
  kP : keepIn K (.ref C) = true
  bP : subIn K (.ref C) (.type "BaseException") = some true
  tP : typeIn K (.ref C) = some (.type "type")
def ecB (K : Frag) (C : Addr) : Bool := excIn K C veB "ValueError.__new__" && (keepIn K (.ref C) && (decide (subIn K (.ref C) (.type "BaseException") = some true) && decide (typeIn K (.ref C) = some (.type "type"))))
theorem ecB_ok {K : Frag} {C : Addr} (h : ecB K C = true) : EcK K C := by
  unfold ecB at h
  simp only [Bool.and_eq_true, decide_eq_true_eq] at h
  exact ⟨h.1, h.2.1, h.2.2.1, h.2.2.2⟩
theorem pm_own {X : Cx} {C : Addr} {x m : Str} {j : Nat} {p p2 pos : Pos} (T : EcK X.K C) (gC : X.mg x = some (.ref C)) (hg : Gl X x) (hdb : (x == ("__debug__" : Str)) = false := by decide) : PMk X (.Call (.Name x p) [.Constant (.str m) j p2] [] pos) (fun _ H Q => Q (.ref C) none H) :=
  pmk_own PySem.F.excBase_ValueError T.xi gC T.kP (raises_own T.bP T.tP) hg hdb
def exmB (K : Frag) (c d : Addr) (b : Bool) : Bool := decide (exmOne K (.ref c) (.ref d) = some b)
theorem exmB_ok {K : Frag} {c d : Addr} {b : Bool} (h : exmB K c d b = true) : exmOne K (.ref c) (.ref d) = some b := of_decide_eq_true h
def noB (K : Frag) (C : Addr) (f : Str) : Bool := eqB (findIn K (.ref C) f) (some none)
theorem noB_ok {K : Frag} {C : Addr} {f : Str} (h : noB K C f = true) : findIn K (.ref C) f = some none := of_decide_eq_true h
/-! an own class with __init__ -/
def inA (K : Frag) (C : Addr) : Addr := match findIn K (.ref C) "__init__" with
  | some (some (.ref f)) => f
  | _ => 0
def clA (K : Frag) (a : Addr) : Addr := match K.lookup a with
  | some ⟨_, _, .func g, _⟩ => (match g.closure with | [(_, c)] => c | _ => 0)
  | _ => 0
def cdA (K : Frag) (a : Addr) : Addr := match K.lookup a with
  | some ⟨_, _, .func g, _⟩ => (match g.code with | .ref c => c | _ => 0)
  | _ => 0
abbrev FnX : Type := Option (Str × Str × Arguments × FuncBody × Scope × Addr × Addr)
def fnX_ (K : Frag) (a : Addr) : FnX := match K.lookup a with
  | some ⟨_, _, .func g, _⟩ => some (g.name, g.qualname, g.params, g.body, g.scope, g.globals, g.builtins)
  | _ => none
structure SuD where
  cls : Str
  st : Stmt
  qual : Str
  f : Str
  B : String
  newId : String
  initId : String
  bm : List Value
def SuD.val (d : SuD) : FnX := some (("__init__" : Str), d.qual, defArgs d.st, FuncBody.stmts (defBody d.st), defScope d.st, mainGlobals, builtinsNs)
def cloB (K : Frag) (a : Addr) : Bool := match K.lookup a with
  | some ⟨_, _, .func g, _⟩ => (match g.closure with | [(n, c)] => decide (n = "__class__") && decide (c = clA K a) | _ => false) && ((match g.code with | .ref c => decide (c = cdA K a) | _ => false) && (match g.defaults with | .none => true | _ => false))
  | _ => false
def fileB (K : Frag) (file : Str) (a : Addr) : Bool := match K.lookup a with
  | some ⟨_, _, .fields vs, _⟩ => (match (vs : Array Value)[2]? with | some (Value.str f _) => file == f | _ => false)
  | _ => false
def celB (K : Frag) (a C : Addr) : Bool := match K.lookup a with
  | some ⟨_, _, .cell (some (.ref c)), _⟩ => decide (c = C)
  | _ => false
def suB (file : Str) (K : Frag) (d : SuD) : Bool :=
  cloB K (inA K (He.ga K d.cls)) && (codeIn K (.ref (cdA K (inA K (He.ga K d.cls)))) d.qual && (fileB K file (cdA K (inA K (He.ga K d.cls))) && (celB K (clA K (inA K (He.ga K d.cls))) (He.ga K d.cls) && (excInitIn K (He.ga K d.cls) d.bm d.newId &&
  (excOver K (He.ga K d.cls) d.bm && (eqB (findIn K (.ref (He.ga K d.cls)) "__init__") (some (some (.ref (inA K (He.ga K d.cls))))) && (decide (typeIn K (.ref (inA K (He.ga K d.cls))) = some (.type "function")) &&
  (eqB (ks_superIn K (He.ga K d.cls) (He.ga K d.cls) "__init__") (some (some (.builtin d.initId))) && (decide (subIn K (.ref (He.ga K d.cls)) (.type d.B) = some true) && (decide (mroIn K (He.ga K d.cls) (.ref (He.ga K d.cls)) = some true) &&
  (eqB (nsIn K cStatics "thirdparty.any") (some none) && (eqB (findIn K (.ref (He.ga K d.cls)) "__setattr__") (some (some (.builtin "object.__setattr__"))) && (eqB (takerIn K (He.ga K d.cls) d.f) (some none) && (hasDictIn K (He.ga K d.cls) &&
  (decide (subIn K (.ref (He.ga K d.cls)) (.type "BaseException") = some true) && (decide (typeIn K (.ref (He.ga K d.cls)) = some (.type "type")) && keepIn K (.ref (He.ga K d.cls))))))))))))))))))
theorem suB_ok {P : Program} {K : Frag} {d : SuD} (e : fnX_ K (inA K (He.ga K d.cls)) = d.val) (h : suB P.main.file K d = true) (top : (P.main.scope.names.lookup ("super" : Str)).isSome = false) :
    ∃ fI cc cda, SupK P K (He.ga K d.cls) fI cc cda d.B d.newId d.initId d.bm d.f d.qual d.st := by
  unfold suB at h
  simp only [Bool.and_eq_true, decide_eq_true_eq, eqB] at h
  obtain ⟨h1, h2, h3, h4, h5, h6, h7, h8, h9, h10, h11, h12, h13, h14, h15, h16, h17, h18⟩ := h
  refine ⟨inA K (He.ga K d.cls), clA K (inA K (He.ga K d.cls)), cdA K (inA K (He.ga K d.cls)), ?_, h2, ?_, ?_, h5, h6, h7, h8, h9, h10, h11, h12, h13, h14, h15, h16, h17, h18, top⟩
  · unfold cloB at h1
    unfold fnX_ at e
    cases q : K.lookup (inA K (He.ga K d.cls)) with
    | none => rw [q] at e; cases e
    | some o =>
      obtain ⟨oc, od, dt, osl⟩ := o
      rw [q] at e h1
      cases dt with
      | func g =>
        obtain ⟨a1, a2, a3, a4, a5, a6, a7, a8, a9, a10, a11, a12, a13, a14, a15⟩ := g
        have e2 : (some (a1, a2, a3, a4, a5, a6, a15) : FnX) = some (("__init__" : Str), d.qual, defArgs d.st, FuncBody.stmts (defBody d.st), defScope d.st, mainGlobals, builtinsNs) := e
        simp only [Option.some.injEq, Prod.mk.injEq] at e2
        obtain ⟨r1, r2, r3, r4, r5, r6, r7⟩ := e2
        simp only [Bool.and_eq_true] at h1
        obtain ⟨k1, k2, k4⟩ := h1
        have k5 : a8 = Value.none := by
          cases a8 <;> first | rfl | exact absurd k4 (by simp)
        split at k1
        · rename_i n c hc
          simp only [Bool.and_eq_true, decide_eq_true_eq] at k1
          obtain ⟨k1, k3⟩ := k1
          split at k2
          · rename_i c' hc'
            simp only [decide_eq_true_eq] at k2
            subst r1 r2 r3 r4 r5 r6 r7 k1 k3 k2 k5
            exact ⟨oc, od, a9, a10, a11, a12, a14, osl, rfl⟩
          · cases k2
        · cases k1
      | _ => cases h1
  · unfold fileB at h3
    split at h3
    · rename_i oc od vs osl q
      split at h3
      · rename_i f t ev
        exact ⟨_, _, vs, _, f, t, q, ev, h3⟩
      · cases h3
    · cases h3
  · unfold celB at h4
    split at h4
    · rename_i oc od c osl q
      simp only [decide_eq_true_eq] at h4
      subst h4
      exact ⟨_, _, _, q⟩
    · cases h4
/-! the hook -/
abbrev AlS : Type := AlP × List FnX
def asS (g : Addr → Option Obj) (n : Nat) : List Addr := He.asD g n ++ [cStatics]
def obsK (fa : List He.Fa) (fn : List He.DefD) (ts : List He.Tab) (ex : Frag → Bool) (ps : List PrD) (ss : List SuD) (K : Frag) : AlS :=
  (((He.obsT fa fn ts K, exP ps ex K), ps.map fun p => fnAt K (prA K p.cls p.at_)), ss.map fun d => fnX_ K (inA K (He.ga K d.cls)))
def obsS (n : Nat) (fa : List He.Fa) (fn : List He.DefD) (ts : List He.Tab) (ex : Frag → Bool) (ps : List PrD) (ss : List SuD) (g : Addr → Option Obj) : AlS := obsK fa fn ts ex ps ss (He.frT g (asS g n))
def valS (fn : List He.DefD) (ts : List He.Tab) (ps : List PrD) (ss : List SuD) (w : World) : AlS := (valP fn ts ps w, ss.map fun d => d.val)
structure SaysS (fa : List He.Fa) (fn : List He.DefD) (ts : List He.Tab) (ex : Frag → Bool) (ps : List PrD) (ss : List SuD) (w : World) (h : Heap) (K : Frag) : Prop where
  p : SaysP fa fn ts [] ex ps w h K
  s : (ss.map fun d => fnX_ K (inA K (He.ga K d.cls))) = ss.map fun d => d.val
theorem SaysS.su {fa : List He.Fa} {fn : List He.DefD} {ts : List He.Tab} {ex : Frag → Bool} {ps : List PrD} {ss : List SuD} {w : World} {h : Heap} {K : Frag} (c : SaysS fa fn ts ex ps ss w h K) (i : Nat) {d : SuD} (hd : ss[i]? = some d := by rfl) : fnX_ K (inA K (He.ga K d.cls)) = d.val := by
  have e : (ss.map fun d => fnX_ K (inA K (He.ga K d.cls)))[i]? = (ss.map fun d => d.val)[i]? := by rw [c.s]
  rw [List.getElem?_map, List.getElem?_map, hd] at e
  exact Option.some.inj e
theorem saysS_of {fa : List He.Fa} {fn : List He.DefD} {ts : List He.Tab} {ex : Frag → Bool} {ps : List PrD} {ss : List SuD} {w : World} {h : Heap} {K : Frag} (e : obsK fa fn ts ex ps ss K = valS fn ts ps ss w) : SaysS fa fn ts ex ps ss w h K :=
  ⟨⟨⟨congrArg (fun z : AlS => z.1.1.1) e, congrArg (fun z : AlS => z.1.1.2) e, fun p hp => (nomatch hp), fun p hp => (nomatch hp), fun p hp => (nomatch hp)⟩, congrArg (fun z : AlS => z.1.2) e⟩, congrArg (fun z : AlS => z.2) e⟩
def hookS (n : Nat) (fa : List He.Fa) (fn : List He.DefD) (ts : List He.Tab) (ex : Frag → Bool) (ps : List PrD) (ss : List SuD) : Hook where
  α := AlS
  obs := fun s => obsS n fa fn ts ex ps ss s.heap.get?
  val := fun w => valS fn ts ps ss w
  says := fun w h => ∃ K : Frag, K.In h ∧ SaysS fa fn ts ex ps ss w h K
  of := fun _ _ e => ⟨_, He.frT_in, saysS_of e⟩
  keeps := fun _ _ _ ⟨K, hK, c⟩ k => ⟨K, Frag.In.keeps hK k, ⟨⟨⟨c.p.x.t, c.p.x.more, c.p.x.hd, c.p.x.out, fun p hp => (nomatch hp)⟩, c.p.p⟩, c.s⟩⟩
theorem obsS_eq {n : Nat} {fa : List He.Fa} {fn : List He.DefD} {ts : List He.Tab} {ex : Frag → Bool} {ps : List PrD} {ss : List SuD} {g : Addr → Option Obj} {s : Shared} (h : ∀ a, g a = s.heap.get? a) : obsS n fa fn ts ex ps ss g = (hookS n fa fn ts ex ps ss).obs s := by
  have e : g = s.heap.get? := funext h
  rw [e] <;> rfl
end Ev

end
section
set_option linter.all false
namespace Ev
theorem fm_nil {α : Type} {P : α → Prop} : ∀ q ∈ ([] : List α), P q := fun _ h => nomatch h
theorem fm_cons {α : Type} {P : α → Prop} {a : α} {l : List α} (h : P a) (t : ∀ q ∈ l, P q) : ∀ q ∈ a :: l, P q := fun q m => by
  rcases List.mem_cons.mp m with e | m
  · rw [e]; exact h
  · exact t q m
theorem okTb {tb : List (Nat × Bool)} {P : Nat → Prop} (h : ∀ q ∈ tb, q.2 = true → P q.1) : ∀ c, tb.lookup c = some true → P c := fun c e => h _ (mem_lookup e) rfl
end Ev

end
section
set_option linter.all false
set_option maxRecDepth 100000
namespace Ev
open PySem
/-- a world by the word of one text -/
def wB (w : World) (b : Bool) : World := { w with params := { w.params with followText := fun s => match decide (s = "special-get-raises") with | true => b | false => w.params.followText s } }
theorem wB_eq (w : World) : wB w (w.params.followText "special-get-raises") = w := by
  obtain ⟨p, d⟩ := w
  unfold wB
  simp only
  congr
  funext s
  split
  · rename_i h
    rw [of_decide_eq_true h]
  · rfl
end Ev

end
section
set_option linter.all false
set_option Elab.async false
set_option maxRecDepth 100000
set_option maxHeartbeats 0
namespace K25
open PySem PySem.Spec PyProof.Rows L2 Ev
def topS (i : Nat) : Stmt := PySem.Challenge.pw_wholebyparts_k25_whole_first_words_and_c.main.body.getD i (.Pass ⟨0, 0, 0, 0⟩)
abbrev wf : Nat := 100000
def ct : CT := [⟨[], none⟩, ⟨[], none⟩, ⟨[], none⟩, ⟨[], none⟩, ⟨[], none⟩, ⟨[(2, .fld 0), (0, .fld 1), (1, .fld 2)], some 9⟩]
def b_2 : SV := (sSeq (sRet (eAnd (eBi (.isi .int) (aCons (eV 0) aNil)) (eNot (eBi (.isi .bool) (aCons (eV 0) aNil))))) sNil)
def b_3 : SV := (sSeq (sRet (eAnd (eCall 2 [] (aCons (eV 0) aNil)) (eChain .le .le (eV 1) (eV 0) (eV 2)))) sNil)
def b_4 : SV := (sSeq (sRet (eAnd (eBi (.isi .tuple) (aCons (eV 0) aNil)) (eBi .all (aCons (eComp [3] (eCall 3 [] (aCons (eV 3) (aCons (eV 1) (aCons (eV 2) aNil)))) (gNm 3) (iE (eV 0)) tYesT) aNil)))) sNil)
def b_5 : SV := (sSeq (sRet (eBi .all (aCons (eComp [1, 2] (eBin .lt (eV 1) (eV 2)) (gTp [(gNm 1), (gNm 2)]) (iZ (eV 0) (eSlice (eV 0) (pI (eK (.int 1))) pN)) tYesT) aNil))) sNil)
def b_6 : SV := (sSeq (sRet (eAnd (eCall 4 [] (aCons (eV 0) (aCons (eK (.int 0)) (aCons (eBin .sub (eV 1) (eK (.int 1))) aNil)))) (eCall 5 [] (aCons (eV 0) aNil)))) sNil)
def b_7 : SV := (sSeq (sIf (tNotT (tV (eCall 3 [] (aCons (eV 0) (aCons (eV 1) (aCons (eV 2) aNil)))))) (sSeq (sRse 3 (aCons (eV 0) aNil)) sNil) sNil) sNil)
def b_8 : SV := (sSeq (sIf (tNotT (tV (eCall 3 [] (aCons (eV 0) (aCons (eK (.int 1)) (aCons (eK (.int 64)) aNil)))))) (sSeq (sRet (eTup (aCons (eK (.str (PySem.Str.ofString "letters"))) aNil))) sNil) sNil) (sSeq (sIf (tOrT (tNotT (tV (eBi (.isi .tuple) (aCons (eV 1) aNil)))) (tNotT (tV (eChain .le .le (eK (.int 1)) (eBi .len (aCons (eV 1) aNil)) (eK (.int 512)))))) (sSeq (sRet (eTup (aCons (eK (.str (PySem.Str.ofString "steps"))) aNil))) sNil) sNil) (sSeq (sFor (gTp [(gNm 3), (gNm 4)]) (iN (eV 1)) (sSeq (sIf (tOrT (tNotT (tV (eCall 4 [] (aCons (eV 4) (aCons (eK (.int 0)) (aCons (eBin .sub (eBi .len (aCons (eV 1) aNil)) (eK (.int 1))) aNil)))))) (tV (eBin .ne (eBi .len (aCons (eV 4) aNil)) (eV 0)))) (sSeq (sRet (eTup (aCons (eK (.str (PySem.Str.ofString "step"))) (aCons (eV 3) aNil)))) sNil) sNil) sNil)) (sSeq (sRet (eIte (tV (eCall 6 [] (aCons (eV 2) (aCons (eBi .len (aCons (eV 1) aNil)) aNil)))) (eK .non) (eTup (aCons (eK (.str (PySem.Str.ofString "accepting"))) aNil)))) sNil))))
def b_9 : SV := (sSeq (sIf (tV (eBin .isnot (eCall 8 [] (aCons (eV 1) (aCons (eV 2) (aCons (eV 3) aNil)))) (eK .non))) (sSeq (sRse 1 aNil) sNil) sNil) (sIni [2, 0, 1] (aCons (eV 1) (aCons (eV 2) (aCons (eV 3) aNil)))))
def b_18 : SV := (sSeq (sFor (gNm 3) (iE (eV 1)) (sSeq (sSet 2 (eBin .idx (eBin .idx (eAttr ct (eV 0) 1) (eV 2)) (eV 3))) sNil)) (sSeq (sRet (eV 2)) sNil))
def b_19 : SV := (sSeq (sRet (eBin .in_ (eCall 18 [(.int 0)] (aCons (eV 0) (aCons (eV 1) aNil))) (eAttr ct (eV 0) 2))) sNil)
def b_20 : SV := (sSeq (sPar [1, 2] (aCons (eDic1 (eK (.int 0)) (eTup aNil)) (aCons (eLst (aCons (eK (.int 0)) aNil)) aNil))) (sSeq (sWhile wf (tV (eBin .ne (eV 2) (eLst aNil))) (sSeq (sSet 3 (eLst aNil)) (sSeq (sFor (gNm 4) (iE (eV 2)) (sSeq (sFor (gTp [(gNm 5), (gNm 6)]) (iN (eBin .idx (eAttr ct (eV 0) 1) (eV 4))) (sSeq (sIf (tV (eBin .notin (eV 6) (eV 1))) (sSeq (sSetI 1 (eV 6) (eTup (aStar (eBin .idx (eV 1) (eV 4)) (aCons (eV 5) aNil)))) (sSeq (sExp (eMeth 3 .append (aCons (eV 6) aNil))) sNil)) sNil) sNil)) sNil)) (sSeq (sSet 2 (eV 3)) sNil)))) (sSeq (sRet (eV 1)) sNil)))
def b_21 : SV := (sSeq (sSet 1 (eComp [2, 3] (eV 3) (gTp [(gNm 2), (gNm 3)]) (iIt (eCall 20 [] (aCons (eV 0) aNil))) (tV (eBin .in_ (eV 2) (eAttr ct (eV 0) 2))))) (sSeq (sRet (eIte (tV (eBin .ne (eV 1) (eLst aNil))) (eBin .idx (eV 1) (eK (.int 0))) (eK .non))) sNil))
def b_22 : SV := (sSeq (sSet 2 (eLst (aCons (eBi .tuple (aCons (eComp [4] (eBi .int (aCons (eBin .in_ (eV 4) (eAttr ct (eV 0) 2)) aNil)) (gNm 4) (iR1 (eBi .len (aCons (eAttr ct (eV 0) 1) aNil))) tYesT) aNil)) aNil))) (sSeq (sFor (gNm 3) (iR1 (eV 1)) (sSeq (sExp (eMeth 2 .append (aCons (eBi .tuple (aCons (eComp [5] (eBi .sum (aCons (eComp [6] (eBin .idx (eBin .idx (eV 2) (eUn .neg (eK (.int 1)))) (eV 6)) (gNm 6) (iE (eV 5)) tYesT) aNil)) (gNm 5) (iE (eAttr ct (eV 0) 1)) tYesT) aNil)) aNil))) sNil)) (sSeq (sRet (eV 2)) sNil)))
def b_23 : SV := (sSeq (sRet (eBin .idx (eBin .idx (eCall 22 [] (aCons (eV 0) (aCons (eV 1) aNil))) (eUn .neg (eK (.int 1)))) (eK (.int 0)))) sNil)
def b_24 : SV := (sSeq (sSet 3 (eLst aNil)) (sSeq (sFor (gTp [(gNm 4), (gNm 5)]) (iE (eV 1)) (sSeq (sSet 6 (eComp [7, 8] (eTup (aCons (eV 7) (aCons (eV 8) aNil))) (gTp [(gNm 7), (gNm 8)]) (iN (eBin .idx (eAttr ct (eV 0) 1) (eV 5))) (tV (eBin .gt (eBin .idx (eV 2) (eV 8)) (eK (.int 0)))))) (sSeq (sExp (eMeth 3 .extend (aCons (eComp [7, 8] (eTup (aCons (eTup (aStar (eV 4) (aCons (eV 7) aNil))) (aCons (eV 8) aNil))) (gTp [(gNm 7), (gNm 8)]) (iE (eV 6)) tYesT) aNil))) sNil))) (sSeq (sRet (eV 3)) sNil)))
def b_25 : SV := (sSeq (sIf (tNotT (tV (eBi (.isi (.own 5)) (aCons (eV 0) aNil)))) (sSeq (sRse 1 aNil) sNil) sNil) sNil)
def b_26 : SV := (sSeq (sRet (eAnd (eBi (.isi .tuple) (aCons (eV 1) aNil)) (eAnd (eBin .le (eBi .len (aCons (eV 1) aNil)) (eK (.int 2000))) (eCall 4 [] (aCons (eV 1) (aCons (eK (.int 0)) (aCons (eBin .sub (eV 0) (eK (.int 1))) aNil))))))) sNil)
def b_27 : SV := (sSeq (sIf (tNotT (tV (eCall 26 [] (aCons (eV 0) (aCons (eV 1) aNil))))) (sSeq (sRse 2 aNil) sNil) sNil) sNil)
def b_28 : SV := (sSeq (sExp (eCall 25 [] (aCons (eV 0) aNil))) (sSeq (sExp (eCall 27 [] (aCons (eAttr ct (eV 0) 0) (aCons (eV 1) aNil)))) sNil))
def b_29 : SV := (sSeq (sExp (eCall 25 [] (aCons (eV 0) aNil))) (sSeq (sExp (eCall 7 [] (aCons (eV 1) (aCons (eK (.int 0)) (aCons (eK (.int 99)) aNil))))) sNil))
def b_30 : SV := (sSeq (sExp (eCall 28 [] (aCons (eV 0) (aCons (eV 1) aNil)))) (sSeq (sRet (eCall 19 [] (aCons (eV 0) (aCons (eV 1) aNil)))) sNil))
def b_31 : SV := (sSeq (sExp (eCall 25 [] (aCons (eV 0) aNil))) (sSeq (sRet (eCall 21 [] (aCons (eV 0) aNil))) sNil))
def b_32 : SV := (sSeq (sExp (eCall 29 [] (aCons (eV 0) (aCons (eV 1) aNil)))) (sSeq (sRet (eCall 23 [] (aCons (eV 0) (aCons (eV 1) aNil)))) sNil))
def b_33 : SV := (sSeq (sExp (eCall 29 [] (aCons (eV 0) (aCons (eV 1) aNil)))) (sSeq (sSet 2 (eCall 22 [] (aCons (eV 0) (aCons (eV 1) aNil)))) (sSeq (sIf (tV (eBin .gt (eBin .idx (eBin .idx (eV 2) (eUn .neg (eK (.int 1)))) (eK (.int 0))) (eK (.int 2000)))) (sSeq (sRse 4 (aCons (eK (.int 2000)) aNil)) sNil) sNil) (sSeq (sSet 3 (eIte (tV (eBin .gt (eBin .idx (eBin .idx (eV 2) (eUn .neg (eK (.int 1)))) (eK (.int 0))) (eK (.int 0)))) (eLst (aCons (eTup (aCons (eTup aNil) (aCons (eK (.int 0)) aNil))) aNil)) (eLst aNil))) (sSeq (sFor (gNm 4) (iR1 (eV 1)) (sSeq (sSet 3 (eCall 24 [] (aCons (eV 0) (aCons (eV 3) (aCons (eBin .idx (eV 2) (eBin .sub (eBin .sub (eV 1) (eV 4)) (eK (.int 1)))) aNil))))) sNil)) (sSeq (sRet (eBi .tuple (aCons (eComp [5, 6] (eV 5) (gTp [(gNm 5), (gNm 6)]) (iE (eV 3)) tYesT) aNil))) sNil))))))
def b_34 : SV := (sSeq (sSet 2 (eIte (tV (eBin .lt (eV 1) (eBi .len (aCons (eV 0) aNil)))) (eBi .int (aCons (eBin .idx (eV 0) (eV 1)) aNil)) (eBin .add (eBin .mul (eK (.int 431)) (eV 1)) (eK (.int 73))))) (sSeq (sSet 3 (eBin .mod (eBi .int (aCons (eBi .abs (aCons (eV 2) aNil)) aNil)) (eBin .pow (eBin .pow (eK (.int 10)) (eK (.int 56))) (eK (.int 6))))) (sSeq (sSet 4 (eBin .add (eBin .add (eBin .add (eBin .mul (eBin .mod (eBi .int (aCons (eV 3) aNil)) (eK (.int 2305843009213693723))) (eK (.int 79))) (eBin .mul (eK (.int 1009)) (eV 1))) (eBin .mul (eK (.int 53)) (eBi .int (aCons (eBin .lt (eV 2) (eK (.int 0))) aNil)))) (eK (.int 37)))) (sSeq (sRet (eLst (aCons (eBi .max2 (aCons (eK (.int 0)) (aCons (eBin .sub (eV 3) (eBin .pow (eK (.int 10)) (eK (.int 16)))) aNil))) (aCons (eV 4) (aCons (eK (.int 0)) aNil))))) sNil))))
def b_35 : SV := (sSeq (sIf (tV (eBin .gt (eBin .idx (eV 0) (eK (.int 0))) (eK (.int 0)))) (sSeq (sSet 2 (eBin .mod (eBi .int (aCons (eBin .idx (eV 0) (eK (.int 0))) aNil)) (eV 1))) (sSeq (sSetI 0 (eK (.int 0)) (eBin .fdiv (eBin .idx (eV 0) (eK (.int 0))) (eV 1))) (sSeq (sRet (eV 2)) sNil))) sNil) (sSeq (sSetI 0 (eK (.int 2)) (eBin .add (eBin .idx (eV 0) (eK (.int 2))) (eK (.int 1)))) (sSeq (sSet 3 (eBin .mod (eBi .int (aCons (eBin .add (eBin .idx (eV 0) (eK (.int 1))) (eBin .mul (eK (.int 49979693)) (eBin .idx (eV 0) (eK (.int 2))))) aNil)) (eK (.int 2305843009213693951)))) (sSeq (sSet 4 (eBin .add (eBin .mul (eBin .mod (eBi .int (aCons (eBin .add (eBin .mul (eV 3) (eV 3)) (eBin .mul (eK (.int 127)) (eBin .idx (eV 0) (eK (.int 2))))) aNil)) (eK (.int 2305843009213693921))) (eK (.int 32452847))) (eV 3))) (sSeq (sRet (eBin .mod (eBi .int (aCons (eBin .fdiv (eV 4) (eK (.int 65551))) aNil)) (eV 1))) sNil)))))
def b_36 : SV := (sSeq (sRet (eBin .idx (eV 1) (eCall 35 [] (aCons (eV 0) (aCons (eBi .len (aCons (eV 1) aNil)) aNil))))) sNil)
def b_37 : SV := (sSeq (sPar [1, 2, 3] (aCons (eLst (aCons (eK (.int 0)) aNil)) (aCons (eDic1 (eK (.int 0)) (eK (.bl true))) (aCons (eK (.int 0)) aNil)))) (sSeq (sWhile wf (tV (eBin .lt (eV 3) (eBi .len (aCons (eV 1) aNil)))) (sSeq (sFor (gNm 4) (iE (eBin .idx (eBin .idx (eV 0) (eK (.int 1))) (eBin .idx (eV 1) (eV 3)))) (sSeq (sIf (tV (eBin .notin (eV 4) (eV 2))) (sSeq (sSetI 2 (eV 4) (eK (.bl true))) (sSeq (sExp (eMeth 1 .append (aCons (eV 4) aNil))) sNil)) sNil) sNil)) (sSeq (sSet 3 (eBin .add (eV 3) (eK (.int 1)))) sNil))) (sSeq (sRet (eV 1)) sNil)))
def b_38 : SV := (sSeq (sPar [1, 2, 3] (aCons (eLst (aCons (eTup aNil) aNil)) (aCons (eDic1 (eK (.int 0)) (eK (.bl true))) (aCons (eK (.int 0)) aNil)))) (sSeq (sSet 4 (eLst (aCons (eK (.int 0)) aNil))) (sSeq (sWhile wf (tV (eBin .lt (eV 3) (eBi .len (aCons (eV 1) aNil)))) (sSeq (sIf (tV (eBin .in_ (eBin .idx (eV 4) (eV 3)) (eBin .idx (eV 0) (eK (.int 2))))) (sSeq (sRet (eBin .idx (eV 1) (eV 3))) sNil) sNil) (sSeq (sFor (gNm 5) (iR1 (eBin .idx (eV 0) (eK (.int 0)))) (sSeq (sSet 6 (eBin .idx (eBin .idx (eBin .idx (eV 0) (eK (.int 1))) (eBin .idx (eV 4) (eV 3))) (eV 5))) (sSeq (sIf (tV (eBin .notin (eV 6) (eV 2))) (sSeq (sSetI 2 (eV 6) (eK (.bl true))) (sSeq (sExp (eMeth 4 .append (aCons (eV 6) aNil))) (sSeq (sExp (eMeth 1 .append (aCons (eBin .add (eBin .idx (eV 1) (eV 3)) (eTup (aCons (eV 5) aNil))) aNil))) sNil))) sNil) sNil))) (sSeq (sSet 3 (eBin .add (eV 3) (eK (.int 1)))) sNil)))) (sSeq (sRet (eK .non)) sNil))))
def b_39 : SV := (sSeq (sSet 3 (eBin .add (eK (.int 1)) (eCall 35 [] (aCons (eV 0) (aCons (eV 2) aNil))))) (sSeq (sSet 4 (eComp [5] (eBi .tuple (aCons (eComp [6] (eCall 35 [] (aCons (eV 0) (aCons (eV 3) aNil))) (gNm 6) (iR1 (eV 1)) tYesT) aNil)) (gNm 5) (iR1 (eV 3)) tYesT)) (sSeq (sRet (eTup (aCons (eV 1) (aCons (eBi .tuple (aCons (eV 4) aNil)) (aCons (eBi .tuple (aCons (eComp [5] (eV 5) (gNm 5) (iR1 (eV 3)) (tV (eBin .eq (eCall 35 [] (aCons (eV 0) (aCons (eK (.int 2)) aNil))) (eK (.int 0))))) aNil)) aNil))))) sNil)))
def b_40 : SV := (sSeq (sSet 2 (eComp [4] (eBi .int (aCons (eBin .in_ (eV 4) (eBin .idx (eV 0) (eK (.int 2)))) aNil)) (gNm 4) (iR1 (eBi .len (aCons (eBin .idx (eV 0) (eK (.int 1))) aNil))) tYesT)) (sSeq (sFor (gNm 3) (iR1 (eV 1)) (sSeq (sSet 2 (eComp [5] (eBi .sum (aCons (eComp [6] (eBin .idx (eV 2) (eV 6)) (gNm 6) (iE (eV 5)) tYesT) aNil)) (gNm 5) (iE (eBin .idx (eV 0) (eK (.int 1)))) tYesT)) sNil)) (sSeq (sRet (eBin .idx (eV 2) (eK (.int 0)))) sNil)))
def b_41 : SV := (sSeq (sSet 2 (eLst (aCons (eTup (aCons (eTup aNil) (aCons (eK (.int 0)) aNil))) aNil))) (sSeq (sFor (gNm 3) (iR1 (eV 1)) (sSeq (sSet 4 (eLst aNil)) (sSeq (sFor (gTp [(gNm 5), (gNm 6)]) (iE (eV 2)) (sSeq (sExp (eMeth 4 .extend (aCons (eComp [7, 8] (eTup (aCons (eBin .add (eV 5) (eTup (aCons (eV 7) aNil))) (aCons (eV 8) aNil))) (gTp [(gNm 7), (gNm 8)]) (iN (eBin .idx (eBin .idx (eV 0) (eK (.int 1))) (eV 6))) tYesT) aNil))) sNil)) (sSeq (sSet 2 (eV 4)) sNil)))) (sSeq (sRet (eBi .tuple (aCons (eComp [5, 6] (eV 5) (gTp [(gNm 5), (gNm 6)]) (iE (eV 2)) (tV (eBin .in_ (eV 6) (eBin .idx (eV 0) (eK (.int 2)))))) aNil))) sNil)))
def b_42 : SV := (sSeq (sTry (sSeq (sRet (eCall 33 [] (aCons (eV 0) (aCons (eV 1) aNil)))) sNil) [⟨[(1, false), (2, false), (3, false), (4, true)], (some 2), (hT [(hK (.str (PySem.Str.ofString "many"))), hF])⟩]) sNil)
def b_43 : SV := (sSeq (sSet 1 (eCall 39 [] (aCons (eV 0) (aCons (eBin .add (eK (.int 1)) (eCall 35 [] (aCons (eV 0) (aCons (eK (.int 4)) aNil)))) (aCons (eCall 36 [] (aCons (eV 0) (aCons (eLst (aCons (eK (.int 1)) (aCons (eK (.int 4)) (aCons (eK (.int 8)) aNil)))) aNil))) aNil))))) (sSeq (sIf (tV (eBin .eq (eCall 35 [] (aCons (eV 0) (aCons (eK (.int 4)) aNil))) (eK (.int 0)))) (sSeq (sSet 1 (eBin .add (eSlice (eV 1) pN (pI (eK (.int 2)))) (eTup (aCons (eSlice (eBin .idx (eV 1) (eK (.int 2))) (pI (eUn .neg (eK (.int 1)))) pN) aNil)))) sNil) sNil) (sSeq (sPar [2, 3] (aCons (eMake ct 5 (aCons (eBin .idx (eV 1) (eK (.int 0))) (aCons (eBin .idx (eV 1) (eK (.int 1))) (aCons (eBin .idx (eV 1) (eK (.int 2))) aNil)))) (aCons (eCall 38 [] (aCons (eV 1) aNil)) aNil))) (sSeq (sIf (tOrT (tV (eBin .ne (eCall 31 [] (aCons (eV 2) aNil)) (eV 3))) (tAndT (tV (eBin .isnot (eV 3) (eK .non))) (tOrT (tNotT (tV (eCall 30 [] (aCons (eV 2) (aCons (eV 3) aNil))))) (tV (eBin .ge (eBi .len (aCons (eV 3) aNil)) (eBi .len (aCons (eCall 37 [] (aCons (eV 1) aNil)) aNil))))))) (sSeq (sRet (eK (.bl false))) sNil) sNil) (sSeq (sFor (gNm 4) (iE (eTup (aCons (eK (.int 0)) (aCons (eK (.int 1)) (aCons (eK (.int 2)) (aCons (eK (.int 3)) (aCons (eK (.int 4)) (aCons (eK (.int 5)) (aCons (eK (.int 6)) (aCons (eK (.int 98)) (aCons (eK (.int 99)) (aCons (eCall 35 [] (aCons (eV 0) (aCons (eK (.int 100)) aNil))) aNil)))))))))))) (sSeq (sSet 5 (eCall 40 [] (aCons (eV 1) (aCons (eV 4) aNil)))) (sSeq (sIf (tV (eBin .ne (eCall 32 [] (aCons (eV 2) (aCons (eV 4) aNil))) (eV 5))) (sSeq (sRet (eK (.bl false))) sNil) sNil) (sSeq (sSet 3 (eIte (tAndT (tV (eBin .lt (eV 4) (eK (.int 7)))) (tV (eBin .le (eV 5) (eK (.int 2000))))) (eCall 41 [] (aCons (eV 1) (aCons (eV 4) aNil))) (eTup (aCons (eK (.str (PySem.Str.ofString "many"))) (aCons (eK (.int 2000)) aNil))))) (sSeq (sIf (tAndT (tV (eBin .lt (eV 4) (eK (.int 7)))) (tV (eBin .ne (eCall 42 [] (aCons (eV 2) (aCons (eV 4) aNil))) (eV 3)))) (sSeq (sRet (eK (.bl false))) sNil) sNil) sNil))))) (sSeq (sRet (eK (.bl true))) sNil))))))
def b_44 : SV := (sSeq (sFor (gNm 1) (iR1 (eBi .max2 (aCons (eK (.int 1)) (aCons (eBi .min2 (aCons (eK (.int 3)) (aCons (eBi .len (aCons (eV 0) aNil)) aNil))) aNil)))) (sSeq (sSet 2 (eCall 34 [] (aCons (eV 0) (aCons (eV 1) aNil)))) (sSeq (sFor (gNm 3) (iR1 (eK (.int 3))) (sSeq (sIf (tNotT (tV (eCall 43 [] (aCons (eV 2) aNil)))) (sSeq (sRet (eK (.bl false))) sNil) sNil) sNil)) sNil))) (sSeq (sSet 4 (eMake ct 5 (aCons (eK (.int 2)) (aCons (eTup (aCons (eTup (aCons (eK (.int 1)) (aCons (eK (.int 2)) aNil))) (aCons (eTup (aCons (eK (.int 1)) (aCons (eK (.int 3)) aNil))) (aCons (eTup (aCons (eK (.int 3)) (aCons (eK (.int 3)) aNil))) (aCons (eTup (aCons (eK (.int 4)) (aCons (eK (.int 4)) aNil))) (aCons (eTup (aCons (eK (.int 4)) (aCons (eK (.int 4)) aNil))) aNil)))))) (aCons (eTup (aCons (eK (.int 2)) (aCons (eK (.int 3)) aNil))) aNil))))) (sSeq (sIf (tOrT (tV (eBin .ne (eCall 31 [] (aCons (eV 4) aNil)) (eTup (aCons (eK (.int 1)) aNil)))) (tOrT (tV (eBin .ne (eCall 33 [] (aCons (eV 4) (aCons (eK (.int 2)) aNil))) (eTup (aCons (eTup (aCons (eK (.int 0)) (aCons (eK (.int 1)) aNil))) (aCons (eTup (aCons (eK (.int 1)) (aCons (eK (.int 0)) aNil))) (aCons (eTup (aCons (eK (.int 1)) (aCons (eK (.int 1)) aNil))) aNil)))))) (tV (eBin .ne (eCall 33 [] (aCons (eV 4) (aCons (eK (.int 0)) aNil))) (eTup aNil))))) (sSeq (sRet (eK (.bl false))) sNil) sNil) (sSeq (sPar [5, 6] (aCons (eMake ct 5 (aCons (eK (.int 2)) (aCons (eTup (aCons (eTup (aCons (eK (.int 0)) (aCons (eK (.int 0)) aNil))) aNil)) (aCons (eTup (aCons (eK (.int 0)) aNil)) aNil)))) (aCons (eMake ct 5 (aCons (eK (.int 3)) (aCons (eTup (aCons (eTup (aCons (eK (.int 0)) (aCons (eK (.int 0)) (aCons (eK (.int 0)) aNil)))) aNil)) (aCons (eTup aNil) aNil)))) aNil))) (sSeq (sSet 7 (eLst (aCons (eCall 31 [] (aCons (eV 5) aNil)) (aCons (eCall 31 [] (aCons (eV 6) aNil)) (aCons (eBin .eq (eCall 32 [] (aCons (eV 5) (aCons (eK (.int 99)) aNil))) (eShl (eK (.int 1)) (eK (.int 99)))) (aCons (eCall 32 [] (aCons (eV 6) (aCons (eK (.int 99)) aNil))) aNil)))))) (sSeq (sExp (eMeth 7 .append (aCons (eCall 33 [] (aCons (eV 6) (aCons (eK (.int 5)) aNil))) aNil))) (sSeq (sIf (tOrT (tV (eBin .ne (eV 7) (eLst (aCons (eTup aNil) (aCons (eK .non) (aCons (eK (.bl true)) (aCons (eK (.int 0)) (aCons (eTup aNil) aNil)))))))) (tOrT (tV (eBin .ne (eBi .len (aCons (eCall 33 [] (aCons (eV 5) (aCons (eK (.int 10)) aNil))) aNil)) (eK (.int 1024)))) (tV (eBin .ne (eCall 42 [] (aCons (eV 5) (aCons (eK (.int 11)) aNil))) (eTup (aCons (eK (.str (PySem.Str.ofString "many"))) (aCons (eK (.int 2000)) aNil))))))) (sSeq (sRet (eK (.bl false))) sNil) sNil) (sSeq (sSet 8 (eMake ct 5 (aCons (eK (.int 1)) (aCons (eBi .tuple (aCons (eComp [10] (eTup (aCons (eBi .min2 (aCons (eBin .add (eV 10) (eK (.int 1))) (aCons (eK (.int 99)) aNil))) aNil)) (gNm 10) (iR1 (eK (.int 100))) tYesT) aNil)) (aCons (eTup (aCons (eK (.int 99)) aNil)) aNil))))) (sSeq (sSet 7 (eComp [9] (eCall 32 [] (aCons (eV 8) (aCons (eV 9) aNil))) (gNm 9) (iE (eTup (aCons (eK (.int 98)) (aCons (eK (.int 99)) aNil)))) tYesT)) (sSeq (sRet (eAnd (eBin .eq (eV 7) (eLst (aCons (eK (.int 0)) (aCons (eK (.int 1)) aNil)))) (eAnd (eBin .eq (eCall 31 [] (aCons (eV 8) aNil)) (eBin .mul (eTup (aCons (eK (.int 0)) aNil)) (eK (.int 99)))) (eBin .eq (eCall 33 [] (aCons (eV 8) (aCons (eK (.int 99)) aNil))) (eTup (aCons (eBin .mul (eTup (aCons (eK (.int 0)) aNil)) (eK (.int 99))) aNil)))))) sNil))))))))))
def prog : List FD := [⟨0, 0, sBad⟩,
  ⟨0, 0, sBad⟩,
  ⟨1, 1, b_2⟩,
  ⟨3, 3, b_3⟩,
  ⟨3, 4, b_4⟩,
  ⟨1, 3, b_5⟩,
  ⟨2, 2, b_6⟩,
  ⟨3, 3, b_7⟩,
  ⟨3, 5, b_8⟩,
  ⟨4, 4, b_9⟩,
  ⟨0, 0, sBad⟩,
  ⟨0, 0, sBad⟩,
  ⟨0, 0, sBad⟩,
  ⟨0, 0, sBad⟩,
  ⟨0, 0, sBad⟩,
  ⟨0, 0, sBad⟩,
  ⟨0, 0, sBad⟩,
  ⟨0, 0, sBad⟩,
  ⟨3, 4, b_18⟩,
  ⟨2, 2, b_19⟩,
  ⟨1, 7, b_20⟩,
  ⟨1, 4, b_21⟩,
  ⟨2, 7, b_22⟩,
  ⟨2, 2, b_23⟩,
  ⟨3, 9, b_24⟩,
  ⟨1, 1, b_25⟩,
  ⟨2, 2, b_26⟩,
  ⟨2, 2, b_27⟩,
  ⟨2, 2, b_28⟩,
  ⟨2, 2, b_29⟩,
  ⟨2, 2, b_30⟩,
  ⟨1, 1, b_31⟩,
  ⟨2, 2, b_32⟩,
  ⟨2, 7, b_33⟩,
  ⟨2, 5, b_34⟩,
  ⟨2, 5, b_35⟩,
  ⟨2, 2, b_36⟩,
  ⟨1, 5, b_37⟩,
  ⟨1, 7, b_38⟩,
  ⟨3, 7, b_39⟩,
  ⟨2, 7, b_40⟩,
  ⟨2, 9, b_41⟩,
  ⟨2, 3, b_42⟩,
  ⟨1, 6, b_43⟩,
  ⟨1, 11, b_44⟩]
abbrev st_2 : Stmt := topS 7
theorem sc_2 : FnScope ["value"] ["value"] (defScope st_2) := ⟨rfl, rfl, rfl, by decide +kernel, rfl, by decide +kernel, by decide +kernel⟩
abbrev st_3 : Stmt := topS 8
theorem sc_3 : FnScope ["value", "least", "most"] ["value", "least", "most"] (defScope st_3) := ⟨rfl, rfl, rfl, by decide +kernel, rfl, by decide +kernel, by decide +kernel⟩
abbrev st_4 : Stmt := topS 9
theorem sc_4 : FnScope ["value", "least", "most", "one"] ["value", "least", "most"] (defScope st_4) := ⟨rfl, rfl, rfl, by decide +kernel, rfl, by decide +kernel, by decide +kernel⟩
abbrev st_5 : Stmt := topS 10
theorem sc_5 : FnScope ["value", "one", "other"] ["value"] (defScope st_5) := ⟨rfl, rfl, rfl, by decide +kernel, rfl, by decide +kernel, by decide +kernel⟩
abbrev st_6 : Stmt := topS 11
theorem sc_6 : FnScope ["value", "size"] ["value", "size"] (defScope st_6) := ⟨rfl, rfl, rfl, by decide +kernel, rfl, by decide +kernel, by decide +kernel⟩
abbrev st_7 : Stmt := topS 12
theorem sc_7 : FnScope ["value", "least", "most"] ["value", "least", "most"] (defScope st_7) := ⟨rfl, rfl, rfl, by decide +kernel, rfl, by decide +kernel, by decide +kernel⟩
abbrev st_8 : Stmt := topS 19
theorem sc_8 : FnScope ["letters", "steps", "accepting", "state", "row"] ["letters", "steps", "accepting"] (defScope st_8) := ⟨rfl, rfl, rfl, by decide +kernel, rfl, by decide +kernel, by decide +kernel⟩
abbrev st_9 : Stmt := inClass (topS 20) 1
theorem sc_9 : FnScope ["self", "letters", "steps", "accepting"] ["self", "letters", "steps", "accepting"] (defScope st_9) := ⟨rfl, rfl, rfl, by decide +kernel, rfl, by decide +kernel, by decide +kernel⟩
abbrev st_18 : Stmt := topS 21
theorem sc_18 : FnScope ["reader", "word", "state", "letter"] ["reader", "word", "state"] (defScope st_18) := ⟨rfl, rfl, rfl, by decide +kernel, rfl, by decide +kernel, by decide +kernel⟩
abbrev st_19 : Stmt := topS 22
theorem sc_19 : FnScope ["reader", "word"] ["reader", "word"] (defScope st_19) := ⟨rfl, rfl, rfl, by decide +kernel, rfl, by decide +kernel, by decide +kernel⟩
abbrev st_20 : Stmt := topS 23
theorem sc_20 : FnScope ["reader", "found", "waiting", "later", "state", "letter", "there"] ["reader"] (defScope st_20) := ⟨rfl, rfl, rfl, by decide +kernel, rfl, by decide +kernel, by decide +kernel⟩
abbrev st_21 : Stmt := topS 24
theorem sc_21 : FnScope ["reader", "some", "state", "word"] ["reader"] (defScope st_21) := ⟨rfl, rfl, rfl, by decide +kernel, rfl, by decide +kernel, by decide +kernel⟩
abbrev st_22 : Stmt := topS 25
theorem sc_22 : FnScope ["reader", "length", "found", "turn", "state", "row", "there"] ["reader", "length"] (defScope st_22) := ⟨rfl, rfl, rfl, by decide +kernel, rfl, by decide +kernel, by decide +kernel⟩
abbrev st_23 : Stmt := topS 26
theorem sc_23 : FnScope ["reader", "length"] ["reader", "length"] (defScope st_23) := ⟨rfl, rfl, rfl, by decide +kernel, rfl, by decide +kernel, by decide +kernel⟩
abbrev st_24 : Stmt := topS 27
theorem sc_24 : FnScope ["reader", "pairs", "counts", "found", "word", "state", "some", "letter", "there"] ["reader", "pairs", "counts"] (defScope st_24) := ⟨rfl, rfl, rfl, by decide +kernel, rfl, by decide +kernel, by decide +kernel⟩
abbrev st_25 : Stmt := topS 28
theorem sc_25 : FnScope ["value"] ["value"] (defScope st_25) := ⟨rfl, rfl, rfl, by decide +kernel, rfl, by decide +kernel, by decide +kernel⟩
abbrev st_26 : Stmt := topS 29
theorem sc_26 : FnScope ["letters", "value"] ["letters", "value"] (defScope st_26) := ⟨rfl, rfl, rfl, by decide +kernel, rfl, by decide +kernel, by decide +kernel⟩
abbrev st_27 : Stmt := topS 30
theorem sc_27 : FnScope ["letters", "value"] ["letters", "value"] (defScope st_27) := ⟨rfl, rfl, rfl, by decide +kernel, rfl, by decide +kernel, by decide +kernel⟩
abbrev st_28 : Stmt := topS 31
theorem sc_28 : FnScope ["reader", "word"] ["reader", "word"] (defScope st_28) := ⟨rfl, rfl, rfl, by decide +kernel, rfl, by decide +kernel, by decide +kernel⟩
abbrev st_29 : Stmt := topS 32
theorem sc_29 : FnScope ["reader", "length"] ["reader", "length"] (defScope st_29) := ⟨rfl, rfl, rfl, by decide +kernel, rfl, by decide +kernel, by decide +kernel⟩
abbrev st_30 : Stmt := topS 33
theorem sc_30 : FnScope ["reader", "word"] ["reader", "word"] (defScope st_30) := ⟨rfl, rfl, rfl, by decide +kernel, rfl, by decide +kernel, by decide +kernel⟩
abbrev st_31 : Stmt := topS 34
theorem sc_31 : FnScope ["reader"] ["reader"] (defScope st_31) := ⟨rfl, rfl, rfl, by decide +kernel, rfl, by decide +kernel, by decide +kernel⟩
abbrev st_32 : Stmt := topS 35
theorem sc_32 : FnScope ["reader", "length"] ["reader", "length"] (defScope st_32) := ⟨rfl, rfl, rfl, by decide +kernel, rfl, by decide +kernel, by decide +kernel⟩
abbrev st_33 : Stmt := topS 36
theorem sc_33 : FnScope ["reader", "length", "counts", "found", "turn", "word", "state"] ["reader", "length"] (defScope st_33) := ⟨rfl, rfl, rfl, by decide +kernel, rfl, by decide +kernel, by decide +kernel⟩
abbrev st_34 : Stmt := topS 38
theorem sc_34 : FnScope ["script", "spot", "cell", "great", "mixed"] ["script", "spot"] (defScope st_34) := ⟨rfl, rfl, rfl, by decide +kernel, rfl, by decide +kernel, by decide +kernel⟩
abbrev st_35 : Stmt := topS 39
theorem sc_35 : FnScope ["bag", "total", "found", "one", "two"] ["bag", "total"] (defScope st_35) := ⟨rfl, rfl, rfl, by decide +kernel, rfl, by decide +kernel, by decide +kernel⟩
abbrev st_36 : Stmt := topS 40
theorem sc_36 : FnScope ["bag", "items"] ["bag", "items"] (defScope st_36) := ⟨rfl, rfl, rfl, by decide +kernel, rfl, by decide +kernel, by decide +kernel⟩
abbrev st_37 : Stmt := topS 41
theorem sc_37 : FnScope ["reader", "found", "known", "at", "state"] ["reader"] (defScope st_37) := ⟨rfl, rfl, rfl, by decide +kernel, rfl, by decide +kernel, by decide +kernel⟩
abbrev st_38 : Stmt := topS 42
theorem sc_38 : FnScope ["reader", "kept", "known", "at", "states", "letter", "state"] ["reader"] (defScope st_38) := ⟨rfl, rfl, rfl, by decide +kernel, rfl, by decide +kernel, by decide +kernel⟩
abbrev st_39 : Stmt := topS 43
theorem sc_39 : FnScope ["bag", "letters", "most", "many", "steps", "state", "letter"] ["bag", "letters", "most"] (defScope st_39) := ⟨rfl, rfl, rfl, by decide +kernel, rfl, by decide +kernel, by decide +kernel⟩
abbrev st_40 : Stmt := topS 44
theorem sc_40 : FnScope ["reader", "length", "ways", "turn", "state", "row", "other"] ["reader", "length"] (defScope st_40) := ⟨rfl, rfl, rfl, by decide +kernel, rfl, by decide +kernel, by decide +kernel⟩
abbrev st_41 : Stmt := topS 45
theorem sc_41 : FnScope ["reader", "length", "found", "turn", "longer", "word", "state", "letter", "other"] ["reader", "length"] (defScope st_41) := ⟨rfl, rfl, rfl, by decide +kernel, rfl, by decide +kernel, by decide +kernel⟩
abbrev st_42 : Stmt := topS 46
theorem sc_42 : FnScope ["real", "length", "error"] ["real", "length"] (defScope st_42) := ⟨rfl, rfl, rfl, by decide +kernel, rfl, by decide +kernel, by decide +kernel⟩
abbrev st_43 : Stmt := topS 47
theorem sc_43 : FnScope ["bag", "plain", "real", "due", "length", "many"] ["bag"] (defScope st_43) := ⟨rfl, rfl, rfl, by decide +kernel, rfl, by decide +kernel, by decide +kernel⟩
abbrev st_44 : Stmt := topS 48
theorem sc_44 : FnScope ["script", "spot", "bag", "turn", "fork", "whole", "none", "told", "line", "length", "at"] ["script"] (defScope st_44) := ⟨rfl, rfl, rfl, by decide +kernel, rfl, by decide +kernel, by decide +kernel⟩
abbrev st_0 : Stmt := inClass (topS 4) 0
theorem sut_3 : SupT st_0 "given" := ⟨⟨_, _, _, _, _, _, _, _, _, _, _, _, rfl, fun q L a cc cd => ⟨_, rfl⟩⟩, rfl, rfl, rfl, rfl, rfl, by decide +kernel, rfl, rfl, ⟨_, rfl, rfl⟩, fun _ _ _ _ _ _ _ _ _ _ => rfl, by decide, rfl⟩
abbrev st_1 : Stmt := inClass (topS 5) 0
theorem sut_4 : SupT st_1 "limit" := ⟨⟨_, _, _, _, _, _, _, _, _, _, _, _, rfl, fun q L a cc cd => ⟨_, rfl⟩⟩, rfl, rfl, rfl, rfl, rfl, by decide +kernel, rfl, rfl, ⟨_, rfl, rfl⟩, fun _ _ _ _ _ _ _ _ _ _ => rfl, by decide, rfl⟩
structure Ad where
  f : Nat → Addr
  c : Nat → Addr
  fdd : Nat → FuncData
def lk (K : PySem.W.Frag) (A : Ad) : Lk := ⟨K, A.c, A.c, fun c => c == 5, fun c => match c with | 3 => "given" | 4 => "limit" | _ => ""⟩
structure Ev0 (P : Program) (w : World) (K : PySem.W.Frag) (mg : Str → Option Value) (A : Ad) : Prop where
  D_2 : FunD K "is_whole" "is_whole" (defArgs st_2) (defBody st_2) (defScope st_2) [] [] (A.f 2) (A.fdd 2)
  b_2 : Binds K (A.fdd 2) ["value"] []
  g_2 : mg "is_whole" = some (.ref (A.f 2))
  D_3 : FunD K "is_from" "is_from" (defArgs st_3) (defBody st_3) (defScope st_3) [] [] (A.f 3) (A.fdd 3)
  b_3 : Binds K (A.fdd 3) ["value", "least", "most"] []
  g_3 : mg "is_from" = some (.ref (A.f 3))
  D_4 : FunD K "are_from" "are_from" (defArgs st_4) (defBody st_4) (defScope st_4) [] [] (A.f 4) (A.fdd 4)
  b_4 : Binds K (A.fdd 4) ["value", "least", "most"] []
  g_4 : mg "are_from" = some (.ref (A.f 4))
  D_5 : FunD K "is_ascending" "is_ascending" (defArgs st_5) (defBody st_5) (defScope st_5) [] [] (A.f 5) (A.fdd 5)
  b_5 : Binds K (A.fdd 5) ["value"] []
  g_5 : mg "is_ascending" = some (.ref (A.f 5))
  D_6 : FunD K "are_indices" "are_indices" (defArgs st_6) (defBody st_6) (defScope st_6) [] [] (A.f 6) (A.fdd 6)
  b_6 : Binds K (A.fdd 6) ["value", "size"] []
  g_6 : mg "are_indices" = some (.ref (A.f 6))
  D_7 : FunD K "require_from" "require_from" (defArgs st_7) (defBody st_7) (defScope st_7) [] [] (A.f 7) (A.fdd 7)
  b_7 : Binds K (A.fdd 7) ["value", "least", "most"] []
  g_7 : mg "require_from" = some (.ref (A.f 7))
  D_8 : FunD K "fault_in" "fault_in" (defArgs st_8) (defBody st_8) (defScope st_8) [] [] (A.f 8) (A.fdd 8)
  b_8 : Binds K (A.fdd 8) ["letters", "steps", "accepting"] []
  g_8 : mg "fault_in" = some (.ref (A.f 8))
  D_9 : FunD K "__init__" "Reader.__init__" (defArgs st_9) (defBody st_9) (defScope st_9) [] [] (A.f 9) (A.fdd 9)
  b_9 : Binds K (A.fdd 9) ["self", "letters", "steps", "accepting"] []
  D_18 : FunD K "state_in" "state_in" (defArgs st_18) (defBody st_18) (defScope st_18) [.int 0] [] (A.f 18) (A.fdd 18)
  b_18 : Binds K (A.fdd 18) ["reader", "word", "state"] []
  d_18 : ∃ ds, Vals [.int 0] ds ∧ Binds K (A.fdd 18) ["reader", "word", "state"] ds
  g_18 : mg "state_in" = some (.ref (A.f 18))
  D_19 : FunD K "takes_in" "takes_in" (defArgs st_19) (defBody st_19) (defScope st_19) [] [] (A.f 19) (A.fdd 19)
  b_19 : Binds K (A.fdd 19) ["reader", "word"] []
  g_19 : mg "takes_in" = some (.ref (A.f 19))
  D_20 : FunD K "first_words_in" "first_words_in" (defArgs st_20) (defBody st_20) (defScope st_20) [] [] (A.f 20) (A.fdd 20)
  b_20 : Binds K (A.fdd 20) ["reader"] []
  g_20 : mg "first_words_in" = some (.ref (A.f 20))
  D_21 : FunD K "first_in" "first_in" (defArgs st_21) (defBody st_21) (defScope st_21) [] [] (A.f 21) (A.fdd 21)
  b_21 : Binds K (A.fdd 21) ["reader"] []
  g_21 : mg "first_in" = some (.ref (A.f 21))
  D_22 : FunD K "counts_by_length" "counts_by_length" (defArgs st_22) (defBody st_22) (defScope st_22) [] [] (A.f 22) (A.fdd 22)
  b_22 : Binds K (A.fdd 22) ["reader", "length"] []
  g_22 : mg "counts_by_length" = some (.ref (A.f 22))
  D_23 : FunD K "count_in" "count_in" (defArgs st_23) (defBody st_23) (defScope st_23) [] [] (A.f 23) (A.fdd 23)
  b_23 : Binds K (A.fdd 23) ["reader", "length"] []
  g_23 : mg "count_in" = some (.ref (A.f 23))
  D_24 : FunD K "longer_words" "longer_words" (defArgs st_24) (defBody st_24) (defScope st_24) [] [] (A.f 24) (A.fdd 24)
  b_24 : Binds K (A.fdd 24) ["reader", "pairs", "counts"] []
  g_24 : mg "longer_words" = some (.ref (A.f 24))
  D_25 : FunD K "require_reader" "require_reader" (defArgs st_25) (defBody st_25) (defScope st_25) [] [] (A.f 25) (A.fdd 25)
  b_25 : Binds K (A.fdd 25) ["value"] []
  g_25 : mg "require_reader" = some (.ref (A.f 25))
  D_26 : FunD K "is_word_in" "is_word_in" (defArgs st_26) (defBody st_26) (defScope st_26) [] [] (A.f 26) (A.fdd 26)
  b_26 : Binds K (A.fdd 26) ["letters", "value"] []
  g_26 : mg "is_word_in" = some (.ref (A.f 26))
  D_27 : FunD K "require_word" "require_word" (defArgs st_27) (defBody st_27) (defScope st_27) [] [] (A.f 27) (A.fdd 27)
  b_27 : Binds K (A.fdd 27) ["letters", "value"] []
  g_27 : mg "require_word" = some (.ref (A.f 27))
  D_28 : FunD K "require_reader_and_word" "require_reader_and_word" (defArgs st_28) (defBody st_28) (defScope st_28) [] [] (A.f 28) (A.fdd 28)
  b_28 : Binds K (A.fdd 28) ["reader", "word"] []
  g_28 : mg "require_reader_and_word" = some (.ref (A.f 28))
  D_29 : FunD K "require_reader_and_length" "require_reader_and_length" (defArgs st_29) (defBody st_29) (defScope st_29) [] [] (A.f 29) (A.fdd 29)
  b_29 : Binds K (A.fdd 29) ["reader", "length"] []
  g_29 : mg "require_reader_and_length" = some (.ref (A.f 29))
  D_30 : FunD K "takes" "takes" (defArgs st_30) (defBody st_30) (defScope st_30) [] [] (A.f 30) (A.fdd 30)
  b_30 : Binds K (A.fdd 30) ["reader", "word"] []
  g_30 : mg "takes" = some (.ref (A.f 30))
  D_31 : FunD K "first_word" "first_word" (defArgs st_31) (defBody st_31) (defScope st_31) [] [] (A.f 31) (A.fdd 31)
  b_31 : Binds K (A.fdd 31) ["reader"] []
  g_31 : mg "first_word" = some (.ref (A.f 31))
  D_32 : FunD K "word_count" "word_count" (defArgs st_32) (defBody st_32) (defScope st_32) [] [] (A.f 32) (A.fdd 32)
  b_32 : Binds K (A.fdd 32) ["reader", "length"] []
  g_32 : mg "word_count" = some (.ref (A.f 32))
  D_33 : FunD K "words" "words" (defArgs st_33) (defBody st_33) (defScope st_33) [] [] (A.f 33) (A.fdd 33)
  b_33 : Binds K (A.fdd 33) ["reader", "length"] []
  g_33 : mg "words" = some (.ref (A.f 33))
  D_34 : FunD K "_law_bag" "_law_bag" (defArgs st_34) (defBody st_34) (defScope st_34) [] [] (A.f 34) (A.fdd 34)
  b_34 : Binds K (A.fdd 34) ["script", "spot"] []
  g_34 : mg "_law_bag" = some (.ref (A.f 34))
  D_35 : FunD K "_law_pick" "_law_pick" (defArgs st_35) (defBody st_35) (defScope st_35) [] [] (A.f 35) (A.fdd 35)
  b_35 : Binds K (A.fdd 35) ["bag", "total"] []
  g_35 : mg "_law_pick" = some (.ref (A.f 35))
  D_36 : FunD K "_law_one_of" "_law_one_of" (defArgs st_36) (defBody st_36) (defScope st_36) [] [] (A.f 36) (A.fdd 36)
  b_36 : Binds K (A.fdd 36) ["bag", "items"] []
  g_36 : mg "_law_one_of" = some (.ref (A.f 36))
  D_37 : FunD K "_law_re_met" "_law_re_met" (defArgs st_37) (defBody st_37) (defScope st_37) [] [] (A.f 37) (A.fdd 37)
  b_37 : Binds K (A.fdd 37) ["reader"] []
  g_37 : mg "_law_re_met" = some (.ref (A.f 37))
  D_38 : FunD K "_law_re_first" "_law_re_first" (defArgs st_38) (defBody st_38) (defScope st_38) [] [] (A.f 38) (A.fdd 38)
  b_38 : Binds K (A.fdd 38) ["reader"] []
  g_38 : mg "_law_re_first" = some (.ref (A.f 38))
  D_39 : FunD K "_law_re_drawn" "_law_re_drawn" (defArgs st_39) (defBody st_39) (defScope st_39) [] [] (A.f 39) (A.fdd 39)
  b_39 : Binds K (A.fdd 39) ["bag", "letters", "most"] []
  g_39 : mg "_law_re_drawn" = some (.ref (A.f 39))
  D_40 : FunD K "_law_counted" "_law_counted" (defArgs st_40) (defBody st_40) (defScope st_40) [] [] (A.f 40) (A.fdd 40)
  b_40 : Binds K (A.fdd 40) ["reader", "length"] []
  g_40 : mg "_law_counted" = some (.ref (A.f 40))
  D_41 : FunD K "_law_listed" "_law_listed" (defArgs st_41) (defBody st_41) (defScope st_41) [] [] (A.f 41) (A.fdd 41)
  b_41 : Binds K (A.fdd 41) ["reader", "length"] []
  g_41 : mg "_law_listed" = some (.ref (A.f 41))
  D_42 : FunD K "_law_met_words" "_law_met_words" (defArgs st_42) (defBody st_42) (defScope st_42) [] [] (A.f 42) (A.fdd 42)
  b_42 : Binds K (A.fdd 42) ["real", "length"] []
  g_42 : mg "_law_met_words" = some (.ref (A.f 42))
  D_43 : FunD K "_law_right" "_law_right" (defArgs st_43) (defBody st_43) (defScope st_43) [] [] (A.f 43) (A.fdd 43)
  b_43 : Binds K (A.fdd 43) ["bag"] []
  g_43 : mg "_law_right" = some (.ref (A.f 43))
  D_44 : FunD K "law" "law" (defArgs st_44) (defBody st_44) (defScope st_44) [] [] (A.f 44) (A.fdd 44)
  b_44 : Binds K (A.fdd 44) ["script"] []
  g_44 : mg "law" = some (.ref (A.f 44))
  at_own_accepting : ∀ c, (lk K A).sl c = true → match attrOf ct c 2 with | some (.fld j) => SlX.SCls (lk K A).K ((lk K A).ca c) ∧ ∃ p, SlX.Slot1 (lk K A).K ((lk K A).ca c) "own_accepting" p j | some (.prop _) => False | none => True
  at_own_letters : ∀ c, (lk K A).sl c = true → match attrOf ct c 0 with | some (.fld j) => SlX.SCls (lk K A).K ((lk K A).ca c) ∧ ∃ p, SlX.Slot1 (lk K A).K ((lk K A).ca c) "own_letters" p j | some (.prop _) => False | none => True
  at_own_steps : ∀ c, (lk K A).sl c = true → match attrOf ct c 1 with | some (.fld j) => SlX.SCls (lk K A).K ((lk K A).ca c) ∧ ∃ p, SlX.Slot1 (lk K A).K ((lk K A).ca c) "own_steps" p j | some (.prop _) => False | none => True
  k_MOST_LENGTH : ∃ t, mg "MOST_LENGTH" = some (.int 99 t)
  k_MOST_LETTERS : ∃ t, mg "MOST_LETTERS" = some (.int 64 t)
  k_MOST_STATES : ∃ t, mg "MOST_STATES" = some (.int 512 t)
  k_MOST_WORD : ∃ t, mg "MOST_WORD" = some (.int 2000 t)
  k_MOST_WORDS : ∃ t, mg "MOST_WORDS" = some (.int 2000 t)
  z_abs : mg "abs" = none
  z_all : mg "all" = none
  z_bool : mg "bool" = none
  z_enumerate : mg "enumerate" = none
  z_int : mg "int" = none
  z_isinstance : mg "isinstance" = none
  z_len : mg "len" = none
  z_max : mg "max" = none
  z_min : mg "min" = none
  z_range : mg "range" = none
  z_sum : mg "sum" = none
  z_tuple : mg "tuple" = none
  z_zip : mg "zip" = none
  kf : KF (lk K A)
  gx_1 : mg "InvalidReader" = some (.ref (A.c 1))
  gx_2 : mg "InvalidWord" = some (.ref (A.c 2))
  gx_3 : mg "InvalidNumber" = some (.ref (A.c 3))
  gx_4 : mg "TooMany" = some (.ref (A.c 4))
  ec_1 : EcK K (A.c 1)
  ec_2 : EcK K (A.c 2)
  su_3 : ∃ fI cc cda, SupK P K (A.c 3) fI cc cda "IndexError" "IndexError.__new__" "IndexError.__init__" ieB "given" "InvalidNumber.__init__" st_0
  su_4 : ∃ fI cc cda, SupK P K (A.c 4) fI cc cda "OverflowError" "OverflowError.__new__" "OverflowError.__init__" oeB "limit" "TooMany.__init__" st_1
  z_super : mg "super" = none
  xm_4_1 : PySem.W.exmOne K (.ref (A.c 1)) (.ref (A.c 4)) = some false
  xm_4_2 : PySem.W.exmOne K (.ref (A.c 2)) (.ref (A.c 4)) = some false
  xm_4_3 : PySem.W.exmOne K (.ref (A.c 3)) (.ref (A.c 4)) = some false
  xm_4_4 : PySem.W.exmOne K (.ref (A.c 4)) (.ref (A.c 4)) = some true
  xf_4 : XfC K (A.c 4)
  no_4 : PySem.W.findIn K (.ref (A.c 4)) "limit" = some none
  gc_5 : mg "Reader" = some (.ref (A.c 5))
  mk_5 : Mk K (A.c 5) (A.f 9)
  ini_5 : ∀ c, (lk K A).sl c = true → SlX.SCls (lk K A).K ((lk K A).ca c) ∧ ∀ (k : Nat) (f : Str) (i : Nat), (["own_letters", "own_steps", "own_accepting"] : List Str)[k]? = some f → ([1, 2, 0] : List Nat)[k]? = some i → ∃ p, SlX.Slot1 (lk K A).K ((lk K A).ca c) f p i
structure All (P : Program) (w : World) (K : PySem.W.Frag) (mg : Str → Option Value) (base : Heap) (A : Ad) (k : Nat) : Prop where
  c_2 : ∃ fd F', isFD (callF prog (k)) 2 fd F' ∧ FnOk P w K mg base (L2.CX P w) (2 * k) (A.f 2) (A.fdd 2) ["value"] (spF (lk K A) fd F')
  c_3 : ∃ fd F', isFD (callF prog (k)) 3 fd F' ∧ FnOk P w K mg base (L2.CX P w) (2 * k) (A.f 3) (A.fdd 3) ["value", "least", "most"] (spF (lk K A) fd F')
  c_4 : ∃ fd F', isFD (callF prog (k)) 4 fd F' ∧ FnOk P w K mg base (L2.CX P w) (2 * k) (A.f 4) (A.fdd 4) ["value", "least", "most"] (spF (lk K A) fd F')
  c_5 : ∃ fd F', isFD (callF prog (k)) 5 fd F' ∧ FnOk P w K mg base (L2.CX P w) (2 * k) (A.f 5) (A.fdd 5) ["value"] (spF (lk K A) fd F')
  c_6 : ∃ fd F', isFD (callF prog (k)) 6 fd F' ∧ FnOk P w K mg base (L2.CX P w) (2 * k) (A.f 6) (A.fdd 6) ["value", "size"] (spF (lk K A) fd F')
  c_7 : ∃ fd F', isFD (callF prog (k)) 7 fd F' ∧ FnOk P w K mg base (L2.CX P w) (2 * k) (A.f 7) (A.fdd 7) ["value", "least", "most"] (spF (lk K A) fd F')
  c_8 : ∃ fd F', isFD (callF prog (k)) 8 fd F' ∧ FnOk P w K mg base (L2.CX P w) (2 * k) (A.f 8) (A.fdd 8) ["letters", "steps", "accepting"] (spF (lk K A) fd F')
  c_9 : ∃ fd F', isFD (callF prog (k)) 9 fd F' ∧ FnOk P w K mg base (L2.CX P w) (2 * k) (A.f 9) (A.fdd 9) ["self", "letters", "steps", "accepting"] (spI (lk K A) fd F')
  c_18 : ∃ fd F', isFD (callF prog (k)) 18 fd F' ∧ FnOk P w K mg base (L2.CX P w) (2 * k) (A.f 18) (A.fdd 18) ["reader", "word", "state"] (spF (lk K A) fd F')
  c_19 : ∃ fd F', isFD (callF prog (k)) 19 fd F' ∧ FnOk P w K mg base (L2.CX P w) (2 * k) (A.f 19) (A.fdd 19) ["reader", "word"] (spF (lk K A) fd F')
  c_20 : ∃ fd F', isFD (callF prog (k)) 20 fd F' ∧ FnOk P w K mg base (L2.CX P w) (2 * k) (A.f 20) (A.fdd 20) ["reader"] (spF (lk K A) fd F')
  c_21 : ∃ fd F', isFD (callF prog (k)) 21 fd F' ∧ FnOk P w K mg base (L2.CX P w) (2 * k) (A.f 21) (A.fdd 21) ["reader"] (spF (lk K A) fd F')
  c_22 : ∃ fd F', isFD (callF prog (k)) 22 fd F' ∧ FnOk P w K mg base (L2.CX P w) (2 * k) (A.f 22) (A.fdd 22) ["reader", "length"] (spF (lk K A) fd F')
  c_23 : ∃ fd F', isFD (callF prog (k)) 23 fd F' ∧ FnOk P w K mg base (L2.CX P w) (2 * k) (A.f 23) (A.fdd 23) ["reader", "length"] (spF (lk K A) fd F')
  c_24 : ∃ fd F', isFD (callF prog (k)) 24 fd F' ∧ FnOk P w K mg base (L2.CX P w) (2 * k) (A.f 24) (A.fdd 24) ["reader", "pairs", "counts"] (spF (lk K A) fd F')
  c_25 : ∃ fd F', isFD (callF prog (k)) 25 fd F' ∧ FnOk P w K mg base (L2.CX P w) (2 * k) (A.f 25) (A.fdd 25) ["value"] (spF (lk K A) fd F')
  c_26 : ∃ fd F', isFD (callF prog (k)) 26 fd F' ∧ FnOk P w K mg base (L2.CX P w) (2 * k) (A.f 26) (A.fdd 26) ["letters", "value"] (spF (lk K A) fd F')
  c_27 : ∃ fd F', isFD (callF prog (k)) 27 fd F' ∧ FnOk P w K mg base (L2.CX P w) (2 * k) (A.f 27) (A.fdd 27) ["letters", "value"] (spF (lk K A) fd F')
  c_28 : ∃ fd F', isFD (callF prog (k)) 28 fd F' ∧ FnOk P w K mg base (L2.CX P w) (2 * k) (A.f 28) (A.fdd 28) ["reader", "word"] (spF (lk K A) fd F')
  c_29 : ∃ fd F', isFD (callF prog (k)) 29 fd F' ∧ FnOk P w K mg base (L2.CX P w) (2 * k) (A.f 29) (A.fdd 29) ["reader", "length"] (spF (lk K A) fd F')
  c_30 : ∃ fd F', isFD (callF prog (k)) 30 fd F' ∧ FnOk P w K mg base (L2.CX P w) (2 * k) (A.f 30) (A.fdd 30) ["reader", "word"] (spF (lk K A) fd F')
  c_31 : ∃ fd F', isFD (callF prog (k)) 31 fd F' ∧ FnOk P w K mg base (L2.CX P w) (2 * k) (A.f 31) (A.fdd 31) ["reader"] (spF (lk K A) fd F')
  c_32 : ∃ fd F', isFD (callF prog (k)) 32 fd F' ∧ FnOk P w K mg base (L2.CX P w) (2 * k) (A.f 32) (A.fdd 32) ["reader", "length"] (spF (lk K A) fd F')
  c_33 : ∃ fd F', isFD (callF prog (k)) 33 fd F' ∧ FnOk P w K mg base (L2.CX P w) (2 * k) (A.f 33) (A.fdd 33) ["reader", "length"] (spF (lk K A) fd F')
  c_34 : ∃ fd F', isFD (callF prog (k)) 34 fd F' ∧ FnOk P w K mg base (L2.CX P w) (2 * k) (A.f 34) (A.fdd 34) ["script", "spot"] (spF (lk K A) fd F')
  c_35 : ∃ fd F', isFD (callF prog (k)) 35 fd F' ∧ FnOk P w K mg base (L2.CX P w) (2 * k) (A.f 35) (A.fdd 35) ["bag", "total"] (spF (lk K A) fd F')
  c_36 : ∃ fd F', isFD (callF prog (k)) 36 fd F' ∧ FnOk P w K mg base (L2.CX P w) (2 * k) (A.f 36) (A.fdd 36) ["bag", "items"] (spF (lk K A) fd F')
  c_37 : ∃ fd F', isFD (callF prog (k)) 37 fd F' ∧ FnOk P w K mg base (L2.CX P w) (2 * k) (A.f 37) (A.fdd 37) ["reader"] (spF (lk K A) fd F')
  c_38 : ∃ fd F', isFD (callF prog (k)) 38 fd F' ∧ FnOk P w K mg base (L2.CX P w) (2 * k) (A.f 38) (A.fdd 38) ["reader"] (spF (lk K A) fd F')
  c_39 : ∃ fd F', isFD (callF prog (k)) 39 fd F' ∧ FnOk P w K mg base (L2.CX P w) (2 * k) (A.f 39) (A.fdd 39) ["bag", "letters", "most"] (spF (lk K A) fd F')
  c_40 : ∃ fd F', isFD (callF prog (k)) 40 fd F' ∧ FnOk P w K mg base (L2.CX P w) (2 * k) (A.f 40) (A.fdd 40) ["reader", "length"] (spF (lk K A) fd F')
  c_41 : ∃ fd F', isFD (callF prog (k)) 41 fd F' ∧ FnOk P w K mg base (L2.CX P w) (2 * k) (A.f 41) (A.fdd 41) ["reader", "length"] (spF (lk K A) fd F')
  c_42 : ∃ fd F', isFD (callF prog (k)) 42 fd F' ∧ FnOk P w K mg base (L2.CX P w) (2 * k) (A.f 42) (A.fdd 42) ["real", "length"] (spF (lk K A) fd F')
  c_43 : ∃ fd F', isFD (callF prog (k)) 43 fd F' ∧ FnOk P w K mg base (L2.CX P w) (2 * k) (A.f 43) (A.fdd 43) ["bag"] (spF (lk K A) fd F')
section
variable {P : Program} {w : World} {K : PySem.W.Frag} {mg : Str → Option Value} {base : Heap} {A : Ad}
theorem ok_2' (E : Ev0 P w K mg A) {k : Nat} (H : All P w K mg base A k) : FnOk P w K mg base (L2.CX P w) (2 * (k + 1)) (A.f 2) (A.fdd 2) ["value"] (spF (lk K A) ⟨1, 1, b_2⟩ (callF prog k)) := by
  have nd : (["value"] : List Str).Nodup := by decide +kernel
  refine ev_okX E.D_2 sc_2 rfl rfl fun cdv A' outer s H0 E' hr tk => ?_
  exact (ss_cons (s_ret (c_and (c_isi (t := .int) rfl E.kf True.intro rfl E.z_isinstance boot_isinstance (cv 0) (pe_bltn rfl E.z_int boot_int rfl)) (c_one (c_not (c_isi (t := .bool) rfl E.kf True.intro rfl E.z_isinstance boot_isinstance (cv 0) (pe_bltn rfl E.z_bool boot_bool rfl)))))) ss_nil)
theorem ok_2 (E : Ev0 P w K mg A) {k : Nat} (H : All P w K mg base A k) : ∃ fd F', isFD (callF prog (k + 1)) 2 fd F' ∧ FnOk P w K mg base (L2.CX P w) (2 * (k + 1)) (A.f 2) (A.fdd 2) ["value"] (spF (lk K A) fd F') := ⟨⟨1, 1, b_2⟩, callF prog k, callF_is rfl, ok_2' E H⟩
theorem ok_3' (E : Ev0 P w K mg A) {k : Nat} (H : All P w K mg base A k) : FnOk P w K mg base (L2.CX P w) (2 * (k + 1)) (A.f 3) (A.fdd 3) ["value", "least", "most"] (spF (lk K A) ⟨3, 3, b_3⟩ (callF prog k)) := by
  have nd : (["value", "least", "most"] : List Str).Nodup := by decide +kernel
  obtain ⟨fd2, F2, hF2, FO2⟩ := H.c_2
  refine ev_okX E.D_3 sc_3 rfl rfl fun cdv A' outer s H0 E' hr tk => ?_
  exact (ss_cons (s_ret (c_and (c_call FO2 hF2 (hr.mono (Nat.le_succ _)) rfl E.g_2 E.D_2.kp E.b_2 .nil (fun _ _ => .nil) (passAt tk) (a_cons (cv 0) a_nil)) (c_one (c_chain s_le s_le (cv 1) (cv 0) (cv 2))))) ss_nil)
theorem ok_3 (E : Ev0 P w K mg A) {k : Nat} (H : All P w K mg base A k) : ∃ fd F', isFD (callF prog (k + 1)) 3 fd F' ∧ FnOk P w K mg base (L2.CX P w) (2 * (k + 1)) (A.f 3) (A.fdd 3) ["value", "least", "most"] (spF (lk K A) fd F') := ⟨⟨3, 3, b_3⟩, callF prog k, callF_is rfl, ok_3' E H⟩
theorem ok_4' (E : Ev0 P w K mg A) {k : Nat} (H : All P w K mg base A k) : FnOk P w K mg base (L2.CX P w) (2 * (k + 1)) (A.f 4) (A.fdd 4) ["value", "least", "most"] (spF (lk K A) ⟨3, 4, b_4⟩ (callF prog k)) := by
  have nd : (["value", "least", "most", "one"] : List Str).Nodup := by decide +kernel
  obtain ⟨fd3, F3, hF3, FO3⟩ := H.c_3
  refine ev_okX E.D_4 sc_4 rfl rfl fun cdv A' outer s H0 E' hr tk => ?_
  exact (ss_cons (s_ret (c_and (c_isi (t := .tuple) rfl E.kf True.intro rfl E.z_isinstance boot_isinstance (cv 0) (pe_bltn rfl E.z_tuple boot_tuple rfl)) (c_one (c_bi (i_all rfl rfl) rfl E.z_all boot_all (a_cons (c_comp rfl nd (by decide) (ownN := [("one", 3)]) (i_seq rfl (cv 0)) (blkOk_by (by kernel_rfl)) (fun _ _ _ _ _ => (g_name (i := 3) nd rfl (by first | exact Or.inl rfl | exact Or.inr rfl))) (fun _ _ _ _ _ => y_nil) (fun _ _ _ _ _ => (c_call FO3 hF3 (hr.mono (Nat.le_succ _)) rfl E.g_3 E.D_3.kp E.b_3 .nil (fun _ _ => .nil) passF (a_cons (cv 3) (a_cons (cv 1) (a_cons (cv 2) a_nil)))))) a_nil))))) ss_nil)
theorem ok_4 (E : Ev0 P w K mg A) {k : Nat} (H : All P w K mg base A k) : ∃ fd F', isFD (callF prog (k + 1)) 4 fd F' ∧ FnOk P w K mg base (L2.CX P w) (2 * (k + 1)) (A.f 4) (A.fdd 4) ["value", "least", "most"] (spF (lk K A) fd F') := ⟨⟨3, 4, b_4⟩, callF prog k, callF_is rfl, ok_4' E H⟩
theorem ok_5' (E : Ev0 P w K mg A) {k : Nat} (H : All P w K mg base A k) : FnOk P w K mg base (L2.CX P w) (2 * (k + 1)) (A.f 5) (A.fdd 5) ["value"] (spF (lk K A) ⟨1, 3, b_5⟩ (callF prog k)) := by
  have nd : (["value", "one", "other"] : List Str).Nodup := by decide +kernel
  refine ev_okX E.D_5 sc_5 rfl rfl fun cdv A' outer s H0 E' hr tk => ?_
  exact (ss_cons (s_ret (c_bi (i_all rfl rfl) rfl E.z_all boot_all (a_cons (c_comp rfl nd (by decide) (ownN := [("one", 1), ("other", 2)]) (i_zip rfl rfl E.z_zip (cv 0) (c_slice (s_slice rfl) (cv 0) (p_some c_int) p_none)) (blkOk_by (by kernel_rfl)) (fun _ _ _ _ _ => (g_tup rfl rfl (gs_cons (g_name (i := 1) nd rfl (by first | exact Or.inl rfl | exact Or.inr rfl)) (gs_cons (g_name (i := 2) nd rfl (by first | exact Or.inl rfl | exact Or.inr rfl)) gs_nil)))) (fun _ _ _ _ _ => y_nil) (fun _ _ _ _ _ => (c_cmp (s_lt rfl (hu65 hr)) (cv 1) (cv 2)))) a_nil))) ss_nil)
theorem ok_5 (E : Ev0 P w K mg A) {k : Nat} (H : All P w K mg base A k) : ∃ fd F', isFD (callF prog (k + 1)) 5 fd F' ∧ FnOk P w K mg base (L2.CX P w) (2 * (k + 1)) (A.f 5) (A.fdd 5) ["value"] (spF (lk K A) fd F') := ⟨⟨1, 3, b_5⟩, callF prog k, callF_is rfl, ok_5' E H⟩
theorem ok_6' (E : Ev0 P w K mg A) {k : Nat} (H : All P w K mg base A k) : FnOk P w K mg base (L2.CX P w) (2 * (k + 1)) (A.f 6) (A.fdd 6) ["value", "size"] (spF (lk K A) ⟨2, 2, b_6⟩ (callF prog k)) := by
  have nd : (["value", "size"] : List Str).Nodup := by decide +kernel
  obtain ⟨fd4, F4, hF4, FO4⟩ := H.c_4
  obtain ⟨fd5, F5, hF5, FO5⟩ := H.c_5
  refine ev_okX E.D_6 sc_6 rfl rfl fun cdv A' outer s H0 E' hr tk => ?_
  exact (ss_cons (s_ret (c_and (c_call FO4 hF4 (hr.mono (Nat.le_succ _)) rfl E.g_4 E.D_4.kp E.b_4 .nil (fun _ _ => .nil) (passAt tk) (a_cons (cv 0) (a_cons c_int (a_cons (c_bin s_sub (cv 1) c_int) a_nil)))) (c_one (c_call FO5 hF5 (hr.mono (Nat.le_succ _)) rfl E.g_5 E.D_5.kp E.b_5 .nil (fun _ _ => .nil) (passAt tk) (a_cons (cv 0) a_nil))))) ss_nil)
theorem ok_6 (E : Ev0 P w K mg A) {k : Nat} (H : All P w K mg base A k) : ∃ fd F', isFD (callF prog (k + 1)) 6 fd F' ∧ FnOk P w K mg base (L2.CX P w) (2 * (k + 1)) (A.f 6) (A.fdd 6) ["value", "size"] (spF (lk K A) fd F') := ⟨⟨2, 2, b_6⟩, callF prog k, callF_is rfl, ok_6' E H⟩
theorem ok_7' (E : Ev0 P w K mg A) {k : Nat} (H : All P w K mg base A k) : FnOk P w K mg base (L2.CX P w) (2 * (k + 1)) (A.f 7) (A.fdd 7) ["value", "least", "most"] (spF (lk K A) ⟨3, 3, b_7⟩ (callF prog k)) := by
  have nd : (["value", "least", "most"] : List Str).Nodup := by decide +kernel
  obtain ⟨fd3, F3, hF3, FO3⟩ := H.c_3
  refine ev_okX E.D_7 sc_7 rfl rfl fun cdv A' outer s H0 E' hr tk => ?_
  exact (ss_cons (s_if (t_not (t_val rfl (c_call FO3 hF3 (hr.mono (Nat.le_succ _)) rfl E.g_3 E.D_3.kp E.b_3 .nil (fun _ _ => .nil) (passAt tk) (a_cons (cv 0) (a_cons (cv 1) (a_cons (cv 2) a_nil)))))) (ss_cons (s_raise1 rfl tk (pmk_sup sup_IndexError sut_3 E.su_3.choose_spec.choose_spec.choose_spec E.z_super hr rfl E.gx_3 (cv 0))) ss_nil) ss_nil) ss_nil)
theorem ok_7 (E : Ev0 P w K mg A) {k : Nat} (H : All P w K mg base A k) : ∃ fd F', isFD (callF prog (k + 1)) 7 fd F' ∧ FnOk P w K mg base (L2.CX P w) (2 * (k + 1)) (A.f 7) (A.fdd 7) ["value", "least", "most"] (spF (lk K A) fd F') := ⟨⟨3, 3, b_7⟩, callF prog k, callF_is rfl, ok_7' E H⟩
theorem ok_8' (E : Ev0 P w K mg A) {k : Nat} (H : All P w K mg base A k) : FnOk P w K mg base (L2.CX P w) (2 * (k + 1)) (A.f 8) (A.fdd 8) ["letters", "steps", "accepting"] (spF (lk K A) ⟨3, 5, b_8⟩ (callF prog k)) := by
  have nd : (["letters", "steps", "accepting", "state", "row"] : List Str).Nodup := by decide +kernel
  obtain ⟨fd3, F3, hF3, FO3⟩ := H.c_3
  obtain ⟨fd4, F4, hF4, FO4⟩ := H.c_4
  obtain ⟨fd6, F6, hF6, FO6⟩ := H.c_6
  refine ev_okX E.D_8 sc_8 rfl rfl fun cdv A' outer s H0 E' hr tk => ?_
  exact (ss_cons (s_if (t_not (t_val rfl (c_call FO3 hF3 (hr.mono (Nat.le_succ _)) rfl E.g_3 E.D_3.kp E.b_3 .nil (fun _ _ => .nil) (passAt tk) (a_cons (cv 0) (a_cons c_int (a_cons (ck E.k_MOST_LETTERS.choose_spec) a_nil)))))) (ss_cons (s_ret (c_tup (a_cons c_str a_nil))) ss_nil) ss_nil) (ss_cons (s_if (c_tw (w_or (t_not (t_val rfl (c_isi (t := .tuple) rfl E.kf True.intro rfl E.z_isinstance boot_isinstance (cv 1) (pe_bltn rfl E.z_tuple boot_tuple rfl)))) (w_or1 (t_not (t_chain s_le s_le c_int (c_bi (i_len rfl) rfl E.z_len boot_len (a_cons (cv 1) a_nil)) (ck E.k_MOST_STATES.choose_spec)))))) (ss_cons (s_ret (c_tup (a_cons c_str a_nil))) ss_nil) ss_nil) (ss_cons (s_for (passes_of rfl) rfl (i_enum rfl rfl E.z_enumerate (cv 1)) (g_tup rfl rfl (gs_cons (g_name (i := 3) nd rfl (by first | exact Or.inl rfl | exact Or.inr rfl)) (gs_cons (g_name (i := 4) nd rfl (by first | exact Or.inl rfl | exact Or.inr rfl)) gs_nil))) (ss_cons (s_if (c_tw (w_or (t_not (t_val rfl (c_call FO4 hF4 (hr.mono (Nat.le_succ _)) rfl E.g_4 E.D_4.kp E.b_4 .nil (fun _ _ => .nil) (passAt tk) (a_cons (cv 4) (a_cons c_int (a_cons (c_bin s_sub (c_bi (i_len rfl) rfl E.z_len boot_len (a_cons (cv 1) a_nil)) c_int) a_nil)))))) (w_or1 (t_cmp (s_ne rfl hr.units) (c_bi (i_len rfl) rfl E.z_len boot_len (a_cons (cv 4) a_nil)) (cv 0))))) (ss_cons (s_ret (c_tup (a_cons c_str (a_cons (cv 3) a_nil)))) ss_nil) ss_nil) ss_nil)) (ss_cons (s_ret (c_ite (t_val rfl (c_call FO6 hF6 (hr.mono (Nat.le_succ _)) rfl E.g_6 E.D_6.kp E.b_6 .nil (fun _ _ => .nil) (passAt tk) (a_cons (cv 2) (a_cons (c_bi (i_len rfl) rfl E.z_len boot_len (a_cons (cv 1) a_nil)) a_nil)))) c_non (c_tup (a_cons c_str a_nil)))) ss_nil))))
theorem ok_8 (E : Ev0 P w K mg A) {k : Nat} (H : All P w K mg base A k) : ∃ fd F', isFD (callF prog (k + 1)) 8 fd F' ∧ FnOk P w K mg base (L2.CX P w) (2 * (k + 1)) (A.f 8) (A.fdd 8) ["letters", "steps", "accepting"] (spF (lk K A) fd F') := ⟨⟨3, 5, b_8⟩, callF prog k, callF_is rfl, ok_8' E H⟩
theorem ok_9' (E : Ev0 P w K mg A) {k : Nat} (H : All P w K mg base A k) : FnOk P w K mg base (L2.CX P w) (2 * (k + 1)) (A.f 9) (A.fdd 9) ["self", "letters", "steps", "accepting"] (spI (lk K A) ⟨4, 4, b_9⟩ (callF prog k)) := by
  have nd : (["self", "letters", "steps", "accepting"] : List Str).Nodup := by decide +kernel
  obtain ⟨fd8, F8, hF8, FO8⟩ := H.c_8
  refine evi_okX E.D_9 sc_9 rfl rfl fun cdv A' outer s H0 E' hr tk => ?_
  exact (ss_cons (s_if (t_cmp s_isnot (c_call FO8 hF8 (hr.mono (Nat.le_succ _)) rfl E.g_8 E.D_8.kp E.b_8 .nil (fun _ _ => .nil) (passAt tk) (a_cons (cv 1) (a_cons (cv 2) (a_cons (cv 3) a_nil)))) c_non) (ss_cons (s_raise rfl tk (pm_own E.ec_1 E.gx_1 rfl)) ss_nil) ss_nil) (ss_one (s_ini (fs := ["own_letters", "own_steps", "own_accepting"]) (is := [1, 2, 0]) rfl rfl (pgs_cons (pg_at rfl (Or.inl rfl)) (pgs_cons (pg_at rfl (Or.inl rfl)) (pgs_cons (pg_at rfl (Or.inl rfl)) pgs_nil))) (a_cons (cv 1) (a_cons (cv 2) (a_cons (cv 3) a_nil))) rfl (by simp) (by decide) E.ini_5 (fun vs hl => match vs, hl with | [_, _, _], _ => rfl) (by decide) (hlen := fun ds e e' h => (acons_len (acons_len (acons_len anil_len))) e ds e' h))))
theorem ok_9 (E : Ev0 P w K mg A) {k : Nat} (H : All P w K mg base A k) : ∃ fd F', isFD (callF prog (k + 1)) 9 fd F' ∧ FnOk P w K mg base (L2.CX P w) (2 * (k + 1)) (A.f 9) (A.fdd 9) ["self", "letters", "steps", "accepting"] (spI (lk K A) fd F') := ⟨⟨4, 4, b_9⟩, callF prog k, callF_is rfl, ok_9' E H⟩
theorem ok_18' (E : Ev0 P w K mg A) {k : Nat} (H : All P w K mg base A k) : FnOk P w K mg base (L2.CX P w) (2 * (k + 1)) (A.f 18) (A.fdd 18) ["reader", "word", "state"] (spF (lk K A) ⟨3, 4, b_18⟩ (callF prog k)) := by
  have nd : (["reader", "word", "state", "letter"] : List Str).Nodup := by decide +kernel
  refine ev_okX E.D_18 sc_18 rfl rfl fun cdv A' outer s H0 E' hr tk => ?_
  exact (ss_cons (s_for (passes_of rfl) rfl (i_seq rfl (cv 1)) (g_name (i := 3) nd rfl (by first | exact Or.inl rfl | exact Or.inr rfl)) (ss_cons (s_set (i := 2) nd rfl (by first | exact Or.inl rfl | exact Or.inr rfl) (c_idx (s_idx rfl (hu_of hr)) (c_idx (s_idx rfl (hu_of hr)) (c_fld rfl E.at_own_steps (cv 0)) (cv 2)) (cv 3))) ss_nil)) (ss_cons (s_ret (cv 2)) ss_nil))
theorem ok_18 (E : Ev0 P w K mg A) {k : Nat} (H : All P w K mg base A k) : ∃ fd F', isFD (callF prog (k + 1)) 18 fd F' ∧ FnOk P w K mg base (L2.CX P w) (2 * (k + 1)) (A.f 18) (A.fdd 18) ["reader", "word", "state"] (spF (lk K A) fd F') := ⟨⟨3, 4, b_18⟩, callF prog k, callF_is rfl, ok_18' E H⟩
theorem ok_19' (E : Ev0 P w K mg A) {k : Nat} (H : All P w K mg base A k) : FnOk P w K mg base (L2.CX P w) (2 * (k + 1)) (A.f 19) (A.fdd 19) ["reader", "word"] (spF (lk K A) ⟨2, 2, b_19⟩ (callF prog k)) := by
  have nd : (["reader", "word"] : List Str).Nodup := by decide +kernel
  obtain ⟨fd18, F18, hF18, FO18⟩ := H.c_18
  obtain ⟨ds18, vd18, bd18⟩ := E.d_18
  refine ev_okX E.D_19 sc_19 rfl rfl fun cdv A' outer s H0 E' hr tk => ?_
  exact (ss_cons (s_ret (c_cmp (s_in rfl (hu65 hr)) (c_call FO18 hF18 (hr.mono (Nat.le_succ _)) rfl E.g_18 E.D_18.kp bd18 vd18 (fun _ _ => (by exact RGs.cons rg_int .nil)) (passAt tk) (a_cons (cv 0) (a_cons (cv 1) a_nil))) (c_fld rfl E.at_own_accepting (cv 0)))) ss_nil)
theorem ok_19 (E : Ev0 P w K mg A) {k : Nat} (H : All P w K mg base A k) : ∃ fd F', isFD (callF prog (k + 1)) 19 fd F' ∧ FnOk P w K mg base (L2.CX P w) (2 * (k + 1)) (A.f 19) (A.fdd 19) ["reader", "word"] (spF (lk K A) fd F') := ⟨⟨2, 2, b_19⟩, callF prog k, callF_is rfl, ok_19' E H⟩
theorem ok_20' (E : Ev0 P w K mg A) {k : Nat} (H : All P w K mg base A k) : FnOk P w K mg base (L2.CX P w) (2 * (k + 1)) (A.f 20) (A.fdd 20) ["reader"] (spF (lk K A) ⟨1, 7, b_20⟩ (callF prog k)) := by
  have nd : (["reader", "found", "waiting", "later", "state", "letter", "there"] : List Str).Nodup := by decide +kernel
  refine ev_okX E.D_20 sc_20 rfl rfl fun cdv A' outer s H0 E' hr tk => ?_
  exact (ss_cons (s_par2 (i := 1) (j := 2) rfl nd rfl rfl (by decide) rfl rfl (a_cons (c_dic1 c_int (c_tup a_nil)) (a_cons (c_lst (a_cons c_int a_nil)) a_nil))) (ss_cons (s_while (passes_of rfl) (t_cmp (s_ne rfl hr.units) (cv 2) (c_lst a_nil)) (ss_cons (s_set (i := 3) nd rfl (by first | exact Or.inl rfl | exact Or.inr rfl) (c_lst a_nil)) (ss_cons (s_for (passes_of rfl) rfl (i_seq rfl (cv 2)) (g_name (i := 4) nd rfl (by first | exact Or.inl rfl | exact Or.inr rfl)) (ss_cons (s_for (passes_of rfl) rfl (i_enum rfl rfl E.z_enumerate (c_idx (s_idx rfl (hu_of hr)) (c_fld rfl E.at_own_steps (cv 0)) (cv 4))) (g_tup rfl rfl (gs_cons (g_name (i := 5) nd rfl (by first | exact Or.inl rfl | exact Or.inr rfl)) (gs_cons (g_name (i := 6) nd rfl (by first | exact Or.inl rfl | exact Or.inr rfl)) gs_nil))) (ss_cons (s_if (t_cmp (s_notin rfl (hu65 hr)) (cv 6) (cv 1)) (ss_cons (s_setI (i := 1) (hu_of hr) rfl (by first | exact Or.inl rfl | exact Or.inr (Or.inl rfl) | exact Or.inr (Or.inr rfl)) (cv 6) (c_tup (a_star rfl (c_idx (s_idx rfl (hu_of hr)) (cv 1) (cv 4)) (a_cons (cv 5) a_nil)))) (ss_cons (s_exp (c_meth s_append (i := 3) rfl (by first | exact Or.inl rfl | exact Or.inr (Or.inl rfl) | exact Or.inr (Or.inr rfl)) PySem.F.plainAttrs_list PySem.F.slot_list_append PySem.F.type_list_append (a_cons (cv 6) a_nil))) ss_nil)) ss_nil) ss_nil)) ss_nil)) (ss_cons (s_set (i := 2) nd rfl (by first | exact Or.inl rfl | exact Or.inr rfl) (cv 3)) ss_nil)))) (ss_cons (s_ret (cv 1)) ss_nil)))
theorem ok_20 (E : Ev0 P w K mg A) {k : Nat} (H : All P w K mg base A k) : ∃ fd F', isFD (callF prog (k + 1)) 20 fd F' ∧ FnOk P w K mg base (L2.CX P w) (2 * (k + 1)) (A.f 20) (A.fdd 20) ["reader"] (spF (lk K A) fd F') := ⟨⟨1, 7, b_20⟩, callF prog k, callF_is rfl, ok_20' E H⟩
theorem ok_21' (E : Ev0 P w K mg A) {k : Nat} (H : All P w K mg base A k) : FnOk P w K mg base (L2.CX P w) (2 * (k + 1)) (A.f 21) (A.fdd 21) ["reader"] (spF (lk K A) ⟨1, 4, b_21⟩ (callF prog k)) := by
  have nd : (["reader", "some", "state", "word"] : List Str).Nodup := by decide +kernel
  obtain ⟨fd20, F20, hF20, FO20⟩ := H.c_20
  refine ev_okX E.D_21 sc_21 rfl rfl fun cdv A' outer s H0 E' hr tk => ?_
  exact (ss_cons (s_setLc (i := 1) rfl nd (by decide) rfl rfl (sw_true rfl rfl rfl rfl) (ownN := [("state", 2), ("word", 3)]) (i_items (c_call FO20 hF20 (hr.mono (Nat.le_succ _)) rfl E.g_20 E.D_20.kp E.b_20 .nil (fun _ _ => .nil) (passAt tk) (a_cons (cv 0) a_nil))) (blkOk_by (by kernel_rfl)) (fun _ _ _ _ _ => (g_tup rfl rfl (gs_cons (g_name (i := 2) nd rfl (by first | exact Or.inl rfl | exact Or.inr rfl)) (gs_cons (g_name (i := 3) nd rfl (by first | exact Or.inl rfl | exact Or.inr rfl)) gs_nil)))) (fun _ _ _ _ _ => y_one (t_cmp (s_in rfl (hu65 hr)) (cv 2) (c_fld rfl E.at_own_accepting (cv 0)))) (fun _ _ _ _ _ => (cv 3))) (ss_cons (s_ret (c_ite (t_cmp (s_ne rfl hr.units) (cv 1) (c_lst a_nil)) (c_idx (s_idx rfl (hu_of hr)) (cv 1) c_int) c_non)) ss_nil))
theorem ok_21 (E : Ev0 P w K mg A) {k : Nat} (H : All P w K mg base A k) : ∃ fd F', isFD (callF prog (k + 1)) 21 fd F' ∧ FnOk P w K mg base (L2.CX P w) (2 * (k + 1)) (A.f 21) (A.fdd 21) ["reader"] (spF (lk K A) fd F') := ⟨⟨1, 4, b_21⟩, callF prog k, callF_is rfl, ok_21' E H⟩
theorem ok_22' (E : Ev0 P w K mg A) {k : Nat} (H : All P w K mg base A k) : FnOk P w K mg base (L2.CX P w) (2 * (k + 1)) (A.f 22) (A.fdd 22) ["reader", "length"] (spF (lk K A) ⟨2, 7, b_22⟩ (callF prog k)) := by
  have nd : (["reader", "length", "found", "turn", "state", "row", "there"] : List Str).Nodup := by decide +kernel
  refine ev_okX E.D_22 sc_22 rfl rfl fun cdv A' outer s H0 E' hr tk => ?_
  exact (ss_cons (s_set (i := 2) nd rfl (by first | exact Or.inl rfl | exact Or.inr rfl) (c_lst (a_cons (c_ty (i_tuple rfl) rfl E.z_tuple boot_tuple (a_cons (c_comp rfl nd (by decide) (ownN := [("state", 4)]) (i_range1 rfl E.z_range (c_bi (i_len rfl) rfl E.z_len boot_len (a_cons (c_fld rfl E.at_own_steps (cv 0)) a_nil))) (blkOk_by (by kernel_rfl)) (fun _ _ _ _ _ => (g_name (i := 4) nd rfl (by first | exact Or.inl rfl | exact Or.inr rfl))) (fun _ _ _ _ _ => y_nil) (fun _ _ _ _ _ => (c_ty i_int rfl E.z_int boot_int (a_cons (c_cmp (s_in rfl (hu65 hr)) (cv 4) (c_fld rfl E.at_own_accepting (cv 0))) a_nil)))) a_nil)) a_nil))) (ss_cons (s_for (passes_of rfl) rfl (i_range1 rfl E.z_range (cv 1)) (g_name (i := 3) nd rfl (by first | exact Or.inl rfl | exact Or.inr rfl)) (ss_cons (s_exp (c_meth s_append (i := 2) rfl (by first | exact Or.inl rfl | exact Or.inr (Or.inl rfl) | exact Or.inr (Or.inr rfl)) PySem.F.plainAttrs_list PySem.F.slot_list_append PySem.F.type_list_append (a_cons (c_ty (i_tuple rfl) rfl E.z_tuple boot_tuple (a_cons (c_comp rfl nd (by decide) (ownN := [("row", 5)]) (i_seq rfl (c_fld rfl E.at_own_steps (cv 0))) (blkOk_by (by kernel_rfl)) (fun _ _ _ _ _ => (g_name (i := 5) nd rfl (by first | exact Or.inl rfl | exact Or.inr rfl))) (fun _ _ _ _ _ => y_nil) (fun _ _ _ _ _ => (c_bi (i_sum rfl rfl) rfl E.z_sum boot_sum (a_cons (c_comp rfl nd (by decide) (ownN := [("there", 6)]) (i_seq rfl (cv 5)) (blkOk_by (by kernel_rfl)) (fun _ _ _ _ _ => (g_name (i := 6) nd rfl (by first | exact Or.inl rfl | exact Or.inr rfl))) (fun _ _ _ _ _ => y_nil) (fun _ _ _ _ _ => (c_idx (s_idx rfl (hu_of hr)) (c_idx (s_idx rfl (hu_of hr)) (cv 2) (c_neg c_int)) (cv 6)))) a_nil)))) a_nil)) a_nil))) ss_nil)) (ss_cons (s_ret (cv 2)) ss_nil)))
theorem ok_22 (E : Ev0 P w K mg A) {k : Nat} (H : All P w K mg base A k) : ∃ fd F', isFD (callF prog (k + 1)) 22 fd F' ∧ FnOk P w K mg base (L2.CX P w) (2 * (k + 1)) (A.f 22) (A.fdd 22) ["reader", "length"] (spF (lk K A) fd F') := ⟨⟨2, 7, b_22⟩, callF prog k, callF_is rfl, ok_22' E H⟩
theorem ok_23' (E : Ev0 P w K mg A) {k : Nat} (H : All P w K mg base A k) : FnOk P w K mg base (L2.CX P w) (2 * (k + 1)) (A.f 23) (A.fdd 23) ["reader", "length"] (spF (lk K A) ⟨2, 2, b_23⟩ (callF prog k)) := by
  have nd : (["reader", "length"] : List Str).Nodup := by decide +kernel
  obtain ⟨fd22, F22, hF22, FO22⟩ := H.c_22
  refine ev_okX E.D_23 sc_23 rfl rfl fun cdv A' outer s H0 E' hr tk => ?_
  exact (ss_cons (s_ret (c_idx (s_idx rfl (hu_of hr)) (c_idx (s_idx rfl (hu_of hr)) (c_call FO22 hF22 (hr.mono (Nat.le_succ _)) rfl E.g_22 E.D_22.kp E.b_22 .nil (fun _ _ => .nil) (passAt tk) (a_cons (cv 0) (a_cons (cv 1) a_nil))) (c_neg c_int)) c_int)) ss_nil)
theorem ok_23 (E : Ev0 P w K mg A) {k : Nat} (H : All P w K mg base A k) : ∃ fd F', isFD (callF prog (k + 1)) 23 fd F' ∧ FnOk P w K mg base (L2.CX P w) (2 * (k + 1)) (A.f 23) (A.fdd 23) ["reader", "length"] (spF (lk K A) fd F') := ⟨⟨2, 2, b_23⟩, callF prog k, callF_is rfl, ok_23' E H⟩
theorem ok_24' (E : Ev0 P w K mg A) {k : Nat} (H : All P w K mg base A k) : FnOk P w K mg base (L2.CX P w) (2 * (k + 1)) (A.f 24) (A.fdd 24) ["reader", "pairs", "counts"] (spF (lk K A) ⟨3, 9, b_24⟩ (callF prog k)) := by
  have nd : (["reader", "pairs", "counts", "found", "word", "state", "some", "letter", "there"] : List Str).Nodup := by decide +kernel
  refine ev_okX E.D_24 sc_24 rfl rfl fun cdv A' outer s H0 E' hr tk => ?_
  exact (ss_cons (s_set (i := 3) nd rfl (by first | exact Or.inl rfl | exact Or.inr rfl) (c_lst a_nil)) (ss_cons (s_for (passes_of rfl) rfl (i_seq rfl (cv 1)) (g_tup rfl rfl (gs_cons (g_name (i := 4) nd rfl (by first | exact Or.inl rfl | exact Or.inr rfl)) (gs_cons (g_name (i := 5) nd rfl (by first | exact Or.inl rfl | exact Or.inr rfl)) gs_nil))) (ss_cons (s_setLc (i := 6) rfl nd (by decide) rfl rfl (sw_true rfl rfl rfl rfl) (ownN := [("letter", 7), ("there", 8)]) (i_enum rfl rfl E.z_enumerate (c_idx (s_idx rfl (hu_of hr)) (c_fld rfl E.at_own_steps (cv 0)) (cv 5))) (blkOk_by (by kernel_rfl)) (fun _ _ _ _ _ => (g_tup rfl rfl (gs_cons (g_name (i := 7) nd rfl (by first | exact Or.inl rfl | exact Or.inr rfl)) (gs_cons (g_name (i := 8) nd rfl (by first | exact Or.inl rfl | exact Or.inr rfl)) gs_nil)))) (fun _ _ _ _ _ => y_one (t_cmp s_gt (c_idx (s_idx rfl (hu_of hr)) (cv 2) (cv 8)) c_int)) (fun _ _ _ _ _ => (c_tup (a_cons (cv 7) (a_cons (cv 8) a_nil))))) (ss_cons (s_exp (c_meth s_extend (i := 3) rfl (by first | exact Or.inl rfl | exact Or.inr (Or.inl rfl) | exact Or.inr (Or.inr rfl)) PySem.F.plainAttrs_list PySem.F.slot_list_extend PySem.F.type_list_extend (a_cons (c_comp rfl nd (by decide) (ownN := [("letter", 7), ("there", 8)]) (i_seq rfl (cv 6)) (blkOk_by (by kernel_rfl)) (fun _ _ _ _ _ => (g_tup rfl rfl (gs_cons (g_name (i := 7) nd rfl (by first | exact Or.inl rfl | exact Or.inr rfl)) (gs_cons (g_name (i := 8) nd rfl (by first | exact Or.inl rfl | exact Or.inr rfl)) gs_nil)))) (fun _ _ _ _ _ => y_nil) (fun _ _ _ _ _ => (c_tup (a_cons (c_tup (a_star rfl (cv 4) (a_cons (cv 7) a_nil))) (a_cons (cv 8) a_nil))))) a_nil))) ss_nil))) (ss_cons (s_ret (cv 3)) ss_nil)))
theorem ok_24 (E : Ev0 P w K mg A) {k : Nat} (H : All P w K mg base A k) : ∃ fd F', isFD (callF prog (k + 1)) 24 fd F' ∧ FnOk P w K mg base (L2.CX P w) (2 * (k + 1)) (A.f 24) (A.fdd 24) ["reader", "pairs", "counts"] (spF (lk K A) fd F') := ⟨⟨3, 9, b_24⟩, callF prog k, callF_is rfl, ok_24' E H⟩
theorem ok_25' (E : Ev0 P w K mg A) {k : Nat} (H : All P w K mg base A k) : FnOk P w K mg base (L2.CX P w) (2 * (k + 1)) (A.f 25) (A.fdd 25) ["value"] (spF (lk K A) ⟨1, 1, b_25⟩ (callF prog k)) := by
  have nd : (["value"] : List Str).Nodup := by decide +kernel
  refine ev_okX E.D_25 sc_25 rfl rfl fun cdv A' outer s H0 E' hr tk => ?_
  exact (ss_cons (s_if (t_not (t_val rfl (c_isi (t := (.own 5)) rfl E.kf rfl rfl E.z_isinstance boot_isinstance (cv 0) (pe_glob rfl E.gc_5 rfl)))) (ss_cons (s_raise rfl tk (pm_own E.ec_1 E.gx_1 rfl)) ss_nil) ss_nil) ss_nil)
theorem ok_25 (E : Ev0 P w K mg A) {k : Nat} (H : All P w K mg base A k) : ∃ fd F', isFD (callF prog (k + 1)) 25 fd F' ∧ FnOk P w K mg base (L2.CX P w) (2 * (k + 1)) (A.f 25) (A.fdd 25) ["value"] (spF (lk K A) fd F') := ⟨⟨1, 1, b_25⟩, callF prog k, callF_is rfl, ok_25' E H⟩
theorem ok_26' (E : Ev0 P w K mg A) {k : Nat} (H : All P w K mg base A k) : FnOk P w K mg base (L2.CX P w) (2 * (k + 1)) (A.f 26) (A.fdd 26) ["letters", "value"] (spF (lk K A) ⟨2, 2, b_26⟩ (callF prog k)) := by
  have nd : (["letters", "value"] : List Str).Nodup := by decide +kernel
  obtain ⟨fd4, F4, hF4, FO4⟩ := H.c_4
  refine ev_okX E.D_26 sc_26 rfl rfl fun cdv A' outer s H0 E' hr tk => ?_
  exact (ss_cons (s_ret (c_and (c_isi (t := .tuple) rfl E.kf True.intro rfl E.z_isinstance boot_isinstance (cv 1) (pe_bltn rfl E.z_tuple boot_tuple rfl)) (c_and (c_cmp s_le (c_bi (i_len rfl) rfl E.z_len boot_len (a_cons (cv 1) a_nil)) (ck E.k_MOST_WORD.choose_spec)) (c_one (c_call FO4 hF4 (hr.mono (Nat.le_succ _)) rfl E.g_4 E.D_4.kp E.b_4 .nil (fun _ _ => .nil) (passAt tk) (a_cons (cv 1) (a_cons c_int (a_cons (c_bin s_sub (cv 0) c_int) a_nil)))))))) ss_nil)
theorem ok_26 (E : Ev0 P w K mg A) {k : Nat} (H : All P w K mg base A k) : ∃ fd F', isFD (callF prog (k + 1)) 26 fd F' ∧ FnOk P w K mg base (L2.CX P w) (2 * (k + 1)) (A.f 26) (A.fdd 26) ["letters", "value"] (spF (lk K A) fd F') := ⟨⟨2, 2, b_26⟩, callF prog k, callF_is rfl, ok_26' E H⟩
theorem ok_27' (E : Ev0 P w K mg A) {k : Nat} (H : All P w K mg base A k) : FnOk P w K mg base (L2.CX P w) (2 * (k + 1)) (A.f 27) (A.fdd 27) ["letters", "value"] (spF (lk K A) ⟨2, 2, b_27⟩ (callF prog k)) := by
  have nd : (["letters", "value"] : List Str).Nodup := by decide +kernel
  obtain ⟨fd26, F26, hF26, FO26⟩ := H.c_26
  refine ev_okX E.D_27 sc_27 rfl rfl fun cdv A' outer s H0 E' hr tk => ?_
  exact (ss_cons (s_if (t_not (t_val rfl (c_call FO26 hF26 (hr.mono (Nat.le_succ _)) rfl E.g_26 E.D_26.kp E.b_26 .nil (fun _ _ => .nil) (passAt tk) (a_cons (cv 0) (a_cons (cv 1) a_nil))))) (ss_cons (s_raise rfl tk (pm_own E.ec_2 E.gx_2 rfl)) ss_nil) ss_nil) ss_nil)
theorem ok_27 (E : Ev0 P w K mg A) {k : Nat} (H : All P w K mg base A k) : ∃ fd F', isFD (callF prog (k + 1)) 27 fd F' ∧ FnOk P w K mg base (L2.CX P w) (2 * (k + 1)) (A.f 27) (A.fdd 27) ["letters", "value"] (spF (lk K A) fd F') := ⟨⟨2, 2, b_27⟩, callF prog k, callF_is rfl, ok_27' E H⟩
theorem ok_28' (E : Ev0 P w K mg A) {k : Nat} (H : All P w K mg base A k) : FnOk P w K mg base (L2.CX P w) (2 * (k + 1)) (A.f 28) (A.fdd 28) ["reader", "word"] (spF (lk K A) ⟨2, 2, b_28⟩ (callF prog k)) := by
  have nd : (["reader", "word"] : List Str).Nodup := by decide +kernel
  obtain ⟨fd25, F25, hF25, FO25⟩ := H.c_25
  obtain ⟨fd27, F27, hF27, FO27⟩ := H.c_27
  refine ev_okX E.D_28 sc_28 rfl rfl fun cdv A' outer s H0 E' hr tk => ?_
  exact (ss_cons (s_exp (c_call FO25 hF25 (hr.mono (Nat.le_succ _)) rfl E.g_25 E.D_25.kp E.b_25 .nil (fun _ _ => .nil) (passAt tk) (a_cons (cv 0) a_nil))) (ss_cons (s_exp (c_call FO27 hF27 (hr.mono (Nat.le_succ _)) rfl E.g_27 E.D_27.kp E.b_27 .nil (fun _ _ => .nil) (passAt tk) (a_cons (c_fld rfl E.at_own_letters (cv 0)) (a_cons (cv 1) a_nil)))) ss_nil))
theorem ok_28 (E : Ev0 P w K mg A) {k : Nat} (H : All P w K mg base A k) : ∃ fd F', isFD (callF prog (k + 1)) 28 fd F' ∧ FnOk P w K mg base (L2.CX P w) (2 * (k + 1)) (A.f 28) (A.fdd 28) ["reader", "word"] (spF (lk K A) fd F') := ⟨⟨2, 2, b_28⟩, callF prog k, callF_is rfl, ok_28' E H⟩
theorem ok_29' (E : Ev0 P w K mg A) {k : Nat} (H : All P w K mg base A k) : FnOk P w K mg base (L2.CX P w) (2 * (k + 1)) (A.f 29) (A.fdd 29) ["reader", "length"] (spF (lk K A) ⟨2, 2, b_29⟩ (callF prog k)) := by
  have nd : (["reader", "length"] : List Str).Nodup := by decide +kernel
  obtain ⟨fd7, F7, hF7, FO7⟩ := H.c_7
  obtain ⟨fd25, F25, hF25, FO25⟩ := H.c_25
  refine ev_okX E.D_29 sc_29 rfl rfl fun cdv A' outer s H0 E' hr tk => ?_
  exact (ss_cons (s_exp (c_call FO25 hF25 (hr.mono (Nat.le_succ _)) rfl E.g_25 E.D_25.kp E.b_25 .nil (fun _ _ => .nil) (passAt tk) (a_cons (cv 0) a_nil))) (ss_cons (s_exp (c_call FO7 hF7 (hr.mono (Nat.le_succ _)) rfl E.g_7 E.D_7.kp E.b_7 .nil (fun _ _ => .nil) (passAt tk) (a_cons (cv 1) (a_cons c_int (a_cons (ck E.k_MOST_LENGTH.choose_spec) a_nil))))) ss_nil))
theorem ok_29 (E : Ev0 P w K mg A) {k : Nat} (H : All P w K mg base A k) : ∃ fd F', isFD (callF prog (k + 1)) 29 fd F' ∧ FnOk P w K mg base (L2.CX P w) (2 * (k + 1)) (A.f 29) (A.fdd 29) ["reader", "length"] (spF (lk K A) fd F') := ⟨⟨2, 2, b_29⟩, callF prog k, callF_is rfl, ok_29' E H⟩
theorem ok_30' (E : Ev0 P w K mg A) {k : Nat} (H : All P w K mg base A k) : FnOk P w K mg base (L2.CX P w) (2 * (k + 1)) (A.f 30) (A.fdd 30) ["reader", "word"] (spF (lk K A) ⟨2, 2, b_30⟩ (callF prog k)) := by
  have nd : (["reader", "word"] : List Str).Nodup := by decide +kernel
  obtain ⟨fd19, F19, hF19, FO19⟩ := H.c_19
  obtain ⟨fd28, F28, hF28, FO28⟩ := H.c_28
  refine ev_okX E.D_30 sc_30 rfl rfl fun cdv A' outer s H0 E' hr tk => ?_
  exact (ss_cons (s_exp (c_call FO28 hF28 (hr.mono (Nat.le_succ _)) rfl E.g_28 E.D_28.kp E.b_28 .nil (fun _ _ => .nil) (passAt tk) (a_cons (cv 0) (a_cons (cv 1) a_nil)))) (ss_cons (s_ret (c_call FO19 hF19 (hr.mono (Nat.le_succ _)) rfl E.g_19 E.D_19.kp E.b_19 .nil (fun _ _ => .nil) (passAt tk) (a_cons (cv 0) (a_cons (cv 1) a_nil)))) ss_nil))
theorem ok_30 (E : Ev0 P w K mg A) {k : Nat} (H : All P w K mg base A k) : ∃ fd F', isFD (callF prog (k + 1)) 30 fd F' ∧ FnOk P w K mg base (L2.CX P w) (2 * (k + 1)) (A.f 30) (A.fdd 30) ["reader", "word"] (spF (lk K A) fd F') := ⟨⟨2, 2, b_30⟩, callF prog k, callF_is rfl, ok_30' E H⟩
theorem ok_31' (E : Ev0 P w K mg A) {k : Nat} (H : All P w K mg base A k) : FnOk P w K mg base (L2.CX P w) (2 * (k + 1)) (A.f 31) (A.fdd 31) ["reader"] (spF (lk K A) ⟨1, 1, b_31⟩ (callF prog k)) := by
  have nd : (["reader"] : List Str).Nodup := by decide +kernel
  obtain ⟨fd21, F21, hF21, FO21⟩ := H.c_21
  obtain ⟨fd25, F25, hF25, FO25⟩ := H.c_25
  refine ev_okX E.D_31 sc_31 rfl rfl fun cdv A' outer s H0 E' hr tk => ?_
  exact (ss_cons (s_exp (c_call FO25 hF25 (hr.mono (Nat.le_succ _)) rfl E.g_25 E.D_25.kp E.b_25 .nil (fun _ _ => .nil) (passAt tk) (a_cons (cv 0) a_nil))) (ss_cons (s_ret (c_call FO21 hF21 (hr.mono (Nat.le_succ _)) rfl E.g_21 E.D_21.kp E.b_21 .nil (fun _ _ => .nil) (passAt tk) (a_cons (cv 0) a_nil))) ss_nil))
theorem ok_31 (E : Ev0 P w K mg A) {k : Nat} (H : All P w K mg base A k) : ∃ fd F', isFD (callF prog (k + 1)) 31 fd F' ∧ FnOk P w K mg base (L2.CX P w) (2 * (k + 1)) (A.f 31) (A.fdd 31) ["reader"] (spF (lk K A) fd F') := ⟨⟨1, 1, b_31⟩, callF prog k, callF_is rfl, ok_31' E H⟩
theorem ok_32' (E : Ev0 P w K mg A) {k : Nat} (H : All P w K mg base A k) : FnOk P w K mg base (L2.CX P w) (2 * (k + 1)) (A.f 32) (A.fdd 32) ["reader", "length"] (spF (lk K A) ⟨2, 2, b_32⟩ (callF prog k)) := by
  have nd : (["reader", "length"] : List Str).Nodup := by decide +kernel
  obtain ⟨fd23, F23, hF23, FO23⟩ := H.c_23
  obtain ⟨fd29, F29, hF29, FO29⟩ := H.c_29
  refine ev_okX E.D_32 sc_32 rfl rfl fun cdv A' outer s H0 E' hr tk => ?_
  exact (ss_cons (s_exp (c_call FO29 hF29 (hr.mono (Nat.le_succ _)) rfl E.g_29 E.D_29.kp E.b_29 .nil (fun _ _ => .nil) (passAt tk) (a_cons (cv 0) (a_cons (cv 1) a_nil)))) (ss_cons (s_ret (c_call FO23 hF23 (hr.mono (Nat.le_succ _)) rfl E.g_23 E.D_23.kp E.b_23 .nil (fun _ _ => .nil) (passAt tk) (a_cons (cv 0) (a_cons (cv 1) a_nil)))) ss_nil))
theorem ok_32 (E : Ev0 P w K mg A) {k : Nat} (H : All P w K mg base A k) : ∃ fd F', isFD (callF prog (k + 1)) 32 fd F' ∧ FnOk P w K mg base (L2.CX P w) (2 * (k + 1)) (A.f 32) (A.fdd 32) ["reader", "length"] (spF (lk K A) fd F') := ⟨⟨2, 2, b_32⟩, callF prog k, callF_is rfl, ok_32' E H⟩
theorem ok_33' (E : Ev0 P w K mg A) {k : Nat} (H : All P w K mg base A k) : FnOk P w K mg base (L2.CX P w) (2 * (k + 1)) (A.f 33) (A.fdd 33) ["reader", "length"] (spF (lk K A) ⟨2, 7, b_33⟩ (callF prog k)) := by
  have nd : (["reader", "length", "counts", "found", "turn", "word", "state"] : List Str).Nodup := by decide +kernel
  obtain ⟨fd22, F22, hF22, FO22⟩ := H.c_22
  obtain ⟨fd24, F24, hF24, FO24⟩ := H.c_24
  obtain ⟨fd29, F29, hF29, FO29⟩ := H.c_29
  refine ev_okX E.D_33 sc_33 rfl rfl fun cdv A' outer s H0 E' hr tk => ?_
  exact (ss_cons (s_exp (c_call FO29 hF29 (hr.mono (Nat.le_succ _)) rfl E.g_29 E.D_29.kp E.b_29 .nil (fun _ _ => .nil) (passAt tk) (a_cons (cv 0) (a_cons (cv 1) a_nil)))) (ss_cons (s_set (i := 2) nd rfl (by first | exact Or.inl rfl | exact Or.inr rfl) (c_call FO22 hF22 (hr.mono (Nat.le_succ _)) rfl E.g_22 E.D_22.kp E.b_22 .nil (fun _ _ => .nil) (passAt tk) (a_cons (cv 0) (a_cons (cv 1) a_nil)))) (ss_cons (s_if (t_cmp s_gt (c_idx (s_idx rfl (hu_of hr)) (c_idx (s_idx rfl (hu_of hr)) (cv 2) (c_neg c_int)) c_int) (ck E.k_MOST_WORDS.choose_spec)) (ss_cons (s_raise1 rfl tk (pmk_sup sup_OverflowError sut_4 E.su_4.choose_spec.choose_spec.choose_spec E.z_super hr rfl E.gx_4 (ck E.k_MOST_WORDS.choose_spec))) ss_nil) ss_nil) (ss_cons (s_set (i := 3) nd rfl (by first | exact Or.inl rfl | exact Or.inr rfl) (c_ite (t_cmp s_gt (c_idx (s_idx rfl (hu_of hr)) (c_idx (s_idx rfl (hu_of hr)) (cv 2) (c_neg c_int)) c_int) c_int) (c_lst (a_cons (c_tup (a_cons (c_tup a_nil) (a_cons c_int a_nil))) a_nil)) (c_lst a_nil))) (ss_cons (s_for (passes_of rfl) rfl (i_range1 rfl E.z_range (cv 1)) (g_name (i := 4) nd rfl (by first | exact Or.inl rfl | exact Or.inr rfl)) (ss_cons (s_set (i := 3) nd rfl (by first | exact Or.inl rfl | exact Or.inr rfl) (c_call FO24 hF24 (hr.mono (Nat.le_succ _)) rfl E.g_24 E.D_24.kp E.b_24 .nil (fun _ _ => .nil) (passAt tk) (a_cons (cv 0) (a_cons (cv 3) (a_cons (c_idx (s_idx rfl (hu_of hr)) (cv 2) (c_bin s_sub (c_bin s_sub (cv 1) (cv 4)) c_int)) a_nil))))) ss_nil)) (ss_cons (s_ret (c_ty (i_tuple rfl) rfl E.z_tuple boot_tuple (a_cons (c_comp rfl nd (by decide) (ownN := [("word", 5), ("state", 6)]) (i_seq rfl (cv 3)) (blkOk_by (by kernel_rfl)) (fun _ _ _ _ _ => (g_tup rfl rfl (gs_cons (g_name (i := 5) nd rfl (by first | exact Or.inl rfl | exact Or.inr rfl)) (gs_cons (g_name (i := 6) nd rfl (by first | exact Or.inl rfl | exact Or.inr rfl)) gs_nil)))) (fun _ _ _ _ _ => y_nil) (fun _ _ _ _ _ => (cv 5))) a_nil))) ss_nil))))))
theorem ok_33 (E : Ev0 P w K mg A) {k : Nat} (H : All P w K mg base A k) : ∃ fd F', isFD (callF prog (k + 1)) 33 fd F' ∧ FnOk P w K mg base (L2.CX P w) (2 * (k + 1)) (A.f 33) (A.fdd 33) ["reader", "length"] (spF (lk K A) fd F') := ⟨⟨2, 7, b_33⟩, callF prog k, callF_is rfl, ok_33' E H⟩
theorem ok_34' (E : Ev0 P w K mg A) {k : Nat} (H : All P w K mg base A k) : FnOk P w K mg base (L2.CX P w) (2 * (k + 1)) (A.f 34) (A.fdd 34) ["script", "spot"] (spF (lk K A) ⟨2, 5, b_34⟩ (callF prog k)) := by
  have nd : (["script", "spot", "cell", "great", "mixed"] : List Str).Nodup := by decide +kernel
  refine ev_okX E.D_34 sc_34 rfl rfl fun cdv A' outer s H0 E' hr tk => ?_
  exact (ss_cons (s_set (i := 2) nd rfl (by first | exact Or.inl rfl | exact Or.inr rfl) (c_ite (t_cmp (s_lt rfl (hu65 hr)) (cv 1) (c_bi (i_len rfl) rfl E.z_len boot_len (a_cons (cv 0) a_nil))) (c_ty i_int rfl E.z_int boot_int (a_cons (c_idx (s_idx rfl (hu_of hr)) (cv 0) (cv 1)) a_nil)) (c_bin (s_add rfl) (c_bin (s_mul rfl) c_int (cv 1)) c_int))) (ss_cons (s_set (i := 3) nd rfl (by first | exact Or.inl rfl | exact Or.inr rfl) (c_bin s_mod (c_ty i_int rfl E.z_int boot_int (a_cons (c_bi i_abs rfl E.z_abs boot_abs (a_cons (cv 2) a_nil)) a_nil)) (c_bin s_pow (c_bin s_pow c_int c_int) c_int))) (ss_cons (s_set (i := 4) nd rfl (by first | exact Or.inl rfl | exact Or.inr rfl) (c_bin (s_add rfl) (c_bin (s_add rfl) (c_bin (s_add rfl) (c_bin (s_mul rfl) (c_bin s_mod (c_ty i_int rfl E.z_int boot_int (a_cons (cv 3) a_nil)) c_int) c_int) (c_bin (s_mul rfl) c_int (cv 1))) (c_bin (s_mul rfl) c_int (c_ty i_int rfl E.z_int boot_int (a_cons (c_cmp (s_lt rfl (hu65 hr)) (cv 2) c_int) a_nil)))) c_int)) (ss_cons (s_ret (c_lst (a_cons (c_bi (i_max2 rfl) rfl E.z_max boot_max (a_cons c_int (a_cons (c_bin s_sub (cv 3) (c_bin s_pow c_int c_int)) a_nil))) (a_cons (cv 4) (a_cons c_int a_nil))))) ss_nil))))
theorem ok_34 (E : Ev0 P w K mg A) {k : Nat} (H : All P w K mg base A k) : ∃ fd F', isFD (callF prog (k + 1)) 34 fd F' ∧ FnOk P w K mg base (L2.CX P w) (2 * (k + 1)) (A.f 34) (A.fdd 34) ["script", "spot"] (spF (lk K A) fd F') := ⟨⟨2, 5, b_34⟩, callF prog k, callF_is rfl, ok_34' E H⟩
theorem ok_35' (E : Ev0 P w K mg A) {k : Nat} (H : All P w K mg base A k) : FnOk P w K mg base (L2.CX P w) (2 * (k + 1)) (A.f 35) (A.fdd 35) ["bag", "total"] (spF (lk K A) ⟨2, 5, b_35⟩ (callF prog k)) := by
  have nd : (["bag", "total", "found", "one", "two"] : List Str).Nodup := by decide +kernel
  refine ev_okX E.D_35 sc_35 rfl rfl fun cdv A' outer s H0 E' hr tk => ?_
  exact (ss_cons (s_if (t_cmp s_gt (c_idx (s_idx rfl (hu_of hr)) (cv 0) c_int) c_int) (ss_cons (s_set (i := 2) nd rfl (by first | exact Or.inl rfl | exact Or.inr rfl) (c_bin s_mod (c_ty i_int rfl E.z_int boot_int (a_cons (c_idx (s_idx rfl (hu_of hr)) (cv 0) c_int) a_nil)) (cv 1))) (ss_cons (s_setI (i := 0) (hu_of hr) rfl (by first | exact Or.inl rfl | exact Or.inr (Or.inl rfl) | exact Or.inr (Or.inr rfl)) c_int (c_bin s_fdiv (c_idx (s_idx rfl (hu_of hr)) (cv 0) c_int) (cv 1))) (ss_cons (s_ret (cv 2)) ss_nil))) ss_nil) (ss_cons (s_setI (i := 0) (hu_of hr) rfl (by first | exact Or.inl rfl | exact Or.inr (Or.inl rfl) | exact Or.inr (Or.inr rfl)) c_int (c_bin (s_add rfl) (c_idx (s_idx rfl (hu_of hr)) (cv 0) c_int) c_int)) (ss_cons (s_set (i := 3) nd rfl (by first | exact Or.inl rfl | exact Or.inr rfl) (c_bin s_mod (c_ty i_int rfl E.z_int boot_int (a_cons (c_bin (s_add rfl) (c_idx (s_idx rfl (hu_of hr)) (cv 0) c_int) (c_bin (s_mul rfl) c_int (c_idx (s_idx rfl (hu_of hr)) (cv 0) c_int))) a_nil)) c_int)) (ss_cons (s_set (i := 4) nd rfl (by first | exact Or.inl rfl | exact Or.inr rfl) (c_bin (s_add rfl) (c_bin (s_mul rfl) (c_bin s_mod (c_ty i_int rfl E.z_int boot_int (a_cons (c_bin (s_add rfl) (c_bin (s_mul rfl) (cv 3) (cv 3)) (c_bin (s_mul rfl) c_int (c_idx (s_idx rfl (hu_of hr)) (cv 0) c_int))) a_nil)) c_int) c_int) (cv 3))) (ss_cons (s_ret (c_bin s_mod (c_ty i_int rfl E.z_int boot_int (a_cons (c_bin s_fdiv (cv 4) c_int) a_nil)) (cv 1))) ss_nil)))))
theorem ok_35 (E : Ev0 P w K mg A) {k : Nat} (H : All P w K mg base A k) : ∃ fd F', isFD (callF prog (k + 1)) 35 fd F' ∧ FnOk P w K mg base (L2.CX P w) (2 * (k + 1)) (A.f 35) (A.fdd 35) ["bag", "total"] (spF (lk K A) fd F') := ⟨⟨2, 5, b_35⟩, callF prog k, callF_is rfl, ok_35' E H⟩
theorem ok_36' (E : Ev0 P w K mg A) {k : Nat} (H : All P w K mg base A k) : FnOk P w K mg base (L2.CX P w) (2 * (k + 1)) (A.f 36) (A.fdd 36) ["bag", "items"] (spF (lk K A) ⟨2, 2, b_36⟩ (callF prog k)) := by
  have nd : (["bag", "items"] : List Str).Nodup := by decide +kernel
  obtain ⟨fd35, F35, hF35, FO35⟩ := H.c_35
  refine ev_okX E.D_36 sc_36 rfl rfl fun cdv A' outer s H0 E' hr tk => ?_
  exact (ss_cons (s_ret (c_idx (s_idx rfl (hu_of hr)) (cv 1) (c_call FO35 hF35 (hr.mono (Nat.le_succ _)) rfl E.g_35 E.D_35.kp E.b_35 .nil (fun _ _ => .nil) (passAt tk) (a_cons (cv 0) (a_cons (c_bi (i_len rfl) rfl E.z_len boot_len (a_cons (cv 1) a_nil)) a_nil))))) ss_nil)
theorem ok_36 (E : Ev0 P w K mg A) {k : Nat} (H : All P w K mg base A k) : ∃ fd F', isFD (callF prog (k + 1)) 36 fd F' ∧ FnOk P w K mg base (L2.CX P w) (2 * (k + 1)) (A.f 36) (A.fdd 36) ["bag", "items"] (spF (lk K A) fd F') := ⟨⟨2, 2, b_36⟩, callF prog k, callF_is rfl, ok_36' E H⟩
theorem ok_37' (E : Ev0 P w K mg A) {k : Nat} (H : All P w K mg base A k) : FnOk P w K mg base (L2.CX P w) (2 * (k + 1)) (A.f 37) (A.fdd 37) ["reader"] (spF (lk K A) ⟨1, 5, b_37⟩ (callF prog k)) := by
  have nd : (["reader", "found", "known", "at", "state"] : List Str).Nodup := by decide +kernel
  refine ev_okX E.D_37 sc_37 rfl rfl fun cdv A' outer s H0 E' hr tk => ?_
  exact (ss_cons (s_par3 (i := 1) (j := 2) (l := 3) rfl nd rfl rfl rfl (by decide) (by decide) (by decide) rfl rfl rfl (a_cons (c_lst (a_cons c_int a_nil)) (a_cons (c_dic1 c_int c_bl) (a_cons c_int a_nil)))) (ss_cons (s_while (passes_of rfl) (t_cmp (s_lt rfl (hu65 hr)) (cv 3) (c_bi (i_len rfl) rfl E.z_len boot_len (a_cons (cv 1) a_nil))) (ss_cons (s_for (passes_of rfl) rfl (i_seq rfl (c_idx (s_idx rfl (hu_of hr)) (c_idx (s_idx rfl (hu_of hr)) (cv 0) c_int) (c_idx (s_idx rfl (hu_of hr)) (cv 1) (cv 3)))) (g_name (i := 4) nd rfl (by first | exact Or.inl rfl | exact Or.inr rfl)) (ss_cons (s_if (t_cmp (s_notin rfl (hu65 hr)) (cv 4) (cv 2)) (ss_cons (s_setI (i := 2) (hu_of hr) rfl (by first | exact Or.inl rfl | exact Or.inr (Or.inl rfl) | exact Or.inr (Or.inr rfl)) (cv 4) c_bl) (ss_cons (s_exp (c_meth s_append (i := 1) rfl (by first | exact Or.inl rfl | exact Or.inr (Or.inl rfl) | exact Or.inr (Or.inr rfl)) PySem.F.plainAttrs_list PySem.F.slot_list_append PySem.F.type_list_append (a_cons (cv 4) a_nil))) ss_nil)) ss_nil) ss_nil)) (ss_cons (s_set (i := 3) nd rfl (by first | exact Or.inl rfl | exact Or.inr rfl) (c_bin (s_add rfl) (cv 3) c_int)) ss_nil))) (ss_cons (s_ret (cv 1)) ss_nil)))
theorem ok_37 (E : Ev0 P w K mg A) {k : Nat} (H : All P w K mg base A k) : ∃ fd F', isFD (callF prog (k + 1)) 37 fd F' ∧ FnOk P w K mg base (L2.CX P w) (2 * (k + 1)) (A.f 37) (A.fdd 37) ["reader"] (spF (lk K A) fd F') := ⟨⟨1, 5, b_37⟩, callF prog k, callF_is rfl, ok_37' E H⟩
theorem ok_38' (E : Ev0 P w K mg A) {k : Nat} (H : All P w K mg base A k) : FnOk P w K mg base (L2.CX P w) (2 * (k + 1)) (A.f 38) (A.fdd 38) ["reader"] (spF (lk K A) ⟨1, 7, b_38⟩ (callF prog k)) := by
  have nd : (["reader", "kept", "known", "at", "states", "letter", "state"] : List Str).Nodup := by decide +kernel
  refine ev_okX E.D_38 sc_38 rfl rfl fun cdv A' outer s H0 E' hr tk => ?_
  exact (ss_cons (s_par3 (i := 1) (j := 2) (l := 3) rfl nd rfl rfl rfl (by decide) (by decide) (by decide) rfl rfl rfl (a_cons (c_lst (a_cons (c_tup a_nil) a_nil)) (a_cons (c_dic1 c_int c_bl) (a_cons c_int a_nil)))) (ss_cons (s_set (i := 4) nd rfl (by first | exact Or.inl rfl | exact Or.inr rfl) (c_lst (a_cons c_int a_nil))) (ss_cons (s_while (passes_of rfl) (t_cmp (s_lt rfl (hu65 hr)) (cv 3) (c_bi (i_len rfl) rfl E.z_len boot_len (a_cons (cv 1) a_nil))) (ss_cons (s_if (t_cmp (s_in rfl (hu65 hr)) (c_idx (s_idx rfl (hu_of hr)) (cv 4) (cv 3)) (c_idx (s_idx rfl (hu_of hr)) (cv 0) c_int)) (ss_cons (s_ret (c_idx (s_idx rfl (hu_of hr)) (cv 1) (cv 3))) ss_nil) ss_nil) (ss_cons (s_for (passes_of rfl) rfl (i_range1 rfl E.z_range (c_idx (s_idx rfl (hu_of hr)) (cv 0) c_int)) (g_name (i := 5) nd rfl (by first | exact Or.inl rfl | exact Or.inr rfl)) (ss_cons (s_set (i := 6) nd rfl (by first | exact Or.inl rfl | exact Or.inr rfl) (c_idx (s_idx rfl (hu_of hr)) (c_idx (s_idx rfl (hu_of hr)) (c_idx (s_idx rfl (hu_of hr)) (cv 0) c_int) (c_idx (s_idx rfl (hu_of hr)) (cv 4) (cv 3))) (cv 5))) (ss_cons (s_if (t_cmp (s_notin rfl (hu65 hr)) (cv 6) (cv 2)) (ss_cons (s_setI (i := 2) (hu_of hr) rfl (by first | exact Or.inl rfl | exact Or.inr (Or.inl rfl) | exact Or.inr (Or.inr rfl)) (cv 6) c_bl) (ss_cons (s_exp (c_meth s_append (i := 4) rfl (by first | exact Or.inl rfl | exact Or.inr (Or.inl rfl) | exact Or.inr (Or.inr rfl)) PySem.F.plainAttrs_list PySem.F.slot_list_append PySem.F.type_list_append (a_cons (cv 6) a_nil))) (ss_cons (s_exp (c_meth s_append (i := 1) rfl (by first | exact Or.inl rfl | exact Or.inr (Or.inl rfl) | exact Or.inr (Or.inr rfl)) PySem.F.plainAttrs_list PySem.F.slot_list_append PySem.F.type_list_append (a_cons (c_bin (s_add rfl) (c_idx (s_idx rfl (hu_of hr)) (cv 1) (cv 3)) (c_tup (a_cons (cv 5) a_nil))) a_nil))) ss_nil))) ss_nil) ss_nil))) (ss_cons (s_set (i := 3) nd rfl (by first | exact Or.inl rfl | exact Or.inr rfl) (c_bin (s_add rfl) (cv 3) c_int)) ss_nil)))) (ss_cons (s_ret c_non) ss_nil))))
theorem ok_38 (E : Ev0 P w K mg A) {k : Nat} (H : All P w K mg base A k) : ∃ fd F', isFD (callF prog (k + 1)) 38 fd F' ∧ FnOk P w K mg base (L2.CX P w) (2 * (k + 1)) (A.f 38) (A.fdd 38) ["reader"] (spF (lk K A) fd F') := ⟨⟨1, 7, b_38⟩, callF prog k, callF_is rfl, ok_38' E H⟩
theorem ok_39' (E : Ev0 P w K mg A) {k : Nat} (H : All P w K mg base A k) : FnOk P w K mg base (L2.CX P w) (2 * (k + 1)) (A.f 39) (A.fdd 39) ["bag", "letters", "most"] (spF (lk K A) ⟨3, 7, b_39⟩ (callF prog k)) := by
  have nd : (["bag", "letters", "most", "many", "steps", "state", "letter"] : List Str).Nodup := by decide +kernel
  obtain ⟨fd35, F35, hF35, FO35⟩ := H.c_35
  refine ev_okX E.D_39 sc_39 rfl rfl fun cdv A' outer s H0 E' hr tk => ?_
  exact (ss_cons (s_set (i := 3) nd rfl (by first | exact Or.inl rfl | exact Or.inr rfl) (c_bin (s_add rfl) c_int (c_call FO35 hF35 (hr.mono (Nat.le_succ _)) rfl E.g_35 E.D_35.kp E.b_35 .nil (fun _ _ => .nil) (passAt tk) (a_cons (cv 0) (a_cons (cv 2) a_nil))))) (ss_cons (s_setLc (i := 4) rfl nd (by decide) rfl rfl (sw_true rfl rfl rfl rfl) (ownN := [("state", 5)]) (i_range1 rfl E.z_range (cv 3)) (blkOk_by (by kernel_rfl)) (fun _ _ _ _ _ => (g_name (i := 5) nd rfl (by first | exact Or.inl rfl | exact Or.inr rfl))) (fun _ _ _ _ _ => y_nil) (fun _ _ _ _ _ => (c_ty (i_tuple rfl) rfl E.z_tuple boot_tuple (a_cons (c_comp rfl nd (by decide) (ownN := [("letter", 6)]) (i_range1 rfl E.z_range (cv 1)) (blkOk_by (by kernel_rfl)) (fun _ _ _ _ _ => (g_name (i := 6) nd rfl (by first | exact Or.inl rfl | exact Or.inr rfl))) (fun _ _ _ _ _ => y_nil) (fun _ _ _ _ _ => (c_call FO35 hF35 (hr.mono (Nat.le_succ _)) rfl E.g_35 E.D_35.kp E.b_35 .nil (fun _ _ => .nil) passF (a_cons (cv 0) (a_cons (cv 3) a_nil))))) a_nil)))) (ss_cons (s_ret (c_tup (a_cons (cv 1) (a_cons (c_ty (i_tuple rfl) rfl E.z_tuple boot_tuple (a_cons (cv 4) a_nil)) (a_cons (c_ty (i_tuple rfl) rfl E.z_tuple boot_tuple (a_cons (c_comp rfl nd (by decide) (ownN := [("state", 5)]) (i_range1 rfl E.z_range (cv 3)) (blkOk_by (by kernel_rfl)) (fun _ _ _ _ _ => (g_name (i := 5) nd rfl (by first | exact Or.inl rfl | exact Or.inr rfl))) (fun _ _ _ _ _ => y_one (t_cmp (s_eq rfl hr.units) (c_call FO35 hF35 (hr.mono (Nat.le_succ _)) rfl E.g_35 E.D_35.kp E.b_35 .nil (fun _ _ => .nil) passF (a_cons (cv 0) (a_cons c_int a_nil))) c_int)) (fun _ _ _ _ _ => (cv 5))) a_nil)) a_nil))))) ss_nil)))
theorem ok_39 (E : Ev0 P w K mg A) {k : Nat} (H : All P w K mg base A k) : ∃ fd F', isFD (callF prog (k + 1)) 39 fd F' ∧ FnOk P w K mg base (L2.CX P w) (2 * (k + 1)) (A.f 39) (A.fdd 39) ["bag", "letters", "most"] (spF (lk K A) fd F') := ⟨⟨3, 7, b_39⟩, callF prog k, callF_is rfl, ok_39' E H⟩
theorem ok_40' (E : Ev0 P w K mg A) {k : Nat} (H : All P w K mg base A k) : FnOk P w K mg base (L2.CX P w) (2 * (k + 1)) (A.f 40) (A.fdd 40) ["reader", "length"] (spF (lk K A) ⟨2, 7, b_40⟩ (callF prog k)) := by
  have nd : (["reader", "length", "ways", "turn", "state", "row", "other"] : List Str).Nodup := by decide +kernel
  refine ev_okX E.D_40 sc_40 rfl rfl fun cdv A' outer s H0 E' hr tk => ?_
  exact (ss_cons (s_set (i := 2) nd rfl (by first | exact Or.inl rfl | exact Or.inr rfl) (c_comp rfl nd (by decide) (ownN := [("state", 4)]) (i_range1 rfl E.z_range (c_bi (i_len rfl) rfl E.z_len boot_len (a_cons (c_idx (s_idx rfl (hu_of hr)) (cv 0) c_int) a_nil))) (blkOk_by (by kernel_rfl)) (fun _ _ _ _ _ => (g_name (i := 4) nd rfl (by first | exact Or.inl rfl | exact Or.inr rfl))) (fun _ _ _ _ _ => y_nil) (fun _ _ _ _ _ => (c_ty i_int rfl E.z_int boot_int (a_cons (c_cmp (s_in rfl (hu65 hr)) (cv 4) (c_idx (s_idx rfl (hu_of hr)) (cv 0) c_int)) a_nil))))) (ss_cons (s_for (passes_of rfl) rfl (i_range1 rfl E.z_range (cv 1)) (g_name (i := 3) nd rfl (by first | exact Or.inl rfl | exact Or.inr rfl)) (ss_cons (s_set (i := 2) nd rfl (by first | exact Or.inl rfl | exact Or.inr rfl) (c_comp rfl nd (by decide) (ownN := [("row", 5)]) (i_seq rfl (c_idx (s_idx rfl (hu_of hr)) (cv 0) c_int)) (blkOk_by (by kernel_rfl)) (fun _ _ _ _ _ => (g_name (i := 5) nd rfl (by first | exact Or.inl rfl | exact Or.inr rfl))) (fun _ _ _ _ _ => y_nil) (fun _ _ _ _ _ => (c_bi (i_sum rfl rfl) rfl E.z_sum boot_sum (a_cons (c_comp rfl nd (by decide) (ownN := [("other", 6)]) (i_seq rfl (cv 5)) (blkOk_by (by kernel_rfl)) (fun _ _ _ _ _ => (g_name (i := 6) nd rfl (by first | exact Or.inl rfl | exact Or.inr rfl))) (fun _ _ _ _ _ => y_nil) (fun _ _ _ _ _ => (c_idx (s_idx rfl (hu_of hr)) (cv 2) (cv 6)))) a_nil))))) ss_nil)) (ss_cons (s_ret (c_idx (s_idx rfl (hu_of hr)) (cv 2) c_int)) ss_nil)))
theorem ok_40 (E : Ev0 P w K mg A) {k : Nat} (H : All P w K mg base A k) : ∃ fd F', isFD (callF prog (k + 1)) 40 fd F' ∧ FnOk P w K mg base (L2.CX P w) (2 * (k + 1)) (A.f 40) (A.fdd 40) ["reader", "length"] (spF (lk K A) fd F') := ⟨⟨2, 7, b_40⟩, callF prog k, callF_is rfl, ok_40' E H⟩
theorem ok_41' (E : Ev0 P w K mg A) {k : Nat} (H : All P w K mg base A k) : FnOk P w K mg base (L2.CX P w) (2 * (k + 1)) (A.f 41) (A.fdd 41) ["reader", "length"] (spF (lk K A) ⟨2, 9, b_41⟩ (callF prog k)) := by
  have nd : (["reader", "length", "found", "turn", "longer", "word", "state", "letter", "other"] : List Str).Nodup := by decide +kernel
  refine ev_okX E.D_41 sc_41 rfl rfl fun cdv A' outer s H0 E' hr tk => ?_
  exact (ss_cons (s_set (i := 2) nd rfl (by first | exact Or.inl rfl | exact Or.inr rfl) (c_lst (a_cons (c_tup (a_cons (c_tup a_nil) (a_cons c_int a_nil))) a_nil))) (ss_cons (s_for (passes_of rfl) rfl (i_range1 rfl E.z_range (cv 1)) (g_name (i := 3) nd rfl (by first | exact Or.inl rfl | exact Or.inr rfl)) (ss_cons (s_set (i := 4) nd rfl (by first | exact Or.inl rfl | exact Or.inr rfl) (c_lst a_nil)) (ss_cons (s_for (passes_of rfl) rfl (i_seq rfl (cv 2)) (g_tup rfl rfl (gs_cons (g_name (i := 5) nd rfl (by first | exact Or.inl rfl | exact Or.inr rfl)) (gs_cons (g_name (i := 6) nd rfl (by first | exact Or.inl rfl | exact Or.inr rfl)) gs_nil))) (ss_cons (s_exp (c_meth s_extend (i := 4) rfl (by first | exact Or.inl rfl | exact Or.inr (Or.inl rfl) | exact Or.inr (Or.inr rfl)) PySem.F.plainAttrs_list PySem.F.slot_list_extend PySem.F.type_list_extend (a_cons (c_comp rfl nd (by decide) (ownN := [("letter", 7), ("other", 8)]) (i_enum rfl rfl E.z_enumerate (c_idx (s_idx rfl (hu_of hr)) (c_idx (s_idx rfl (hu_of hr)) (cv 0) c_int) (cv 6))) (blkOk_by (by kernel_rfl)) (fun _ _ _ _ _ => (g_tup rfl rfl (gs_cons (g_name (i := 7) nd rfl (by first | exact Or.inl rfl | exact Or.inr rfl)) (gs_cons (g_name (i := 8) nd rfl (by first | exact Or.inl rfl | exact Or.inr rfl)) gs_nil)))) (fun _ _ _ _ _ => y_nil) (fun _ _ _ _ _ => (c_tup (a_cons (c_bin (s_add rfl) (cv 5) (c_tup (a_cons (cv 7) a_nil))) (a_cons (cv 8) a_nil))))) a_nil))) ss_nil)) (ss_cons (s_set (i := 2) nd rfl (by first | exact Or.inl rfl | exact Or.inr rfl) (cv 4)) ss_nil)))) (ss_cons (s_ret (c_ty (i_tuple rfl) rfl E.z_tuple boot_tuple (a_cons (c_comp rfl nd (by decide) (ownN := [("word", 5), ("state", 6)]) (i_seq rfl (cv 2)) (blkOk_by (by kernel_rfl)) (fun _ _ _ _ _ => (g_tup rfl rfl (gs_cons (g_name (i := 5) nd rfl (by first | exact Or.inl rfl | exact Or.inr rfl)) (gs_cons (g_name (i := 6) nd rfl (by first | exact Or.inl rfl | exact Or.inr rfl)) gs_nil)))) (fun _ _ _ _ _ => y_one (t_cmp (s_in rfl (hu65 hr)) (cv 6) (c_idx (s_idx rfl (hu_of hr)) (cv 0) c_int))) (fun _ _ _ _ _ => (cv 5))) a_nil))) ss_nil)))
theorem ok_41 (E : Ev0 P w K mg A) {k : Nat} (H : All P w K mg base A k) : ∃ fd F', isFD (callF prog (k + 1)) 41 fd F' ∧ FnOk P w K mg base (L2.CX P w) (2 * (k + 1)) (A.f 41) (A.fdd 41) ["reader", "length"] (spF (lk K A) fd F') := ⟨⟨2, 9, b_41⟩, callF prog k, callF_is rfl, ok_41' E H⟩
theorem ok_42' (E : Ev0 P w K mg A) {k : Nat} (H : All P w K mg base A k) : FnOk P w K mg base (L2.CX P w) (2 * (k + 1)) (A.f 42) (A.fdd 42) ["real", "length"] (spF (lk K A) ⟨2, 3, b_42⟩ (callF prog k)) := by
  have nd : (["real", "length", "error"] : List Str).Nodup := by decide +kernel
  obtain ⟨fd33, F33, hF33, FO33⟩ := H.c_33
  refine ev_okX E.D_42 sc_42 rfl rfl fun cdv A' outer s H0 E' hr tk => ?_
  exact (ss_cons (s_try rfl rfl nd tk (Cla.as_ rfl rfl rfl ⟨rfl, by decide, Or.inl E.gx_4⟩ (fm_cons E.xm_4_1 (fm_cons E.xm_4_2 (fm_cons E.xm_4_3 (fm_cons E.xm_4_4 fm_nil)))) (su_tup (su_cons su_str (su_cons (su_f rfl rfl (okTb (fm_cons (fun h => nomatch h) (fm_cons (fun h => nomatch h) (fm_cons (fun h => nomatch h) (fm_cons (fun _ => ⟨E.xf_4, E.no_4, rfl⟩) fm_nil)))))) su_nil (fun _ => rfl)) (fun _ => rfl)) (by decide)) Cla.nil) (fun W1 pn1 xe1 tk1 po1 => (ss_cons (s_ret (c_call FO33 hF33 (hr.mono (Nat.le_succ _)) rfl E.g_33 E.D_33.kp E.b_33 .nil (fun _ _ => .nil) (passAt tk1) (a_cons (cv 0) (a_cons (cv 1) a_nil)))) ss_nil))) ss_nil)
theorem ok_42 (E : Ev0 P w K mg A) {k : Nat} (H : All P w K mg base A k) : ∃ fd F', isFD (callF prog (k + 1)) 42 fd F' ∧ FnOk P w K mg base (L2.CX P w) (2 * (k + 1)) (A.f 42) (A.fdd 42) ["real", "length"] (spF (lk K A) fd F') := ⟨⟨2, 3, b_42⟩, callF prog k, callF_is rfl, ok_42' E H⟩
theorem ok_43' (E : Ev0 P w K mg A) {k : Nat} (H : All P w K mg base A k) : FnOk P w K mg base (L2.CX P w) (2 * (k + 1)) (A.f 43) (A.fdd 43) ["bag"] (spF (lk K A) ⟨1, 6, b_43⟩ (callF prog k)) := by
  have nd : (["bag", "plain", "real", "due", "length", "many"] : List Str).Nodup := by decide +kernel
  obtain ⟨fd9, F9, hF9, FO9⟩ := H.c_9
  obtain ⟨fd30, F30, hF30, FO30⟩ := H.c_30
  obtain ⟨fd31, F31, hF31, FO31⟩ := H.c_31
  obtain ⟨fd32, F32, hF32, FO32⟩ := H.c_32
  obtain ⟨fd35, F35, hF35, FO35⟩ := H.c_35
  obtain ⟨fd36, F36, hF36, FO36⟩ := H.c_36
  obtain ⟨fd37, F37, hF37, FO37⟩ := H.c_37
  obtain ⟨fd38, F38, hF38, FO38⟩ := H.c_38
  obtain ⟨fd39, F39, hF39, FO39⟩ := H.c_39
  obtain ⟨fd40, F40, hF40, FO40⟩ := H.c_40
  obtain ⟨fd41, F41, hF41, FO41⟩ := H.c_41
  obtain ⟨fd42, F42, hF42, FO42⟩ := H.c_42
  refine ev_okX E.D_43 sc_43 rfl rfl fun cdv A' outer s H0 E' hr tk => ?_
  exact (ss_cons (s_set (i := 1) nd rfl (by first | exact Or.inl rfl | exact Or.inr rfl) (c_call FO39 hF39 (hr.mono (Nat.le_succ _)) rfl E.g_39 E.D_39.kp E.b_39 .nil (fun _ _ => .nil) (passAt tk) (a_cons (cv 0) (a_cons (c_bin (s_add rfl) c_int (c_call FO35 hF35 (hr.mono (Nat.le_succ _)) rfl E.g_35 E.D_35.kp E.b_35 .nil (fun _ _ => .nil) (passAt tk) (a_cons (cv 0) (a_cons c_int a_nil)))) (a_cons (c_call FO36 hF36 (hr.mono (Nat.le_succ _)) rfl E.g_36 E.D_36.kp E.b_36 .nil (fun _ _ => .nil) (passAt tk) (a_cons (cv 0) (a_cons (c_lst (a_cons c_int (a_cons c_int (a_cons c_int a_nil)))) a_nil))) a_nil))))) (ss_cons (s_if (t_cmp (s_eq rfl hr.units) (c_call FO35 hF35 (hr.mono (Nat.le_succ _)) rfl E.g_35 E.D_35.kp E.b_35 .nil (fun _ _ => .nil) (passAt tk) (a_cons (cv 0) (a_cons c_int a_nil))) c_int) (ss_cons (s_set (i := 1) nd rfl (by first | exact Or.inl rfl | exact Or.inr rfl) (c_bin (s_add rfl) (c_slice (s_slice rfl) (cv 1) p_none (p_some c_int)) (c_tup (a_cons (c_slice (s_slice rfl) (c_idx (s_idx rfl (hu_of hr)) (cv 1) c_int) (p_some (c_neg c_int)) p_none) a_nil)))) ss_nil) ss_nil) (ss_cons (s_par2 (i := 2) (j := 3) rfl nd rfl rfl (by decide) rfl rfl (a_cons (c_make (cl := 5) rfl rfl hF9 rfl E.mk_5 FO9 hr rfl E.gc_5 E.b_9 (passAt tk) (a_cons (c_idx (s_idx rfl (hu_of hr)) (cv 1) c_int) (a_cons (c_idx (s_idx rfl (hu_of hr)) (cv 1) c_int) (a_cons (c_idx (s_idx rfl (hu_of hr)) (cv 1) c_int) a_nil)))) (a_cons (c_call FO38 hF38 (hr.mono (Nat.le_succ _)) rfl E.g_38 E.D_38.kp E.b_38 .nil (fun _ _ => .nil) (passAt tk) (a_cons (cv 1) a_nil)) a_nil))) (ss_cons (s_if (c_tw (w_or (t_cmp (s_ne rfl hr.units) (c_call FO31 hF31 (hr.mono (Nat.le_succ _)) rfl E.g_31 E.D_31.kp E.b_31 .nil (fun _ _ => .nil) (passAt tk) (a_cons (cv 2) a_nil)) (cv 3)) (w_or1 (c_tw (w_and (t_cmp s_isnot (cv 3) c_non) (w_and1 (c_tw (w_or (t_not (t_val rfl (c_call FO30 hF30 (hr.mono (Nat.le_succ _)) rfl E.g_30 E.D_30.kp E.b_30 .nil (fun _ _ => .nil) (passAt tk) (a_cons (cv 2) (a_cons (cv 3) a_nil))))) (w_or1 (t_cmp s_ge (c_bi (i_len rfl) rfl E.z_len boot_len (a_cons (cv 3) a_nil)) (c_bi (i_len rfl) rfl E.z_len boot_len (a_cons (c_call FO37 hF37 (hr.mono (Nat.le_succ _)) rfl E.g_37 E.D_37.kp E.b_37 .nil (fun _ _ => .nil) (passAt tk) (a_cons (cv 1) a_nil)) a_nil)))))))))))) (ss_cons (s_ret c_bl) ss_nil) ss_nil) (ss_cons (s_for (passes_of rfl) rfl (i_seq rfl (c_tup (a_cons c_int (a_cons c_int (a_cons c_int (a_cons c_int (a_cons c_int (a_cons c_int (a_cons c_int (a_cons c_int (a_cons c_int (a_cons (c_call FO35 hF35 (hr.mono (Nat.le_succ _)) rfl E.g_35 E.D_35.kp E.b_35 .nil (fun _ _ => .nil) (passAt tk) (a_cons (cv 0) (a_cons c_int a_nil))) a_nil)))))))))))) (g_name (i := 4) nd rfl (by first | exact Or.inl rfl | exact Or.inr rfl)) (ss_cons (s_set (i := 5) nd rfl (by first | exact Or.inl rfl | exact Or.inr rfl) (c_call FO40 hF40 (hr.mono (Nat.le_succ _)) rfl E.g_40 E.D_40.kp E.b_40 .nil (fun _ _ => .nil) (passAt tk) (a_cons (cv 1) (a_cons (cv 4) a_nil)))) (ss_cons (s_if (t_cmp (s_ne rfl hr.units) (c_call FO32 hF32 (hr.mono (Nat.le_succ _)) rfl E.g_32 E.D_32.kp E.b_32 .nil (fun _ _ => .nil) (passAt tk) (a_cons (cv 2) (a_cons (cv 4) a_nil))) (cv 5)) (ss_cons (s_ret c_bl) ss_nil) ss_nil) (ss_cons (s_set (i := 3) nd rfl (by first | exact Or.inl rfl | exact Or.inr rfl) (c_ite (c_tw (w_and (t_cmp (s_lt rfl (hu65 hr)) (cv 4) c_int) (w_and1 (t_cmp s_le (cv 5) c_int)))) (c_call FO41 hF41 (hr.mono (Nat.le_succ _)) rfl E.g_41 E.D_41.kp E.b_41 .nil (fun _ _ => .nil) (passAt tk) (a_cons (cv 1) (a_cons (cv 4) a_nil))) (c_tup (a_cons c_str (a_cons c_int a_nil))))) (ss_cons (s_if (c_tw (w_and (t_cmp (s_lt rfl (hu65 hr)) (cv 4) c_int) (w_and1 (t_cmp (s_ne rfl hr.units) (c_call FO42 hF42 (hr.mono (Nat.le_succ _)) rfl E.g_42 E.D_42.kp E.b_42 .nil (fun _ _ => .nil) (passAt tk) (a_cons (cv 2) (a_cons (cv 4) a_nil))) (cv 3))))) (ss_cons (s_ret c_bl) ss_nil) ss_nil) ss_nil))))) (ss_cons (s_ret c_bl) ss_nil))))))
theorem ok_43 (E : Ev0 P w K mg A) {k : Nat} (H : All P w K mg base A k) : ∃ fd F', isFD (callF prog (k + 1)) 43 fd F' ∧ FnOk P w K mg base (L2.CX P w) (2 * (k + 1)) (A.f 43) (A.fdd 43) ["bag"] (spF (lk K A) fd F') := ⟨⟨1, 6, b_43⟩, callF prog k, callF_is rfl, ok_43' E H⟩
theorem ok_44' (E : Ev0 P w K mg A) {k : Nat} (H : All P w K mg base A k) : FnOk P w K mg base CX0 (2 * (k + 1)) (A.f 44) (A.fdd 44) ["script"] (spL (lk K A) ⟨1, 11, b_44⟩ (callF prog k)) := by
  have nd : (["script", "spot", "bag", "turn", "fork", "whole", "none", "told", "line", "length", "at"] : List Str).Nodup := by decide +kernel
  obtain ⟨fd9, F9, hF9, FO9⟩ := H.c_9
  obtain ⟨fd31, F31, hF31, FO31⟩ := H.c_31
  obtain ⟨fd32, F32, hF32, FO32⟩ := H.c_32
  obtain ⟨fd33, F33, hF33, FO33⟩ := H.c_33
  obtain ⟨fd34, F34, hF34, FO34⟩ := H.c_34
  obtain ⟨fd42, F42, hF42, FO42⟩ := H.c_42
  obtain ⟨fd43, F43, hF43, FO43⟩ := H.c_43
  refine ev_okL E.D_44 sc_44 rfl rfl fun cdv A' outer s H0 E' hr => ?_
  exact (ss_cons (s_for PassesOwn.never rfl (i_range1 rfl E.z_range (c_bi (i_max2 rfl) rfl E.z_max boot_max (a_cons c_int (a_cons (c_bi (i_min2 rfl) rfl E.z_min boot_min (a_cons c_int (a_cons (c_bi (i_len rfl) rfl E.z_len boot_len (a_cons (cv 0) a_nil)) a_nil))) a_nil)))) (g_name (i := 1) nd rfl (by first | exact Or.inl rfl | exact Or.inr rfl)) (ss_cons (s_set (i := 2) nd rfl (by first | exact Or.inl rfl | exact Or.inr rfl) (c_call FO34 hF34 (hr.mono (Nat.le_succ _)) rfl E.g_34 E.D_34.kp E.b_34 .nil (fun _ _ => .nil) passF (a_cons (cv 0) (a_cons (cv 1) a_nil)))) (ss_cons (s_for PassesOwn.never rfl (i_range1 rfl E.z_range c_int) (g_name (i := 3) nd rfl (by first | exact Or.inl rfl | exact Or.inr rfl)) (ss_cons (s_if (t_not (t_val rfl (c_call FO43 hF43 (hr.mono (Nat.le_succ _)) rfl E.g_43 E.D_43.kp E.b_43 .nil (fun _ _ => .nil) passF (a_cons (cv 2) a_nil)))) (ss_cons (s_ret c_bl) ss_nil) ss_nil) ss_nil)) ss_nil))) (ss_cons (s_set (i := 4) nd rfl (by first | exact Or.inl rfl | exact Or.inr rfl) (c_make (cl := 5) rfl rfl hF9 rfl E.mk_5 FO9 hr rfl E.gc_5 E.b_9 passF (a_cons c_int (a_cons (c_tup (a_cons (c_tup (a_cons c_int (a_cons c_int a_nil))) (a_cons (c_tup (a_cons c_int (a_cons c_int a_nil))) (a_cons (c_tup (a_cons c_int (a_cons c_int a_nil))) (a_cons (c_tup (a_cons c_int (a_cons c_int a_nil))) (a_cons (c_tup (a_cons c_int (a_cons c_int a_nil))) a_nil)))))) (a_cons (c_tup (a_cons c_int (a_cons c_int a_nil))) a_nil))))) (ss_cons (s_if (c_tw (w_or (t_cmp (s_ne rfl hr.units) (c_call FO31 hF31 (hr.mono (Nat.le_succ _)) rfl E.g_31 E.D_31.kp E.b_31 .nil (fun _ _ => .nil) passF (a_cons (cv 4) a_nil)) (c_tup (a_cons c_int a_nil))) (w_or (t_cmp (s_ne rfl hr.units) (c_call FO33 hF33 (hr.mono (Nat.le_succ _)) rfl E.g_33 E.D_33.kp E.b_33 .nil (fun _ _ => .nil) passF (a_cons (cv 4) (a_cons c_int a_nil))) (c_tup (a_cons (c_tup (a_cons c_int (a_cons c_int a_nil))) (a_cons (c_tup (a_cons c_int (a_cons c_int a_nil))) (a_cons (c_tup (a_cons c_int (a_cons c_int a_nil))) a_nil))))) (w_or1 (t_cmp (s_ne rfl hr.units) (c_call FO33 hF33 (hr.mono (Nat.le_succ _)) rfl E.g_33 E.D_33.kp E.b_33 .nil (fun _ _ => .nil) passF (a_cons (cv 4) (a_cons c_int a_nil))) (c_tup a_nil)))))) (ss_cons (s_ret c_bl) ss_nil) ss_nil) (ss_cons (s_par2 (i := 5) (j := 6) rfl nd rfl rfl (by decide) rfl rfl (a_cons (c_make (cl := 5) rfl rfl hF9 rfl E.mk_5 FO9 hr rfl E.gc_5 E.b_9 passF (a_cons c_int (a_cons (c_tup (a_cons (c_tup (a_cons c_int (a_cons c_int a_nil))) a_nil)) (a_cons (c_tup (a_cons c_int a_nil)) a_nil)))) (a_cons (c_make (cl := 5) rfl rfl hF9 rfl E.mk_5 FO9 hr rfl E.gc_5 E.b_9 passF (a_cons c_int (a_cons (c_tup (a_cons (c_tup (a_cons c_int (a_cons c_int (a_cons c_int a_nil)))) a_nil)) (a_cons (c_tup a_nil) a_nil)))) a_nil))) (ss_cons (s_set (i := 7) nd rfl (by first | exact Or.inl rfl | exact Or.inr rfl) (c_lst (a_cons (c_call FO31 hF31 (hr.mono (Nat.le_succ _)) rfl E.g_31 E.D_31.kp E.b_31 .nil (fun _ _ => .nil) passF (a_cons (cv 5) a_nil)) (a_cons (c_call FO31 hF31 (hr.mono (Nat.le_succ _)) rfl E.g_31 E.D_31.kp E.b_31 .nil (fun _ _ => .nil) passF (a_cons (cv 6) a_nil)) (a_cons (c_cmp (s_eq rfl hr.units) (c_call FO32 hF32 (hr.mono (Nat.le_succ _)) rfl E.g_32 E.D_32.kp E.b_32 .nil (fun _ _ => .nil) passF (a_cons (cv 5) (a_cons c_int a_nil))) (c_shl c_int c_int)) (a_cons (c_call FO32 hF32 (hr.mono (Nat.le_succ _)) rfl E.g_32 E.D_32.kp E.b_32 .nil (fun _ _ => .nil) passF (a_cons (cv 6) (a_cons c_int a_nil))) a_nil)))))) (ss_cons (s_exp (c_meth s_append (i := 7) rfl (by first | exact Or.inl rfl | exact Or.inr (Or.inl rfl) | exact Or.inr (Or.inr rfl)) PySem.F.plainAttrs_list PySem.F.slot_list_append PySem.F.type_list_append (a_cons (c_call FO33 hF33 (hr.mono (Nat.le_succ _)) rfl E.g_33 E.D_33.kp E.b_33 .nil (fun _ _ => .nil) passF (a_cons (cv 6) (a_cons c_int a_nil))) a_nil))) (ss_cons (s_if (c_tw (w_or (t_cmp (s_ne rfl hr.units) (cv 7) (c_lst (a_cons (c_tup a_nil) (a_cons c_non (a_cons c_bl (a_cons c_int (a_cons (c_tup a_nil) a_nil))))))) (w_or (t_cmp (s_ne rfl hr.units) (c_bi (i_len rfl) rfl E.z_len boot_len (a_cons (c_call FO33 hF33 (hr.mono (Nat.le_succ _)) rfl E.g_33 E.D_33.kp E.b_33 .nil (fun _ _ => .nil) passF (a_cons (cv 5) (a_cons c_int a_nil))) a_nil)) c_int) (w_or1 (t_cmp (s_ne rfl hr.units) (c_call FO42 hF42 (hr.mono (Nat.le_succ _)) rfl E.g_42 E.D_42.kp E.b_42 .nil (fun _ _ => .nil) passF (a_cons (cv 5) (a_cons c_int a_nil))) (c_tup (a_cons c_str (a_cons c_int a_nil)))))))) (ss_cons (s_ret c_bl) ss_nil) ss_nil) (ss_cons (s_set (i := 8) nd rfl (by first | exact Or.inl rfl | exact Or.inr rfl) (c_make (cl := 5) rfl rfl hF9 rfl E.mk_5 FO9 hr rfl E.gc_5 E.b_9 passF (a_cons c_int (a_cons (c_ty (i_tuple rfl) rfl E.z_tuple boot_tuple (a_cons (c_comp rfl nd (by decide) (ownN := [("at", 10)]) (i_range1 rfl E.z_range c_int) (blkOk_by (by kernel_rfl)) (fun _ _ _ _ _ => (g_name (i := 10) nd rfl (by first | exact Or.inl rfl | exact Or.inr rfl))) (fun _ _ _ _ _ => y_nil) (fun _ _ _ _ _ => (c_tup (a_cons (c_bi (i_min2 rfl) rfl E.z_min boot_min (a_cons (c_bin (s_add rfl) (cv 10) c_int) (a_cons c_int a_nil))) a_nil)))) a_nil)) (a_cons (c_tup (a_cons c_int a_nil)) a_nil))))) (ss_cons (s_setLc (i := 7) rfl nd (by decide) rfl rfl (sw_true rfl rfl rfl rfl) (ownN := [("length", 9)]) (i_seq rfl (c_tup (a_cons c_int (a_cons c_int a_nil)))) (blkOk_by (by kernel_rfl)) (fun _ _ _ _ _ => (g_name (i := 9) nd rfl (by first | exact Or.inl rfl | exact Or.inr rfl))) (fun _ _ _ _ _ => y_nil) (fun _ _ _ _ _ => (c_call FO32 hF32 (hr.mono (Nat.le_succ _)) rfl E.g_32 E.D_32.kp E.b_32 .nil (fun _ _ => .nil) passF (a_cons (cv 8) (a_cons (cv 9) a_nil))))) (ss_cons (s_ret (c_and (c_cmp (s_eq rfl hr.units) (cv 7) (c_lst (a_cons c_int (a_cons c_int a_nil)))) (c_and (c_cmp (s_eq rfl hr.units) (c_call FO31 hF31 (hr.mono (Nat.le_succ _)) rfl E.g_31 E.D_31.kp E.b_31 .nil (fun _ _ => .nil) passF (a_cons (cv 8) a_nil)) (c_bin (s_mul rfl) (c_tup (a_cons c_int a_nil)) c_int)) (c_one (c_cmp (s_eq rfl hr.units) (c_call FO33 hF33 (hr.mono (Nat.le_succ _)) rfl E.g_33 E.D_33.kp E.b_33 .nil (fun _ _ => .nil) passF (a_cons (cv 8) (a_cons c_int a_nil))) (c_tup (a_cons (c_bin (s_mul rfl) (c_tup (a_cons c_int a_nil)) c_int) a_nil))))))) ss_nil))))))))))
theorem base0 : All P w K mg base A 0 := ⟨⟨⟨0, 0, sBad⟩, callF prog 0, isFD_bad, fn_badX⟩, ⟨⟨0, 0, sBad⟩, callF prog 0, isFD_bad, fn_badX⟩, ⟨⟨0, 0, sBad⟩, callF prog 0, isFD_bad, fn_badX⟩, ⟨⟨0, 0, sBad⟩, callF prog 0, isFD_bad, fn_badX⟩, ⟨⟨0, 0, sBad⟩, callF prog 0, isFD_bad, fn_badX⟩, ⟨⟨0, 0, sBad⟩, callF prog 0, isFD_bad, fn_badX⟩, ⟨⟨0, 0, sBad⟩, callF prog 0, isFD_bad, fn_badX⟩, ⟨⟨0, 0, sBad⟩, callF prog 0, isFD_bad, fni_badX⟩, ⟨⟨0, 0, sBad⟩, callF prog 0, isFD_bad, fn_badX⟩, ⟨⟨0, 0, sBad⟩, callF prog 0, isFD_bad, fn_badX⟩, ⟨⟨0, 0, sBad⟩, callF prog 0, isFD_bad, fn_badX⟩, ⟨⟨0, 0, sBad⟩, callF prog 0, isFD_bad, fn_badX⟩, ⟨⟨0, 0, sBad⟩, callF prog 0, isFD_bad, fn_badX⟩, ⟨⟨0, 0, sBad⟩, callF prog 0, isFD_bad, fn_badX⟩, ⟨⟨0, 0, sBad⟩, callF prog 0, isFD_bad, fn_badX⟩, ⟨⟨0, 0, sBad⟩, callF prog 0, isFD_bad, fn_badX⟩, ⟨⟨0, 0, sBad⟩, callF prog 0, isFD_bad, fn_badX⟩, ⟨⟨0, 0, sBad⟩, callF prog 0, isFD_bad, fn_badX⟩, ⟨⟨0, 0, sBad⟩, callF prog 0, isFD_bad, fn_badX⟩, ⟨⟨0, 0, sBad⟩, callF prog 0, isFD_bad, fn_badX⟩, ⟨⟨0, 0, sBad⟩, callF prog 0, isFD_bad, fn_badX⟩, ⟨⟨0, 0, sBad⟩, callF prog 0, isFD_bad, fn_badX⟩, ⟨⟨0, 0, sBad⟩, callF prog 0, isFD_bad, fn_badX⟩, ⟨⟨0, 0, sBad⟩, callF prog 0, isFD_bad, fn_badX⟩, ⟨⟨0, 0, sBad⟩, callF prog 0, isFD_bad, fn_badX⟩, ⟨⟨0, 0, sBad⟩, callF prog 0, isFD_bad, fn_badX⟩, ⟨⟨0, 0, sBad⟩, callF prog 0, isFD_bad, fn_badX⟩, ⟨⟨0, 0, sBad⟩, callF prog 0, isFD_bad, fn_badX⟩, ⟨⟨0, 0, sBad⟩, callF prog 0, isFD_bad, fn_badX⟩, ⟨⟨0, 0, sBad⟩, callF prog 0, isFD_bad, fn_badX⟩, ⟨⟨0, 0, sBad⟩, callF prog 0, isFD_bad, fn_badX⟩, ⟨⟨0, 0, sBad⟩, callF prog 0, isFD_bad, fn_badX⟩, ⟨⟨0, 0, sBad⟩, callF prog 0, isFD_bad, fn_badX⟩, ⟨⟨0, 0, sBad⟩, callF prog 0, isFD_bad, fn_badX⟩⟩
theorem all_ok (E : Ev0 P w K mg A) : ∀ k, All P w K mg base A k
  | 0 => base0
  | k + 1 => have H := all_ok E k; ⟨ok_2 E H, ok_3 E H, ok_4 E H, ok_5 E H, ok_6 E H, ok_7 E H, ok_8 E H, ok_9 E H, ok_18 E H, ok_19 E H, ok_20 E H, ok_21 E H, ok_22 E H, ok_23 E H, ok_24 E H, ok_25 E H, ok_26 E H, ok_27 E H, ok_28 E H, ok_29 E H, ok_30 E H, ok_31 E H, ok_32 E H, ok_33 E H, ok_34 E H, ok_35 E H, ok_36 E H, ok_37 E H, ok_38 E H, ok_39 E H, ok_40 E H, ok_41 E H, ok_42 E H, ok_43 E H⟩
theorem law_ok (E : Ev0 P w K mg A) : FnOk P w K mg base CX0 80 (A.f 44) (A.fdd 44) ["script"] (spL (lk K A) ⟨1, 11, b_44⟩ (callF prog 39)) := ok_44' E (all_ok E 39)
end
end K25

end
section
set_option linter.all false
set_option maxRecDepth 100000
namespace Ev
variable {F : FF} {e : Env}
@[simp] theorem R_bind_ok {α β : Type} (a : α) (e : Env) (k : α → Env → R β) : (R.ok a e).bind k = k a e := rfl
@[simp] theorem R_st_ok {α : Type} (a : α) (e : Env) (k : α → Env → RS) : (R.ok a e).st k = k a e := rfl
@[simp] theorem ofO_some {α : Type} (a : α) : ofO (some a) e = .ok a e := rfl
@[simp] theorem res_some (d : D) : res (some d) e = .ok d e := by
  unfold res
  cases d with
  | g x => cases x <;> simp only [forceI_eq]
  | _ => rfl
@[simp] theorem nxO_some (e : Env) : nxO (some e) = .nx e := rfl
@[simp] theorem eK_e (g : G) : eK g F e = .ok (.g g) e := rfl
@[simp] theorem eV_e (i : Nat) : eV i F e = ofO (nameD e i) e := rfl
@[simp] theorem eBin_e (o : B2) (a b : EV) : eBin o a b F e = (a F e).bind fun x e => (b F e).bind fun y e => match view x e, view y e with
  | some x, some y => res (b2 o x y) e
  | _, _ => .bad := rfl
@[simp] theorem eAnd_e (a b : EV) : eAnd a b F e = (a F e).bind fun d e => match view d e with
  | some (.bl true) => b F e
  | some (.bl false) => .ok (.g (.bl false)) e
  | _ => .bad := rfl
@[simp] theorem eOr_e (a b : EV) : eOr a b F e = (a F e).bind fun d e => match view d e with
  | some (.bl false) => b F e
  | some (.bl true) => .ok (.g (.bl true)) e
  | _ => .bad := rfl
@[simp] theorem eNot_e (a : EV) : eNot a F e = (a F e).bind fun d e => match view d e with
  | some (.bl true) => .ok (.g (.bl false)) e
  | some (.bl false) => .ok (.g (.bl true)) e
  | _ => .bad := rfl
@[simp] theorem eIte_e (c : TV) (a b : EV) : eIte c a b F e = (c F e).bind fun t e => match t with
  | true => a F e
  | false => b F e := rfl
@[simp] theorem eUn_e (o : B1) (a : EV) : eUn o a F e = (a F e).bind fun x e => match view x e with
  | some x => res (b1 o x) e
  | none => .bad := rfl
@[simp] theorem eChain_e (o p : B2) (a b c : EV) : eChain o p a b c F e = (a F e).bind fun x e => (b F e).bind fun y e => match view x e, view y e with
  | some x, some y' => match b2 o x y' with
    | some (.g (.bl true)) => (c F e).bind fun z e => match view y e, view z e with
      | some y, some z => res (b2 p y z) e
      | _, _ => .bad
    | some (.g (.bl false)) => .ok (.g (.bl false)) e
    | _ => .bad
  | _, _ => .bad := rfl
@[simp] theorem aNil_e : aNil F e = .ok [] e := rfl
@[simp] theorem aCons_e (a : EV) (r : AV) : aCons a r F e = (a F e).bind fun d e => (r F e).bind fun ds e => .ok (d :: ds) e := rfl
@[simp] theorem eBi_e (f : Bi) (as : AV) : eBi f as F e = (as F e).bind fun ds e => match views ds e with
  | some gs => res (bi f gs) e
  | none => .bad := rfl
@[simp] theorem eCall_e (f : Nat) (dfl : List G) (as : AV) : eCall f dfl as F e = (as F e).bind fun ds e => doCall F f dfl ds e := rfl
@[simp] theorem eTup_e (as : AV) : eTup as F e = (as F e).bind fun ds e => match frzs ds e with
  | some (gs, e) => if gs.length ≤ 100000 then .ok (.g (.tup gs)) e else .bad
  | none => .bad := rfl
@[simp] theorem eLst_e (as : AV) : eLst as F e = (as F e).bind fun ds e => match frzs ds e with
  | some (gs, e) => if gs.length ≤ 100000 then .ok (.own (.lst gs)) e else .bad
  | none => .bad := rfl
@[simp] theorem tV_e (a : EV) : tV a F e = (a F e).bind fun d e => match view d e with
  | some g => ofO (truth g) e
  | none => .bad := rfl
@[simp] theorem tAndT_e (a b : TV) : tAndT a b F e = (a F e).bind fun t e => match t with
  | true => b F e
  | false => .ok false e := rfl
@[simp] theorem tOrT_e (a b : TV) : tOrT a b F e = (a F e).bind fun t e => match t with
  | true => .ok true e
  | false => b F e := rfl
@[simp] theorem tNotT_e (a : TV) : tNotT a F e = (a F e).bind fun t e => .ok (!t) e := rfl
@[simp] theorem sNil_e : sNil F e = .nx e := rfl
@[simp] theorem sSeq_e (s r : SV) : sSeq s r F e = match s F e with
  | .nx e1 => r F e1
  | .ini _ _ _ => .bad
  | x => x := rfl
@[simp] theorem sExp_e (x : EV) : sExp x F e = (x F e).st fun _ e => .nx e := rfl
@[simp] theorem sSet_e (i : Nat) (x : EV) : sSet i x F e = (x F e).st fun d e => nxO (bindD e i d) := rfl
@[simp] theorem sIf_e (c : TV) (a b : SV) : sIf c a b F e = (c F e).st fun t e => match t with
  | true => a F e
  | false => b F e := rfl
@[simp] theorem sRet_e (x : EV) : sRet x F e = (x F e).st fun d e => match retD d e with
  | some (d, e) => .rt d e
  | none => .bad := rfl
@[simp] theorem sSetI_e (i : Nat) (ix x : EV) : sSetI i ix x F e = if (objOf e i).isSome then (x F e).st fun d e => (ix F e).st fun k e => match view k e, frz d e with
  | some k, some (g, e) => match objOf e i with
    | some o => match storeG o k g with
      | some o' => nxO (putO e i o')
      | none => .bad
    | none => .bad
  | _, _ => .bad
  else .bad := rfl
/-! slots of a literal frame -/
@[simp] theorem getS_0 (s : S) (e : Env) : getS (s :: e) 0 = s := rfl
@[simp] theorem getS_s (s : S) (e : Env) (i : Nat) : getS (s :: e) (i + 1) = getS e i := rfl
/-! loops -/
theorem forL_nx {step : G → Env → RS} {x : G} {xs : List G} {e e1 : Env} (h : step x e = .nx e1) : forL step (x :: xs) e = forL step xs e1 := by
  simp only [forL, h]
theorem forL_rt {step : G → Env → RS} {x : G} {xs : List G} {e e1 : Env} {d : D} (h : step x e = .rt d e1) : forL step (x :: xs) e = .rt d e1 := by
  simp only [forL, h]
theorem forStep_nx {t : GV} {b : SV} {F : FF} {x : G} {e e1 : Env} (h : t x e = some e1) : forStep t b F x e = b F e1 := by
  unfold forStep; rw [h]
theorem sFor_ok {t : GV} {it : IV} {b : SV} {F : FF} {e e1 : Env} {gs : List G} {o : Option Nat} (h : it F e = .ok (gs, o) e1) : sFor t it b F e = wrapU o (forL (forStep t b F) gs (lockO o e1)) := by
  unfold sFor; rw [h]; rfl
theorem sFor_v {t : GV} {it : IV} {b : SV} {F : FF} {e e1 : Env} {gs : List G} (h : it F e = .ok (gs, none) e1) : sFor t it b F e = wrapU none (forL (forStep t b F) gs e1) := sFor_ok h
/-! comprehensions -/
theorem compL_map {step : G → Env → R (Option G)} {f : G → G} {e : Env} : ∀ {gs acc : List G}, (∀ x ∈ gs, step x e = .ok (some (f x)) e) → compL step gs acc e = .ok (acc.reverse ++ gs.map f) e
  | [], acc, _ => by simp [compL]
  | x :: gs, acc, h => by
    simp only [compL, h x (List.mem_cons_self ..), compK]
    rw [compL_map fun y hy => h y (List.mem_cons_of_mem _ hy)]
    simp
theorem eComp_v {own : List Nat} {el : EV} {t : GV} {it : IV} {c : TV} {F : FF} {e e0 e1 : Env} {gs ys : List G} (h : it F e0 = .ok (gs, none) e) (hl : (own.all fun v => !isLck (getS e v)) = true) (hc : compL (compStep own el t c F) gs [] (wipeE e own) = .ok ys e1) (hy : ys.length ≤ 100000) :
    eComp own el t it c F e0 = .ok (.own (.lst ys)) (keepE e e1 own) := by
  unfold eComp
  rw [h]
  show (if (own.all fun v => !isLck (getS e v)) = false then R.bad else compEnd own none e (compL (compStep own el t c F) gs [] (wipeE e own))) = _
  rw [hl, hc]
  simp [compEnd, hy, unlockO, lockO]
theorem compStep_yes {own : List Nat} {el : EV} {t : GV} {F : FF} {x g : G} {e e1 e2 e3 : Env} {d : D} (h1 : t x e = some e1) (h2 : el F e1 = .ok d e2) (h3 : frz d e2 = some (g, e3)) : compStep own el t tYesT F x e = .ok (some g) (wipeE e3 own) := by
  simp only [compStep, h1, tYesT, R.bind, h2, h3]
theorem okR_nat {n : Nat} (hn : n < 1000000) : okR (n : Int) = true := by
  have h1 : (n : Int) < 1000000 := Int.ofNat_lt.mpr hn
  have h2 : (-1000000 : Int) ≤ (n : Int) := Int.le_trans (b := 0) (by decide) (Int.natCast_nonneg n)
  exact Bool.and_eq_true_iff.mpr ⟨decide_eq_true h1, decide_eq_true h2⟩
theorem ifOk {α : Type _} {b : Bool} {x y : α} (h : b = true) : (if b then x else y) = x := by subst h; rfl
theorem iR1_eq {a : EV} {F : FF} {e e1 : Env} {m : Int} (h : a F e = .ok (.g (.int m)) e1) : iR1 a F e = (if okR m then .ok (rangeG 0 m.toNat, none) e1 else .bad) := by
  unfold iR1
  rw [h]
  rfl
theorem iR1_ok {a : EV} {F : FF} {e e1 : Env} {n : Nat} (h : a F e = .ok (.g (.int (n : Int))) e1) (hn : n < 1000000) : iR1 a F e = .ok (rangeG 0 n, none) e1 :=
  (iR1_eq h).trans (ifOk (okR_nat hn))
end Ev

end
section
set_option linter.all false
set_option Elab.async false
set_option maxRecDepth 100000
set_option maxHeartbeats 4000000
namespace K25
open Ev
theorem is_whole (k : Nat) (i : Int) : callF prog (k + 1) 2 [.val (.int i)] = .ok (.g (.bl true)) [.val (.int i)] := rfl
theorem call_at {n : Nat} {fd : FD} (k : Nat) (args : List S) (h : prog[n]? = some fd) (hl : args.length = fd.np) : callF prog (k + 1) n args = fin (fd.body (callF prog k) (args ++ List.replicate (fd.ns - fd.np) .non)) := by
  show (match prog[n]? with | some fd => _ | none => _) = _
  rw [h]; exact if_pos hl
theorem is_from (k : Nat) (i a b : Int) : callF prog (k + 2) 3 [.val (.int i), .val (.int a), .val (.int b)] = .ok (.g (.bl (decide (a ≤ i) && decide (i ≤ b)))) [.val (.int i), .val (.int a), .val (.int b)] := by
  rw [call_at (k + 1) _ (rfl : prog[3]? = some ⟨3, 3, b_3⟩) rfl]
  simp [b_3, is_whole, nameD, view, doCall, argsS, argS, lent, back, bkS, isMade, Ev.b2, retD, fin]
  by_cases h : a ≤ i <;> simp [h]
def bagG (b : Int × Int × Int) : G := .lst [.int b.1, .int b.2.1, .int b.2.2]
theorem pick (k : Nat) (b : Int × Int × Int) (t : Int) (h0 : 0 < t) (ht : t.natAbs < big) : ∃ r b' s, 0 ≤ r ∧ r < t ∧ callF prog (k + 1) 35 [.len (bagG b), .val (.int t)] = .ok (.g (.int r)) (.len (bagG b') :: .val (.int t) :: s) := by
  obtain ⟨b0, b1, b2⟩ := b
  rw [call_at k _ (rfl : prog[35]? = some ⟨2, 5, b_35⟩) rfl]
  by_cases h : 0 < b0
  · refine ⟨b0 % t, (b0 / t, b1, b2), [.val (.int (b0 % t)), .non, .non], Int.emod_nonneg _ (by omega), Int.emod_lt_of_pos _ h0, ?_⟩
    simp [b_35, bagG, Ev.b2, atIx, L2.atI, L2.ixN, h, h0, ht, nameD, view, views, bi, truth, bindD, setS, frz, objOf, storeG, putO, retD, fin]
  · obtain ⟨one, e1⟩ : ∃ one, one = (b1 + 49979693 * (b2 + 1)) % 2305843009213693951 := ⟨_, rfl⟩
    have l1 : -18446744073709551616 < one := by omega
    have l2 : one < 18446744073709551616 := by omega
    refine ⟨((one * one + 127 * (b2 + 1)) % 2305843009213693921 * 32452847 + one) / 65551 % t, (b0, b1, b2 + 1), [.non, .val (.int one), .val (.int ((one * one + 127 * (b2 + 1)) % 2305843009213693921 * 32452847 + one))], Int.emod_nonneg _ (by omega), Int.emod_lt_of_pos _ h0, ?_⟩
    simp [b_35, bagG, Ev.b2, atIx, L2.atI, L2.ixN, h, h0, ht, nameD, view, views, bi, truth, bindD, setS, frz, objOf, storeG, putO, retD, fin, smallMul, ← e1, l1, l2]
end K25

end
section
set_option linter.all false
set_option Elab.async false
set_option maxRecDepth 100000
set_option maxHeartbeats 4000000
namespace K25
open Ev
/-! ### machines -/
def nsG (w : List Nat) : G := .tup (w.map fun (x : Nat) => .int (x : Int))
def stG (st : List (List Nat)) : G := .tup (st.map nsG)
def rdG (l : Nat) (st : List (List Nat)) (ac : List Nat) : G := .ins 5 [nsG ac, .int (l : Int), stG st]
def plG (l : Nat) (st : List (List Nat)) (ac : List Nat) : G := .tup [.int (l : Int), stG st, nsG ac]
def nx (st : List (List Nat)) (s a : Nat) : Nat := ((st[s]?.getD [])[a]?).getD 0
def run (st : List (List Nat)) (s : Nat) (w : List Nat) : Nat := w.foldl (nx st) s
structure Mach (l : Nat) (st : List (List Nat)) : Prop where
  l1 : 1 ≤ l
  n1 : 1 ≤ st.length
  row : ∀ r ∈ st, r.length = l ∧ ∀ x ∈ r, x < st.length
variable {l : Nat} {st : List (List Nat)} {ac : List Nat}
theorem b2_stG {s : Nat} (h : s < st.length) : Ev.b2 .idx (stG st) (.int (s : Int)) = some (.g (nsG (st[s]?.getD []))) := by
  have e : st[s]? = some st[s] := List.getElem?_eq_getElem h
  unfold stG
  simp only [Ev.b2, atIx]
  rw [L2.atI_nat (v := nsG st[s]) (by rw [List.getElem?_map, e]; rfl), e]
  rfl
theorem b2_nsG {w : List Nat} {a : Nat} (h : a < w.length) : Ev.b2 .idx (nsG w) (.int (a : Int)) = some (.g (.int ((w[a]?.getD 0 : Nat) : Int))) := by
  have e : w[a]? = some w[a] := List.getElem?_eq_getElem h
  unfold nsG
  simp only [Ev.b2, atIx]
  rw [L2.atI_nat (v := .int (w[a] : Nat)) (by rw [List.getElem?_map, e]; rfl), e]
  rfl
theorem Mach.rowl (M : Mach l st) {s : Nat} (h : s < st.length) : (st[s]?.getD []).length = l := by
  rw [List.getElem?_eq_getElem h]
  exact (M.row _ (List.getElem_mem h)).1
theorem Mach.nxl (M : Mach l st) {s a : Nat} (h : s < st.length) (ha : a < l) : nx st s a < st.length := by
  unfold nx
  have hr := M.rowl h
  rw [List.getElem?_eq_getElem (show a < (st[s]?.getD []).length by omega)]
  have : st[s]?.getD [] = st[s] := by rw [List.getElem?_eq_getElem h]; rfl
  refine (M.row (st[s]?.getD []) (by rw [this]; exact List.getElem_mem h)).2 _ (List.getElem_mem _)
theorem Mach.runl (M : Mach l st) : ∀ {w : List Nat} {s : Nat}, s < st.length → (∀ a ∈ w, a < l) → run st s w < st.length
  | [], _, h, _ => h
  | a :: w, s, h, hw => by
    unfold run
    rw [List.foldl_cons]
    exact M.runl (M.nxl h (hw a (List.mem_cons_self ..))) fun b hb => hw b (List.mem_cons_of_mem _ hb)
theorem run_cons {s a : Nat} {w : List Nat} : run st s (a :: w) = run st (nx st s a) w := rfl
theorem run_app {s : Nat} {w v : List Nat} : run st s (w ++ v) = run st (run st s w) v := List.foldl_append ..
/-! ### state_in, _law_led_on -/
theorem state_loop (F : FF) (M : Mach l st) (W : G) : ∀ (w : List Nat) (s : Nat) (x : S), (x = .non ∨ ∃ g, x = .val g) → s < st.length → (∀ a ∈ w, a < l) →
    ∃ x', forL (forStep (gNm 3) (sSeq (sSet 2 (eBin .idx (eBin .idx (eAttr ct (eV 0) 1) (eV 2)) (eV 3))) sNil) F) (w.map fun (x : Nat) => .int (x : Int)) [.val (rdG l st ac), .val W, .val (.int (s : Int)), x] = .nx [.val (rdG l st ac), .val W, .val (.int ((run st s w : Nat) : Int)), x']
  | [], s, x, _, _, _ => ⟨x, rfl⟩
  | a :: w, s, x, hx, hs, hw => by
    have ha := hw a (List.mem_cons_self ..)
    obtain ⟨x', ih⟩ := state_loop F M W w (nx st s a) (.val (.int (a : Int))) (.inr ⟨_, rfl⟩) (M.nxl hs ha) fun b hb => hw b (List.mem_cons_of_mem _ hb)
    refine ⟨x', ?_⟩
    rw [run_cons, ← ih]
    have hx' : setS [.val (rdG l st ac), .val W, .val (.int (s : Int)), x] 3 (.val (.int (a : Int))) = some [.val (rdG l st ac), .val W, .val (.int (s : Int)), .val (.int (a : Int))] := by
      rcases hx with rfl | ⟨g, rfl⟩ <;> rfl
    have hat : eAttr ct (eV 0) 1 F [.val (rdG l st ac), .val W, .val (.int (s : Int)), .val (.int (a : Int))] = .ok (.g (stG st)) [.val (rdG l st ac), .val W, .val (.int (s : Int)), .val (.int (a : Int))] := rfl
    have e1 := b2_stG hs
    have e2 : Ev.b2 .idx (nsG (st[s]?.getD [])) (.int (a : Int)) = some (.g (.int ((nx st s a : Nat) : Int))) := b2_nsG (by rw [M.rowl hs]; exact ha)
    rw [List.map_cons, forL_nx]
    rw [forStep_nx (show gNm 3 (.int (a : Int)) _ = _ from hx')]
    simp [hat, view, nameD, e1, e2, bindD, frz, setS]
theorem state_in (k : Nat) (M : Mach l st) {w : List Nat} {s : Nat} (hs : s < st.length) (hw : ∀ a ∈ w, a < l) :
    ∃ e, callF prog (k + 1) 18 [.val (rdG l st ac), .val (nsG w), .val (.int (s : Int))] = .ok (.g (.int ((run st s w : Nat) : Int))) (.val (rdG l st ac) :: .val (nsG w) :: .val (.int ((run st s w : Nat) : Int)) :: e) := by
  rw [call_at k _ (rfl : prog[18]? = some ⟨3, 4, b_18⟩) rfl]
  obtain ⟨x', h⟩ := state_loop (ac := ac) (callF prog k) M (nsG w) w s .non (.inl rfl) hs hw
  refine ⟨[x'], ?_⟩
  have h2 : sFor (gNm 3) (iE (eV 1)) (sSeq (sSet 2 (eBin .idx (eBin .idx (eAttr ct (eV 0) 1) (eV 2)) (eV 3))) sNil) (callF prog k) [.val (rdG l st ac), .val (nsG w), .val (.int (s : Int)), .non] = .nx [.val (rdG l st ac), .val (nsG w), .val (.int ((run st s w : Nat) : Int)), x'] := by
    rw [sFor_v (gs := w.map fun (x : Nat) => .int (x : Int)) rfl, h]
    rfl
  show fin (b_18 (callF prog k) [.val (rdG l st ac), .val (nsG w), .val (.int (s : Int)), .non]) = _
  simp [b_18, h2, nameD, retD, fin]
end K25

end
section
set_option linter.all false
set_option Elab.async false
set_option maxRecDepth 100000
set_option maxHeartbeats 4000000
namespace K25
open Ev
variable {l : Nat} {st : List (List Nat)} {ac : List Nat}
theorem boolsOf_map {α : Type} (f : α → Bool) : ∀ xs : List α, boolsOf (xs.map fun x => .bl (f x)) = some (xs.map f)
  | [] => rfl
  | x :: xs => by simp [boolsOf, boolsOf_map f xs]
theorem are_from (k : Nat) {w : List Nat} {a b : Int} (hw : w.length ≤ 100000) :
    callF prog (k + 3) 4 [.val (nsG w), .val (.int a), .val (.int b)] = .ok (.g (.bl (w.all fun (x : Nat) => decide (a ≤ (x : Int)) && decide ((x : Int) ≤ b)))) [.val (nsG w), .val (.int a), .val (.int b), .non] := by
  rw [call_at (k + 2) _ (rfl : prog[4]? = some ⟨3, 4, b_4⟩) rfl]
  have h : eComp [3] (eCall 3 [] (aCons (eV 3) (aCons (eV 1) (aCons (eV 2) aNil)))) (gNm 3) (iE (eV 0)) tYesT (callF prog (k + 2)) [.val (nsG w), .val (.int a), .val (.int b), .non] = .ok (.own (.lst (w.map fun (x : Nat) => .bl (decide (a ≤ (x : Int)) && decide ((x : Int) ≤ b))))) [.val (nsG w), .val (.int a), .val (.int b), .non] := by
    have hc := compL_map (acc := []) (gs := w.map fun (x : Nat) => .int (x : Int)) (e := [.val (nsG w), .val (.int a), .val (.int b), .non]) (step := compStep [3] (eCall 3 [] (aCons (eV 3) (aCons (eV 1) (aCons (eV 2) aNil)))) (gNm 3) tYesT (callF prog (k + 2)))
      (f := fun g => match g with | .int x => .bl (decide (a ≤ x) && decide (x ≤ b)) | _ => .non) (fun x hx => by
        obtain ⟨y, _, rfl⟩ := List.mem_map.mp hx
        refine compStep_yes (e1 := [.val (nsG w), .val (.int a), .val (.int b), .val (.int (y : Int))]) (e2 := [.val (nsG w), .val (.int a), .val (.int b), .val (.int (y : Int))]) (d := .g (.bl (decide (a ≤ (y : Int)) && decide ((y : Int) ≤ b)))) rfl ?_ rfl
        simp [nameD, doCall, argsS, argS, lent, is_from, isMade, back])
    have := eComp_v (own := [3]) (el := eCall 3 [] (aCons (eV 3) (aCons (eV 1) (aCons (eV 2) aNil)))) (t := gNm 3) (it := iE (eV 0)) (c := tYesT) (F := callF prog (k + 2)) (e0 := [.val (nsG w), .val (.int a), .val (.int b), .non]) (e := [.val (nsG w), .val (.int a), .val (.int b), .non]) (gs := w.map fun (x : Nat) => .int (x : Int)) rfl rfl hc (by simpa using hw)
    rw [this]
    simp only [List.reverse_nil, List.nil_append, List.map_map]
    rfl
  show fin (b_4 (callF prog (k + 2)) [.val (nsG w), .val (.int a), .val (.int b), .non]) = _
  have hb := boolsOf_map (fun (x : Nat) => decide (a ≤ (x : Int)) && decide ((x : Int) ≤ b)) w
  have ht : isTy .tuple (nsG w) = some true := rfl
  simp [b_4, nameD, view, views, bi, ht, h, hb, retD, fin, List.all_map, Function.comp_def]
end K25

end
section
set_option linter.all false
set_option Elab.async false
set_option maxRecDepth 100000
set_option maxHeartbeats 4000000
namespace K25
open Ev
variable {l : Nat} {st : List (List Nat)} {ac : List Nat}
theorem cut1 (xs : List G) : cutL xs (some 1) none = xs.drop 1 := by
  unfold cutL
  rw [show HT.sIx xs.length 0 (some 1) = min 1 xs.length from HT.sIx_nat xs.length 0 1, HT.sIx_none]
  cases xs with
  | nil => rfl
  | cons x r =>
    rw [show min 1 (x :: r).length = 1 by rw [List.length_cons]; omega]
    show (List.take ((x :: r).length - 1) r) = r
    rw [List.length_cons, Nat.add_sub_cancel]
    exact List.take_length
theorem zip_asc : ∀ {w : List Nat}, w.Pairwise (· < ·) → ∀ x ∈ zipG (w.map fun (x : Nat) => .int (x : Int)) ((w.map fun (x : Nat) => G.int (x : Int)).drop 1), ∃ a b : Nat, x = .tup [.int (a : Int), .int (b : Int)] ∧ a < b
  | [], _, x, hx => by simp [zipG] at hx
  | [a], _, x, hx => by simp [zipG] at hx
  | a :: b :: w, h, x, hx => by
    have h1 := List.pairwise_cons.mp h
    simp only [List.map_cons, List.drop_succ_cons, List.drop_zero, zipG, List.mem_cons] at hx
    rcases hx with rfl | hx
    · exact ⟨a, b, rfl, h1.1 b (List.mem_cons_self ..)⟩
    · exact zip_asc (w := b :: w) h1.2 x (by simpa using hx)
theorem zipG_le : ∀ (xs ys : List G), (zipG xs ys).length ≤ xs.length
  | [], _ => by simp [zipG]
  | _ :: _, [] => by simp [zipG]
  | _ :: xs, _ :: ys => by simp [zipG]; exact zipG_le xs ys
theorem boolsOf_true : ∀ n : Nat, boolsOf (List.replicate n (.bl true)) = some (List.replicate n true)
  | 0 => rfl
  | n + 1 => by simp [List.replicate_succ, boolsOf, boolsOf_true n]
theorem is_ascending (k : Nat) {w : List Nat} (hw : w.length ≤ 100000) (ha : w.Pairwise (· < ·)) :
    callF prog (k + 1) 5 [.val (nsG w)] = .ok (.g (.bl true)) [.val (nsG w), .non, .non] := by
  rw [call_at k _ (rfl : prog[5]? = some ⟨1, 3, b_5⟩) rfl]
  have hit : iZ (eV 0) (eSlice (eV 0) (pI (eK (.int 1))) pN) (callF prog k) [.val (nsG w), .non, .non] = .ok (zipG (w.map fun (x : Nat) => .int (x : Int)) ((w.map fun (x : Nat) => G.int (x : Int)).drop 1), none) [.val (nsG w), .non, .non] := by
    rw [← cut1]; rfl
  have hc := compL_map (acc := []) (gs := zipG (w.map fun (x : Nat) => .int (x : Int)) ((w.map fun (x : Nat) => G.int (x : Int)).drop 1)) (e := [.val (nsG w), .non, .non]) (step := compStep [1, 2] (eBin .lt (eV 1) (eV 2)) (gTp [(gNm 1), (gNm 2)]) tYesT (callF prog k))
    (f := fun _ => .bl true) (fun x hx => by
      obtain ⟨a, b, rfl, hab⟩ := zip_asc ha x hx
      have hd : decide ((a : Int) < (b : Int)) = true := decide_eq_true (by omega)
      refine compStep_yes (e1 := [.val (nsG w), .val (.int (a : Int)), .val (.int (b : Int))]) (e2 := [.val (nsG w), .val (.int (a : Int)), .val (.int (b : Int))]) (d := .g (.bl true)) rfl ?_ rfl
      simp [nameD, view, Ev.b2, hab])
  have hl := zipG_le (w.map fun (x : Nat) => .int (x : Int)) ((w.map fun (x : Nat) => G.int (x : Int)).drop 1)
  rw [List.length_map] at hl
  have h := eComp_v (own := [1, 2]) (el := eBin .lt (eV 1) (eV 2)) (t := gTp [(gNm 1), (gNm 2)]) (c := tYesT) hit rfl hc (by simp only [List.reverse_nil, List.nil_append, List.length_map]; omega)
  show fin (b_5 (callF prog k) [.val (nsG w), .non, .non]) = _
  simp only [List.reverse_nil, List.nil_append, List.map_const'] at h
  generalize (zipG (w.map fun (x : Nat) => .int (x : Int)) ((w.map fun (x : Nat) => G.int (x : Int)).drop 1)).length = n at h
  have hb := boolsOf_true n
  simp [b_5, h, nameD, view, views, bi, hb, retD, fin, keepE, wipeE, getS]
theorem are_indices (k : Nat) {w : List Nat} {n : Nat} (hw : w.length ≤ 100000) (ha : w.Pairwise (· < ·)) (hn : ∀ x ∈ w, x < n) :
    callF prog (k + 4) 6 [.val (nsG w), .val (.int (n : Int))] = .ok (.g (.bl true)) [.val (nsG w), .val (.int (n : Int))] := by
  rw [call_at (k + 3) _ (rfl : prog[6]? = some ⟨2, 2, b_6⟩) rfl]
  have h1 := are_from k (w := w) (a := 0) (b := (n : Int) - 1) hw
  have h2 : (w.all fun (x : Nat) => decide (0 ≤ (x : Int)) && decide ((x : Int) ≤ (n : Int) - 1)) = true := by
    rw [List.all_eq_true]
    intro x hx
    have := hn x hx
    simp only [Bool.and_eq_true, decide_eq_true_eq]
    omega
  rw [h2] at h1
  have h3 := is_ascending (k + 2) hw ha
  show fin (b_6 (callF prog (k + 3)) [.val (nsG w), .val (.int (n : Int))]) = _
  simp [b_6, nameD, view, views, Ev.b2, doCall, argsS, argS, lent, isMade, back, h1, h3, retD, fin]
theorem shaped_int (a : Int) : PySem.SeqAt.shaped (.int a) = true := by
  unfold PySem.SeqAt.shaped
  simp [PySem.PyData.canLay0, PySem.PyData.depth]
theorem pyEq_int (a b : Int) : pyEq (.int a) (.int b) = some (decide (a = b)) := by
  simp only [pyEq, G.py, shaped_int, Bool.and_self, if_true]
  have : PySem.PyData.eqv (.int a) (.int b) = (a == b) := by
    simp [PySem.PyData.eqv]
  rw [this, Bool.beq_eq_decide_eq]
/-- what Reader asks of its parts -/
structure Good (l : Nat) (st : List (List Nat)) (ac : List Nat) : Prop extends Mach l st where
  l64 : l ≤ 64
  n512 : st.length ≤ 512
  asc : ac.Pairwise (· < ·)
  acn : ∀ x ∈ ac, x < st.length
  acl : ac.length ≤ 100000
theorem row_loop (k : Nat) (M : Good l st ac) : ∀ (rs : List (List Nat)) (i : Nat) (x y : S), (x = .non ∨ ∃ g, x = .val g) → (y = .non ∨ ∃ g, y = .val g) → (∀ r ∈ rs, r ∈ st) → ∃ x' y',
    forL (forStep (gTp [(gNm 3), (gNm 4)]) (sSeq (sIf (tOrT (tNotT (tV (eCall 4 [] (aCons (eV 4) (aCons (eK (.int 0)) (aCons (eBin .sub (eBi .len (aCons (eV 1) aNil)) (eK (.int 1))) aNil)))))) (tV (eBin .ne (eBi .len (aCons (eV 4) aNil)) (eV 0)))) (sSeq (sRet (eTup (aCons (eK (.str (PySem.Str.ofString "step"))) (aCons (eV 3) aNil)))) sNil) sNil) sNil) (callF prog (k + 3)))
      (enumG (i : Int) (rs.map nsG)) [.val (.int (l : Int)), .val (stG st), .val (nsG ac), x, y] = .nx [.val (.int (l : Int)), .val (stG st), .val (nsG ac), x', y']
  | [], i, x, y, _, _, _ => ⟨x, y, rfl⟩
  | r :: rs, i, x, y, hx, hy, hr => by
    obtain ⟨x', y', ih⟩ := row_loop k M rs (i + 1) (.val (.int (i : Int))) (.val (nsG r)) (.inr ⟨_, rfl⟩) (.inr ⟨_, rfl⟩) fun r hm => hr r (List.mem_cons_of_mem _ hm)
    refine ⟨x', y', ?_⟩
    rw [← ih]
    obtain ⟨h1, h2⟩ := M.row r (hr r (List.mem_cons_self ..))
    have ht : gTp [(gNm 3), (gNm 4)] (.tup [.int (i : Int), nsG r]) [.val (.int (l : Int)), .val (stG st), .val (nsG ac), x, y] = some [.val (.int (l : Int)), .val (stG st), .val (nsG ac), .val (.int (i : Int)), .val (nsG r)] := by
      rcases hx with rfl | ⟨g, rfl⟩ <;> rcases hy with rfl | ⟨g', rfl⟩ <;> rfl
    rw [List.map_cons]
    show forL _ (.tup [.int (i : Int), nsG r] :: enumG ((i : Int) + 1) (rs.map nsG)) _ = _
    rw [forL_nx]
    · rfl
    rw [forStep_nx ht]
    have hf := are_from k (w := r) (a := 0) (b := (st.length : Int) - 1) (by have := M.l64; omega)
    have h3 : (r.all fun (x : Nat) => decide (0 ≤ (x : Int)) && decide ((x : Int) ≤ (st.length : Int) - 1)) = true := by
      rw [List.all_eq_true]
      intro z hz
      have := h2 z hz
      simp only [Bool.and_eq_true, decide_eq_true_eq]
      omega
    rw [h3] at hf
    have hl1 : bi .len [stG st] = some (.g (.int (st.length : Int))) := by simp [bi, stG]
    have hl2 : bi .len [nsG r] = some (.g (.int (l : Int))) := by simp [bi, nsG, h1]
    have hne : Ev.b2 .ne (.int (l : Int)) (.int (l : Int)) = some (.g (.bl false)) := by
      simp [Ev.b2, pyEq_int]
    simp [nameD, view, views, Ev.b2, doCall, argsS, argS, lent, isMade, back, hf, hl1, hl2, truth, pyEq_int]
end K25

end
section
set_option linter.all false
set_option Elab.async false
set_option maxRecDepth 100000
set_option maxHeartbeats 4000000
namespace K25
open Ev
variable {l : Nat} {st : List (List Nat)} {ac : List Nat}
theorem len_stG : bi .len [stG st] = some (.g (.int (st.length : Int))) := by simp [bi, stG]
theorem len_nsG {w : List Nat} : bi .len [nsG w] = some (.g (.int (w.length : Int))) := by simp [bi, nsG]
theorem bi_isi (t : Ty) (x : G) : bi (.isi t) [x] = (isTy t x).map fun b => .g (.bl b) := rfl
theorem fault_in (k : Nat) (M : Good l st ac) : ∃ e, callF prog (k + 5) 8 [.val (.int (l : Int)), .val (stG st), .val (nsG ac)] = .ok (.g .non) (.val (.int (l : Int)) :: .val (stG st) :: .val (nsG ac) :: e) := by
  rw [call_at (k + 4) _ (rfl : prog[8]? = some ⟨3, 5, b_8⟩) rfl]
  obtain ⟨x', y', hL⟩ := row_loop (k + 1) M st 0 .non .non (.inl rfl) (.inl rfl) fun r h => h
  refine ⟨[x', y'], ?_⟩
  have l1 := M.l1
  have l64 := M.l64
  have n1 := M.n1
  have n512 := M.n512
  have hf := is_from (k + 2) (l : Int) 1 64
  have d1 : (decide ((1 : Int) ≤ (l : Int)) && decide ((l : Int) ≤ 64)) = true := by simp; omega
  rw [d1] at hf
  have hn1 : (1 : Int) ≤ (st.length : Int) := by omega
  have hn2 : (st.length : Int) ≤ 512 := by omega
  have hi := are_indices k (w := ac) (n := st.length) M.acl M.asc M.acn
  have ht : isTy .tuple (stG st) = some true := rfl
  have hF : ∀ b : SV, sFor (gTp [(gNm 3), (gNm 4)]) (iN (eV 1)) b (callF prog (k + 4)) [.val (.int (l : Int)), .val (stG st), .val (nsG ac), .non, .non] = wrapU none (forL (forStep (gTp [(gNm 3), (gNm 4)]) b (callF prog (k + 4))) (enumG 0 (st.map nsG)) [.val (.int (l : Int)), .val (stG st), .val (nsG ac), .non, .non]) := fun b => sFor_v rfl
  have hL : forL _ (enumG 0 (st.map nsG)) _ = _ := hL
  show fin (b_8 (callF prog (k + 4)) [.val (.int (l : Int)), .val (stG st), .val (nsG ac), .non, .non]) = _
  simp [b_8, nameD, view, views, Ev.b2, doCall, argsS, argS, lent, isMade, back, hf, len_stG, truth, bi_isi, ht, hn1, hn2, hF, hL, wrapU, unlockO, hi, retD, fin]
theorem make_reader (k : Nat) (M : Good l st ac) (e : Env) : doMake ct (callF prog (k + 6)) 5 [.g (.int (l : Int)), .g (stG st), .g (nsG ac)] e = .ok (.g (rdG l st ac)) e := by
  obtain ⟨e', hf⟩ := fault_in k M
  have hc : callF prog (k + 6) 9 [.slf 5, .val (.int (l : Int)), .val (stG st), .val (nsG ac)] = .ok (.own (rdG l st ac)) [.lfz (rdG l st ac), .val (.int (l : Int)), .val (stG st), .val (nsG ac)] := by
    rw [call_at (k + 5) _ (rfl : prog[9]? = some ⟨4, 4, b_9⟩) rfl]
    show fin (b_9 (callF prog (k + 5)) [.slf 5, .val (.int (l : Int)), .val (stG st), .val (nsG ac)]) = _
    have h8 : sIf (tV (eBin .isnot (eCall 8 [] (aCons (eV 1) (aCons (eV 2) (aCons (eV 3) aNil)))) (eK .non))) (sSeq (sRse 1 aNil) sNil) sNil (callF prog (k + 5)) [.slf 5, .val (.int (l : Int)), .val (stG st), .val (nsG ac)] = .nx [.slf 5, .val (.int (l : Int)), .val (stG st), .val (nsG ac)] := by
      simp [nameD, view, Ev.b2, doCall, argsS, argS, lent, isMade, back, hf, isNon, truth]
    simp only [b_9, sSeq_e, h8]
    rfl
  simp only [doMake, ct, frzs, frz]
  show (match callF prog (k + 6) 9 [.slf 5, .val (.int (l : Int)), .val (stG st), .val (nsG ac)] with | .ok (.own (.ins c' fs)) _ => _ | .exn x p _ => _ | _ => _) = _
  rw [hc]
  rfl
theorem is_word_in (k : Nat) {w : List Nat} (hl : w.length ≤ 2000) (hw : ∀ a ∈ w, a < l) : callF prog (k + 4) 26 [.val (.int (l : Int)), .val (nsG w)] = .ok (.g (.bl true)) [.val (.int (l : Int)), .val (nsG w)] := by
  rw [call_at (k + 3) _ (rfl : prog[26]? = some ⟨2, 2, b_26⟩) rfl]
  have h1 := are_from k (w := w) (a := 0) (b := (l : Int) - 1) (by omega)
  have h2 : (w.all fun (x : Nat) => decide (0 ≤ (x : Int)) && decide ((x : Int) ≤ (l : Int) - 1)) = true := by
    rw [List.all_eq_true]
    intro x hx
    have := hw x hx
    simp only [Bool.and_eq_true, decide_eq_true_eq]
    omega
  rw [h2] at h1
  have ht : isTy .tuple (nsG w) = some true := rfl
  have hl2 : (w.length : Int) ≤ 2000 := by omega
  show fin (b_26 (callF prog (k + 3)) [.val (.int (l : Int)), .val (nsG w)]) = _
  simp [b_26, nameD, view, views, Ev.b2, doCall, argsS, argS, lent, isMade, back, h1, len_nsG, bi_isi, ht, hl2, retD, fin]
end K25

end
section
set_option linter.all false
set_option Elab.async false
set_option maxRecDepth 100000
set_option maxHeartbeats 4000000
namespace K25
open Ev
variable {l : Nat} {st : List (List Nat)} {ac : List Nat}
theorem require_reader (k : Nat) : callF prog (k + 1) 25 [.val (rdG l st ac)] = .ok (.g .non) [.val (rdG l st ac)] := by
  rw [call_at k _ (rfl : prog[25]? = some ⟨1, 1, b_25⟩) rfl]
  have ht : isTy (.own 5) (rdG l st ac) = some true := rfl
  show fin (b_25 (callF prog k) [.val (rdG l st ac)]) = _
  simp [b_25, nameD, view, views, bi_isi, ht, truth, fin]
theorem require_word (k : Nat) {w : List Nat} (hl : w.length ≤ 2000) (hw : ∀ a ∈ w, a < l) : callF prog (k + 5) 27 [.val (.int (l : Int)), .val (nsG w)] = .ok (.g .non) [.val (.int (l : Int)), .val (nsG w)] := by
  rw [call_at (k + 4) _ (rfl : prog[27]? = some ⟨2, 2, b_27⟩) rfl]
  have h := is_word_in k hl hw
  show fin (b_27 (callF prog (k + 4)) [.val (.int (l : Int)), .val (nsG w)]) = _
  simp [b_27, nameD, view, doCall, argsS, argS, lent, isMade, back, h, truth, fin]
theorem at_letters (F : FF) (s : S) (e : Env) : eAttr ct (eV 0) 0 F (.val (rdG l st ac) :: e) = .ok (.g (.int (l : Int))) (.val (rdG l st ac) :: e) := rfl
theorem at_steps (F : FF) (e : Env) : eAttr ct (eV 0) 1 F (.val (rdG l st ac) :: e) = .ok (.g (stG st)) (.val (rdG l st ac) :: e) := rfl
theorem at_acc (F : FF) (e : Env) : eAttr ct (eV 0) 2 F (.val (rdG l st ac) :: e) = .ok (.g (nsG ac)) (.val (rdG l st ac) :: e) := rfl
theorem require_both (k : Nat) {w : List Nat} (hl : w.length ≤ 2000) (hw : ∀ a ∈ w, a < l) : callF prog (k + 6) 28 [.val (rdG l st ac), .val (nsG w)] = .ok (.g .non) [.val (rdG l st ac), .val (nsG w)] := by
  rw [call_at (k + 5) _ (rfl : prog[28]? = some ⟨2, 2, b_28⟩) rfl]
  have h1 := require_reader (l := l) (st := st) (ac := ac) (k + 4)
  have h2 := require_word k hl hw
  show fin (b_28 (callF prog (k + 5)) [.val (rdG l st ac), .val (nsG w)]) = _
  simp [b_28, nameD, view, doCall, argsS, argS, lent, isMade, back, h1, h2, at_letters (l := l) (st := st) (ac := ac) _ .non, fin]
theorem inSeq_ns (s : Nat) (w : List Nat) : inSeq (.int (s : Int)) (w.map fun (x : Nat) => .int (x : Int)) = some (decide (s ∈ w)) := by
  have h1 : (w.map fun (x : Nat) => G.int (x : Int)).all flatG = true := by
    rw [List.all_eq_true]; intro x hx; obtain ⟨y, _, rfl⟩ := List.mem_map.mp hx; rfl
  unfold inSeq
  rw [h1]
  simp only [flatG, Bool.and_self, if_true, Option.some.injEq]
  induction w with
  | nil => rfl
  | cons a w ih =>
    simp only [List.map_cons, List.any_cons] at ih ⊢
    rw [ih (by rw [List.all_eq_true]; intro x hx; obtain ⟨y, _, rfl⟩ := List.mem_map.mp hx; rfl)]
    simp only [eqF, List.mem_cons]
    by_cases h : a = s
    · subst h; simp
    · have h' : ¬ (a : Int) = (s : Int) := by omega
      have h'' : ¬ s = a := fun z => h z.symm
      simp [h', h'', h]
theorem in_ns (s : Nat) (w : List Nat) : Ev.b2 .in_ (.int (s : Int)) (nsG w) = some (.g (.bl (decide (s ∈ w)))) := by
  unfold nsG
  simp only [Ev.b2, inSeq_ns, Option.map_some]
theorem takes (k : Nat) (M : Good l st ac) {w : List Nat} (hl : w.length ≤ 2000) (hw : ∀ a ∈ w, a < l) : callF prog (k + 7) 30 [.val (rdG l st ac), .val (nsG w)] = .ok (.g (.bl (decide (run st 0 w ∈ ac)))) [.val (rdG l st ac), .val (nsG w)] := by
  rw [call_at (k + 6) _ (rfl : prog[30]? = some ⟨2, 2, b_30⟩) rfl]
  have h1 := require_both (st := st) (ac := ac) k hl hw
  obtain ⟨e, h2⟩ := state_in (ac := ac) (k + 4) M.toMach (w := w) (s := 0) M.n1 hw
  have h2 : callF prog (k + 5) 18 [.val (rdG l st ac), .val (nsG w), .val (.int 0)] = _ := h2
  have h3 : callF prog (k + 6) 19 [.val (rdG l st ac), .val (nsG w)] = .ok (.g (.bl (decide (run st 0 w ∈ ac)))) [.val (rdG l st ac), .val (nsG w)] := by
    rw [call_at (k + 5) _ (rfl : prog[19]? = some ⟨2, 2, b_19⟩) rfl]
    show fin (b_19 (callF prog (k + 5)) [.val (rdG l st ac), .val (nsG w)]) = _
    simp [b_19, nameD, view, doCall, argsS, argS, lent, isMade, back, h2, at_acc, in_ns, retD, fin]
  show fin (b_30 (callF prog (k + 6)) [.val (rdG l st ac), .val (nsG w)]) = _
  simp [b_30, nameD, view, doCall, argsS, argS, lent, isMade, back, h1, h3, retD, fin]
end K25

end
section
set_option linter.all false
set_option Elab.async false
set_option maxRecDepth 100000
set_option maxHeartbeats 4000000
namespace K25
open Ev
def gs (w : List Nat) : List G := w.map fun (x : Nat) => .int (x : Int)
theorem keyB_int (a b : Nat) : keyB (.int (a : Int)) (.int (b : Int)) = decide (a = b) := by
  show ((a : Int) == (b : Int)) = _
  by_cases h : a = b
  · subst h; simp
  · rw [decide_eq_false h, beq_eq_false_iff_ne]; omega
theorem findK_none {x : Nat} : ∀ {ws : List Nat} {vs : List G}, x ∉ ws → findK (.int (x : Int)) (gs ws) vs = none
  | [], vs, _ => by cases vs <;> rfl
  | w :: ws, [], _ => rfl
  | w :: ws, v :: vs, h => by
    have h1 : ¬ w = x := fun e => h (e ▸ List.mem_cons_self)
    show (if keyB (.int (w : Int)) (.int (x : Int)) then some v else findK (.int (x : Int)) (gs ws) vs) = none
    rw [keyB_int, decide_eq_false h1]
    exact findK_none fun e => h (List.mem_cons_of_mem _ e)
theorem findK_at {x : Nat} {v : G} : ∀ {ws : List Nat} {vs : List G} {i : Nat}, (∀ j, j < i → ws[j]? ≠ some x) → ws[i]? = some x → vs[i]? = some v → findK (.int (x : Int)) (gs ws) vs = some v
  | w :: ws, u :: vs, 0, _, h, hv => by
    simp only [List.getElem?_cons_zero, Option.some.injEq] at h hv
    subst h hv
    show (if keyB (.int (w : Int)) (.int (w : Int)) then some u else findK (.int (w : Int)) (gs ws) vs) = some u
    rw [keyB_int]; simp
  | w :: ws, u :: vs, i + 1, hn, h, hv => by
    have h1 : ¬ w = x := fun e => hn 0 (Nat.succ_pos _) (by simp [e])
    show (if keyB (.int (w : Int)) (.int (x : Int)) then some u else findK (.int (x : Int)) (gs ws) vs) = some v
    rw [keyB_int, decide_eq_false h1]
    exact findK_at (i := i) (fun j hj => by have := hn (j + 1) (Nat.succ_lt_succ hj); simpa using this) (by simpa using h) (by simpa using hv)
theorem putK_new {x : Nat} {ws : List Nat} {v : G} {vs : List G} (h : x ∉ ws) : putK (.int (x : Int)) v (gs ws) vs = (gs (ws ++ [x]), vs ++ [v]) := by
  have h1 : ((gs ws).any fun y => keyB y (.int (x : Int))) = false := by
    rw [List.any_eq_false]
    intro y hy
    obtain ⟨w, hw, rfl⟩ := List.mem_map.mp hy
    rw [keyB_int]
    intro e
    exact h (of_decide_eq_true e ▸ hw)
  unfold putK
  rw [h1]
  simp [gs]
end K25

end
section
set_option linter.all false
set_option maxRecDepth 100000
namespace Ev
variable {F : FF} {e : Env}
@[simp] theorem sAsg_e (t : GV) (x : EV) : sAsg t x F e = (x F e).st fun d e => match frz d e with
  | some (g, e) => nxO (t g e)
  | none => .bad := rfl
@[simp] theorem gNm_e (i : Nat) (g : G) : gNm i g e = setS e i (.val g) := rfl
@[simp] theorem gTp_e (ts : List GV) (gs : List G) : gTp ts (.tup gs) e = gAll ts gs e := rfl
@[simp] theorem gAll_nil : gAll [] [] e = some e := rfl
@[simp] theorem gAll_cons (t : GV) (ts : List GV) (g : G) (gs : List G) : gAll (t :: ts) (g :: gs) e = match t g e with
  | some e1 => gAll ts gs e1
  | none => none := rfl
@[simp] theorem sPar_e (is : List Nat) (es : AV) : sPar is es F e = (es F e).st fun ds e => nxO (parSet is ds e) := rfl
@[simp] theorem eDic0_e : eDic0 F e = .ok (.own (.dct [] [])) e := rfl
end Ev

end
section
set_option linter.all false
set_option maxRecDepth 100000
namespace Ev
variable {F : FF} {e : Env}
/-- a comprehension by an invariant of the frame -/
theorem compL_inv {step : G → Env → R (Option G)} {I : Env → Prop} {Q : G → Prop} : ∀ {xs : List G}, (∀ x ∈ xs, ∀ e, I e → ∃ y e', step x e = .ok (some y) e' ∧ I e' ∧ Q y) → ∀ (acc : List G) (e : Env), I e →
    ∃ ys e', compL step xs acc e = .ok (acc.reverse ++ ys) e' ∧ I e' ∧ ys.length = xs.length ∧ ∀ y ∈ ys, Q y
  | [], _, acc, e, i => ⟨[], e, by simp [compL], i, rfl, nofun⟩
  | x :: xs, h, acc, e, i => by
    obtain ⟨y, e1, h1, i1, q⟩ := h x (List.mem_cons_self ..) e i
    obtain ⟨ys, e2, h2, i2, hl, hq⟩ := compL_inv (xs := xs) (fun z hz => h z (List.mem_cons_of_mem _ hz)) (y :: acc) e1 i1
    refine ⟨y :: ys, e2, ?_, i2, by simp [hl], fun z hz => ?_⟩
    · simp only [compL, h1, compK]
      rw [h2]; simp
    · rcases List.mem_cons.mp hz with rfl | hz
      · exact q
      · exact hq z hz
/-- .. with a condition that nothing is known of -/
theorem compL_filt {step : G → Env → R (Option G)} {I : Env → Prop} : ∀ {xs : List G}, (∀ x ∈ xs, ∀ e, I e → ∃ o e', step x e = .ok o e' ∧ I e' ∧ (o = none ∨ o = some x)) → ∀ (acc : List G) (e : Env), I e →
    ∃ ys e', compL step xs acc e = .ok (acc.reverse ++ ys) e' ∧ I e' ∧ ys.Sublist xs
  | [], _, acc, e, i => ⟨[], e, by simp [compL], i, .slnil⟩
  | x :: xs, h, acc, e, i => by
    obtain ⟨o, e1, h1, i1, q⟩ := h x (List.mem_cons_self ..) e i
    rcases q with rfl | rfl
    · obtain ⟨ys, e2, h2, i2, hs⟩ := compL_filt (xs := xs) (fun z hz => h z (List.mem_cons_of_mem _ hz)) acc e1 i1
      exact ⟨ys, e2, by simp only [compL, h1, compK]; rw [h2], i2, hs.cons _⟩
    · obtain ⟨ys, e2, h2, i2, hs⟩ := compL_filt (xs := xs) (fun z hz => h z (List.mem_cons_of_mem _ hz)) (x :: acc) e1 i1
      exact ⟨x :: ys, e2, by simp only [compL, h1, compK]; rw [h2]; simp, i2, hs.cons₂ _⟩
theorem unmap {α : Type} {f : α → G} {P : α → Prop} : ∀ {ys : List G}, (∀ y ∈ ys, ∃ x, y = f x ∧ P x) → ∃ xs : List α, ys = xs.map f ∧ xs.length = ys.length ∧ ∀ x ∈ xs, P x
  | [], _ => ⟨[], rfl, rfl, nofun⟩
  | y :: ys, h => by
    obtain ⟨x, rfl, hx⟩ := h y (List.mem_cons_self ..)
    obtain ⟨xs, rfl, hl, hp⟩ := unmap (ys := ys) fun z hz => h z (List.mem_cons_of_mem _ hz)
    refine ⟨x :: xs, rfl, by simp, fun z hz => ?_⟩
    rcases List.mem_cons.mp hz with rfl | hz
    · exact hx
    · exact hp z hz
theorem compStep_if {own : List Nat} {el : EV} {t : GV} {c : TV} {F : FF} {x g : G} {e e1 e2 e3 e4 : Env} {d : D} {b : Bool} (h1 : t x e = some e1) (hc : c F e1 = .ok b e2) (h2 : el F e2 = .ok d e3) (h3 : frz d e3 = some (g, e4)) (hw : wipeE e4 own = wipeE e2 own) :
    compStep own el t c F x e = .ok (if b then some g else none) (wipeE e2 own) := by
  cases b <;> simp [compStep, h1, hc, R.bind, h2, h3, hw]
/-- a for loop by an invariant -/
theorem forL_inv {step : G → Env → RS} {I : Env → Prop} : ∀ {xs : List G}, (∀ x ∈ xs, ∀ e, I e → ∃ e', step x e = .nx e' ∧ I e') → ∀ e, I e → ∃ e', forL step xs e = .nx e' ∧ I e'
  | [], _, e, i => ⟨e, rfl, i⟩
  | x :: xs, h, e, i => by
    obtain ⟨e1, h1, i1⟩ := h x (List.mem_cons_self ..) e i
    obtain ⟨e2, h2, i2⟩ := forL_inv (xs := xs) (fun z hz => h z (List.mem_cons_of_mem _ hz)) e1 i1
    exact ⟨e2, by rw [forL_nx h1, h2], i2⟩
/-- .. that counts the turns -/
theorem forL_at {step : G → Env → RS} {I : List G → Env → Prop} : ∀ {xs : List G}, (∀ x r, ∀ e, I (x :: r) e → ∃ e', step x e = .nx e' ∧ I r e') → ∀ e, I xs e → ∃ e', forL step xs e = .nx e' ∧ I [] e'
  | [], _, e, i => ⟨e, rfl, i⟩
  | x :: xs, h, e, i => by
    obtain ⟨e1, h1, i1⟩ := h x xs e i
    obtain ⟨e2, h2, i2⟩ := forL_at (xs := xs) h e1 i1
    exact ⟨e2, by rw [forL_nx h1, h2], i2⟩
end Ev
namespace Ev
variable {F : FF} {e e1 e2 e3 : Env}
theorem sSeq_nx {s r : SV} (h : s F e = .nx e1) : sSeq s r F e = r F e1 := by rw [sSeq_e, h]
theorem sSeq_rt {s r : SV} {d : D} (h : s F e = .rt d e1) : sSeq s r F e = .rt d e1 := by rw [sSeq_e, h]
theorem aCons_ok {a : EV} {r : AV} {d : D} {ds : List D} (h1 : a F e = .ok d e1) (h2 : r F e1 = .ok ds e2) : aCons a r F e = .ok (d :: ds) e2 := by rw [aCons_e, h1, R_bind_ok, h2, R_bind_ok]
theorem eTup_ok {as : AV} {ds : List D} {gs : List G} (h : as F e = .ok ds e1) (hz : frzs ds e1 = some (gs, e2)) (hl : gs.length ≤ 100000) : eTup as F e = .ok (.g (.tup gs)) e2 := by
  unfold eTup; rw [h]
  show (match frzs ds e1 with | some (gs, e) => if gs.length ≤ 100000 then R.ok (D.g (.tup gs)) e else R.bad | none => R.bad) = _
  rw [hz]; exact if_pos hl
theorem eLst_ok {as : AV} {ds : List D} {gs : List G} (h : as F e = .ok ds e1) (hz : frzs ds e1 = some (gs, e2)) (hl : gs.length ≤ 100000) : eLst as F e = .ok (.own (.lst gs)) e2 := by
  unfold eLst; rw [h]
  show (match frzs ds e1 with | some (gs, e) => if gs.length ≤ 100000 then R.ok (D.own (.lst gs)) e else R.bad | none => R.bad) = _
  rw [hz]; exact if_pos hl
theorem eBi_ok {f : Bi} {as : AV} {ds : List D} {gs : List G} {d : D} (h : as F e = .ok ds e1) (hv : views ds e1 = some gs) (hb : bi f gs = some d) : eBi f as F e = .ok d e1 := by
  unfold eBi; rw [h]
  show (match views ds e1 with | some gs => res (bi f gs) e1 | none => R.bad) = _
  rw [hv]
  show res (bi f gs) e1 = _
  rw [hb, res_some]
theorem sRet_ok {x : EV} {d d2 : D} (h : x F e = .ok d e1) (hr : retD d e1 = some (d2, e2)) : sRet x F e = .rt d2 e2 := by
  rw [sRet_e, h, R_st_ok, hr]
theorem sSet_ok {i : Nat} {x : EV} {d : D} (h : x F e = .ok d e1) (hb : bindD e1 i d = some e2) : sSet i x F e = .nx e2 := by
  rw [sSet_e, h, R_st_ok, hb]; rfl
theorem sExp_ok {x : EV} {d : D} (h : x F e = .ok d e1) : sExp x F e = .nx e1 := by
  rw [sExp_e, h]; rfl
theorem eCall_ok {f : Nat} {dfl : List G} {as : AV} {ds : List D} {d : D} (h : as F e = .ok ds e1) (hc : doCall F f dfl ds e1 = .ok d e2) : eCall f dfl as F e = .ok d e2 := by
  rw [eCall_e, h, R_bind_ok, hc]
theorem eBin_ok {o : B2} {a b : EV} {x y : D} {gx gy : G} {d : D} (h1 : a F e = .ok x e1) (h2 : b F e1 = .ok y e2) (v1 : view x e2 = some gx) (v2 : view y e2 = some gy) (h : b2 o gx gy = some d) : eBin o a b F e = .ok d e2 := by
  rw [eBin_e, h1, R_bind_ok, h2, R_bind_ok, v1, v2]
  show res (b2 o gx gy) e2 = _
  rw [h, res_some]
theorem tV_ok {a : EV} {d : D} {g : G} {t : Bool} (h : a F e = .ok d e1) (v : view d e1 = some g) (ht : truth g = some t) : tV a F e = .ok t e1 := by
  rw [tV_e, h, R_bind_ok, v]
  show ofO (truth g) e1 = _
  rw [ht]; rfl
theorem sIf_yes {c : TV} {a b : SV} (h : c F e = .ok true e1) : sIf c a b F e = a F e1 := by rw [sIf_e, h]; rfl
theorem sIf_no {c : TV} {a b : SV} (h : c F e = .ok false e1) : sIf c a b F e = b F e1 := by rw [sIf_e, h]; rfl
end Ev

end
section
set_option linter.all false
set_option Elab.async false
set_option maxRecDepth 100000
set_option maxHeartbeats 4000000
namespace K25
open Ev
@[irreducible] def pm : Nat := 1000000000000000001
theorem pm_of {t : Nat} (h : t < 2000) : t < pm := Nat.lt_trans h (by unfold pm; decide +kernel)
theorem pm_big : pm < big := by unfold pm; decide +kernel
theorem pm_18 : 1000000000000000000 < pm := by unfold pm; decide +kernel
theorem pickN (k : Nat) (b : Int × Int × Int) (t : Nat) (h0 : 0 < t) (ht : t < pm) : ∃ r b' s, r < t ∧ callF prog (k + 1) 35 [.len (bagG b), .val (.int (t : Int))] = .ok (.g (.int ((r : Nat) : Int))) (.len (bagG b') :: .val (.int (t : Int)) :: s) := by
  obtain ⟨r, b', s, h1, h2, h3⟩ := pick k b (t : Int) (by omega) (Nat.lt_trans ht pm_big)
  obtain ⟨n, rfl⟩ := Int.eq_ofNat_of_zero_le h1
  exact ⟨n, b', s, by omega, h3⟩
/-- a bag that is handed on -/
theorem drawL (k : Nat) (b : Int × Int × Int) (t : Nat) (e : Env) (h0 : 0 < t) (ht : t < pm) :
    ∃ r b', r < t ∧ doCall (callF prog (k + 1)) 35 [] [.sl 0, .g (.int (t : Int))] (.len (bagG b) :: e) = .ok (.g (.int ((r : Nat) : Int))) (.len (bagG b') :: e) := by
  obtain ⟨r, b', s, hr, h⟩ := pickN k b t h0 ht
  refine ⟨r, b', hr, ?_⟩
  simp [nameD, doCall, argsS, argS, lent, h, isMade, back, bkS]
theorem one_of (k : Nat) {b : Int × Int × Int} {xs : List G} (hp : 0 < xs.length) (hl : xs.length < 1000) : ∃ x b' s, x ∈ xs ∧ callF prog (k + 2) 36 [.len (bagG b), .obj (.lst xs)] = .ok (.g x) (.len (bagG b') :: .obj (.lst xs) :: s) := by
  obtain ⟨r, b', hr, h⟩ := drawL k b xs.length [.obj (.lst xs)] hp (pm_of (by omega))
  refine ⟨xs[r], b', [], List.getElem_mem hr, ?_⟩
  rw [call_at (k + 1) _ (rfl : prog[36]? = some ⟨2, 2, b_36⟩) rfl]
  have hi : atIx xs (r : Int) = some xs[r] := by unfold atIx; rw [L2.atI_nat (List.getElem?_eq_getElem hr)]
  show fin (b_36 (callF prog (k + 1)) [.len (bagG b), .obj (.lst xs)]) = _
  have hb : bi .len [.lst xs] = some (.g (.int (xs.length : Int))) := rfl
  have hx : Ev.b2 .idx (.lst xs) (.int (r : Int)) = some (.g xs[r]) := by simp only [Ev.b2, hi, Option.map_some]
  simp [b_36, nameD, h, view, views, hb, hx, retD, fin]
theorem one_ofD (k : Nat) {b : Int × Int × Int} {xs : List G} (e : Env) (hp : 0 < xs.length) (hl : xs.length < 1000) : ∃ x b', x ∈ xs ∧ doCall (callF prog (k + 2)) 36 [] [.sl 0, .own (.lst xs)] (.len (bagG b) :: e) = .ok (.g x) (.len (bagG b') :: e) := by
  obtain ⟨x, b', s, hx, h⟩ := one_of k (b := b) hp hl
  refine ⟨x, b', hx, ?_⟩
  simp [doCall, argsS, argS, lent, h, isMade, back, bkS]
theorem range_ns (n : Nat) : rangeG 0 n = (List.range n).map fun (x : Nat) => .int (x : Int) := by
  refine List.ext_getElem? fun i => ?_
  by_cases h : i < n
  · rw [rangeG_get n 0 i h, List.getElem?_map, List.getElem?_range h]
    simp
  · rw [List.getElem?_eq_none (by rw [rangeG_len]; omega), List.getElem?_eq_none (by simp; omega)]
end K25

end
section
set_option linter.all false
set_option Elab.async false
set_option maxRecDepth 100000
set_option maxHeartbeats 4000000
namespace K25
open Ev
/-- the frame of _law_re_drawn -/
abbrev dEnv (b : Int × Int × Int) (l m n : Nat) (x4 x5 : S) : Env := [.len (bagG b), .val (.int (l : Int)), .val (.int (m : Int)), .val (.int (n : Int)), x4, x5, .non]
theorem row_drawn (k : Nat) {b : Int × Int × Int} {l m n : Nat} (x4 x5 : S) (hn : 0 < n) (hn2 : n < 1000) (hl2 : l < 1000) : ∃ (w : List Nat) (b' : Int × Int × Int), w.length = l ∧ (∀ a ∈ w, a < n) ∧
    eComp [6] (eCall 35 [] (aCons (eV 0) (aCons (eV 3) aNil))) (gNm 6) (iR1 (eV 1)) tYesT (callF prog (k + 1)) (dEnv b l m n x4 x5) = .ok (.own (.lst (gs w))) (dEnv b' l m n x4 x5) := by
  have hit : iR1 (eV 1) (callF prog (k + 1)) (dEnv b l m n x4 x5) = .ok (rangeG 0 l, none) (dEnv b l m n x4 x5) := iR1_ok rfl (by omega)
  obtain ⟨ys, e1, hc, ⟨b2, he1⟩, hl1, hq⟩ := compL_inv (step := compStep [6] (eCall 35 [] (aCons (eV 0) (aCons (eV 3) aNil))) (gNm 6) tYesT (callF prog (k + 1))) (I := fun e => ∃ b, e = dEnv b l m n x4 x5) (Q := fun y => ∃ x : Nat, y = .int (x : Int) ∧ x < n) (xs := rangeG 0 l)
    (fun x _ e ⟨b, he⟩ => by
      subst he
      obtain ⟨r, b', hr, h⟩ := drawL k b n [.val (.int (l : Int)), .val (.int (m : Int)), .val (.int (n : Int)), x4, x5, .val x] hn (pm_of (by omega))
      refine ⟨.int (r : Int), dEnv b' l m n x4 x5, compStep_yes (e1 := [.len (bagG b), .val (.int (l : Int)), .val (.int (m : Int)), .val (.int (n : Int)), x4, x5, .val x]) (e2 := [.len (bagG b'), .val (.int (l : Int)), .val (.int (m : Int)), .val (.int (n : Int)), x4, x5, .val x]) (e3 := [.len (bagG b'), .val (.int (l : Int)), .val (.int (m : Int)), .val (.int (n : Int)), x4, x5, .val x]) (d := .g (.int (r : Int))) rfl ?_ rfl, ⟨b', rfl⟩, r, rfl, hr⟩
      simp [nameD, h]) [] (dEnv b l m n x4 x5) ⟨b, rfl⟩
  obtain ⟨w, rfl, hw1, hw2⟩ := unmap hq
  rw [rangeG_len] at hl1
  have h := eComp_v (own := [6]) (el := eCall 35 [] (aCons (eV 0) (aCons (eV 3) aNil))) (t := gNm 6) (c := tYesT) hit rfl hc (by simp at *; omega)
  subst he1
  refine ⟨w, b2, by omega, hw2, ?_⟩
  simp only [List.reverse_nil, List.nil_append] at h
  rw [h]
  rfl
theorem rows_drawn (k : Nat) {b : Int × Int × Int} {l m n : Nat} (hn : 0 < n) (hn2 : n < 1000) (hl2 : l < 1000) : ∃ (st : List (List Nat)) (b' : Int × Int × Int), st.length = n ∧ (∀ r ∈ st, r.length = l ∧ ∀ x ∈ r, x < n) ∧
    eComp [5] (eBi .tuple (aCons (eComp [6] (eCall 35 [] (aCons (eV 0) (aCons (eV 3) aNil))) (gNm 6) (iR1 (eV 1)) tYesT) aNil)) (gNm 5) (iR1 (eV 3)) tYesT (callF prog (k + 1)) (dEnv b l m n .non .non) = .ok (.own (.lst (st.map nsG))) (dEnv b' l m n .non .non) := by
  have hit : iR1 (eV 3) (callF prog (k + 1)) (dEnv b l m n .non .non) = .ok (rangeG 0 n, none) (dEnv b l m n .non .non) := iR1_ok rfl (by omega)
  obtain ⟨ys, e1, hc, ⟨b2, he1⟩, hl1, hq⟩ := compL_inv (step := compStep [5] (eBi .tuple (aCons (eComp [6] (eCall 35 [] (aCons (eV 0) (aCons (eV 3) aNil))) (gNm 6) (iR1 (eV 1)) tYesT) aNil)) (gNm 5) tYesT (callF prog (k + 1))) (I := fun e => ∃ b, e = dEnv b l m n .non .non) (Q := fun y => ∃ w : List Nat, y = nsG w ∧ w.length = l ∧ ∀ x ∈ w, x < n) (xs := rangeG 0 n)
    (fun x _ e ⟨b, he⟩ => by
      subst he
      obtain ⟨w, b', hw1, hw2, h⟩ := row_drawn k (b := b) (l := l) (m := m) (n := n) .non (.val x) hn hn2 hl2
      refine ⟨nsG w, dEnv b' l m n .non .non, compStep_yes (e1 := dEnv b l m n .non (.val x)) (e2 := dEnv b' l m n .non (.val x)) (e3 := dEnv b' l m n .non (.val x)) (d := .g (nsG w)) rfl ?_ rfl, ⟨b', rfl⟩, w, rfl, hw1, hw2⟩
      have hb : bi .tuple [.lst (gs w)] = some (.g (nsG w)) := rfl
      simp only [eBi_e, aCons_e, h, R_bind_ok, aNil_e, views, view, hb, res_some]) [] (dEnv b l m n .non .non) ⟨b, rfl⟩
  obtain ⟨st, rfl, hw1, hw2⟩ := unmap hq
  rw [rangeG_len] at hl1
  have h := eComp_v (own := [5]) (el := eBi .tuple (aCons (eComp [6] (eCall 35 [] (aCons (eV 0) (aCons (eV 3) aNil))) (gNm 6) (iR1 (eV 1)) tYesT) aNil)) (t := gNm 5) (c := tYesT) hit rfl hc (by simp at *; omega)
  subst he1
  refine ⟨st, b2, by omega, hw2, ?_⟩
  simp only [List.reverse_nil, List.nil_append] at h
  rw [h]
  rfl
theorem acc_drawn (k : Nat) {b : Int × Int × Int} {l m n : Nat} (x4 : S) (hn2 : n < 1000) : ∃ (ac : List Nat) (b' : Int × Int × Int), ac.Pairwise (· < ·) ∧ (∀ x ∈ ac, x < n) ∧ ac.length ≤ n ∧
    eComp [5] (eV 5) (gNm 5) (iR1 (eV 3)) (tV (eBin .eq (eCall 35 [] (aCons (eV 0) (aCons (eK (.int 2)) aNil))) (eK (.int 0)))) (callF prog (k + 1)) (dEnv b l m n x4 .non) = .ok (.own (.lst (gs ac))) (dEnv b' l m n x4 .non) := by
  have hit : iR1 (eV 3) (callF prog (k + 1)) (dEnv b l m n x4 .non) = .ok (gs (List.range n), none) (dEnv b l m n x4 .non) := by
    have h := iR1_ok (a := eV 3) (F := callF prog (k + 1)) (e := dEnv b l m n x4 .non) (n := n) rfl (by omega)
    rw [range_ns] at h; exact h
  obtain ⟨ys, e1, hc, ⟨b2, he1⟩, hs⟩ := compL_filt (step := compStep [5] (eV 5) (gNm 5) (tV (eBin .eq (eCall 35 [] (aCons (eV 0) (aCons (eK (.int 2)) aNil))) (eK (.int 0)))) (callF prog (k + 1))) (I := fun e => ∃ b, e = dEnv b l m n x4 .non) (xs := gs (List.range n))
    (fun x _ e ⟨b, he⟩ => by
      subst he
      obtain ⟨r, b', hr, h⟩ := drawL k b 2 [.val (.int (l : Int)), .val (.int (m : Int)), .val (.int (n : Int)), x4, .val x, .non] (by omega) (pm_of (by omega))
      refine ⟨if decide ((r : Int) = 0) then some x else none, dEnv b' l m n x4 .non, compStep_if (e1 := dEnv b l m n x4 (.val x)) (e2 := dEnv b' l m n x4 (.val x)) (e3 := dEnv b' l m n x4 (.val x)) (e4 := dEnv b' l m n x4 (.val x)) (d := .g x) rfl ?_ rfl rfl rfl, ⟨b', rfl⟩, ?_⟩
      · have h : doCall (callF prog (k + 1)) 35 [] [.sl 0, .g (.int 2)] (dEnv b l m n x4 (.val x)) = .ok (.g (.int (r : Int))) (dEnv b' l m n x4 (.val x)) := h
        have hq : Ev.b2 .eq (.int (r : Int)) (.int 0) = some (.g (.bl (decide ((r : Int) = 0)))) := by simp only [Ev.b2, pyEq_int, Option.map_some]
        have hv : nameD (dEnv b l m n x4 (.val x)) 0 = some (.sl 0) := rfl
        simp only [tV_e, eBin_e, eCall_e, aCons_e, eV_e, hv, ofO_some, R_bind_ok, eK_e, aNil_e, h, view, hq, res_some, truth]
      · by_cases hz : (r : Int) = 0
        · exact .inr (by simp [hz])
        · exact .inl (by simp only [decide_eq_false hz]; rfl)) [] (dEnv b l m n x4 .non) ⟨b, rfl⟩
  have hq : ∀ y ∈ ys, ∃ x : Nat, y = .int (x : Int) ∧ x < n := fun y hy => by
    obtain ⟨x, hx, rfl⟩ := List.mem_map.mp (hs.subset hy)
    exact ⟨x, rfl, List.mem_range.mp hx⟩
  have hs' : ∃ ac : List Nat, ys = gs ac ∧ ac.Sublist (List.range n) := by
    obtain ⟨ac, h1, h2⟩ := List.sublist_map_iff.mp hs
    exact ⟨ac, h2, h1⟩
  obtain ⟨ac, rfl, hs2⟩ := hs'
  have hl := hs2.length_le
  rw [List.length_range] at hl
  have h := eComp_v (own := [5]) (el := eV 5) (t := gNm 5) (c := tV (eBin .eq (eCall 35 [] (aCons (eV 0) (aCons (eK (.int 2)) aNil))) (eK (.int 0)))) hit rfl hc (by simp [gs]; omega)
  subst he1
  refine ⟨ac, b2, List.pairwise_lt_range.sublist hs2, fun x hx => List.mem_range.mp (hs2.subset hx), hl, ?_⟩
  simp only [List.reverse_nil, List.nil_append] at h
  rw [h]
  rfl
end K25

end
section
set_option linter.all false
set_option Elab.async false
set_option maxRecDepth 100000
set_option maxHeartbeats 4000000
namespace K25
open Ev
theorem b39_of (F : FF) {b b1 b2 b3 : Int × Int × Int} {l m n n0 : Nat} {st : List (List Nat)} {ac : List Nat} (e4 : (1 : Int) + (n0 : Int) = (n : Int)) (h1 : doCall F 35 [] [.sl 0, .g (.int (m : Int))] [.len (bagG b), .val (.int (l : Int)), .val (.int (m : Int)), .non, .non, .non, .non] = .ok (.g (.int (n0 : Int))) [.len (bagG b1), .val (.int (l : Int)), .val (.int (m : Int)), .non, .non, .non, .non])
    (h2 : eComp [5] (eBi .tuple (aCons (eComp [6] (eCall 35 [] (aCons (eV 0) (aCons (eV 3) aNil))) (gNm 6) (iR1 (eV 1)) tYesT) aNil)) (gNm 5) (iR1 (eV 3)) tYesT F (dEnv b1 l m n .non .non) = .ok (.own (.lst (st.map nsG))) (dEnv b2 l m n .non .non))
    (h3 : eComp [5] (eV 5) (gNm 5) (iR1 (eV 3)) (tV (eBin .eq (eCall 35 [] (aCons (eV 0) (aCons (eK (.int 2)) aNil))) (eK (.int 0)))) F (dEnv b2 l m n (.obj (.lst (st.map nsG))) .non) = .ok (.own (.lst (gs ac))) (dEnv b3 l m n (.obj (.lst (st.map nsG))) .non)) :
    fin (b_39 F [.len (bagG b), .val (.int (l : Int)), .val (.int (m : Int)), .non, .non, .non, .non]) = .ok (.g (plG l st ac)) (dEnv b3 l m n (.obj (.lst (st.map nsG))) .non) := by
  have q1 : bi .tuple [.lst (st.map nsG)] = some (.g (stG st)) := rfl
  have q2 : bi .tuple [.lst (gs ac)] = some (.g (nsG ac)) := rfl
  have hA : sSet 3 (eBin .add (eK (.int 1)) (eCall 35 [] (aCons (eV 0) (aCons (eV 2) aNil)))) F [.len (bagG b), .val (.int (l : Int)), .val (.int (m : Int)), .non, .non, .non, .non] = .nx (dEnv b1 l m n .non .non) := by
    simp [nameD, h1, view, Ev.b2, e4, bindD, frz, setS]
  have hB : sSet 4 (eComp [5] (eBi .tuple (aCons (eComp [6] (eCall 35 [] (aCons (eV 0) (aCons (eV 3) aNil))) (gNm 6) (iR1 (eV 1)) tYesT) aNil)) (gNm 5) (iR1 (eV 3)) tYesT) F (dEnv b1 l m n .non .non) = .nx (dEnv b2 l m n (.obj (.lst (st.map nsG))) .non) := by
    rw [sSet_e, h2]; rfl
  unfold b_39
  rw [sSeq_nx hA, sSeq_nx hB]
  rw [sSeq_rt (d := .g (plG l st ac)) (e1 := dEnv b3 l m n (.obj (.lst (st.map nsG))) .non)]
  · rfl
  refine sRet_ok (eTup_ok (aCons_ok (d := .g (.int (l : Int))) (e1 := dEnv b2 l m n (.obj (.lst (st.map nsG))) .non) rfl (aCons_ok (eBi_ok (ds := [.sl 4]) (e1 := dEnv b2 l m n (.obj (.lst (st.map nsG))) .non) rfl rfl q1) (aCons_ok (eBi_ok (aCons_ok h3 rfl) rfl q2) rfl))) rfl ?_) rfl
  simp
theorem re_drawn (k : Nat) {b : Int × Int × Int} {l m : Nat} (hl : 0 < l) (hl2 : l ≤ 4) (hm : 0 < m) (hm2 : m ≤ 9) : ∃ st ac b' s, Good l st ac ∧ st.length ≤ m ∧ callF prog (k + 2) 39 [.len (bagG b), .val (.int (l : Int)), .val (.int (m : Int))] = .ok (.g (plG l st ac)) (.len (bagG b') :: .val (.int (l : Int)) :: .val (.int (m : Int)) :: s) := by
  rw [call_at (k + 1) _ (rfl : prog[39]? = some ⟨3, 7, b_39⟩) rfl]
  obtain ⟨n0, b1, hn, h1⟩ := drawL k b m [.val (.int (l : Int)), .val (.int (m : Int)), .non, .non, .non, .non] hm (pm_of (by omega))
  obtain ⟨n, e3⟩ : ∃ n, n = n0 + 1 := ⟨_, rfl⟩
  have e4 : (1 : Int) + (n0 : Int) = (n : Int) := by omega
  obtain ⟨st, b2, hs1, hs2, h2⟩ := rows_drawn k (b := b1) (l := l) (m := m) (n := n) (by omega) (by omega) (by omega)
  obtain ⟨ac, b3, ha1, ha2, ha3, h3⟩ := acc_drawn k (b := b2) (l := l) (m := m) (n := n) (.obj (.lst (st.map nsG))) (by omega)
  refine ⟨st, ac, b3, [.val (.int (n : Int)), .obj (.lst (st.map nsG)), .non, .non], ⟨⟨hl, by omega, fun r hr => ⟨(hs2 r hr).1, by rw [hs1]; exact (hs2 r hr).2⟩⟩, by omega, by omega, ha1, by rw [hs1]; exact ha2, by omega⟩, by omega, ?_⟩
  exact b39_of (callF prog (k + 1)) e4 h1 h2 h3
end K25

end
section
set_option linter.all false
set_option maxRecDepth 100000
namespace Ev
open PySem
mutual
/-- data of depth at most n -/
def oky : Nat → G → Bool
  | _, .non => true
  | _, .bl _ => true
  | _, .int _ => true
  | _, .str s => PySem.PyData.canLay0 (.str s)
  | n, .tup xs => decide (0 < n) && okys (n - 1) xs
  | n, .lst xs => decide (0 < n) && okys (n - 1) xs
  | _, _ => false
def okys : Nat → List G → Bool
  | _, [] => true
  | n, x :: xs => oky n x && okys n xs
end
mutual
theorem oky_py : ∀ (n : Nat) (g : G), oky n g = true → ∃ d, g.py = some d ∧ d.canLay0 = true ∧ d.depth ≤ n
  | n, .non, _ => ⟨.none, rfl, by simp [PySem.PyData.canLay0], by simp [PySem.PyData.depth]⟩
  | n, .bl b, _ => ⟨.bool b, rfl, by simp [PySem.PyData.canLay0], by simp [PySem.PyData.depth]⟩
  | n, .int i, _ => ⟨.int i, rfl, by simp [PySem.PyData.canLay0], by simp [PySem.PyData.depth]⟩
  | n, .str s, h => ⟨.str s, rfl, h, by simp [PySem.PyData.depth]⟩
  | n, .tup xs, h => by
    simp only [oky, Bool.and_eq_true, decide_eq_true_eq] at h
    obtain ⟨ds, h1, h2, h3⟩ := okys_py (n - 1) xs h.2
    refine ⟨.tuple ds, by simp [G.py, h1], by simpa [PySem.PyData.canLay0] using h2, ?_⟩
    simp only [PySem.PyData.depth]; omega
  | n, .lst xs, h => by
    simp only [oky, Bool.and_eq_true, decide_eq_true_eq] at h
    obtain ⟨ds, h1, h2, h3⟩ := okys_py (n - 1) xs h.2
    refine ⟨.list ds, by simp [G.py, h1], by simpa [PySem.PyData.canLay0] using h2, ?_⟩
    simp only [PySem.PyData.depth]; omega
  | n, .dct _ _, h => by simp [oky] at h
  | n, .scr _, h => by simp [oky] at h
  | n, .ins _ _, h => by simp [oky] at h
  | n, .cls _, h => by simp [oky] at h
  | n, .fn _, h => by simp [oky] at h
theorem okys_py : ∀ (n : Nat) (xs : List G), okys n xs = true → ∃ ds, G.pys xs = some ds ∧ PySem.PyData.canLayAll0 ds = true ∧ PySem.PyData.depthAll ds ≤ n
  | n, [], _ => ⟨[], rfl, by simp [PySem.PyData.canLayAll0], by simp [PySem.PyData.depthAll]⟩
  | n, x :: xs, h => by
    simp only [okys, Bool.and_eq_true] at h
    obtain ⟨d, h1, h2, h3⟩ := oky_py n x h.1
    obtain ⟨ds, h4, h5, h6⟩ := okys_py n xs h.2
    refine ⟨d :: ds, by simp [G.pys, h1, h4], by simp [PySem.PyData.canLayAll0, h2, h5], ?_⟩
    simp only [PySem.PyData.depthAll]; omega
end
theorem shaped_of {d : PyData} (h : d.canLay0 = true) (hd : d.depth ≤ 64) : SeqAt.shaped d = true := by
  unfold SeqAt.shaped; simp [h, hd]
theorem pyEq_self {g : G} (h : oky 64 g = true) : pyEq g g = some true := by
  obtain ⟨d, h1, h2, h3⟩ := oky_py 64 g h
  unfold pyEq
  rw [h1]
  simp [shaped_of h2 h3, PySem.SeqAt.eqv_refl d h2]
theorem pyEq_cons_nil {x : G} {xs : List G} (h : oky 64 (.lst (x :: xs)) = true) : pyEq (.lst (x :: xs)) (.lst []) = some false := by
  have h' := h
  simp only [oky, okys, Bool.and_eq_true] at h
  obtain ⟨d, h1, h2, h3⟩ := oky_py 64 _ h'
  obtain ⟨a, e1, _⟩ := oky_py _ x h.2.1
  obtain ⟨b, e2, _⟩ := okys_py _ xs h.2.2
  have e3 : G.py (.lst (x :: xs)) = some (.list (a :: b)) := by simp [G.py, G.pys, e1, e2]
  rw [e3] at h1; cases h1
  have e4 : G.py (.lst []) = some (.list []) := rfl
  unfold pyEq
  rw [e3, e4]
  have : SeqAt.shaped (.list []) = true := by decide +kernel
  simp [shaped_of h2 h3, this, PySem.PyData.eqv, PySem.PyData.eqvAll]
theorem okys_map {α : Type} {f : α → G} {n : Nat} (h : ∀ a, oky n (f a) = true) : ∀ xs : List α, okys n (xs.map f) = true
  | [] => rfl
  | x :: xs => by simp [okys, h, okys_map h xs]
/-! sorting -/
theorem ins1_swap (a b : Int) : ∀ l : List Int, ins1 a (ins1 b l) = ins1 b (ins1 a l)
  | [] => by
    unfold ins1
    by_cases h : a ≤ b
    · by_cases h2 : b ≤ a
      · have : a = b := by omega
        subst this; rfl
      · simp [ins1, h, h2]
    · have h2 : b ≤ a := by omega
      simp [ins1, h, h2]
  | j :: r => by
    by_cases h1 : a ≤ j <;> by_cases h2 : b ≤ j <;> by_cases h : a ≤ b <;> by_cases h3 : b ≤ a <;> simp [ins1, h1, h2, h, h3, ins1_swap a b r] <;> omega
theorem isort_eqp {l m : List Int} (h : l.Perm m) : isort l = isort m := by
  induction h with
  | nil => rfl
  | cons x _ ih => simp only [isort, ih]
  | swap x y l => simp only [isort]; exact ins1_swap ..
  | trans _ _ h1 h2 => exact h1.trans h2
theorem intsOf_mapf {α : Type} (f : α → Int) : ∀ xs : List α, intsOf (xs.map fun x => .int (f x)) = some (xs.map f)
  | [] => rfl
  | x :: xs => by simp [intsOf, intsOf_mapf f xs]
end Ev

end
section
set_option linter.all false
set_option Elab.async false
set_option maxRecDepth 100000
set_option maxHeartbeats 4000000
namespace K25
open Ev
variable {l : Nat} {st : List (List Nat)} {ac : List Nat}
/-! ### states that are met: plain -/
structure Gr (K R N : List Nat) : Prop where
  nd : (K ++ N).Nodup
  all : ∀ r ∈ R, r ∈ K ++ N
  new : ∀ x ∈ N, x ∈ R
theorem Gr.nil {K : List Nat} (h : K.Nodup) : Gr K [] [] := ⟨by simpa using h, nofun, nofun⟩
theorem Gr.old {K : List Nat} {r : Nat} (h : K.Nodup) (hr : r ∈ K) : Gr K [r] [] := ⟨by simpa using h, fun x hx => by simp at hx; subst hx; simpa using hr, nofun⟩
theorem Gr.add {K : List Nat} {r : Nat} (h : K.Nodup) (hr : r ∉ K) : Gr K [r] [r] :=
  ⟨List.nodup_append.mpr ⟨h, by simp, fun a ha b hb => by simp at hb; subst hb; intro e; exact hr (e ▸ ha)⟩, fun x hx => by simp at hx; subst hx; simp, fun x hx => hx⟩
theorem Gr.trans {K R1 R2 N1 N2 : List Nat} (h1 : Gr K R1 N1) (h2 : Gr (K ++ N1) R2 N2) : Gr K (R1 ++ R2) (N1 ++ N2) :=
  ⟨by rw [← List.append_assoc]; exact h2.nd, fun r hr => by
    rw [← List.append_assoc]
    rcases List.mem_append.mp hr with h | h
    · exact List.mem_append_left _ (h1.all r h)
    · exact h2.all r h, fun x hx => by
    rcases List.mem_append.mp hx with h | h
    · exact List.mem_append_left _ (h1.new x h)
    · exact List.mem_append_right _ (h2.new x h)⟩
theorem Gr.kn {K R N : List Nat} (h : Gr K R N) : K.Nodup := (List.nodup_append.mp h.nd).1
def Reach (l : Nat) (st : List (List Nat)) (s : Nat) : Prop := ∃ w : List Nat, (∀ a ∈ w, a < l) ∧ run st 0 w = s
theorem Reach.step {s a : Nat} (h : Reach l st s) (ha : a < l) : Reach l st (nx st s a) := by
  obtain ⟨w, hw, rfl⟩ := h
  refine ⟨w ++ [a], fun b hb => ?_, run_app⟩
  rcases List.mem_append.mp hb with h | h
  · exact hw b h
  · simp at h; subst h; exact ha
/-- the states that are met, in some sequence -/
structure Clo (l : Nat) (st : List (List Nat)) (K : List Nat) : Prop where
  nd : K.Nodup
  zero : 0 ∈ K
  reach : ∀ s ∈ K, Reach l st s
  closed : ∀ s ∈ K, ∀ a, a < l → nx st s a ∈ K
theorem Clo.all {K : List Nat} (h : Clo l st K) {s : Nat} (r : Reach l st s) : s ∈ K := by
  obtain ⟨w, hw, rfl⟩ := r
  have : ∀ (w : List Nat) (s : Nat), s ∈ K → (∀ a ∈ w, a < l) → run st s w ∈ K := by
    intro w
    induction w with
    | nil => intro s hs _; exact hs
    | cons a w ih => intro s hs hw; exact ih _ (h.closed s hs a (hw a (List.mem_cons_self ..))) fun b hb => hw b (List.mem_cons_of_mem _ hb)
  exact this w 0 h.zero hw
theorem Clo.perm {K K' : List Nat} (h : Clo l st K) (h' : Clo l st K') : K.Perm K' :=
  (List.perm_ext_iff_of_nodup h.nd h'.nd).mpr fun a => ⟨fun x => h'.all (h.reach a x), fun x => h.all (h'.reach a x)⟩
/-- under way: the states of W are waiting -/
structure Way (l : Nat) (st : List (List Nat)) (K W : List Nat) : Prop where
  nd : K.Nodup
  zero : 0 ∈ K
  lt : ∀ s ∈ K, s < st.length
  reach : ∀ s ∈ K, Reach l st s
  sub : ∀ s ∈ W, s ∈ K
  done : ∀ s ∈ K, s ∉ W → ∀ a, a < l → nx st s a ∈ K
theorem Way.len {K W : List Nat} (h : Way l st K W) : K.length ≤ st.length := by
  have := List.Nodup.length_le_of_subset h.nd (l₂ := List.range st.length) fun x hx => List.mem_range.mpr (h.lt x hx)
  simpa using this
theorem Way.start (M : Mach l st) : Way l st [0] [0] := ⟨by simp, by simp, fun s hs => by simp at hs; subst hs; exact M.n1, fun s hs => ⟨[], nofun, by simp at hs; subst hs; rfl⟩, fun s hs => hs, fun s hs h => absurd hs h⟩
theorem Way.clo {K : List Nat} (h : Way l st K []) : Clo l st K := ⟨h.nd, h.zero, h.reach, fun s hs => h.done s hs (by simp)⟩
def rowOf (st : List (List Nat)) (s : Nat) : List Nat := st[s]?.getD []
theorem nx_row (M : Mach l st) {s a : Nat} (hs : s < st.length) (ha : a < l) : nx st s a ∈ rowOf st s := by
  have hr := M.rowl hs
  unfold nx rowOf
  rw [List.getElem?_eq_getElem (show a < (st[s]?.getD []).length by omega)]
  exact List.getElem_mem _
theorem row_nx (M : Mach l st) {s x : Nat} (hs : s < st.length) (hx : x ∈ rowOf st s) : ∃ a, a < l ∧ x = nx st s a := by
  have hr := M.rowl hs
  obtain ⟨a, ha, rfl⟩ := List.getElem_of_mem hx
  refine ⟨a, by unfold rowOf at ha; omega, ?_⟩
  unfold nx
  unfold rowOf at ha
  rw [List.getElem?_eq_getElem ha]; rfl
theorem Way.next (M : Mach l st) {K W N : List Nat} (h : Way l st K W) (g : Gr K (W.flatMap (rowOf st)) N) : Way l st (K ++ N) N := by
  have new : ∀ x ∈ N, ∃ s, s ∈ W ∧ ∃ a, a < l ∧ x = nx st s a := fun x hx => by
    obtain ⟨s, hs, hx⟩ := List.mem_flatMap.mp (g.new x hx)
    obtain ⟨a, ha, e⟩ := row_nx M (h.lt s (h.sub s hs)) hx
    exact ⟨s, hs, a, ha, e⟩
  refine ⟨g.nd, List.mem_append_left _ h.zero, fun s hs => ?_, fun s hs => ?_, fun s hs => List.mem_append_right _ hs, fun s hs hn a ha => ?_⟩
  · rcases List.mem_append.mp hs with k | k
    · exact h.lt s k
    · obtain ⟨q, hq, a, ha, rfl⟩ := new s k
      exact M.nxl (h.lt q (h.sub q hq)) ha
  · rcases List.mem_append.mp hs with k | k
    · exact h.reach s k
    · obtain ⟨q, hq, a, ha, rfl⟩ := new s k
      exact (h.reach q (h.sub q hq)).step ha
  · rcases List.mem_append.mp hs with k | k
    · by_cases hw : s ∈ W
      · exact g.all _ (List.mem_flatMap.mpr ⟨s, hw, nx_row M (h.lt s k) ha⟩)
      · exact List.mem_append_left _ (h.done s k hw a ha)
    · exact absurd k hn
theorem findK_mem {x : Nat} : ∀ {ws : List Nat} {vs : List G}, x ∈ ws → vs.length = ws.length → ∃ v ∈ vs, findK (.int (x : Int)) (gs ws) vs = some v
  | w :: ws, v :: vs, h, hl => by
    show ∃ u ∈ v :: vs, (if keyB (.int (w : Int)) (.int (x : Int)) then some v else findK (.int (x : Int)) (gs ws) vs) = some u
    rw [keyB_int]
    by_cases e : w = x
    · subst e; exact ⟨v, List.mem_cons_self .., by simp⟩
    · rcases List.mem_cons.mp h with z | z
      · exact absurd z.symm e
      · obtain ⟨u, hu, q⟩ := findK_mem (ws := ws) (vs := vs) z (by simpa using hl)
        exact ⟨u, List.mem_cons_of_mem _ hu, by simp [e, q]⟩
  | w :: ws, [], h, hl => by simp at hl
  | [], _, h, _ => by simp at h
theorem findK_some {x : Nat} {ws : List Nat} {vs : List G} (hl : vs.length = ws.length) : (findK (.int (x : Int)) (gs ws) vs).isSome = decide (x ∈ ws) := by
  by_cases h : x ∈ ws
  · obtain ⟨v, _, e⟩ := findK_mem h hl
    rw [e, decide_eq_true h]; rfl
  · rw [findK_none h, decide_eq_false h]; rfl
end K25

end
section
set_option linter.all false
set_option Elab.async false
set_option maxRecDepth 100000
set_option maxHeartbeats 4000000
namespace K25
open Ev
variable {l : Nat} {st : List (List Nat)} {ac : List Nat}
/-- free for a name -/
def Fr (s : S) : Prop := s = .non ∨ ∃ g, s = .val g
theorem Fr.v (g : G) : Fr (.val g) := .inr ⟨g, rfl⟩
theorem Fr.n : Fr .non := .inl rfl
theorem map_gs (w : List Nat) : (gs w).map D.g = w.map fun (x : Nat) => D.g (.int (x : Int)) := by unfold gs; rw [List.map_map]; rfl
theorem frzs_gs : ∀ (gs : List G) (e : Env), frzs (gs.map D.g) e = some (gs, e)
  | [], e => rfl
  | g :: gs, e => by simp [frzs, frz, frzs_gs gs e]
theorem frzs_gs1 : ∀ (gs : List G) (y : G) (e : Env), frzs (gs.map D.g ++ [D.g y]) e = some (gs ++ [y], e)
  | [], y, e => rfl
  | g :: gs, y, e => by simp [frzs, frz, frzs_gs1 gs y e]
theorem whileL_yes {c : Env → R Bool} {b : Env → RS} {e e' : Env} {n : Nat} (hc : c e = .ok true e) (hb : b e = .nx e') : whileL c b (n + 1) e = whileL c b n e' := by
  show (c e).st _ = _
  rw [hc]
  show (match b e with | .nx e1 => whileL c b n e1 | .ct e1 => whileL c b n e1 | .bk e1 => .nx e1 | .ini _ _ _ => .bad | r => r) = _
  rw [hb]
theorem whileL_no {c : Env → R Bool} {b : Env → RS} {e : Env} {n : Nat} (hc : c e = .ok false e) : whileL c b (n + 1) e = .nx e := by
  show (c e).st _ = _
  rw [hc]; rfl
theorem whileL_rt {c : Env → R Bool} {b : Env → RS} {e e' : Env} {n : Nat} {d : D} (hc : c e = .ok true e) (hb : b e = .rt d e') : whileL c b (n + 1) e = .rt d e' := by
  show (c e).st _ = _
  rw [hc]
  show (match b e with | .nx e1 => whileL c b n e1 | .ct e1 => whileL c b n e1 | .bk e1 => .nx e1 | .ini _ _ _ => .bad | r => r) = _
  rw [hb]
theorem oky_gs {n : Nat} : ∀ w : List Nat, okys n (gs w) = true := okys_map fun _ => by simp [oky]
end K25

end
section
set_option linter.all false
set_option Elab.async false
set_option maxRecDepth 100000
set_option maxHeartbeats 400000
namespace K25
open Ev
variable {l : Nat} {st : List (List Nat)} {ac : List Nat}
theorem Way.one (M : Mach l st) {K W N : List Nat} {s : Nat} (h : Way l st K (s :: W)) (g : Gr K (rowOf st s) N) : Way l st (K ++ N) (W ++ N) := by
  have hsK := h.sub s (List.mem_cons_self ..)
  have new : ∀ x ∈ N, ∃ a, a < l ∧ x = nx st s a := fun x hx => row_nx M (h.lt s hsK) (g.new x hx)
  refine ⟨g.nd, List.mem_append_left _ h.zero, fun t ht => ?_, fun t ht => ?_, fun t ht => ?_, fun t ht hn a ha => ?_⟩
  · rcases List.mem_append.mp ht with k | k
    · exact h.lt t k
    · obtain ⟨a, ha, rfl⟩ := new t k
      exact M.nxl (h.lt s hsK) ha
  · rcases List.mem_append.mp ht with k | k
    · exact h.reach t k
    · obtain ⟨a, ha, rfl⟩ := new t k
      exact (h.reach s hsK).step ha
  · rcases List.mem_append.mp ht with k | k
    · exact List.mem_append_left _ (h.sub t (List.mem_cons_of_mem _ k))
    · exact List.mem_append_right _ k
  · have hn1 : t ∉ W := fun z => hn (List.mem_append_left _ z)
    have hn2 : t ∉ N := fun z => hn (List.mem_append_right _ z)
    rcases List.mem_append.mp ht with k | k
    · by_cases e : t = s
      · subst e; exact g.all _ (nx_row M (h.lt t k) ha)
      · exact List.mem_append_left _ (h.done t k (fun z => by rcases List.mem_cons.mp z with z | z; exact e z; exact hn1 z) a ha)
    · exact absurd k hn2
abbrev mEnv (P : G) (K : List Nat) (vs : List G) (at_ : Nat) (x4 : S) : Env := [.val P, .obj (.lst (gs K)), .obj (.dct (gs K) vs), .val (.int (at_ : Int)), x4]
def mBody : SV := (sSeq (sIf (tV (eBin .notin (eV 4) (eV 2))) (sSeq (sSetI 2 (eV 4) (eK (.bl true))) (sSeq (sExp (eMeth 1 .append (aCons (eV 4) aNil))) sNil)) sNil) sNil)
theorem m_step (F : FF) {P : G} {K : List Nat} {vs : List G} {at_ t : Nat} (hv : vs.length = K.length) (hK : K.length ≤ 600) :
    ∃ N vs', vs'.length = (K ++ N).length ∧ (K.Nodup → Gr K [t] N) ∧ mBody F (mEnv P K vs at_ (.val (.int (t : Int)))) = .nx (mEnv P (K ++ N) vs' at_ (.val (.int (t : Int)))) := by
  have hf : (findK (.int (t : Int)) (gs K) vs).isSome = decide (t ∈ K) := findK_some hv
  have hn : Ev.b2 .notin (.int (t : Int)) (.dct (gs K) vs) = some (.g (.bl (!decide (t ∈ K)))) := by
    show some (D.g (.bl (!(findK (.int (t : Int)) (gs K) vs).isSome))) = _
    rw [hf]
  have hc : tV (eBin .notin (eV 4) (eV 2)) F (mEnv P K vs at_ (.val (.int (t : Int)))) = .ok (!decide (t ∈ K)) (mEnv P K vs at_ (.val (.int (t : Int)))) :=
    tV_ok (eBin_ok (x := .g (.int (t : Int))) (y := .sl 2) (e1 := mEnv P K vs at_ (.val (.int (t : Int)))) rfl rfl rfl rfl hn) rfl rfl
  by_cases ht : t ∈ K
  · refine ⟨[], vs, by simpa using hv, fun nd => .old nd ht, ?_⟩
    rw [decide_eq_true ht] at hc
    unfold mBody
    rw [sSeq_nx (sIf_no hc)]
    simp
  · refine ⟨[t], vs ++ [.bl true], by simp [hv], fun nd => .add nd ht, ?_⟩
    rw [decide_eq_false ht] at hc
    have hs2 : storeG (.dct (gs K) vs) (.int (t : Int)) (.bl true) = some (.dct (gs (K ++ [t])) (vs ++ [.bl true])) := by
      have h1 : (gs K).length < 100000 := by simp [gs]; omega
      simp only [storeG, isKey, h1, decide_true, Bool.and_self, if_true, putK_new ht]
    have hm : mt .append (.lst (gs K)) [.int (t : Int)] = some (.lst (gs (K ++ [t])), .non) := by
      have h1 : (gs K).length < 100000 := by simp [gs]; omega
      simp only [Ev.mt, h1, if_true]
      simp [gs]
    have e2 : sSetI 2 (eV 4) (eK (.bl true)) F (mEnv P K vs at_ (.val (.int (t : Int)))) = .nx [.val P, .obj (.lst (gs K)), .obj (.dct (gs (K ++ [t])) (vs ++ [.bl true])), .val (.int (at_ : Int)), .val (.int (t : Int))] := by
      rw [sSetI_e]
      simp [objOf, getS, nameD, view, frz, hs2, putO]
    have e3 : sExp (eMeth 1 .append (aCons (eV 4) aNil)) F [.val P, .obj (.lst (gs K)), .obj (.dct (gs (K ++ [t])) (vs ++ [.bl true])), .val (.int (at_ : Int)), .val (.int (t : Int))] = .nx (mEnv P (K ++ [t]) (vs ++ [.bl true]) at_ (.val (.int (t : Int)))) := by
      refine sExp_ok (d := .g .non) ?_
      simp [eMeth, nameD, objOf, getS, isLs, frzs, frz, view, hm, putO]
    unfold mBody
    rw [sSeq_nx (sIf_yes hc |>.trans ((sSeq_nx e2).trans (sSeq_nx e3)))]
    rfl
theorem m_row (F : FF) (hn : st.length ≤ 600) {P : G} {at_ : Nat} : ∀ (r K : List Nat) (vs : List G) (x4 : S), Fr x4 → vs.length = K.length → K.Nodup → (∀ t ∈ r, t < st.length) → (∀ t ∈ K, t < st.length) →
    ∃ N vs' y4, Fr y4 ∧ vs'.length = (K ++ N).length ∧ Gr K r N ∧ forL (forStep (gNm 4) mBody F) (gs r) (mEnv P K vs at_ x4) = .nx (mEnv P (K ++ N) vs' at_ y4)
  | [], K, vs, x4, h4, hv, nd, hr, hk => ⟨[], vs, x4, h4, by simpa using hv, .nil nd, by simp [gs, forL]⟩
  | t :: r, K, vs, x4, h4, hv, nd, hr, hk => by
    have hkl : K.length ≤ st.length := by
      have := List.Nodup.length_le_of_subset nd (l₂ := List.range st.length) fun x hx => List.mem_range.mpr (hk x hx)
      simpa using this
    obtain ⟨N1, vs1, hv1, hg1, e1⟩ := m_step F (P := P) (at_ := at_) (t := t) hv (by omega)
    have hg1 := hg1 nd
    have ht : gNm 4 (.int (t : Int)) (mEnv P K vs at_ x4) = some (mEnv P K vs at_ (.val (.int (t : Int)))) := by
      rcases h4 with rfl | ⟨g, rfl⟩ <;> rfl
    have hk1 : ∀ q ∈ K ++ N1, q < st.length := fun q hq => by
      rcases List.mem_append.mp hq with z | z
      · exact hk q z
      · have := hg1.new q z; simp at this; subst this; exact hr q (List.mem_cons_self ..)
    obtain ⟨N2, vs2, y4, f4, hv2, hg2, e2⟩ := m_row F hn (P := P) (at_ := at_) r (K ++ N1) vs1 (.val (.int (t : Int))) (.v _) hv1 hg1.nd (fun q hq => hr q (List.mem_cons_of_mem _ hq)) hk1
    refine ⟨N1 ++ N2, vs2, y4, f4, by rw [← List.append_assoc]; exact hv2, hg1.trans hg2, ?_⟩
    show forL _ (.int (t : Int) :: gs r) _ = _
    rw [forL_nx ((forStep_nx ht).trans e1), e2, List.append_assoc]
def nBody : SV := (sSeq (sFor (gNm 4) (iE (eBin .idx (eBin .idx (eV 0) (eK (.int 1))) (eBin .idx (eV 1) (eV 3)))) mBody) (sSeq (sSet 3 (eBin .add (eV 3) (eK (.int 1)))) sNil))
theorem n_cond (F : FF) {P : G} {K : List Nat} {vs : List G} {at_ : Nat} {x4 : S} : tV (eBin .lt (eV 3) (eBi .len (aCons (eV 1) aNil))) F (mEnv P K vs at_ x4) = .ok (decide (at_ < K.length)) (mEnv P K vs at_ x4) := by
  have hl : bi .len [.lst (gs K)] = some (.g (.int (K.length : Int))) := by
    show some (D.g (.int ((gs K).length : Int))) = _
    simp [gs]
  have hb : Ev.b2 .lt (.int (at_ : Int)) (.int (K.length : Int)) = some (.g (.bl (decide (at_ < K.length)))) := by
    show some (D.g (.bl (decide ((at_ : Int) < (K.length : Int))))) = _
    simp
  exact tV_ok (eBin_ok (x := .g (.int (at_ : Int))) (e1 := mEnv P K vs at_ x4) rfl (eBi_ok (ds := [.sl 1]) (e1 := mEnv P K vs at_ x4) rfl rfl hl) rfl rfl hb) rfl rfl
theorem n_loop (F : FF) (M : Mach l st) (hn : st.length ≤ 600) (fuel : Nat) : ∀ {K : List Nat} {vs : List G} {at_ : Nat} {x4 : S}, st.length < fuel + at_ → at_ ≤ K.length → Fr x4 → Way l st K (K.drop at_) → vs.length = K.length →
    ∃ K' vs' at' y4, Clo l st K' ∧ whileL (tV (eBin .lt (eV 3) (eBi .len (aCons (eV 1) aNil))) F) (nBody F) fuel (mEnv (plG l st ac) K vs at_ x4) = .nx (mEnv (plG l st ac) K' vs' at' y4) := by
  induction fuel with
  | zero => intro K vs at_ x4 h h2 _ hw; have := hw.len; omega
  | succ fuel ih =>
    intro K vs at_ x4 hf hat h4 hw hv
    have hl := hw.len
    by_cases hlt : at_ < K.length
    · have hd : K.drop at_ = K[at_] :: K.drop (at_ + 1) := List.drop_eq_getElem_cons hlt
      rw [hd] at hw
      have hsK : K[at_] ∈ K := List.getElem_mem hlt
      have hsl := hw.lt _ hsK
      have hrow : ∀ t ∈ rowOf st K[at_], t < st.length := fun t ht => by
        obtain ⟨a, ha, rfl⟩ := row_nx M hsl ht
        exact M.nxl hsl ha
      obtain ⟨N, vs', y4, f4, hv', hg, e1⟩ := m_row (st := st) F hn (P := plG l st ac) (at_ := at_) (rowOf st K[at_]) K vs x4 h4 hv hw.nd hrow hw.lt
      have hw' := hw.one M hg
      have hd' : K.drop (at_ + 1) ++ N = (K ++ N).drop (at_ + 1) := by rw [List.drop_append_of_le_length (by omega)]
      rw [hd'] at hw'
      have q1 : Ev.b2 .idx (plG l st ac) (.int 1) = some (.g (stG st)) := rfl
      have q2 : Ev.b2 .idx (.lst (gs K)) (.int (at_ : Int)) = some (.g (.int ((K[at_] : Nat) : Int))) := by
        have h2 : (gs K)[at_]? = some (.int ((K[at_] : Nat) : Int)) := by unfold gs; rw [List.getElem?_map, List.getElem?_eq_getElem hlt]; rfl
        simp only [Ev.b2, atIx]
        rw [L2.atI_nat h2]; rfl
      have q3 : Ev.b2 .idx (stG st) (.int ((K[at_] : Nat) : Int)) = some (.g (nsG (rowOf st K[at_]))) := b2_stG hsl
      have hit : iE (eBin .idx (eBin .idx (eV 0) (eK (.int 1))) (eBin .idx (eV 1) (eV 3))) F (mEnv (plG l st ac) K vs at_ x4) = .ok (gs (rowOf st K[at_]), none) (mEnv (plG l st ac) K vs at_ x4) := by
        have hb : eBin .idx (eBin .idx (eV 0) (eK (.int 1))) (eBin .idx (eV 1) (eV 3)) F (mEnv (plG l st ac) K vs at_ x4) = .ok (.g (nsG (rowOf st K[at_]))) (mEnv (plG l st ac) K vs at_ x4) :=
          eBin_ok (eBin_ok (x := .g (plG l st ac)) (y := .g (.int 1)) (e1 := mEnv (plG l st ac) K vs at_ x4) rfl rfl rfl rfl q1) (eBin_ok (x := .sl 1) (y := .g (.int (at_ : Int))) (e1 := mEnv (plG l st ac) K vs at_ x4) rfl rfl rfl rfl q2) rfl rfl q3
        unfold iE
        rw [hb]; rfl
      have hF : sFor (gNm 4) (iE (eBin .idx (eBin .idx (eV 0) (eK (.int 1))) (eBin .idx (eV 1) (eV 3)))) mBody F (mEnv (plG l st ac) K vs at_ x4) = .nx (mEnv (plG l st ac) (K ++ N) vs' at_ y4) := by
        rw [sFor_v hit, e1]; rfl
      have hS : sSet 3 (eBin .add (eV 3) (eK (.int 1))) F (mEnv (plG l st ac) (K ++ N) vs' at_ y4) = .nx (mEnv (plG l st ac) (K ++ N) vs' (at_ + 1) y4) :=
        sSet_ok (eBin_ok (x := .g (.int (at_ : Int))) (y := .g (.int 1)) (e1 := mEnv (plG l st ac) (K ++ N) vs' at_ y4) rfl rfl rfl rfl rfl) rfl
      rw [whileL_yes (e' := mEnv (plG l st ac) (K ++ N) vs' (at_ + 1) y4) (by rw [n_cond, decide_eq_true hlt])]
      · exact ih (by omega) (by rw [List.length_append]; omega) f4 hw' hv'
      · unfold nBody
        rw [sSeq_nx hF, sSeq_nx hS]; rfl
    · have : K.drop at_ = [] := List.drop_eq_nil_of_le (by omega)
      rw [this] at hw
      exact ⟨K, vs, at_, x4, hw.clo, whileL_no (by rw [n_cond, decide_eq_false hlt])⟩
theorem re_met (k : Nat) (M : Good l st ac) : ∃ K e, Clo l st K ∧ callF prog (k + 1) 37 [.val (plG l st ac)] = .ok (.own (.lst (gs K))) (.val (plG l st ac) :: e) := by
  rw [call_at k _ (rfl : prog[37]? = some ⟨1, 5, b_37⟩) rfl]
  have n512 := M.n512
  obtain ⟨K, vs, at', y4, hc, h⟩ := n_loop (ac := ac) (callF prog k) M.toMach (by omega) 100000 (K := [0]) (vs := [.bl true]) (at_ := 0) (x4 := .non) (by omega) (by simp) .n (.start M.toMach) rfl
  refine ⟨K, [.non, .obj (.dct (gs K) vs), .val (.int (at' : Int)), y4], hc, ?_⟩
  have hp : sPar [1, 2, 3] (aCons (eLst (aCons (eK (.int 0)) aNil)) (aCons (eDic1 (eK (.int 0)) (eK (.bl true))) (aCons (eK (.int 0)) aNil))) (callF prog k) [.val (plG l st ac), .non, .non, .non, .non] = .nx (mEnv (plG l st ac) [0] [.bl true] 0 .non) := rfl
  have hw : sWhile wf (tV (eBin .lt (eV 3) (eBi .len (aCons (eV 1) aNil)))) nBody (callF prog k) (mEnv (plG l st ac) [0] [.bl true] 0 .non) = _ := h
  show fin (b_37 (callF prog k) [.val (plG l st ac), .non, .non, .non, .non]) = _
  show fin (sSeq _ (sSeq (sWhile wf _ nBody) _) _ _) = _
  rw [sSeq_nx hp, sSeq_nx hw]
  rfl
end K25

end
section
set_option linter.all false
set_option Elab.async false
set_option maxRecDepth 100000
set_option maxHeartbeats 4000000
namespace K25
open Ev
variable {l : Nat} {st : List (List Nat)} {ac : List Nat}
/-! ### the states in the sequence in which they are met, each with its word: plain -/
abbrev PW := List (Nat × List Nat)
def addP (P : PW) (t : Nat) (w : List Nat) : PW := if t ∈ P.map (·.1) then P else P ++ [(t, w)]
def rowA : List Nat → Nat → PW → List Nat → PW
  | [], _, P, _ => P
  | t :: r, i, P, w => rowA r (i + 1) (addP P t (w ++ [i])) w
def stepP (st : List (List Nat)) (P : PW) (i : Nat) : PW := match P[i]? with
  | some q => rowA (rowOf st q.1) 0 P q.2
  | none => P
def wl (st : List (List Nat)) : Nat → PW
  | 0 => [(0, [])]
  | n + 1 => stepP st (wl st n) n
theorem addP_pre {P : PW} {t : Nat} {w : List Nat} : P <+: addP P t w := by
  unfold addP
  split
  · exact List.prefix_refl _
  · exact List.prefix_append _ _
theorem rowA_pre : ∀ (r : List Nat) (i : Nat) (P : PW) (w : List Nat), P <+: rowA r i P w
  | [], _, P, _ => List.prefix_refl _
  | t :: r, i, P, w => addP_pre.trans (rowA_pre r (i + 1) _ w)
theorem stepP_pre {P : PW} {i : Nat} : P <+: stepP st P i := by
  unfold stepP
  split
  · exact rowA_pre _ _ _ _
  · exact List.prefix_refl _
theorem wl_pre1 (n : Nat) : wl st n <+: wl st (n + 1) := stepP_pre
theorem wl_pre {m n : Nat} (h : m ≤ n) : wl st m <+: wl st n := by
  induction n with
  | zero => have : m = 0 := by omega
            subst this; exact List.prefix_refl _
  | succ n ih =>
    by_cases e : m = n + 1
    · subst e; exact List.prefix_refl _
    · exact (ih (by omega)).trans (wl_pre1 n)
/-- what holds of every list of met states -/
structure PInv (l : Nat) (st : List (List Nat)) (P : PW) : Prop where
  nd : (P.map (·.1)).Nodup
  lt : ∀ q ∈ P, q.1 < st.length
  rn : ∀ q ∈ P, K25.run st 0 q.2 = q.1
  let_ : ∀ q ∈ P, ∀ a ∈ q.2, a < l
  sh : ∀ (i : Nat) (q : Nat × List Nat), P[i]? = some q → q.2.length ≤ i
theorem PInv.len {P : PW} (h : PInv l st P) : P.length ≤ st.length := by
  have := List.Nodup.length_le_of_subset h.nd (l₂ := List.range st.length) fun x hx => by
    obtain ⟨q, hq, rfl⟩ := List.mem_map.mp hx
    exact List.mem_range.mpr (h.lt q hq)
  simpa using this
theorem PInv.add {P : PW} (h : PInv l st P) {t : Nat} {w : List Nat} (ht : t < st.length) (hr : K25.run st 0 w = t) (hl : ∀ a ∈ w, a < l) (hs : w.length ≤ P.length) : PInv l st (addP P t w) := by
  unfold addP
  split
  · exact h
  · rename_i hn
    refine ⟨?_, fun q hq => ?_, fun q hq => ?_, fun q hq => ?_, fun i q hq => ?_⟩
    · rw [List.map_append]
      exact List.nodup_append.mpr ⟨h.nd, by simp, fun a ha b hb => by simp at hb; subst hb; intro e; exact hn (e ▸ ha)⟩
    · rcases List.mem_append.mp hq with z | z
      · exact h.lt q z
      · simp at z; subst z; exact ht
    · rcases List.mem_append.mp hq with z | z
      · exact h.rn q z
      · simp at z; subst z; exact hr
    · rcases List.mem_append.mp hq with z | z
      · exact h.let_ q z
      · simp at z; subst z; exact hl
    · by_cases hi : i < P.length
      · rw [List.getElem?_append_left hi] at hq; exact h.sh i q hq
      · rw [List.getElem?_append_right (by omega)] at hq
        have : i - P.length = 0 := by
          by_cases z : i - P.length = 0
          · exact z
          · rw [List.getElem?_eq_none (by simp; omega)] at hq; cases hq
        rw [this] at hq
        simp at hq
        subst hq
        simp only
        omega
theorem PInv.one (M : Mach l st) {s t i : Nat} {w : List Nat} {P : PW} (h : PInv l st P) (hs : s < st.length) (hw : K25.run st 0 w = s) (hl : ∀ a ∈ w, a < l) (hlen : w.length < P.length) (h0 : some t = (rowOf st s)[i]?) : PInv l st (addP P t (w ++ [i])) := by
  have hil : i < (rowOf st s).length := (List.getElem?_eq_some_iff.mp h0.symm).1
  have hrl : (rowOf st s).length = l := M.rowl hs
  have htn : t = nx st s i := by
    have : (rowOf st s)[i]? = some t := h0.symm
    unfold nx
    show t = ((rowOf st s)[i]?).getD 0
    rw [this]; rfl
  refine h.add (by rw [htn]; exact M.nxl hs (by omega)) (by rw [run_app, hw, htn]; rfl) (fun a ha => ?_) (by simp; omega)
  rcases List.mem_append.mp ha with z | z
  · exact hl a z
  · simp at z; subst z; omega
theorem PInv.row (M : Mach l st) {s : Nat} {w : List Nat} (hs : s < st.length) (hw : K25.run st 0 w = s) (hl : ∀ a ∈ w, a < l) : ∀ (r : List Nat) (i : Nat) (P : PW), PInv l st P → w.length < P.length → (∀ j, r[j]? = (rowOf st s)[i + j]?) → PInv l st (rowA r i P w)
  | [], i, P, h, _, _ => h
  | t :: r, i, P, h, hlen, hr => by
    have h0 : some t = (rowOf st s)[i]? := hr 0
    have hil : i < (rowOf st s).length := by
      have := List.getElem?_eq_some_iff.mp h0.symm
      exact this.1
    have hrl : (rowOf st s).length = l := M.rowl hs
    have htn : t = nx st s i := by
      have : (rowOf st s)[i]? = some t := h0.symm
      unfold nx
      show t = ((rowOf st s)[i]?).getD 0
      rw [this]; rfl
    have hpl : (addP P t (w ++ [i])).length ≥ P.length := (addP_pre (P := P) (t := t) (w := w ++ [i])).length_le
    refine PInv.row M hs hw hl r (i + 1) _ (h.add (by rw [htn]; exact M.nxl hs (by omega)) (by rw [run_app, hw, htn]; rfl) (fun a ha => ?_) (by simp; omega)) (by omega) fun j => ?_
    · rcases List.mem_append.mp ha with z | z
      · exact hl a z
      · simp at z; subst z; omega
    · have := hr (j + 1)
      rw [List.getElem?_cons_succ] at this
      rw [this]
      congr 1
      omega
theorem PInv.step (M : Mach l st) {P : PW} (h : PInv l st P) (i : Nat) : PInv l st (stepP st P i) := by
  unfold stepP
  cases e : P[i]? with
  | none => exact h
  | some q =>
    have hq := List.mem_of_getElem? e
    have hi : i < P.length := (List.getElem?_eq_some_iff.mp e).1
    exact PInv.row M (h.lt q hq) (h.rn q hq) (h.let_ q hq) _ 0 P h (by have := h.sh i q e; omega) fun j => by rw [Nat.zero_add]
theorem wl_inv (M : Mach l st) : ∀ n, PInv l st (wl st n)
  | 0 => ⟨by simp [wl], fun q hq => by simp [wl] at hq; subst hq; exact M.n1, fun q hq => by simp [wl] at hq; subst hq; rfl, fun q hq => by simp [wl] at hq; subst hq; simp, fun i q hq => by
      cases i with
      | zero => simp [wl] at hq; subst hq; simp
      | succ i => simp [wl] at hq⟩
  | n + 1 => (wl_inv M n).step M n
theorem wl_pos (n : Nat) : 0 < (wl st n).length := by
  have := (wl_pre (st := st) (Nat.zero_le n)).length_le
  simp [wl] at this
  omega
/-- the end -/
theorem wl_fix {a m : Nat} (h : (wl st a).length ≤ a) (hm : a ≤ m) : wl st m = wl st a := by
  induction m with
  | zero => have : a = 0 := by omega
            subst this; rfl
  | succ m ih =>
    by_cases e : a = m + 1
    · rw [e]
    · have i := ih (by omega)
      show stepP st (wl st m) m = _
      rw [i]
      unfold stepP
      rw [List.getElem?_eq_none (by omega)]
def wE (st : List (List Nat)) : PW := wl st st.length
theorem wE_of (M : Mach l st) {a : Nat} (h : (wl st a).length ≤ a) : wl st a = wE st := by
  have hl := (wl_inv M st.length).len
  unfold wE
  by_cases e : a ≤ st.length
  · exact (wl_fix h e).symm
  · exact wl_fix (by omega) (by omega)
theorem wl_wE (M : Mach l st) (n : Nat) : wl st n <+: wE st := by
  have hl := (wl_inv M st.length).len
  by_cases e : n ≤ st.length
  · exact wl_pre e
  · have := wl_fix (st := st) (a := st.length) (m := n) hl (by omega)
    rw [this]; exact List.prefix_refl _
theorem rowA_all : ∀ (r : List Nat) (i : Nat) (P : PW) (w : List Nat), ∀ t ∈ r, t ∈ (rowA r i P w).map (·.1)
  | t :: r, i, P, w, x, hx => by
    rcases List.mem_cons.mp hx with rfl | hx
    · have h1 : x ∈ (addP P x (w ++ [i])).map (·.1) := by
        unfold addP
        split
        · assumption
        · simp
      have h2 := (rowA_pre r (i + 1) (addP P x (w ++ [i])) w).sublist.subset
      obtain ⟨q, hq, e⟩ := List.mem_map.mp h1
      exact List.mem_map.mpr ⟨q, h2 hq, e⟩
    · exact rowA_all r (i + 1) _ w x hx
theorem wE_clo (M : Mach l st) : Clo l st ((wE st).map (·.1)) := by
  have hI := wl_inv M st.length
  refine ⟨hI.nd, ?_, fun s hs => ?_, fun s hs a ha => ?_⟩
  · have h2 := (wl_pre (st := st) (Nat.zero_le st.length)).sublist.subset (a := (0, [])) (by simp [wl])
    exact List.mem_map.mpr ⟨_, h2, rfl⟩
  · obtain ⟨q, hq, rfl⟩ := List.mem_map.mp hs
    exact ⟨q.2, hI.let_ q hq, hI.rn q hq⟩
  · obtain ⟨q, hq, rfl⟩ := List.mem_map.mp hs
    obtain ⟨i, hi⟩ := List.getElem?_of_mem hq
    have hil : i < (wl st st.length).length := (List.getElem?_eq_some_iff.mp hi).1
    have hl := hI.len
    -- at turn i the row of q is met
    have hpi : wl st (i + 1) <+: wE st := wl_pre (by omega)
    have hq2 : ∃ q2, (wl st i)[i]? = some q2 ∧ q2 = q := by
      by_cases z : i < (wl st i).length
      · refine ⟨(wl st i)[i], List.getElem?_eq_getElem z, ?_⟩
        have hp : wl st i <+: wE st := wl_pre (by omega)
        obtain ⟨t, ht⟩ := hp
        have e : (wE st)[i]? = some q := hi
        rw [← ht, List.getElem?_append_left z, List.getElem?_eq_getElem z] at e
        exact Option.some.inj e
      · exfalso
        have := wl_fix (st := st) (a := i) (m := st.length) (by omega) (by omega)
        rw [this] at hil
        omega
    obtain ⟨q2, e2, rfl⟩ := hq2
    have h3 : nx st q2.1 a ∈ (wl st (i + 1)).map (·.1) := by
      show _ ∈ (stepP st (wl st i) i).map (·.1)
      unfold stepP
      rw [e2]
      exact rowA_all _ _ _ _ _ (nx_row M (hI.lt q2 hq) ha)
    obtain ⟨p, hp, e⟩ := List.mem_map.mp h3
    exact List.mem_map.mpr ⟨p, hpi.sublist.subset hp, e⟩
/-- the first word that is taken -/
def fw (st : List (List Nat)) (ac : List Nat) : Option (List Nat) := ((wE st).find? fun q => decide (q.1 ∈ ac)).map (·.2)
theorem fw_ok (M : Mach l st) {w : List Nat} (h : fw st ac = some w) : run st 0 w ∈ ac ∧ (∀ a ∈ w, a < l) ∧ w.length < (wE st).length := by
  unfold fw at h
  cases e : (wE st).find? fun q => decide (q.1 ∈ ac) with
  | none => rw [e] at h; cases h
  | some q =>
    rw [e] at h
    cases h
    have hI := wl_inv M st.length
    have hm := List.mem_of_find?_eq_some e
    have hp := List.find?_some e
    refine ⟨by rw [hI.rn q hm]; simpa using hp, hI.let_ q hm, ?_⟩
    obtain ⟨i, hi⟩ := List.getElem?_of_mem hm
    have h1 : i < (wl st st.length).length := (List.getElem?_eq_some_iff.mp hi).1
    have h2 := hI.sh i q hi
    show q.2.length < (wl st st.length).length
    omega
end K25

end
section
set_option linter.all false
set_option Elab.async false
set_option maxRecDepth 100000
set_option maxHeartbeats 4000000
namespace K25
open Ev
variable {l : Nat} {st : List (List Nat)} {ac : List Nat}
/-! ### first_words_in -/
abbrev ks (P : PW) : List Nat := P.map (·.1)
abbrev wsP (P : PW) : List G := P.map fun q => nsG q.2
abbrev fEnv (l : Nat) (st : List (List Nat)) (ac : List Nat) (P : PW) (x2 : S) (b : Nat) (s : Nat) (x5 x6 : S) : Env :=
  [.val (rdG l st ac), .obj (.dct (gs (ks P)) (wsP P)), x2, .obj (.lst (gs ((ks P).drop b))), .val (.int (s : Int)), x5, x6]
def fBody : SV := (sSeq (sIf (tV (eBin .notin (eV 6) (eV 1))) (sSeq (sSetI 1 (eV 6) (eTup (aStar (eBin .idx (eV 1) (eV 4)) (aCons (eV 5) aNil)))) (sSeq (sExp (eMeth 3 .append (aCons (eV 6) aNil))) sNil)) sNil) sNil)
theorem findP {P : PW} {j : Nat} {s : Nat} {w : List Nat} (nd : (ks P).Nodup) (h : P[j]? = some (s, w)) : findK (.int (s : Int)) (gs (ks P)) (wsP P) = some (nsG w) := by
  refine findK_at (i := j) (fun j' hj e => ?_) (by simp [ks, h]) (by simp [wsP, h])
  have hj2 : (ks P)[j]? = some s := by simp [ks, h]
  obtain ⟨l1, e1⟩ := List.getElem?_eq_some_iff.mp e
  obtain ⟨l2, e2⟩ := List.getElem?_eq_some_iff.mp hj2
  have := (List.pairwise_iff_getElem.mp nd) j' j l1 l2 hj
  exact this (e1.trans e2.symm)
theorem f_step (F : FF) {P : PW} {x2 : S} {b j s t a : Nat} {w : List Nat} (nd : (ks P).Nodup) (hs : P[j]? = some (s, w)) (hb : b ≤ P.length) (hK : P.length ≤ 600) (hw : w.length ≤ 600) :
    fBody F (fEnv l st ac P x2 b s (.val (.int (a : Int))) (.val (.int (t : Int)))) = .nx (fEnv l st ac (addP P t (w ++ [a])) x2 b s (.val (.int (a : Int))) (.val (.int (t : Int)))) := by
  have hf : (findK (.int (t : Int)) (gs (ks P)) (wsP P)).isSome = decide (t ∈ ks P) := findK_some (by simp)
  have hn : Ev.b2 .notin (.int (t : Int)) (.dct (gs (ks P)) (wsP P)) = some (.g (.bl (!decide (t ∈ ks P)))) := by
    show some (D.g (.bl (!(findK (.int (t : Int)) (gs (ks P)) (wsP P)).isSome))) = _
    rw [hf]
  have hc : ∀ x5, tV (eBin .notin (eV 6) (eV 1)) F (fEnv l st ac P x2 b s x5 (.val (.int (t : Int)))) = .ok (!decide (t ∈ ks P)) (fEnv l st ac P x2 b s x5 (.val (.int (t : Int)))) := fun x5 =>
    tV_ok (eBin_ok (x := .g (.int (t : Int))) (y := .sl 1) (e1 := fEnv l st ac P x2 b s x5 (.val (.int (t : Int)))) rfl rfl rfl rfl hn) rfl rfl
  by_cases ht : t ∈ ks P
  · have hc' := hc (.val (.int (a : Int)))
    rw [decide_eq_true ht] at hc'
    have : addP P t (w ++ [a]) = P := if_pos ht
    rw [this]
    unfold fBody
    rw [sSeq_nx (sIf_no hc')]
    rfl
  · have hA : addP P t (w ++ [a]) = P ++ [(t, w ++ [a])] := if_neg ht
    have hk : ks (P ++ [(t, w ++ [a])]) = ks P ++ [t] := by simp [ks]
    have hv : wsP (P ++ [(t, w ++ [a])]) = wsP P ++ [nsG (w ++ [a])] := by simp [wsP]
    have hd : (ks (P ++ [(t, w ++ [a])])).drop b = (ks P).drop b ++ [t] := by rw [hk, List.drop_append_of_le_length (by simpa using hb)]
    rw [hA]
    have hc' := hc (.val (.int (a : Int)))
    rw [decide_eq_false ht] at hc'
    have hi : Ev.b2 .idx (.dct (gs (ks P)) (wsP P)) (.int (s : Int)) = some (.g (nsG w)) := by
      show (findK _ _ _).map D.g = _
      rw [findP nd hs]; rfl
    have e1 : eTup (aStar (eBin .idx (eV 1) (eV 4)) (aCons (eV 5) aNil)) F (fEnv l st ac P x2 b s (.val (.int (a : Int))) (.val (.int (t : Int)))) = .ok (.g (nsG (w ++ [a]))) (fEnv l st ac P x2 b s (.val (.int (a : Int))) (.val (.int (t : Int)))) := by
      have hb : eBin .idx (eV 1) (eV 4) F (fEnv l st ac P x2 b s (.val (.int (a : Int))) (.val (.int (t : Int)))) = .ok (.g (nsG w)) (fEnv l st ac P x2 b s (.val (.int (a : Int))) (.val (.int (t : Int)))) := eBin_ok (x := .sl 1) (y := .g (.int (s : Int))) (e1 := fEnv l st ac P x2 b s (.val (.int (a : Int))) (.val (.int (t : Int)))) rfl rfl rfl rfl hi
      refine eTup_ok (ds := (gs w).map D.g ++ [.g (.int (a : Int))]) (gs := gs (w ++ [a])) (e1 := fEnv l st ac P x2 b s (.val (.int (a : Int))) (.val (.int (t : Int)))) ?_ ?_ (by simp [gs]; omega)
      · unfold aStar
        rw [hb]
        rfl
      · rw [frzs_gs1]
        simp [gs]
    have hs2 : storeG (.dct (gs (ks P)) (wsP P)) (.int (t : Int)) (nsG (w ++ [a])) = some (.dct (gs (ks P ++ [t])) (wsP P ++ [nsG (w ++ [a])])) := by
      have h1 : (gs (ks P)).length < 100000 := by simp [gs]; omega
      simp only [storeG, isKey, h1, decide_true, Bool.and_self, if_true, putK_new ht]
    have hm : mt .append (.lst (gs ((ks P).drop b))) [.int (t : Int)] = some (.lst (gs ((ks P).drop b ++ [t])), .non) := by
      have h1 : (gs ((ks P).drop b)).length < 100000 := by simp [gs]; omega
      simp only [Ev.mt, h1, if_true]
      simp [gs]
    have e2 : sSetI 1 (eV 6) (eTup (aStar (eBin .idx (eV 1) (eV 4)) (aCons (eV 5) aNil))) F (fEnv l st ac P x2 b s (.val (.int (a : Int))) (.val (.int (t : Int)))) = .nx [.val (rdG l st ac), .obj (.dct (gs (ks P ++ [t])) (wsP P ++ [nsG (w ++ [a])])), x2, .obj (.lst (gs ((ks P).drop b))), .val (.int (s : Int)), .val (.int (a : Int)), .val (.int (t : Int))] := by
      rw [sSetI_e, e1]
      simp [objOf, getS, nameD, view, frz, hs2, putO]
    have e3 : sExp (eMeth 3 .append (aCons (eV 6) aNil)) F [.val (rdG l st ac), .obj (.dct (gs (ks P ++ [t])) (wsP P ++ [nsG (w ++ [a])])), x2, .obj (.lst (gs ((ks P).drop b))), .val (.int (s : Int)), .val (.int (a : Int)), .val (.int (t : Int))] = .nx (fEnv l st ac (P ++ [(t, w ++ [a])]) x2 b s (.val (.int (a : Int))) (.val (.int (t : Int)))) := by
      refine sExp_ok (d := .g .non) ?_
      unfold fEnv
      rw [hd, hk, hv]
      simp [eMeth, nameD, objOf, getS, isLs, frzs, frz, view, hm, putO]
    unfold fBody
    rw [sSeq_nx (sIf_yes hc' |>.trans ((sSeq_nx e2).trans (sSeq_nx e3)))]
    rfl
theorem addP_at {P : PW} {j t : Nat} {q : Nat × List Nat} {w : List Nat} (h : P[j]? = some q) : (addP P t w)[j]? = some q := by
  obtain ⟨r, e⟩ := addP_pre (P := P) (t := t) (w := w)
  rw [← e, List.getElem?_append_left (List.getElem?_eq_some_iff.mp h).1, h]
theorem f_row (F : FF) (M : Mach l st) {s j b : Nat} {w : List Nat} {x2 : S} (hn : st.length ≤ 512) (hsl : s < st.length) (hrun : run st 0 w = s) (hl : ∀ a ∈ w, a < l) (hwl : w.length ≤ 512) : ∀ (r : List Nat) (i : Nat) (P : PW) (x5 x6 : S), Fr x5 → Fr x6 → P[j]? = some (s, w) → PInv l st P → w.length < P.length → (∀ k, r[k]? = (rowOf st s)[i + k]?) → b ≤ P.length →
    ∃ y5 y6, Fr y5 ∧ Fr y6 ∧ forL (forStep (gTp [(gNm 5), (gNm 6)]) fBody F) (enumG (i : Int) (gs r)) (fEnv l st ac P x2 b s x5 x6) = .nx (fEnv l st ac (rowA r i P w) x2 b s y5 y6)
  | [], i, P, x5, x6, h5, h6, _, _, _, _, _ => ⟨x5, x6, h5, h6, by simp [gs, enumG, forL, rowA]⟩
  | t :: r, i, P, x5, x6, h5, h6, hs, hI, hlen, hr, hb => by
    have hpl := hI.len
    have e1 := f_step (l := l) (st := st) (ac := ac) F (x2 := x2) (t := t) (a := i) hI.nd hs hb (by omega) (by omega)
    have ht : gTp [(gNm 5), (gNm 6)] (.tup [.int (i : Int), .int (t : Int)]) (fEnv l st ac P x2 b s x5 x6) = some (fEnv l st ac P x2 b s (.val (.int (i : Int))) (.val (.int (t : Int)))) := by
      rcases h5 with rfl | ⟨g, rfl⟩ <;> rcases h6 with rfl | ⟨g', rfl⟩ <;> rfl
    have hI1 : PInv l st (addP P t (w ++ [i])) := by
      exact hI.one M hsl hrun hl hlen (hr 0)
    have hpl2 : (addP P t (w ++ [i])).length ≥ P.length := (addP_pre (P := P) (t := t) (w := w ++ [i])).length_le
    obtain ⟨y5, y6, f5, f6, e2⟩ := f_row F M (b := b) (x2 := x2) hn hsl hrun hl hwl r (i + 1) (addP P t (w ++ [i])) (.val (.int (i : Int))) (.val (.int (t : Int))) (.v _) (.v _) (addP_at hs) hI1 (by omega) (fun k => by
      have := hr (k + 1)
      rw [List.getElem?_cons_succ] at this
      rw [this]; congr 1; omega) (by omega)
    refine ⟨y5, y6, f5, f6, ?_⟩
    show forL _ (.tup [.int (i : Int), .int (t : Int)] :: enumG ((i : Int) + 1) (gs r)) _ = _
    rw [forL_nx ((forStep_nx ht).trans e1)]
    have : ((i : Int) + 1) = ((i + 1 : Nat) : Int) := by omega
    rw [this, e2]
    rfl
end K25

end
section
set_option linter.all false
set_option Elab.async false
set_option maxRecDepth 100000
set_option maxHeartbeats 4000000
namespace K25
open Ev
variable {l : Nat} {st : List (List Nat)} {ac : List Nat}
abbrev gEnv (l : Nat) (st : List (List Nat)) (ac : List Nat) (P : PW) (x2 : S) (b : Nat) (x4 x5 x6 : S) : Env :=
  [.val (rdG l st ac), .obj (.dct (gs (ks P)) (wsP P)), x2, .obj (.lst (gs ((ks P).drop b))), x4, x5, x6]
def wBody : SV := (sSeq (sFor (gTp [(gNm 5), (gNm 6)]) (iN (eBin .idx (eAttr ct (eV 0) 1) (eV 4))) fBody) sNil)
theorem wl_at (M : Mach l st) {j n : Nat} {q : Nat × List Nat} (h : (wl st j)[n]? = some q) {m : Nat} (hm : j ≤ m) : (wl st m)[n]? = some q := by
  obtain ⟨r, e⟩ := wl_pre (st := st) hm
  rw [← e, List.getElem?_append_left (List.getElem?_eq_some_iff.mp h).1, h]
theorem f_wait (F : FF) (M : Mach l st) (hn : st.length ≤ 512) {x2 : S} {b : Nat} : ∀ (W : List Nat) (j : Nat) (x4 x5 x6 : S), Fr x4 → Fr x5 → Fr x6 → (∀ k, k < W.length → W[k]? = (ks (wl st j))[j + k]?) → b ≤ (wl st j).length →
    ∃ y4 y5 y6, Fr y4 ∧ Fr y5 ∧ Fr y6 ∧ forL (forStep (gNm 4) wBody F) (gs W) (gEnv l st ac (wl st j) x2 b x4 x5 x6) = .nx (gEnv l st ac (wl st (j + W.length)) x2 b y4 y5 y6)
  | [], j, x4, x5, x6, h4, h5, h6, hs, hb => ⟨x4, x5, x6, h4, h5, h6, by simp [gs, forL]⟩
  | s :: W, j, x4, x5, x6, h4, h5, h6, hs, hb => by
    have hI := wl_inv M j
    have hpl := hI.len
    have h0 : some s = (ks (wl st j))[j]? := by have := hs 0 (by simp); simpa using this
    obtain ⟨q, hq, hq1⟩ : ∃ q, (wl st j)[j]? = some q ∧ q.1 = s := by
      cases e : (wl st j)[j]? with
      | none => simp [ks, e] at h0
      | some q => simp [ks, e] at h0; exact ⟨q, rfl, h0.symm⟩
    obtain ⟨s', w⟩ := q
    simp only at hq1
    subst hq1
    have hm := List.mem_of_getElem? hq
    have hjl : j < (wl st j).length := (List.getElem?_eq_some_iff.mp hq).1
    have hsh := hI.sh j _ hq
    simp only at hsh
    obtain ⟨y5, y6, f5, f6, e1⟩ := f_row (ac := ac) F M (b := b) (x2 := x2) hn (hI.lt _ hm) (hI.rn _ hm) (hI.let_ _ hm) (by simp only; omega) (rowOf st s') 0 (wl st j) x5 x6 h5 h6 hq hI (by simp only; omega) (fun k => by rw [Nat.zero_add]) hb
    have hstep : wl st (j + 1) = rowA (rowOf st s') 0 (wl st j) w := by
      show stepP st (wl st j) j = _
      unfold stepP; rw [hq]
    rw [← hstep] at e1
    have hp1 := (wl_pre1 (st := st) j).length_le
    obtain ⟨z4, z5, z6, g4, g5, g6, e2⟩ := f_wait F M hn (x2 := x2) (b := b) W (j + 1) (.val (.int (s' : Int))) y5 y6 (.v _) f5 f6 (fun k hk => by
      have h := hs (k + 1) (by simp; omega)
      rw [List.getElem?_cons_succ] at h
      rw [h]
      have hWk : ∃ x, (ks (wl st j))[j + (k + 1)]? = some x := by
        rw [← h, List.getElem?_eq_getElem hk]; exact ⟨_, rfl⟩
      obtain ⟨x, hx⟩ := hWk
      rw [hx]
      cases e : (wl st j)[j + (k + 1)]? with
      | none => simp [ks, e] at hx
      | some q =>
        simp only [ks, List.getElem?_map, e, Option.map_some, Option.some.injEq] at hx
        have := wl_at M e (m := j + 1) (by omega)
        rw [show j + 1 + k = j + (k + 1) by omega, ks, List.getElem?_map, this]
        simp [hx]) (by omega)
    refine ⟨z4, z5, z6, g4, g5, g6, ?_⟩
    have ht : gNm 4 (.int (s' : Int)) (gEnv l st ac (wl st j) x2 b x4 x5 x6) = some (fEnv l st ac (wl st j) x2 b s' x5 x6) := by
      rcases h4 with rfl | ⟨g, rfl⟩ <;> rfl
    have hi : Ev.b2 .idx (stG st) (.int (s' : Int)) = some (.g (nsG (rowOf st s'))) := b2_stG (hI.lt _ hm)
    have hit : iN (eBin .idx (eAttr ct (eV 0) 1) (eV 4)) F (fEnv l st ac (wl st j) x2 b s' x5 x6) = .ok (enumG 0 (gs (rowOf st s')), none) (fEnv l st ac (wl st j) x2 b s' x5 x6) := by
      have hb : eBin .idx (eAttr ct (eV 0) 1) (eV 4) F (fEnv l st ac (wl st j) x2 b s' x5 x6) = .ok (.g (nsG (rowOf st s'))) (fEnv l st ac (wl st j) x2 b s' x5 x6) := eBin_ok (x := .g (stG st)) (y := .g (.int (s' : Int))) (e1 := fEnv l st ac (wl st j) x2 b s' x5 x6) rfl rfl rfl rfl hi
      unfold iN
      rw [hb]; rfl
    have hw : wBody F (fEnv l st ac (wl st j) x2 b s' x5 x6) = .nx (fEnv l st ac (wl st (j + 1)) x2 b s' y5 y6) := by
      unfold wBody
      rw [sSeq_nx (e1 := fEnv l st ac (wl st (j + 1)) x2 b s' y5 y6)]
      · rfl
      · rw [sFor_v hit]
        have e1 : forL _ (enumG 0 (gs (rowOf st s'))) _ = _ := e1
        rw [e1]; rfl
    show forL _ (.int (s' : Int) :: gs W) _ = _
    rw [forL_nx ((forStep_nx ht).trans hw), e2]
    rw [show j + 1 + W.length = j + (s' :: W).length by simp; omega]
def lBody : SV := (sSeq (sSet 3 (eLst aNil)) (sSeq (sFor (gNm 4) (iE (eV 2)) wBody) (sSeq (sSet 2 (eV 3)) sNil)))
/-- slot 2: the states that wait -/
def Wt (W : List Nat) (s : S) : Prop := s = .obj (.lst (gs W)) ∨ s = .val (.lst (gs W))
abbrev hEnv (l : Nat) (st : List (List Nat)) (ac : List Nat) (P : PW) (x2 x3 x4 x5 x6 : S) : Env := [.val (rdG l st ac), .obj (.dct (gs (ks P)) (wsP P)), x2, x3, x4, x5, x6]
theorem l_step (F : FF) (M : Mach l st) (hn : st.length ≤ 512) {a : Nat} {x2 x3 x4 x5 x6 : S} (ha : a ≤ (wl st a).length) (h2 : Wt ((ks (wl st a)).drop a) x2) (h3 : Fr x3) (h4 : Fr x4) (h5 : Fr x5) (h6 : Fr x6) :
    ∃ y2 y3 y4 y5 y6, Wt ((ks (wl st (wl st a).length)).drop (wl st a).length) y2 ∧ Fr y3 ∧ Fr y4 ∧ Fr y5 ∧ Fr y6 ∧ lBody F (hEnv l st ac (wl st a) x2 x3 x4 x5 x6) = .nx (hEnv l st ac (wl st (wl st a).length) y2 y3 y4 y5 y6) := by
  have hd : (ks (wl st a)).drop (wl st a).length = [] := List.drop_eq_nil_of_le (by simp)
  have hs3 : sSet 3 (eLst aNil) F (hEnv l st ac (wl st a) x2 x3 x4 x5 x6) = .nx (gEnv l st ac (wl st a) x2 (wl st a).length x4 x5 x6) := by
    unfold gEnv; rw [hd]
    rcases h3 with rfl | ⟨g, rfl⟩ <;> rfl
  have hW : ∀ k, k < ((ks (wl st a)).drop a).length → ((ks (wl st a)).drop a)[k]? = (ks (wl st a))[a + k]? := fun k _ => by rw [List.getElem?_drop]
  have hln : a + ((ks (wl st a)).drop a).length = (wl st a).length := by simp; omega
  rcases h2 with rfl | rfl
  · obtain ⟨y4, y5, y6, f4, f5, f6, e1⟩ := f_wait (ac := ac) F M hn (x2 := .lck false (.lst (gs ((ks (wl st a)).drop a)))) (b := (wl st a).length) ((ks (wl st a)).drop a) a x4 x5 x6 h4 h5 h6 hW (Nat.le_refl _)
    rw [hln] at e1
    refine ⟨.val (.lst (gs ((ks (wl st (wl st a).length)).drop (wl st a).length))), .val (.lst (gs ((ks (wl st (wl st a).length)).drop (wl st a).length))), y4, y5, y6, .inr rfl, .v _, f4, f5, f6, ?_⟩
    have hF : sFor (gNm 4) (iE (eV 2)) wBody F (gEnv l st ac (wl st a) (.obj (.lst (gs ((ks (wl st a)).drop a)))) (wl st a).length x4 x5 x6) = .nx (gEnv l st ac (wl st (wl st a).length) (.obj (.lst (gs ((ks (wl st a)).drop a)))) (wl st a).length y4 y5 y6) := by
      rw [sFor_ok (gs := gs ((ks (wl st a)).drop a)) (o := some 2) (e1 := gEnv l st ac (wl st a) (.obj (.lst (gs ((ks (wl st a)).drop a)))) (wl st a).length x4 x5 x6) rfl]
      have e1 : forL (forStep (gNm 4) wBody F) (gs ((ks (wl st a)).drop a)) (lockO (some 2) (gEnv l st ac (wl st a) (.obj (.lst (gs ((ks (wl st a)).drop a)))) (wl st a).length x4 x5 x6)) = _ := e1
      rw [e1]; rfl
    unfold lBody
    rw [sSeq_nx hs3, sSeq_nx hF]
    rfl
  · obtain ⟨y4, y5, y6, f4, f5, f6, e1⟩ := f_wait (ac := ac) F M hn (x2 := .val (.lst (gs ((ks (wl st a)).drop a)))) (b := (wl st a).length) ((ks (wl st a)).drop a) a x4 x5 x6 h4 h5 h6 hW (Nat.le_refl _)
    rw [hln] at e1
    refine ⟨.val (.lst (gs ((ks (wl st (wl st a).length)).drop (wl st a).length))), .val (.lst (gs ((ks (wl st (wl st a).length)).drop (wl st a).length))), y4, y5, y6, .inr rfl, .v _, f4, f5, f6, ?_⟩
    have hF : sFor (gNm 4) (iE (eV 2)) wBody F (gEnv l st ac (wl st a) (.val (.lst (gs ((ks (wl st a)).drop a)))) (wl st a).length x4 x5 x6) = .nx (gEnv l st ac (wl st (wl st a).length) (.val (.lst (gs ((ks (wl st a)).drop a)))) (wl st a).length y4 y5 y6) := by
      rw [sFor_ok (gs := gs ((ks (wl st a)).drop a)) (o := none) (e1 := gEnv l st ac (wl st a) (.val (.lst (gs ((ks (wl st a)).drop a)))) (wl st a).length x4 x5 x6) rfl]
      have e1 : forL (forStep (gNm 4) wBody F) (gs ((ks (wl st a)).drop a)) (lockO none (gEnv l st ac (wl st a) (.val (.lst (gs ((ks (wl st a)).drop a)))) (wl st a).length x4 x5 x6)) = _ := e1
      rw [e1]; rfl
    unfold lBody
    rw [sSeq_nx hs3, sSeq_nx hF]
    rfl
theorem l_cond (F : FF) {W : List Nat} {x2 : S} {a b : S} {e : Env} (h2 : Wt W x2) : tV (eBin .ne (eV 2) (eLst aNil)) F (a :: b :: x2 :: e) = .ok (!W.isEmpty) (a :: b :: x2 :: e) := by
  have hb : Ev.b2 .ne (.lst (gs W)) (.lst []) = some (.g (.bl (!W.isEmpty))) := by
    show (pyEq (.lst (gs W)) (.lst [])).map _ = _
    cases W with
    | nil => rw [show gs [] = [] from rfl, pyEq_self (by decide +kernel)]; rfl
    | cons x W => rw [show gs (x :: W) = .int (x : Int) :: gs W from rfl, pyEq_cons_nil (by simp [oky, okys, oky_gs])]; rfl
  rcases h2 with rfl | rfl
  · exact tV_ok (eBin_ok (x := .sl 2) (y := .own (.lst [])) (e1 := a :: b :: .obj (.lst (gs W)) :: e) rfl rfl rfl rfl hb) rfl rfl
  · exact tV_ok (eBin_ok (x := .g (.lst (gs W))) (y := .own (.lst [])) (e1 := a :: b :: .val (.lst (gs W)) :: e) rfl rfl rfl rfl hb) rfl rfl
theorem l_loop (F : FF) (M : Mach l st) (hn : st.length ≤ 512) (fuel : Nat) : ∀ {a : Nat} {x2 x3 x4 x5 x6 : S}, st.length < fuel + a → a ≤ (wl st a).length → Wt ((ks (wl st a)).drop a) x2 → Fr x3 → Fr x4 → Fr x5 → Fr x6 →
    ∃ y2 y3 y4 y5 y6, whileL (tV (eBin .ne (eV 2) (eLst aNil)) F) (lBody F) fuel (hEnv l st ac (wl st a) x2 x3 x4 x5 x6) = .nx (hEnv l st ac (wE st) y2 y3 y4 y5 y6) := by
  induction fuel with
  | zero => intro a x2 x3 x4 x5 x6 h h'; have := (wl_inv M a).len; omega
  | succ fuel ih =>
    intro a x2 x3 x4 x5 x6 hf ha h2 h3 h4 h5 h6
    have hl := (wl_inv M a).len
    by_cases hlt : a < (wl st a).length
    · obtain ⟨y2, y3, y4, y5, y6, g2, g3, g4, g5, g6, e1⟩ := l_step (ac := ac) F M hn ha h2 h3 h4 h5 h6
      have hc : (!((ks (wl st a)).drop a).isEmpty) = true := by
        rw [List.drop_eq_getElem_cons (show a < (ks (wl st a)).length by simpa using hlt)]; rfl
      rw [whileL_yes (by rw [l_cond F h2, hc]) e1]
      exact ih (by omega) (wl_pre (by omega)).length_le g2 g3 g4 g5 g6
    · have hc : (!((ks (wl st a)).drop a).isEmpty) = false := by
        rw [List.drop_eq_nil_of_le (by simp; omega)]; rfl
      refine ⟨x2, x3, x4, x5, x6, ?_⟩
      rw [whileL_no (by rw [l_cond F h2, hc]), wE_of M (by omega)]
theorem first_words_in (k : Nat) (M : Good l st ac) : ∃ e, callF prog (k + 1) 20 [.val (rdG l st ac)] = .ok (.own (.dct (gs (ks (wE st))) (wsP (wE st)))) (.val (rdG l st ac) :: e) := by
  rw [call_at k _ (rfl : prog[20]? = some ⟨1, 7, b_20⟩) rfl]
  have n512 := M.n512
  obtain ⟨y2, y3, y4, y5, y6, h⟩ := l_loop (ac := ac) (callF prog k) M.toMach (by omega) 100000 (a := 0) (x2 := .obj (.lst (gs [0]))) (x3 := .non) (x4 := .non) (x5 := .non) (x6 := .non) (by omega) (by simp) (.inl rfl) .n .n .n .n
  refine ⟨[.non, y2, y3, y4, y5, y6], ?_⟩
  have hp : sPar [1, 2] (aCons (eDic1 (eK (.int 0)) (eTup aNil)) (aCons (eLst (aCons (eK (.int 0)) aNil)) aNil)) (callF prog k) [.val (rdG l st ac), .non, .non, .non, .non, .non, .non] = .nx (hEnv l st ac (wl st 0) (.obj (.lst (gs [0]))) .non .non .non .non) := rfl
  show fin (b_20 (callF prog k) [.val (rdG l st ac), .non, .non, .non, .non, .non, .non]) = _
  have hw : sWhile wf (tV (eBin .ne (eV 2) (eLst aNil))) lBody (callF prog k) (hEnv l st ac (wl st 0) (.obj (.lst (gs [0]))) .non .non .non .non) = _ := h
  show fin (sSeq _ (sSeq (sWhile wf _ lBody) _) _ _) = _
  rw [sSeq_nx hp, sSeq_nx hw]
  rfl
end K25

end
section
set_option linter.all false
set_option maxRecDepth 100000
namespace Ev
theorem compL_fm {α : Type} {g h : α → G} {p : α → Bool} {step : G → Env → R (Option G)} {e : Env} : ∀ {xs : List α} {acc : List G}, (∀ x ∈ xs, step (g x) e = .ok (if p x then some (h x) else none) e) → compL step (xs.map g) acc e = .ok (acc.reverse ++ (xs.filter p).map h) e
  | [], acc, _ => by simp [compL]
  | x :: xs, acc, k => by
    have hx := k x (List.mem_cons_self ..)
    cases hp : p x with
    | true =>
      rw [hp] at hx
      simp only [List.map_cons, compL, hx, if_true, compK]
      rw [compL_fm fun y hy => k y (List.mem_cons_of_mem _ hy)]
      simp [List.filter_cons, hp]
    | false =>
      rw [hp] at hx
      simp only [List.map_cons, compL, hx, Bool.false_eq_true, if_false, compK]
      rw [compL_fm fun y hy => k y (List.mem_cons_of_mem _ hy)]
      simp [List.filter_cons, hp]
/-- any comprehension of one clause that maps and filters -/
theorem eComp_fm {α : Type} {g h : α → G} {p : α → Bool} {own : List Nat} {el : EV} {t : GV} {it : IV} {c : TV} {F : FF} {e0 e eW e' : Env} {o : Option Nat} {xs : List α} (hit : it F e0 = .ok (xs.map g, o) e) (hl : (own.all fun v => !isLck (getS (lockO o e) v)) = true) (hw : wipeE (lockO o e) own = eW)
    (hs : ∀ x ∈ xs, compStep own el t c F (g x) eW = .ok (if p x then some (h x) else none) eW) (hk : unlockO o (keepE (lockO o e) eW own) = e') (hn : xs.length ≤ 100000) :
    eComp own el t it c F e0 = .ok (.own (.lst ((xs.filter p).map h))) e' := by
  have hlen : ((xs.filter p).map h).length ≤ 100000 := by have := List.length_filter_le p xs; simp; omega
  unfold eComp
  rw [hit]
  show (if (own.all fun v => !isLck (getS (lockO o e) v)) = false then R.bad else compEnd own o e (compL (compStep own el t c F) (xs.map g) [] (wipeE (lockO o e) own))) = _
  rw [hl, hw, compL_fm hs]
  simp only [List.reverse_nil, List.nil_append, compEnd, hlen, if_true, Bool.true_eq_false, if_false, hk]
theorem filter_tt {α : Type} (xs : List α) : xs.filter (fun _ => true) = xs := by simp
/-- all of them -/
theorem eComp_all {α : Type} {g h : α → G} {own : List Nat} {el : EV} {t : GV} {it : IV} {c : TV} {F : FF} {e0 e eW e' : Env} {o : Option Nat} {xs : List α} (hit : it F e0 = .ok (xs.map g, o) e) (hl : (own.all fun v => !isLck (getS (lockO o e) v)) = true) (hw : wipeE (lockO o e) own = eW)
    (hs : ∀ x ∈ xs, compStep own el t c F (g x) eW = .ok (some (h x)) eW) (hk : unlockO o (keepE (lockO o e) eW own) = e') (hn : xs.length ≤ 100000) :
    eComp own el t it c F e0 = .ok (.own (.lst (xs.map h))) e' := by
  have := eComp_fm (p := fun _ => true) hit hl hw (fun x hx => by rw [hs x hx]; rfl) hk hn
  rwa [filter_tt] at this
theorem objOf_obj {e : Env} {i : Nat} {g : G} (h : getS e i = .obj g) : objOf e i = some g := by unfold objOf; rw [h]
theorem putO_obj {e : Env} {i : Nat} {g x : G} (h : getS e i = .obj g) : putO e i x = some (e.set i (.obj x)) := by unfold putO; rw [h]
theorem eMeth_ext {F : FF} {e : Env} {i : Nat} {xs ys : List G} {as : AV} (h : getS e i = .obj (.lst xs)) (ha : as F e = .ok [.own (.lst ys)] e) (hl : xs.length + ys.length < 100000) : eMeth i .extend as F e = .ok (.g .non) (e.set i (.obj (.lst (xs ++ ys)))) := by
  have hm : mt .extend (.lst xs) [.lst ys] = some (.lst (xs ++ ys), .non) := by simp [mt, hl]
  unfold eMeth
  simp [objOf_obj h, putO_obj h, isLs, frzs, frz, hm, ha]
theorem eMeth_app {F : FF} {e e1 : Env} {i : Nat} {xs : List G} {y : G} {as : AV} (h0 : isLs (objOf e i) = true) (ha : as F e = .ok [.g y] e1) (h : getS e1 i = .obj (.lst xs)) (hl : xs.length < 100000) : eMeth i .append as F e = .ok (.g .non) (e1.set i (.obj (.lst (xs ++ [y])))) := by
  have hm : mt .append (.lst xs) [y] = some (.lst (xs ++ [y]), .non) := by simp [mt, hl]
  unfold eMeth
  rw [if_pos h0]
  simp [objOf_obj h, putO_obj h, frzs, frz, hm, ha]
end Ev

end
section
set_option linter.all false
set_option Elab.async false
set_option maxRecDepth 100000
set_option maxHeartbeats 4000000
namespace K25
open Ev
variable {l : Nat} {st : List (List Nat)} {ac : List Nat}
theorem zip_P : ∀ P : PW, zipG (gs (ks P)) (wsP P) = P.map fun q => .tup [.int (q.1 : Int), nsG q.2]
  | [] => rfl
  | q :: P => by
    show _ :: zipG (gs (ks P)) (wsP P) = _
    rw [zip_P P]; rfl
def oG : Option (List Nat) → G
  | none => .non
  | some w => nsG w
theorem oky_ns (w : List Nat) : oky 64 (nsG w) = true := by
  unfold nsG
  simp [oky]
  exact okys_map (fun _ => by simp [oky]) w
theorem oky_oG (o : Option (List Nat)) : oky 64 (oG o) = true := by
  cases o with
  | none => rfl
  | some w => exact oky_ns w
theorem oky_nsn (n : Nat) (w : List Nat) : oky (n + 1) (nsG w) = true := by
  unfold nsG; simp [oky]; exact okys_map (fun _ => by simp [oky]) w
theorem okys_nss (n : Nat) (ws : List (List Nat)) : okys (n + 1) (ws.map nsG) = true := okys_map (fun w => by unfold nsG; simp [oky]; exact okys_map (fun _ => by simp [oky]) w) ws
theorem first_in (k : Nat) (M : Good l st ac) : ∃ e, callF prog (k + 2) 21 [.val (rdG l st ac)] = .ok (.g (oG (fw st ac))) (.val (rdG l st ac) :: e) := by
  rw [call_at (k + 1) _ (rfl : prog[21]? = some ⟨1, 4, b_21⟩) rfl]
  obtain ⟨e, h⟩ := first_words_in k M
  have hlen := (wl_inv M.toMach st.length).len
  have n512 := M.n512
  have hcall : eCall 20 [] (aCons (eV 0) aNil) (callF prog (k + 1)) [.val (rdG l st ac), .non, .non, .non] = .ok (.own (.dct (gs (ks (wE st))) (wsP (wE st)))) [.val (rdG l st ac), .non, .non, .non] := by
    simp [nameD, doCall, argsS, argS, lent, h, isMade, back]
  have hit : iIt (eCall 20 [] (aCons (eV 0) aNil)) (callF prog (k + 1)) [.val (rdG l st ac), .non, .non, .non] = .ok ((wE st).map (fun q => .tup [.int (q.1 : Int), nsG q.2]), none) [.val (rdG l st ac), .non, .non, .non] := by
    unfold iIt
    rw [hcall, R_bind_ok]
    show R.ok (zipG (gs (ks (wE st))) (wsP (wE st)), none) _ = _
    rw [zip_P]
  have hcomp := eComp_fm (own := [2, 3]) (el := eV 3) (t := gTp [gNm 2, gNm 3]) (c := tV (eBin .in_ (eV 2) (eAttr ct (eV 0) 2))) (h := fun q => nsG q.2) (p := fun q => decide (q.1 ∈ ac)) (eW := [.val (rdG l st ac), .non, .non, .non]) (e' := [.val (rdG l st ac), .non, .non, .non]) hit rfl rfl (fun q _ => by
    refine (compStep_if (e1 := [.val (rdG l st ac), .non, .val (.int (q.1 : Int)), .val (nsG q.2)]) (e2 := [.val (rdG l st ac), .non, .val (.int (q.1 : Int)), .val (nsG q.2)]) (e3 := [.val (rdG l st ac), .non, .val (.int (q.1 : Int)), .val (nsG q.2)]) (e4 := [.val (rdG l st ac), .non, .val (.int (q.1 : Int)), .val (nsG q.2)]) (g := nsG q.2) (d := .g (nsG q.2)) (b := decide (q.1 ∈ ac)) rfl ?_ rfl rfl rfl).trans rfl
    exact tV_ok (eBin_ok (x := .g (.int (q.1 : Int))) (y := .g (nsG ac)) (e1 := [.val (rdG l st ac), .non, .val (.int (q.1 : Int)), .val (nsG q.2)]) rfl rfl rfl rfl (in_ns q.1 ac)) rfl rfl) rfl (by show (wl st st.length).length ≤ _; omega)
  have hset : sSet 1 (eComp [2, 3] (eV 3) (gTp [gNm 2, gNm 3]) (iIt (eCall 20 [] (aCons (eV 0) aNil))) (tV (eBin .in_ (eV 2) (eAttr ct (eV 0) 2)))) (callF prog (k + 1)) [.val (rdG l st ac), .non, .non, .non] = .nx [.val (rdG l st ac), .obj (.lst (((wE st).filter fun q => decide (q.1 ∈ ac)).map fun q => nsG q.2)), .non, .non] := sSet_ok hcomp rfl
  show ∃ e, fin (b_21 (callF prog (k + 1)) [.val (rdG l st ac), .non, .non, .non]) = _
  unfold b_21
  rw [sSeq_nx hset]
  have hfw : fw st ac = (((wE st).filter fun q => decide (q.1 ∈ ac)).map (·.2)).head? := by
    unfold fw
    rw [List.head?_map, List.head?_filter]
  rw [hfw]
  have hmm : (((wE st).filter fun q => decide (q.1 ∈ ac)).map fun q => nsG q.2) = (((wE st).filter fun q => decide (q.1 ∈ ac)).map (·.2)).map nsG := by rw [List.map_map]; rfl
  rw [hmm]
  generalize ((wE st).filter fun q => decide (q.1 ∈ ac)).map (·.2) = ws
  refine ⟨[.obj (.lst (ws.map nsG)), .non, .non], ?_⟩
  have hb : Ev.b2 .ne (.lst (ws.map nsG)) (.lst []) = some (.g (.bl (!ws.isEmpty))) := by
    show (pyEq (.lst (ws.map nsG)) (.lst [])).map _ = _
    cases ws with
    | nil => rw [show ([] : List (List Nat)).map nsG = [] from rfl, pyEq_self (by decide +kernel)]; rfl
    | cons w ws => rw [List.map_cons, pyEq_cons_nil (by simp only [oky, okys, Bool.and_eq_true]; exact ⟨by decide, oky_nsn 62 w, okys_nss 62 ws⟩)]; rfl
  have hc : tV (eBin .ne (eV 1) (eLst aNil)) (callF prog (k + 1)) [.val (rdG l st ac), .obj (.lst (ws.map nsG)), .non, .non] = .ok (!ws.isEmpty) [.val (rdG l st ac), .obj (.lst (ws.map nsG)), .non, .non] :=
    tV_ok (eBin_ok (x := .sl 1) (y := .own (.lst [])) (e1 := [.val (rdG l st ac), .obj (.lst (ws.map nsG)), .non, .non]) rfl rfl rfl rfl hb) rfl rfl
  cases ws with
  | nil =>
    have hi : eIte (tV (eBin .ne (eV 1) (eLst aNil))) (eBin .idx (eV 1) (eK (.int 0))) (eK .non) (callF prog (k + 1)) [.val (rdG l st ac), .obj (.lst (([] : List (List Nat)).map nsG)), .non, .non] = .ok (.g .non) [.val (rdG l st ac), .obj (.lst (([] : List (List Nat)).map nsG)), .non, .non] := by
      unfold eIte
      rw [hc]; rfl
    simp only [sSeq_e, sRet, hi]
    rfl
  | cons w ws =>
    have hx : Ev.b2 .idx (.lst ((w :: ws).map nsG)) (.int 0) = some (.g (nsG w)) := by
      simp only [Ev.b2, atIx]
      rw [show (0 : Int) = ((0 : Nat) : Int) from rfl, L2.atI_nat (v := nsG w) rfl]; rfl
    have hi : eIte (tV (eBin .ne (eV 1) (eLst aNil))) (eBin .idx (eV 1) (eK (.int 0))) (eK .non) (callF prog (k + 1)) [.val (rdG l st ac), .obj (.lst ((w :: ws).map nsG)), .non, .non] = .ok (.g (nsG w)) [.val (rdG l st ac), .obj (.lst ((w :: ws).map nsG)), .non, .non] := by
      have hidx : eBin .idx (eV 1) (eK (.int 0)) (callF prog (k + 1)) [.val (rdG l st ac), .obj (.lst ((w :: ws).map nsG)), .non, .non] = .ok (.g (nsG w)) [.val (rdG l st ac), .obj (.lst ((w :: ws).map nsG)), .non, .non] := eBin_ok (x := .sl 1) (y := .g (.int 0)) (e1 := [.val (rdG l st ac), .obj (.lst ((w :: ws).map nsG)), .non, .non]) rfl rfl rfl rfl hx
      unfold eIte
      rw [hc]
      exact hidx
    simp only [sSeq_e, sRet, hi]
    rfl
theorem first_word (k : Nat) (M : Good l st ac) : ∃ e, callF prog (k + 3) 31 [.val (rdG l st ac)] = .ok (.g (oG (fw st ac))) (.val (rdG l st ac) :: e) := by
  rw [call_at (k + 2) _ (rfl : prog[31]? = some ⟨1, 1, b_31⟩) rfl]
  obtain ⟨e, h⟩ := first_in k M
  have h1 := require_reader (l := l) (st := st) (ac := ac) (k + 1)
  refine ⟨[], ?_⟩
  show fin (b_31 (callF prog (k + 2)) [.val (rdG l st ac)]) = _
  simp [b_31, nameD, view, doCall, argsS, argS, lent, isMade, back, h1, h, retD, fin]
end K25

end
section
set_option linter.all false
set_option Elab.async false
set_option maxRecDepth 100000
set_option maxHeartbeats 4000000
namespace K25
open Ev
variable {l : Nat} {st : List (List Nat)} {ac : List Nat}
/-! ### _law_re_first -/
theorem b2_at {gs : List G} {i : Nat} {v : G} (h : gs[i]? = some v) : Ev.b2 .idx (.lst gs) (.int (i : Int)) = some (.g v) := by
  simp only [Ev.b2, atIx]
  rw [L2.atI_nat h]; rfl
theorem b2_att {gs : List G} {i : Nat} {v : G} (h : gs[i]? = some v) : Ev.b2 .idx (.tup gs) (.int (i : Int)) = some (.g v) := by
  simp only [Ev.b2, atIx]
  rw [L2.atI_nat h]; rfl
abbrev vt (P : PW) : List G := P.map fun _ => G.bl true
abbrev wlG (P : PW) : List G := P.map fun q => nsG q.2
abbrev rEnv (l : Nat) (st : List (List Nat)) (ac : List Nat) (P : PW) (at_ : Nat) (x5 x6 : S) : Env :=
  [.val (plG l st ac), .obj (.lst (wlG P)), .obj (.dct (gs (ks P)) (vt P)), .val (.int (at_ : Int)), .obj (.lst (gs (ks P))), x5, x6]
def gThen : SV := (sSeq (sSetI 2 (eV 6) (eK (.bl true))) (sSeq (sExp (eMeth 4 .append (aCons (eV 6) aNil))) (sSeq (sExp (eMeth 1 .append (aCons (eBin .add (eBin .idx (eV 1) (eV 3)) (eTup (aCons (eV 5) aNil))) aNil))) sNil)))
def gBody : SV := (sSeq (sSet 6 (eBin .idx (eBin .idx (eBin .idx (eV 0) (eK (.int 1))) (eBin .idx (eV 4) (eV 3))) (eV 5))) (sSeq (sIf (tV (eBin .notin (eV 6) (eV 2))) gThen sNil) sNil))
theorem g_step (F : FF) {P : PW} {x6 : S} {at_ s t a : Nat} {w : List Nat} (h6 : Fr x6) (hs : P[at_]? = some (s, w)) (hsl : s < st.length) (hr : (rowOf st s)[a]? = some t) (hK : P.length ≤ 600) (hw : w.length ≤ 600) :
    gBody F (rEnv l st ac P at_ (.val (.int (a : Int))) x6) = .nx (rEnv l st ac (addP P t (w ++ [a])) at_ (.val (.int (a : Int))) (.val (.int (t : Int)))) := by
  have q1 : Ev.b2 .idx (plG l st ac) (.int 1) = some (.g (stG st)) := rfl
  have q2 : Ev.b2 .idx (.lst (gs (ks P))) (.int (at_ : Int)) = some (.g (.int (s : Int))) := b2_at (by simp [gs, ks, hs])
  have q3 : Ev.b2 .idx (stG st) (.int (s : Int)) = some (.g (nsG (rowOf st s))) := b2_stG hsl
  have q4 : Ev.b2 .idx (nsG (rowOf st s)) (.int (a : Int)) = some (.g (.int (t : Int))) := b2_att (by simp [hr])
  have e0 : sSet 6 (eBin .idx (eBin .idx (eBin .idx (eV 0) (eK (.int 1))) (eBin .idx (eV 4) (eV 3))) (eV 5)) F (rEnv l st ac P at_ (.val (.int (a : Int))) x6) = .nx (rEnv l st ac P at_ (.val (.int (a : Int))) (.val (.int (t : Int)))) := by
    refine sSet_ok (d := .g (.int (t : Int))) (e1 := rEnv l st ac P at_ (.val (.int (a : Int))) x6) ?_ (by rcases h6 with rfl | ⟨g, rfl⟩ <;> rfl)
    exact eBin_ok (eBin_ok (eBin_ok (x := .g (plG l st ac)) (y := .g (.int 1)) (e1 := rEnv l st ac P at_ (.val (.int (a : Int))) x6) rfl rfl rfl rfl q1) (eBin_ok (x := .sl 4) (y := .g (.int (at_ : Int))) (e1 := rEnv l st ac P at_ (.val (.int (a : Int))) x6) rfl rfl rfl rfl q2) rfl rfl q3) (y := .g (.int (a : Int))) rfl rfl rfl q4
  have hf : (findK (.int (t : Int)) (gs (ks P)) (vt P)).isSome = decide (t ∈ ks P) := findK_some (by simp)
  have hn : Ev.b2 .notin (.int (t : Int)) (.dct (gs (ks P)) (vt P)) = some (.g (.bl (!decide (t ∈ ks P)))) := by
    show some (D.g (.bl (!(findK (.int (t : Int)) (gs (ks P)) (vt P)).isSome))) = _
    rw [hf]
  have hc : tV (eBin .notin (eV 6) (eV 2)) F (rEnv l st ac P at_ (.val (.int (a : Int))) (.val (.int (t : Int)))) = .ok (!decide (t ∈ ks P)) (rEnv l st ac P at_ (.val (.int (a : Int))) (.val (.int (t : Int)))) :=
    tV_ok (eBin_ok (x := .g (.int (t : Int))) (y := .sl 2) (e1 := rEnv l st ac P at_ (.val (.int (a : Int))) (.val (.int (t : Int)))) rfl rfl rfl rfl hn) rfl rfl
  unfold gBody
  rw [sSeq_nx e0]
  by_cases ht : t ∈ ks P
  · rw [decide_eq_true ht] at hc
    have : addP P t (w ++ [a]) = P := if_pos ht
    rw [this, sSeq_nx (sIf_no hc)]
    rfl
  · have hA : addP P t (w ++ [a]) = P ++ [(t, w ++ [a])] := if_neg ht
    have hk : ks (P ++ [(t, w ++ [a])]) = ks P ++ [t] := by simp [ks]
    have hv : wlG (P ++ [(t, w ++ [a])]) = wlG P ++ [nsG (w ++ [a])] := by simp [wlG]
    have hv2 : vt (P ++ [(t, w ++ [a])]) = vt P ++ [.bl true] := by simp [vt]
    rw [hA]
    rw [decide_eq_false ht] at hc
    have hs2 : storeG (.dct (gs (ks P)) (vt P)) (.int (t : Int)) (.bl true) = some (.dct (gs (ks P ++ [t])) (vt P ++ [.bl true])) := by
      have h1 : (gs (ks P)).length < 100000 := by simp [gs]; omega
      simp only [storeG, isKey, h1, decide_true, Bool.and_self, if_true, putK_new ht]
    have hm : mt .append (.lst (gs (ks P))) [.int (t : Int)] = some (.lst (gs (ks P ++ [t])), .non) := by
      have h1 : (gs (ks P)).length < 100000 := by simp [gs]; omega
      simp only [Ev.mt, h1, if_true]
      simp [gs]
    have hm2 : mt .append (.lst (wlG P)) [nsG (w ++ [a])] = some (.lst (wlG P ++ [nsG (w ++ [a])]), .non) := by
      have h1 : (wlG P).length < 100000 := by simp; omega
      simp only [Ev.mt, h1, if_true]
    have e2 : sSetI 2 (eV 6) (eK (.bl true)) F (rEnv l st ac P at_ (.val (.int (a : Int))) (.val (.int (t : Int)))) = .nx [.val (plG l st ac), .obj (.lst (wlG P)), .obj (.dct (gs (ks P ++ [t])) (vt P ++ [.bl true])), .val (.int (at_ : Int)), .obj (.lst (gs (ks P))), .val (.int (a : Int)), .val (.int (t : Int))] := by
      rw [sSetI_e]
      simp [objOf, getS, nameD, view, frz, hs2, putO]
    have e3 : sExp (eMeth 4 .append (aCons (eV 6) aNil)) F [.val (plG l st ac), .obj (.lst (wlG P)), .obj (.dct (gs (ks P ++ [t])) (vt P ++ [.bl true])), .val (.int (at_ : Int)), .obj (.lst (gs (ks P))), .val (.int (a : Int)), .val (.int (t : Int))] = .nx [.val (plG l st ac), .obj (.lst (wlG P)), .obj (.dct (gs (ks P ++ [t])) (vt P ++ [.bl true])), .val (.int (at_ : Int)), .obj (.lst (gs (ks P ++ [t]))), .val (.int (a : Int)), .val (.int (t : Int))] := by
      refine sExp_ok (d := .g .non) ?_
      simp [eMeth, nameD, objOf, getS, isLs, frzs, frz, view, hm, putO]
    have q5 : Ev.b2 .idx (.lst (wlG P)) (.int (at_ : Int)) = some (.g (nsG w)) := b2_at (by simp [wlG, hs])
    have q6 : Ev.b2 .add (nsG w) (.tup [.int (a : Int)]) = some (.g (nsG (w ++ [a]))) := by
      unfold nsG
      have h1 : (w.map fun (x : Nat) => G.int (x : Int)).length + [G.int (a : Int)].length ≤ 100000 := by simp; omega
      simp only [Ev.b2, h1, if_true]
      simp
    have e4 : sExp (eMeth 1 .append (aCons (eBin .add (eBin .idx (eV 1) (eV 3)) (eTup (aCons (eV 5) aNil))) aNil)) F [.val (plG l st ac), .obj (.lst (wlG P)), .obj (.dct (gs (ks P ++ [t])) (vt P ++ [.bl true])), .val (.int (at_ : Int)), .obj (.lst (gs (ks P ++ [t]))), .val (.int (a : Int)), .val (.int (t : Int))] = .nx (rEnv l st ac (P ++ [(t, w ++ [a])]) at_ (.val (.int (a : Int))) (.val (.int (t : Int)))) := by
      refine sExp_ok (d := .g .non) ?_
      have hadd : eBin .add (eBin .idx (eV 1) (eV 3)) (eTup (aCons (eV 5) aNil)) F [.val (plG l st ac), .obj (.lst (wlG P)), .obj (.dct (gs (ks P ++ [t])) (vt P ++ [.bl true])), .val (.int (at_ : Int)), .obj (.lst (gs (ks P ++ [t]))), .val (.int (a : Int)), .val (.int (t : Int))] = .ok (.g (nsG (w ++ [a]))) [.val (plG l st ac), .obj (.lst (wlG P)), .obj (.dct (gs (ks P ++ [t])) (vt P ++ [.bl true])), .val (.int (at_ : Int)), .obj (.lst (gs (ks P ++ [t]))), .val (.int (a : Int)), .val (.int (t : Int))] :=
        eBin_ok (eBin_ok (x := .sl 1) (y := .g (.int (at_ : Int))) (e1 := [.val (plG l st ac), .obj (.lst (wlG P)), .obj (.dct (gs (ks P ++ [t])) (vt P ++ [.bl true])), .val (.int (at_ : Int)), .obj (.lst (gs (ks P ++ [t]))), .val (.int (a : Int)), .val (.int (t : Int))]) rfl rfl rfl rfl q5) (y := .g (.tup [.int (a : Int)])) rfl rfl rfl q6
      unfold rEnv
      rw [hk, hv, hv2]
      exact eMeth_app (i := 1) (as := aCons (eBin .add (eBin .idx (eV 1) (eV 3)) (eTup (aCons (eV 5) aNil))) aNil) (e := [.val (plG l st ac), .obj (.lst (wlG P)), .obj (.dct (gs (ks P ++ [t])) (vt P ++ [.bl true])), .val (.int (at_ : Int)), .obj (.lst (gs (ks P ++ [t]))), .val (.int (a : Int)), .val (.int (t : Int))]) (e1 := [.val (plG l st ac), .obj (.lst (wlG P)), .obj (.dct (gs (ks P ++ [t])) (vt P ++ [.bl true])), .val (.int (at_ : Int)), .obj (.lst (gs (ks P ++ [t]))), .val (.int (a : Int)), .val (.int (t : Int))]) (xs := wlG P) (y := nsG (w ++ [a])) rfl (aCons_ok hadd rfl) rfl (by simp; omega)
    rw [sSeq_nx (e1 := rEnv l st ac (P ++ [(t, w ++ [a])]) at_ (.val (.int (a : Int))) (.val (.int (t : Int))))]
    · rfl
    · rw [sIf_yes hc]
      unfold gThen
      rw [sSeq_nx e2, sSeq_nx e3, sSeq_nx e4]
      rfl
theorem g_row (F : FF) (M : Mach l st) {s at_ : Nat} {w : List Nat} (hn : st.length ≤ 512) (hsl : s < st.length) (hrun : run st 0 w = s) (hl : ∀ a ∈ w, a < l) (hwl : w.length ≤ 512) : ∀ (r : List Nat) (i : Nat) (P : PW) (x5 x6 : S), Fr x5 → Fr x6 → P[at_]? = some (s, w) → PInv l st P → w.length < P.length → (∀ k, r[k]? = (rowOf st s)[i + k]?) →
    ∃ y5 y6, Fr y5 ∧ Fr y6 ∧ forL (forStep (gNm 5) gBody F) (rangeG (i : Int) r.length) (rEnv l st ac P at_ x5 x6) = .nx (rEnv l st ac (rowA r i P w) at_ y5 y6)
  | [], i, P, x5, x6, h5, h6, _, _, _, _ => ⟨x5, x6, h5, h6, by simp [rangeG, forL, rowA]⟩
  | t :: r, i, P, x5, x6, h5, h6, hs, hI, hlen, hr => by
    have hpl := hI.len
    have h0 : some t = (rowOf st s)[i]? := hr 0
    have e1 := g_step (l := l) (st := st) (ac := ac) F (x6 := x6) (a := i) h6 hs hsl h0.symm (by omega) (by omega)
    have ht : gNm 5 (.int (i : Int)) (rEnv l st ac P at_ x5 x6) = some (rEnv l st ac P at_ (.val (.int (i : Int))) x6) := by
      rcases h5 with rfl | ⟨g, rfl⟩ <;> rfl
    have hI1 : PInv l st (addP P t (w ++ [i])) := hI.one M hsl hrun hl hlen h0
    have hpl2 : (addP P t (w ++ [i])).length ≥ P.length := (addP_pre (P := P) (t := t) (w := w ++ [i])).length_le
    obtain ⟨y5, y6, f5, f6, e2⟩ := g_row F M hn hsl hrun hl hwl r (i + 1) (addP P t (w ++ [i])) (.val (.int (i : Int))) (.val (.int (t : Int))) (.v _) (.v _) (addP_at hs) hI1 (by omega) (fun k => by
      have := hr (k + 1)
      rw [List.getElem?_cons_succ] at this
      rw [this]; congr 1; omega)
    refine ⟨y5, y6, f5, f6, ?_⟩
    show forL _ (.int (i : Int) :: rangeG ((i : Int) + 1) r.length) _ = _
    rw [forL_nx ((forStep_nx ht).trans e1)]
    have : ((i : Int) + 1) = ((i + 1 : Nat) : Int) := by omega
    rw [this, e2]
    rfl
def rIf : SV := (sIf (tV (eBin .in_ (eBin .idx (eV 4) (eV 3)) (eBin .idx (eV 0) (eK (.int 2))))) (sSeq (sRet (eBin .idx (eV 1) (eV 3))) sNil) sNil)
def rBody : SV := (sSeq rIf (sSeq (sFor (gNm 5) (iR1 (eBin .idx (eV 0) (eK (.int 0)))) gBody) (sSeq (sSet 3 (eBin .add (eV 3) (eK (.int 1)))) sNil)))
theorem r_cond (F : FF) {P : PW} {at_ : Nat} {x5 x6 : S} : tV (eBin .lt (eV 3) (eBi .len (aCons (eV 1) aNil))) F (rEnv l st ac P at_ x5 x6) = .ok (decide (at_ < P.length)) (rEnv l st ac P at_ x5 x6) := by
  have hl : bi .len [.lst (wlG P)] = some (.g (.int (P.length : Int))) := by
    show some (D.g (.int ((wlG P).length : Int))) = _
    simp
  have hb : Ev.b2 .lt (.int (at_ : Int)) (.int (P.length : Int)) = some (.g (.bl (decide (at_ < P.length)))) := by
    show some (D.g (.bl (decide ((at_ : Int) < (P.length : Int))))) = _
    simp
  exact tV_ok (eBin_ok (x := .g (.int (at_ : Int))) (e1 := rEnv l st ac P at_ x5 x6) rfl (eBi_ok (ds := [.sl 1]) (e1 := rEnv l st ac P at_ x5 x6) rfl rfl hl) rfl rfl hb) rfl rfl
theorem r_loop (F : FF) (M : Good l st ac) (fuel : Nat) : ∀ {at_ : Nat} {x5 x6 : S}, st.length < fuel + at_ → at_ ≤ (wl st at_).length → Fr x5 → Fr x6 → (∀ i q, i < at_ → (wE st)[i]? = some q → q.1 ∉ ac) →
    ∃ e, whileL (tV (eBin .lt (eV 3) (eBi .len (aCons (eV 1) aNil))) F) (rBody F) fuel (rEnv l st ac (wl st at_) at_ x5 x6) = (match fw st ac with | some w => .rt (.g (nsG w)) (.val (plG l st ac) :: e) | none => .nx (.val (plG l st ac) :: e)) := by
  have n512 := M.n512
  induction fuel with
  | zero => intro at_ x5 x6 h h'; have := (wl_inv M.toMach at_).len; omega
  | succ fuel ih =>
    intro at_ x5 x6 hf ha h5 h6 hno
    have hI := wl_inv M.toMach at_
    have hl := hI.len
    by_cases hlt : at_ < (wl st at_).length
    · obtain ⟨q, hq⟩ : ∃ q, (wl st at_)[at_]? = some q := ⟨_, List.getElem?_eq_getElem hlt⟩
      obtain ⟨s, w⟩ := q
      have hm := List.mem_of_getElem? hq
      have hsl := hI.lt _ hm
      have hsh := hI.sh at_ _ hq
      simp only at hsl hsh
      have hqE : (wE st)[at_]? = some (s, w) := by
        obtain ⟨r, e⟩ := wl_wE M.toMach at_
        rw [← e, List.getElem?_append_left hlt, hq]
      have hc := r_cond (l := l) (st := st) (ac := ac) F (P := wl st at_) (at_ := at_) (x5 := x5) (x6 := x6)
      rw [decide_eq_true hlt] at hc
      have q2 : Ev.b2 .idx (.lst (gs (ks (wl st at_)))) (.int (at_ : Int)) = some (.g (.int (s : Int))) := b2_at (by simp [gs, ks, hq])
      have q7 : Ev.b2 .idx (plG l st ac) (.int 2) = some (.g (nsG ac)) := rfl
      have hin : tV (eBin .in_ (eBin .idx (eV 4) (eV 3)) (eBin .idx (eV 0) (eK (.int 2)))) F (rEnv l st ac (wl st at_) at_ x5 x6) = .ok (decide (s ∈ ac)) (rEnv l st ac (wl st at_) at_ x5 x6) :=
        tV_ok (eBin_ok (eBin_ok (x := .sl 4) (y := .g (.int (at_ : Int))) (e1 := rEnv l st ac (wl st at_) at_ x5 x6) rfl rfl rfl rfl q2) (eBin_ok (x := .g (plG l st ac)) (y := .g (.int 2)) (e1 := rEnv l st ac (wl st at_) at_ x5 x6) rfl rfl rfl rfl q7) rfl rfl (in_ns s ac)) rfl rfl
      by_cases hsa : s ∈ ac
      · have hfw : fw st ac = some w := by
          unfold fw
          have hfind : (wE st).find? (fun q => decide (q.1 ∈ ac)) = some (s, w) := by
            rw [List.find?_eq_some_iff_getElem]
            obtain ⟨h1, h2⟩ := List.getElem?_eq_some_iff.mp hqE
            refine ⟨by simpa using hsa, at_, h1, h2, fun j hj => ?_⟩
            have := hno j _ hj (List.getElem?_eq_getElem (by omega))
            simpa using this
          rw [hfind]; rfl
        rw [hfw]
        rw [decide_eq_true hsa] at hin
        have q5 : Ev.b2 .idx (.lst (wlG (wl st at_))) (.int (at_ : Int)) = some (.g (nsG w)) := b2_at (by simp [wlG, hq])
        have hidx : eBin .idx (eV 1) (eV 3) F (rEnv l st ac (wl st at_) at_ x5 x6) = .ok (.g (nsG w)) (rEnv l st ac (wl st at_) at_ x5 x6) := eBin_ok (x := .sl 1) (y := .g (.int (at_ : Int))) (e1 := rEnv l st ac (wl st at_) at_ x5 x6) rfl rfl rfl rfl q5
        have hb : rBody F (rEnv l st ac (wl st at_) at_ x5 x6) = .rt (.g (nsG w)) (rEnv l st ac (wl st at_) at_ x5 x6) := by
          unfold rBody rIf
          rw [sSeq_e, sIf_yes hin, sSeq_e, sRet, hidx]
          rfl
        exact ⟨[.obj (.lst (wlG (wl st at_))), .obj (.dct (gs (ks (wl st at_))) (vt (wl st at_))), .val (.int (at_ : Int)), .obj (.lst (gs (ks (wl st at_)))), x5, x6], whileL_rt hc hb⟩
      · rw [decide_eq_false hsa] at hin
        obtain ⟨y5, y6, f5, f6, e1⟩ := g_row (ac := ac) F M.toMach n512 hsl (hI.rn _ hm) (hI.let_ _ hm) (by simp only; omega) (rowOf st s) 0 (wl st at_) x5 x6 h5 h6 hq hI (by simp only; omega) (fun k => by rw [Nat.zero_add])
        have hstep : wl st (at_ + 1) = rowA (rowOf st s) 0 (wl st at_) w := by
          show stepP st (wl st at_) at_ = _
          unfold stepP; rw [hq]
        have hrl : (rowOf st s).length = l := M.toMach.rowl hsl
        rw [← hstep, hrl] at e1
        have q8 : Ev.b2 .idx (plG l st ac) (.int 0) = some (.g (.int (l : Int))) := rfl
        have hit : iR1 (eBin .idx (eV 0) (eK (.int 0))) F (rEnv l st ac (wl st at_) at_ x5 x6) = .ok (rangeG 0 l, none) (rEnv l st ac (wl st at_) at_ x5 x6) := by
          have hb : eBin .idx (eV 0) (eK (.int 0)) F (rEnv l st ac (wl st at_) at_ x5 x6) = .ok (.g (.int (l : Int))) (rEnv l st ac (wl st at_) at_ x5 x6) := eBin_ok (x := .g (plG l st ac)) (y := .g (.int 0)) (e1 := rEnv l st ac (wl st at_) at_ x5 x6) rfl rfl rfl rfl q8
          rw [iR1_eq hb, ifOk (okR_nat (by have := M.l64; omega))]
          simp
        have e1 : forL _ (rangeG 0 l) _ = _ := e1
        have hF : sFor (gNm 5) (iR1 (eBin .idx (eV 0) (eK (.int 0)))) gBody F (rEnv l st ac (wl st at_) at_ x5 x6) = .nx (rEnv l st ac (wl st (at_ + 1)) at_ y5 y6) := by
          rw [sFor_v hit, e1]; rfl
        have hS : sSet 3 (eBin .add (eV 3) (eK (.int 1))) F (rEnv l st ac (wl st (at_ + 1)) at_ y5 y6) = .nx (rEnv l st ac (wl st (at_ + 1)) (at_ + 1) y5 y6) :=
          sSet_ok (eBin_ok (x := .g (.int (at_ : Int))) (y := .g (.int 1)) (e1 := rEnv l st ac (wl st (at_ + 1)) at_ y5 y6) rfl rfl rfl rfl rfl) rfl
        have hb : rBody F (rEnv l st ac (wl st at_) at_ x5 x6) = .nx (rEnv l st ac (wl st (at_ + 1)) (at_ + 1) y5 y6) := by
          unfold rBody rIf
          rw [sSeq_nx (sIf_no hin), sSeq_nx hF, sSeq_nx hS]; rfl
        rw [whileL_yes hc hb]
        have hp := (wl_pre1 (st := st) at_).length_le
        exact ih (by omega) (by omega) f5 f6 fun i q hi hq' => by
          by_cases e : i = at_
          · subst e
            rw [hqE] at hq'
            cases hq'
            exact hsa
          · exact hno i q (by omega) hq'
    · have hE := wE_of M.toMach (a := at_) (by omega)
      have hfw : fw st ac = none := by
        unfold fw
        have : (wE st).find? (fun q => decide (q.1 ∈ ac)) = none := by
          rw [List.find?_eq_none]
          intro q hq
          obtain ⟨i, hi⟩ := List.getElem?_of_mem hq
          have h1 := (List.getElem?_eq_some_iff.mp hi).1
          rw [← hE] at h1
          have := hno i q (by omega) hi
          simpa using this
        rw [this]; rfl
      rw [hfw]
      have hc := r_cond (l := l) (st := st) (ac := ac) F (P := wl st at_) (at_ := at_) (x5 := x5) (x6 := x6)
      rw [decide_eq_false hlt] at hc
      exact ⟨[.obj (.lst (wlG (wl st at_))), .obj (.dct (gs (ks (wl st at_))) (vt (wl st at_))), .val (.int (at_ : Int)), .obj (.lst (gs (ks (wl st at_)))), x5, x6], whileL_no hc⟩
theorem re_first (k : Nat) (M : Good l st ac) : ∃ e, callF prog (k + 1) 38 [.val (plG l st ac)] = .ok (.g (oG (fw st ac))) (.val (plG l st ac) :: e) := by
  rw [call_at k _ (rfl : prog[38]? = some ⟨1, 7, b_38⟩) rfl]
  have n512 := M.n512
  obtain ⟨e, h⟩ := r_loop (ac := ac) (callF prog k) M 100000 (at_ := 0) (x5 := .non) (x6 := .non) (by omega) (by simp) .n .n (fun i q hi => by omega)
  refine ⟨e, ?_⟩
  have hp : sPar [1, 2, 3] (aCons (eLst (aCons (eTup aNil) aNil)) (aCons (eDic1 (eK (.int 0)) (eK (.bl true))) (aCons (eK (.int 0)) aNil))) (callF prog k) [.val (plG l st ac), .non, .non, .non, .non, .non, .non] = .nx [.val (plG l st ac), .obj (.lst [nsG []]), .obj (.dct (gs [0]) [.bl true]), .val (.int 0), .non, .non, .non] := rfl
  have hp2 : sSet 4 (eLst (aCons (eK (.int 0)) aNil)) (callF prog k) [.val (plG l st ac), .obj (.lst [nsG []]), .obj (.dct (gs [0]) [.bl true]), .val (.int 0), .non, .non, .non] = .nx (rEnv l st ac (wl st 0) 0 .non .non) := rfl
  show fin (b_38 (callF prog k) [.val (plG l st ac), .non, .non, .non, .non, .non, .non]) = _
  have hw : sWhile wf (tV (eBin .lt (eV 3) (eBi .len (aCons (eV 1) aNil)))) rBody (callF prog k) (rEnv l st ac (wl st 0) 0 .non .non) = _ := h
  show fin (sSeq _ (sSeq _ (sSeq (sWhile wf _ rBody) _)) _ _) = _
  rw [sSeq_nx hp, sSeq_nx hp2, sSeq_e, hw]
  cases fw st ac <;> rfl
end K25

end
section
set_option linter.all false
set_option Elab.async false
set_option maxRecDepth 100000
set_option maxHeartbeats 4000000
namespace K25
open Ev
variable {l : Nat} {st : List (List Nat)} {ac : List Nat}
/-! ### how many words: plain -/
def cnt (st : List (List Nat)) (ac : List Nat) : Nat → Nat → Nat
  | 0, s => if s ∈ ac then 1 else 0
  | n + 1, s => ((rowOf st s).map (cnt st ac n)).sum
def cv (st : List (List Nat)) (ac : List Nat) (n : Nat) : List Nat := (List.range st.length).map (cnt st ac n)
theorem cv_len (n : Nat) : (cv st ac n).length = st.length := by simp [cv]
theorem cv_at {n s : Nat} (h : s < st.length) : (cv st ac n)[s]? = some (cnt st ac n s) := by simp [cv, h]
theorem st_range : st = (List.range st.length).map (rowOf st) := by
  refine List.ext_getElem? fun i => ?_
  by_cases h : i < st.length
  · simp [List.getElem?_eq_getElem h, h, rowOf]
  · rw [List.getElem?_eq_none (by omega), List.getElem?_eq_none (by simp; omega)]
theorem intsOf_gs : ∀ w : List Nat, intsOf (gs w) = some (w.map fun (x : Nat) => (x : Int))
  | [] => rfl
  | x :: w => by
    show intsOf (.int (x : Int) :: gs w) = _
    simp [intsOf, intsOf_gs w]
theorem sum_cast : ∀ w : List Nat, (w.map fun (x : Nat) => (x : Int)).sum = ((w.sum : Nat) : Int)
  | [] => rfl
  | x :: w => by simp [sum_cast w]
theorem bi_sum (w : List Nat) : bi .sum [.lst (gs w)] = some (.g (.int ((w.sum : Nat) : Int))) := by
  show (intsOf (gs w)).map _ = _
  rw [intsOf_gs, ← sum_cast]; rfl
theorem b2_last {xs : List G} {x : G} : Ev.b2 .idx (.lst (xs ++ [x])) (.int (-1)) = some (.g x) := by
  have h : L2.ixN (xs ++ [x]).length (-1) = some xs.length := by
    unfold L2.ixN
    simp
    omega
  simp only [Ev.b2, atIx, L2.atI, h]
  simp
def fnd (st : List (List Nat)) (ac : List Nat) (n : Nat) : List G := (List.range n).map fun i => nsG (cv st ac i)
theorem fnd_succ (n : Nat) : fnd st ac (n + 1) = fnd st ac n ++ [nsG (cv st ac n)] := by unfold fnd; rw [List.range_succ, List.map_append]; rfl
theorem st_lt (M : Mach l st) {s t : Nat} (hs : s < st.length) (ht : t ∈ rowOf st s) : t < st.length := by
  obtain ⟨a, ha, rfl⟩ := row_nx M hs ht
  exact M.nxl hs ha
abbrev cEnv (l : Nat) (st : List (List Nat)) (ac : List Nat) (n m : Nat) (x3 x5 x6 : S) : Env :=
  [.val (rdG l st ac), .val (.int (n : Int)), .obj (.lst (fnd st ac (m + 1))), x3, .non, x5, x6]
def cIn : EV := (eBi .sum (aCons (eComp [6] (eBin .idx (eBin .idx (eV 2) (eUn .neg (eK (.int 1)))) (eV 6)) (gNm 6) (iE (eV 5)) tYesT) aNil))
def cOut : EV := (eBi .tuple (aCons (eComp [5] cIn (gNm 5) (iE (eAttr ct (eV 0) 1)) tYesT) aNil))
theorem cin_ok (F : FF) (M : Mach l st) {n m s : Nat} {x3 : S} (hs : s < st.length) (hl : l ≤ 64) : cIn F (cEnv l st ac n m x3 (.val (nsG (rowOf st s))) .non) = .ok (.g (.int ((cnt st ac (m + 1) s : Nat) : Int))) (cEnv l st ac n m x3 (.val (nsG (rowOf st s))) .non) := by
  have hrl : (rowOf st s).length = l := M.rowl hs
  have hc := eComp_all (own := [6]) (el := eBin .idx (eBin .idx (eV 2) (eUn .neg (eK (.int 1)))) (eV 6)) (t := gNm 6) (it := iE (eV 5)) (c := tYesT) (F := F) (o := none) (g := fun (x : Nat) => G.int (x : Int)) (h := fun t => .int ((cnt st ac m t : Nat) : Int)) (xs := rowOf st s)
    (e0 := cEnv l st ac n m x3 (.val (nsG (rowOf st s))) .non) (e := cEnv l st ac n m x3 (.val (nsG (rowOf st s))) .non) (eW := cEnv l st ac n m x3 (.val (nsG (rowOf st s))) .non) (e' := cEnv l st ac n m x3 (.val (nsG (rowOf st s))) .non) rfl rfl rfl (fun t ht => by
      have htl := st_lt M hs ht
      have q1 : Ev.b2 .idx (.lst (fnd st ac (m + 1))) (.int (-1)) = some (.g (nsG (cv st ac m))) := by rw [fnd_succ]; exact b2_last
      have q2 : Ev.b2 .idx (nsG (cv st ac m)) (.int (t : Int)) = some (.g (.int ((cnt st ac m t : Nat) : Int))) := b2_att (by simp [cv_at htl])
      exact compStep_yes (e1 := cEnv l st ac n m x3 (.val (nsG (rowOf st s))) (.val (.int (t : Int)))) (d := .g (.int ((cnt st ac m t : Nat) : Int))) (e2 := cEnv l st ac n m x3 (.val (nsG (rowOf st s))) (.val (.int (t : Int)))) rfl
        (eBin_ok (eBin_ok (x := .sl 2) (y := .g (.int (-1))) (e1 := cEnv l st ac n m x3 (.val (nsG (rowOf st s))) (.val (.int (t : Int)))) rfl rfl rfl rfl q1) (y := .g (.int (t : Int))) rfl rfl rfl q2) rfl) rfl (by omega)
  unfold cIn
  refine eBi_ok (ds := [.own (.lst ((rowOf st s).map fun t => .int ((cnt st ac m t : Nat) : Int)))]) (aCons_ok hc rfl) rfl ?_
  have := bi_sum ((rowOf st s).map (cnt st ac m))
  unfold gs at this
  rw [List.map_map] at this
  exact this
theorem cout_ok (F : FF) (M : Mach l st) {n m : Nat} {x3 : S} (hl : l ≤ 64) (hn : st.length ≤ 512) : cOut F (cEnv l st ac n m x3 .non .non) = .ok (.g (nsG (cv st ac (m + 1)))) (cEnv l st ac n m x3 .non .non) := by
  have hit : iE (eAttr ct (eV 0) 1) F (cEnv l st ac n m x3 .non .non) = .ok ((List.range st.length).map fun s => nsG (rowOf st s), none) (cEnv l st ac n m x3 .non .non) := by
    have : (List.range st.length).map (fun s => nsG (rowOf st s)) = st.map nsG := by
      conv => rhs; rw [st_range (st := st)]
      rw [List.map_map]; rfl
    rw [this]; rfl
  have hc := eComp_all (own := [5]) (el := cIn) (t := gNm 5) (c := tYesT) (h := fun s => .int ((cnt st ac (m + 1) s : Nat) : Int)) (eW := cEnv l st ac n m x3 .non .non) (e' := cEnv l st ac n m x3 .non .non) hit rfl rfl (fun s hs => by
      have hsl := List.mem_range.mp hs
      exact compStep_yes (e1 := cEnv l st ac n m x3 (.val (nsG (rowOf st s))) .non) rfl (cin_ok F M hsl hl) rfl) rfl (by simp; omega)
  unfold cOut
  refine eBi_ok (ds := [.own (.lst ((List.range st.length).map fun s => .int ((cnt st ac (m + 1) s : Nat) : Int)))]) (aCons_ok hc rfl) rfl ?_
  show some (D.g (.tup _)) = some (D.g (nsG _))
  unfold nsG cv
  rw [List.map_map]; rfl
def cBody : SV := (sSeq (sExp (eMeth 2 .append (aCons cOut aNil))) sNil)
theorem c_loop (F : FF) (M : Mach l st) {n : Nat} (hl : l ≤ 64) (hn : st.length ≤ 512) : ∀ (d i : Nat) (x3 : S), Fr x3 → i + d ≤ 1000 → ∃ y3, forL (forStep (gNm 3) cBody F) (rangeG (i : Int) d) (cEnv l st ac n i x3 .non .non) = .nx (cEnv l st ac n (i + d) y3 .non .non)
  | 0, i, x3, h3, hi => ⟨x3, by simp [rangeG, forL]⟩
  | d + 1, i, x3, h3, hi => by
    obtain ⟨y3, e2⟩ := c_loop F M hl hn d (i + 1) (.val (.int (i : Int))) (.v _) (by omega)
    refine ⟨y3, ?_⟩
    have ht : gNm 3 (.int (i : Int)) (cEnv l st ac n i x3 .non .non) = some (cEnv l st ac n i (.val (.int (i : Int))) .non .non) := by
      rcases h3 with rfl | ⟨g, rfl⟩ <;> rfl
    have hm : eMeth 2 .append (aCons cOut aNil) F (cEnv l st ac n i (.val (.int (i : Int))) .non .non) = .ok (.g .non) (cEnv l st ac n (i + 1) (.val (.int (i : Int))) .non .non) := by
      have := eMeth_app (F := F) (i := 2) (as := aCons cOut aNil) (e := cEnv l st ac n i (.val (.int (i : Int))) .non .non) (e1 := cEnv l st ac n i (.val (.int (i : Int))) .non .non) (xs := fnd st ac (i + 1)) (y := nsG (cv st ac (i + 1))) rfl (aCons_ok (cout_ok F M hl hn) rfl) rfl (by simp [fnd]; omega)
      rw [this]
      unfold cEnv
      rw [fnd_succ (i + 1)]
      rfl
    have hb : cBody F (cEnv l st ac n i (.val (.int (i : Int))) .non .non) = .nx (cEnv l st ac n (i + 1) (.val (.int (i : Int))) .non .non) := by
      unfold cBody
      rw [sSeq_nx (sExp_ok hm)]; rfl
    show forL _ (.int (i : Int) :: rangeG ((i : Int) + 1) d) _ = _
    rw [forL_nx ((forStep_nx ht).trans hb)]
    have : ((i : Int) + 1) = ((i + 1 : Nat) : Int) := by omega
    rw [this, e2, show i + 1 + d = i + (d + 1) by omega]
def cFirst : EV := (eBi .tuple (aCons (eComp [4] (eBi .int (aCons (eBin .in_ (eV 4) (eAttr ct (eV 0) 2)) aNil)) (gNm 4) (iR1 (eBi .len (aCons (eAttr ct (eV 0) 1) aNil))) tYesT) aNil))
theorem bi_int_in (s : Nat) : bi .int [.bl (decide (s ∈ ac))] = some (.g (.int ((cnt st ac 0 s : Nat) : Int))) := by
  unfold cnt
  by_cases h : s ∈ ac <;> simp [bi, h]
theorem cfirst_ok (F : FF) {n : Nat} (hn : st.length ≤ 512) : cFirst F [.val (rdG l st ac), .val (.int (n : Int)), .non, .non, .non, .non, .non] = .ok (.g (nsG (cv st ac 0))) [.val (rdG l st ac), .val (.int (n : Int)), .non, .non, .non, .non, .non] := by
  have hit : iR1 (eBi .len (aCons (eAttr ct (eV 0) 1) aNil)) F [.val (rdG l st ac), .val (.int (n : Int)), .non, .non, .non, .non, .non] = .ok ((List.range st.length).map fun (x : Nat) => .int (x : Int), none) [.val (rdG l st ac), .val (.int (n : Int)), .non, .non, .non, .non, .non] := by
    have hb : eBi .len (aCons (eAttr ct (eV 0) 1) aNil) F [.val (rdG l st ac), .val (.int (n : Int)), .non, .non, .non, .non, .non] = .ok (.g (.int (st.length : Int))) [.val (rdG l st ac), .val (.int (n : Int)), .non, .non, .non, .non, .non] := eBi_ok (ds := [.g (stG st)]) (e1 := [.val (rdG l st ac), .val (.int (n : Int)), .non, .non, .non, .non, .non]) rfl rfl len_stG
    rw [iR1_eq hb, ifOk (okR_nat (by omega))]
    show R.ok (rangeG 0 _, none) _ = _
    rw [Int.toNat_natCast, range_ns]
  have hc := eComp_all (own := [4]) (el := eBi .int (aCons (eBin .in_ (eV 4) (eAttr ct (eV 0) 2)) aNil)) (t := gNm 4) (c := tYesT) (h := fun s => .int ((cnt st ac 0 s : Nat) : Int)) (eW := [.val (rdG l st ac), .val (.int (n : Int)), .non, .non, .non, .non, .non]) (e' := [.val (rdG l st ac), .val (.int (n : Int)), .non, .non, .non, .non, .non]) hit rfl rfl (fun s hs => by
      exact compStep_yes (e1 := [.val (rdG l st ac), .val (.int (n : Int)), .non, .non, .val (.int (s : Int)), .non, .non]) rfl
        (eBi_ok (ds := [.g (.bl (decide (s ∈ ac)))]) (e1 := [.val (rdG l st ac), .val (.int (n : Int)), .non, .non, .val (.int (s : Int)), .non, .non]) (aCons_ok (eBin_ok (x := .g (.int (s : Int))) (y := .g (nsG ac)) (e1 := [.val (rdG l st ac), .val (.int (n : Int)), .non, .non, .val (.int (s : Int)), .non, .non]) rfl rfl rfl rfl (in_ns s ac)) rfl) rfl (bi_int_in (st := st) s)) rfl) rfl (by simp; omega)
  unfold cFirst
  refine eBi_ok (ds := [.own (.lst ((List.range st.length).map fun s => .int ((cnt st ac 0 s : Nat) : Int)))]) (aCons_ok hc rfl) rfl ?_
  show some (D.g (.tup _)) = some (D.g (nsG _))
  unfold nsG cv
  rw [List.map_map]; rfl
theorem counts (k : Nat) (M : Good l st ac) {n : Nat} (hn : n ≤ 99) : ∃ e, callF prog (k + 1) 22 [.val (rdG l st ac), .val (.int (n : Int))] = .ok (.own (.lst (fnd st ac (n + 1)))) (.val (rdG l st ac) :: .val (.int (n : Int)) :: e) := by
  rw [call_at k _ (rfl : prog[22]? = some ⟨2, 7, b_22⟩) rfl]
  have n512 := M.n512
  have l64 := M.l64
  obtain ⟨y3, h⟩ := c_loop (ac := ac) (callF prog k) M.toMach (n := n) l64 n512 n 0 .non .n (by omega)
  refine ⟨[.non, y3, .non, .non, .non], ?_⟩
  have h1 : sSet 2 (eLst (aCons cFirst aNil)) (callF prog k) [.val (rdG l st ac), .val (.int (n : Int)), .non, .non, .non, .non, .non] = .nx (cEnv l st ac n 0 .non .non .non) := by
    refine sSet_ok (d := .own (.lst [nsG (cv st ac 0)])) (e1 := [.val (rdG l st ac), .val (.int (n : Int)), .non, .non, .non, .non, .non]) ?_ rfl
    unfold eLst
    rw [aCons_ok (cfirst_ok (callF prog k) n512) (ds := []) rfl]
    rfl
  have hit : iR1 (eV 1) (callF prog k) (cEnv l st ac n 0 .non .non .non) = .ok (rangeG 0 n, none) (cEnv l st ac n 0 .non .non .non) := by
    rw [iR1_eq (e1 := cEnv l st ac n 0 .non .non .non) (m := (n : Int)) rfl, ifOk (okR_nat (by omega))]
    simp
  have h : forL (forStep (gNm 3) cBody (callF prog k)) (rangeG 0 n) (cEnv l st ac n 0 .non .non .non) = _ := h
  have h2 : sFor (gNm 3) (iR1 (eV 1)) cBody (callF prog k) (cEnv l st ac n 0 .non .non .non) = .nx (cEnv l st ac n n y3 .non .non) := by
    rw [sFor_v hit, h, Nat.zero_add]; rfl
  show fin (sSeq (sSet 2 (eLst (aCons cFirst aNil))) (sSeq (sFor (gNm 3) (iR1 (eV 1)) cBody) (sSeq (sRet (eV 2)) sNil)) (callF prog k) [.val (rdG l st ac), .val (.int (n : Int)), .non, .non, .non, .non, .non]) = _
  rw [sSeq_nx h1, sSeq_nx h2]
  rfl
end K25

end
section
set_option linter.all false
set_option Elab.async false
set_option maxRecDepth 100000
set_option maxHeartbeats 4000000
namespace K25
open Ev
variable {l : Nat} {st : List (List Nat)} {ac : List Nat}
theorem cv0 (M : Mach l st) (n : Nat) : Ev.b2 .idx (nsG (cv st ac n)) (.int 0) = some (.g (.int ((cnt st ac n 0 : Nat) : Int))) := b2_att (i := 0) (by simp [cv_at M.n1])
theorem count_in (k : Nat) (M : Good l st ac) {n : Nat} (hn : n ≤ 99) : ∃ e, callF prog (k + 2) 23 [.val (rdG l st ac), .val (.int (n : Int))] = .ok (.g (.int ((cnt st ac n 0 : Nat) : Int))) (.val (rdG l st ac) :: .val (.int (n : Int)) :: e) := by
  rw [call_at (k + 1) _ (rfl : prog[23]? = some ⟨2, 2, b_23⟩) rfl]
  obtain ⟨e, h⟩ := counts k M hn
  refine ⟨[], ?_⟩
  have hq : Ev.b2 .idx (.lst (fnd st ac (n + 1))) (.int (-1)) = some (.g (nsG (cv st ac n))) := by rw [fnd_succ]; exact b2_last
  have hc : eCall 22 [] (aCons (eV 0) (aCons (eV 1) aNil)) (callF prog (k + 1)) [.val (rdG l st ac), .val (.int (n : Int))] = .ok (.own (.lst (fnd st ac (n + 1)))) [.val (rdG l st ac), .val (.int (n : Int))] := by
    simp [nameD, doCall, argsS, argS, lent, h, isMade, back]
  have hx : eBin .idx (eBin .idx (eCall 22 [] (aCons (eV 0) (aCons (eV 1) aNil))) (eUn .neg (eK (.int 1)))) (eK (.int 0)) (callF prog (k + 1)) [.val (rdG l st ac), .val (.int (n : Int))] = .ok (.g (.int ((cnt st ac n 0 : Nat) : Int))) [.val (rdG l st ac), .val (.int (n : Int))] :=
    eBin_ok (eBin_ok (y := .g (.int (-1))) hc rfl rfl rfl hq) (y := .g (.int 0)) rfl rfl rfl (cv0 M.toMach n)
  show fin (sSeq (sRet _) sNil (callF prog (k + 1)) [.val (rdG l st ac), .val (.int (n : Int))]) = _
  rw [sSeq_e, sRet, hx]
  rfl
theorem require_from (k : Nat) {n : Nat} (hn : n ≤ 99) : callF prog (k + 3) 7 [.val (.int (n : Int)), .val (.int 0), .val (.int 99)] = .ok (.g .non) [.val (.int (n : Int)), .val (.int 0), .val (.int 99)] := by
  rw [call_at (k + 2) _ (rfl : prog[7]? = some ⟨3, 3, b_7⟩) rfl]
  have hf := is_from k (n : Int) 0 99
  have d1 : (decide ((0 : Int) ≤ (n : Int)) && decide ((n : Int) ≤ 99)) = true := by simp; omega
  rw [d1] at hf
  show fin (b_7 (callF prog (k + 2)) [.val (.int (n : Int)), .val (.int 0), .val (.int 99)]) = _
  simp [b_7, nameD, view, doCall, argsS, argS, lent, isMade, back, hf, truth, fin]
theorem require_len (k : Nat) {n : Nat} (hn : n ≤ 99) : callF prog (k + 4) 29 [.val (rdG l st ac), .val (.int (n : Int))] = .ok (.g .non) [.val (rdG l st ac), .val (.int (n : Int))] := by
  rw [call_at (k + 3) _ (rfl : prog[29]? = some ⟨2, 2, b_29⟩) rfl]
  have h1 := require_reader (l := l) (st := st) (ac := ac) (k + 2)
  have h2 := require_from k hn
  show fin (b_29 (callF prog (k + 3)) [.val (rdG l st ac), .val (.int (n : Int))]) = _
  simp [b_29, nameD, view, doCall, argsS, argS, lent, isMade, back, h1, h2, fin]
theorem word_count (k : Nat) (M : Good l st ac) {n : Nat} (hn : n ≤ 99) : ∃ e, callF prog (k + 5) 32 [.val (rdG l st ac), .val (.int (n : Int))] = .ok (.g (.int ((cnt st ac n 0 : Nat) : Int))) (.val (rdG l st ac) :: .val (.int (n : Int)) :: e) := by
  rw [call_at (k + 4) _ (rfl : prog[32]? = some ⟨2, 2, b_32⟩) rfl]
  have h1 := require_len (l := l) (st := st) (ac := ac) k hn
  obtain ⟨e, h2⟩ := count_in (k + 2) M hn
  refine ⟨[], ?_⟩
  show fin (b_32 (callF prog (k + 4)) [.val (rdG l st ac), .val (.int (n : Int))]) = _
  simp [b_32, nameD, view, doCall, argsS, argS, lent, isMade, back, h1, h2, retD, fin]
/-! ### _law_counted -/
abbrev wEnv (l : Nat) (st : List (List Nat)) (ac : List Nat) (n m : Nat) (x3 x5 x6 : S) : Env :=
  [.val (plG l st ac), .val (.int (n : Int)), .obj (.lst (gs (cv st ac m))), x3, .non, x5, x6]
def wIn : EV := (eBi .sum (aCons (eComp [6] (eBin .idx (eV 2) (eV 6)) (gNm 6) (iE (eV 5)) tYesT) aNil))
def wOut : EV := (eComp [5] wIn (gNm 5) (iE (eBin .idx (eV 0) (eK (.int 1)))) tYesT)
theorem win_ok (F : FF) (M : Mach l st) {n m s : Nat} {x3 : S} (hs : s < st.length) (hl : l ≤ 64) : wIn F (wEnv l st ac n m x3 (.val (nsG (rowOf st s))) .non) = .ok (.g (.int ((cnt st ac (m + 1) s : Nat) : Int))) (wEnv l st ac n m x3 (.val (nsG (rowOf st s))) .non) := by
  have hrl : (rowOf st s).length = l := M.rowl hs
  have hc := eComp_all (own := [6]) (el := eBin .idx (eV 2) (eV 6)) (t := gNm 6) (it := iE (eV 5)) (c := tYesT) (F := F) (o := none) (g := fun (x : Nat) => G.int (x : Int)) (h := fun t => .int ((cnt st ac m t : Nat) : Int)) (xs := rowOf st s)
    (e0 := wEnv l st ac n m x3 (.val (nsG (rowOf st s))) .non) (e := wEnv l st ac n m x3 (.val (nsG (rowOf st s))) .non) (eW := wEnv l st ac n m x3 (.val (nsG (rowOf st s))) .non) (e' := wEnv l st ac n m x3 (.val (nsG (rowOf st s))) .non) rfl rfl rfl (fun t ht => by
      have htl := st_lt M hs ht
      have q2 : Ev.b2 .idx (.lst (gs (cv st ac m))) (.int (t : Int)) = some (.g (.int ((cnt st ac m t : Nat) : Int))) := b2_at (by simp [gs, cv_at htl])
      exact compStep_yes (e1 := wEnv l st ac n m x3 (.val (nsG (rowOf st s))) (.val (.int (t : Int)))) (d := .g (.int ((cnt st ac m t : Nat) : Int))) (e2 := wEnv l st ac n m x3 (.val (nsG (rowOf st s))) (.val (.int (t : Int)))) rfl
        (eBin_ok (x := .sl 2) (y := .g (.int (t : Int))) (e1 := wEnv l st ac n m x3 (.val (nsG (rowOf st s))) (.val (.int (t : Int)))) rfl rfl rfl rfl q2) rfl) rfl (by omega)
  unfold wIn
  refine eBi_ok (ds := [.own (.lst ((rowOf st s).map fun t => .int ((cnt st ac m t : Nat) : Int)))]) (aCons_ok hc rfl) rfl ?_
  have := bi_sum ((rowOf st s).map (cnt st ac m))
  unfold gs at this
  rw [List.map_map] at this
  exact this
theorem gs_cv (m : Nat) : ((List.range st.length).map fun s => G.int ((cnt st ac m s : Nat) : Int)) = gs (cv st ac m) := by
  unfold gs cv
  rw [List.map_map]; rfl
theorem wout_ok (F : FF) (M : Mach l st) {n m : Nat} {x3 : S} (hl : l ≤ 64) (hn : st.length ≤ 512) : wOut F (wEnv l st ac n m x3 .non .non) = .ok (.own (.lst (gs (cv st ac (m + 1))))) (wEnv l st ac n m x3 .non .non) := by
  have hit : iE (eBin .idx (eV 0) (eK (.int 1))) F (wEnv l st ac n m x3 .non .non) = .ok ((List.range st.length).map fun s => nsG (rowOf st s), none) (wEnv l st ac n m x3 .non .non) := by
    have h1 : (List.range st.length).map (fun s => nsG (rowOf st s)) = st.map nsG := by
      conv => rhs; rw [st_range (st := st)]
      rw [List.map_map]; rfl
    have hb : eBin .idx (eV 0) (eK (.int 1)) F (wEnv l st ac n m x3 .non .non) = .ok (.g (stG st)) (wEnv l st ac n m x3 .non .non) := eBin_ok (x := .g (plG l st ac)) (y := .g (.int 1)) (e1 := wEnv l st ac n m x3 .non .non) rfl rfl rfl rfl rfl
    unfold iE
    rw [h1, hb]; rfl
  have hc := eComp_all (own := [5]) (el := wIn) (t := gNm 5) (c := tYesT) (h := fun s => .int ((cnt st ac (m + 1) s : Nat) : Int)) (eW := wEnv l st ac n m x3 .non .non) (e' := wEnv l st ac n m x3 .non .non) hit rfl rfl (fun s hs => by
      have hsl := List.mem_range.mp hs
      exact compStep_yes (e1 := wEnv l st ac n m x3 (.val (nsG (rowOf st s))) .non) rfl (win_ok F M hsl hl) rfl) rfl (by simp; omega)
  rw [gs_cv] at hc
  exact hc
def wBody2 : SV := (sSeq (sSet 2 wOut) sNil)
theorem w_loop (F : FF) (M : Mach l st) {n : Nat} (hl : l ≤ 64) (hn : st.length ≤ 512) : ∀ (d i : Nat) (x3 : S), Fr x3 → ∃ y3, forL (forStep (gNm 3) wBody2 F) (rangeG (i : Int) d) (wEnv l st ac n i x3 .non .non) = .nx (wEnv l st ac n (i + d) y3 .non .non)
  | 0, i, x3, h3 => ⟨x3, by simp [rangeG, forL]⟩
  | d + 1, i, x3, h3 => by
    obtain ⟨y3, e2⟩ := w_loop F M hl hn d (i + 1) (.val (.int (i : Int))) (.v _)
    refine ⟨y3, ?_⟩
    have ht : gNm 3 (.int (i : Int)) (wEnv l st ac n i x3 .non .non) = some (wEnv l st ac n i (.val (.int (i : Int))) .non .non) := by
      rcases h3 with rfl | ⟨g, rfl⟩ <;> rfl
    have hb : wBody2 F (wEnv l st ac n i (.val (.int (i : Int))) .non .non) = .nx (wEnv l st ac n (i + 1) (.val (.int (i : Int))) .non .non) := by
      unfold wBody2
      rw [sSeq_nx (sSet_ok (wout_ok F M hl hn) rfl)]; rfl
    show forL _ (.int (i : Int) :: rangeG ((i : Int) + 1) d) _ = _
    rw [forL_nx ((forStep_nx ht).trans hb)]
    have : ((i : Int) + 1) = ((i + 1 : Nat) : Int) := by omega
    rw [this, e2, show i + 1 + d = i + (d + 1) by omega]
def wFirst : EV := (eComp [4] (eBi .int (aCons (eBin .in_ (eV 4) (eBin .idx (eV 0) (eK (.int 2)))) aNil)) (gNm 4) (iR1 (eBi .len (aCons (eBin .idx (eV 0) (eK (.int 1))) aNil))) tYesT)
theorem wfirst_ok (F : FF) {n : Nat} (hn : st.length ≤ 512) : wFirst F [.val (plG l st ac), .val (.int (n : Int)), .non, .non, .non, .non, .non] = .ok (.own (.lst (gs (cv st ac 0)))) [.val (plG l st ac), .val (.int (n : Int)), .non, .non, .non, .non, .non] := by
  have hit : iR1 (eBi .len (aCons (eBin .idx (eV 0) (eK (.int 1))) aNil)) F [.val (plG l st ac), .val (.int (n : Int)), .non, .non, .non, .non, .non] = .ok ((List.range st.length).map fun (x : Nat) => .int (x : Int), none) [.val (plG l st ac), .val (.int (n : Int)), .non, .non, .non, .non, .non] := by
    have h0 : eBin .idx (eV 0) (eK (.int 1)) F [.val (plG l st ac), .val (.int (n : Int)), .non, .non, .non, .non, .non] = .ok (.g (stG st)) [.val (plG l st ac), .val (.int (n : Int)), .non, .non, .non, .non, .non] := eBin_ok (x := .g (plG l st ac)) (y := .g (.int 1)) (e1 := [.val (plG l st ac), .val (.int (n : Int)), .non, .non, .non, .non, .non]) rfl rfl rfl rfl rfl
    have hb : eBi .len (aCons (eBin .idx (eV 0) (eK (.int 1))) aNil) F [.val (plG l st ac), .val (.int (n : Int)), .non, .non, .non, .non, .non] = .ok (.g (.int (st.length : Int))) [.val (plG l st ac), .val (.int (n : Int)), .non, .non, .non, .non, .non] := eBi_ok (ds := [.g (stG st)]) (e1 := [.val (plG l st ac), .val (.int (n : Int)), .non, .non, .non, .non, .non]) (aCons_ok h0 rfl) rfl len_stG
    rw [iR1_eq hb, ifOk (okR_nat (by omega))]
    show R.ok (rangeG 0 _, none) _ = _
    rw [Int.toNat_natCast, range_ns]
  have hc := eComp_all (own := [4]) (el := eBi .int (aCons (eBin .in_ (eV 4) (eBin .idx (eV 0) (eK (.int 2)))) aNil)) (t := gNm 4) (c := tYesT) (h := fun s => .int ((cnt st ac 0 s : Nat) : Int)) (eW := [.val (plG l st ac), .val (.int (n : Int)), .non, .non, .non, .non, .non]) (e' := [.val (plG l st ac), .val (.int (n : Int)), .non, .non, .non, .non, .non]) hit rfl rfl (fun s hs => by
      exact compStep_yes (e1 := [.val (plG l st ac), .val (.int (n : Int)), .non, .non, .val (.int (s : Int)), .non, .non]) rfl
        (eBi_ok (ds := [.g (.bl (decide (s ∈ ac)))]) (e1 := [.val (plG l st ac), .val (.int (n : Int)), .non, .non, .val (.int (s : Int)), .non, .non]) (aCons_ok (eBin_ok (x := .g (.int (s : Int))) (y := .g (nsG ac)) (e1 := [.val (plG l st ac), .val (.int (n : Int)), .non, .non, .val (.int (s : Int)), .non, .non]) rfl (eBin_ok (x := .g (plG l st ac)) (y := .g (.int 2)) (e1 := [.val (plG l st ac), .val (.int (n : Int)), .non, .non, .val (.int (s : Int)), .non, .non]) rfl rfl rfl rfl rfl) rfl rfl (in_ns s ac)) rfl) rfl (bi_int_in (st := st) s)) rfl) rfl (by simp; omega)
  rw [gs_cv] at hc
  exact hc
theorem counted (k : Nat) (M : Good l st ac) {n : Nat} (hn : n ≤ 99) : ∃ e, callF prog (k + 1) 40 [.val (plG l st ac), .val (.int (n : Int))] = .ok (.g (.int ((cnt st ac n 0 : Nat) : Int))) (.val (plG l st ac) :: .val (.int (n : Int)) :: e) := by
  rw [call_at k _ (rfl : prog[40]? = some ⟨2, 7, b_40⟩) rfl]
  have n512 := M.n512
  have l64 := M.l64
  obtain ⟨y3, h⟩ := w_loop (ac := ac) (callF prog k) M.toMach (n := n) l64 n512 n 0 .non .n
  refine ⟨[.obj (.lst (gs (cv st ac n))), y3, .non, .non, .non], ?_⟩
  have h1 : sSet 2 wFirst (callF prog k) [.val (plG l st ac), .val (.int (n : Int)), .non, .non, .non, .non, .non] = .nx (wEnv l st ac n 0 .non .non .non) := sSet_ok (wfirst_ok _ n512) rfl
  have hit : iR1 (eV 1) (callF prog k) (wEnv l st ac n 0 .non .non .non) = .ok (rangeG 0 n, none) (wEnv l st ac n 0 .non .non .non) := by
    rw [iR1_eq (e1 := wEnv l st ac n 0 .non .non .non) (m := (n : Int)) rfl, ifOk (okR_nat (by omega))]
    simp
  have h : forL (forStep (gNm 3) wBody2 (callF prog k)) (rangeG 0 n) (wEnv l st ac n 0 .non .non .non) = _ := h
  have h2 : sFor (gNm 3) (iR1 (eV 1)) wBody2 (callF prog k) (wEnv l st ac n 0 .non .non .non) = .nx (wEnv l st ac n n y3 .non .non) := by
    rw [sFor_v hit, h, Nat.zero_add]; rfl
  have hq : Ev.b2 .idx (.lst (gs (cv st ac n))) (.int 0) = some (.g (.int ((cnt st ac n 0 : Nat) : Int))) := b2_at (i := 0) (by simp [gs, cv_at M.toMach.n1])
  have h3 : eBin .idx (eV 2) (eK (.int 0)) (callF prog k) (wEnv l st ac n n y3 .non .non) = .ok (.g (.int ((cnt st ac n 0 : Nat) : Int))) (wEnv l st ac n n y3 .non .non) := eBin_ok (x := .sl 2) (y := .g (.int 0)) (e1 := wEnv l st ac n n y3 .non .non) rfl rfl rfl rfl hq
  show fin (sSeq (sSet 2 wFirst) (sSeq (sFor (gNm 3) (iR1 (eV 1)) wBody2) (sSeq (sRet (eBin .idx (eV 2) (eK (.int 0)))) sNil)) (callF prog k) [.val (plG l st ac), .val (.int (n : Int)), .non, .non, .non, .non, .non]) = _
  rw [sSeq_nx h1, sSeq_nx h2, sSeq_e, sRet, h3]
  rfl
end K25

end
section
set_option linter.all false
set_option Elab.async false
set_option maxRecDepth 100000
set_option maxHeartbeats 4000000
namespace K25
open Ev
variable {l : Nat} {st : List (List Nat)} {ac : List Nat}
/-! ### all words of a length: plain -/
abbrev WS := List (List Nat × Nat)
def en : List Nat → Nat → List (Nat × Nat)
  | [], _ => []
  | t :: r, i => (i, t) :: en r (i + 1)
theorem en_len : ∀ (r : List Nat) (i : Nat), (en r i).length = r.length
  | [], _ => rfl
  | t :: r, i => by simp [en, en_len r]
theorem en_mem : ∀ {r : List Nat} {i : Nat} {q : Nat × Nat}, q ∈ en r i → q.2 ∈ r
  | t :: r, i, q, h => by
    rcases List.mem_cons.mp h with rfl | h
    · exact List.mem_cons_self ..
    · exact List.mem_cons_of_mem _ (en_mem h)
theorem en_snd : ∀ (r : List Nat) (i : Nat), (en r i).map (·.2) = r
  | [], _ => rfl
  | t :: r, i => by simp [en, en_snd r]
theorem enumG_en : ∀ (r : List Nat) (i : Nat), enumG (i : Int) (gs r) = (en r i).map fun q => .tup [.int (q.1 : Int), .int (q.2 : Int)]
  | [], _ => rfl
  | t :: r, i => by
    show G.tup [.int (i : Int), .int (t : Int)] :: enumG ((i : Int) + 1) (gs r) = _
    rw [show ((i : Int) + 1) = ((i + 1 : Nat) : Int) by omega, enumG_en r (i + 1)]
    rfl
def ext (st : List (List Nat)) (q : List Nat × Nat) : WS := (en (rowOf st q.2) 0).map fun p => (q.1 ++ [p.1], p.2)
def Lw (st : List (List Nat)) : Nat → WS
  | 0 => [([], 0)]
  | m + 1 => (Lw st m).flatMap (ext st)
theorem ext_len (M : Mach l st) {q : List Nat × Nat} (h : q.2 < st.length) : (ext st q).length = l := by
  unfold ext
  rw [List.length_map, en_len]
  exact M.rowl h
theorem Lw_inv (M : Mach l st) : ∀ m, ∀ q ∈ Lw st m, q.2 < st.length ∧ q.1.length = m
  | 0, q, h => by simp [Lw] at h; subst h; exact ⟨M.n1, rfl⟩
  | m + 1, q, h => by
    obtain ⟨p, hp, hq⟩ := List.mem_flatMap.mp h
    obtain ⟨h1, h2⟩ := Lw_inv M m p hp
    unfold ext at hq
    obtain ⟨a, ha, rfl⟩ := List.mem_map.mp hq
    exact ⟨st_lt M h1 (en_mem ha), by simp [h2]⟩
theorem flat_len {α β : Type} {f : α → List β} {n : Nat} : ∀ {xs : List α}, (∀ x ∈ xs, (f x).length = n) → (xs.flatMap f).length = xs.length * n
  | [], _ => by simp
  | x :: xs, h => by
    rw [List.flatMap_cons, List.length_append, flat_len fun y hy => h y (List.mem_cons_of_mem _ hy), h x (List.mem_cons_self ..), List.length_cons, Nat.succ_mul]
    omega
theorem Lw_len (M : Mach l st) : ∀ m, (Lw st m).length = l ^ m
  | 0 => rfl
  | m + 1 => by
    show ((Lw st m).flatMap (ext st)).length = _
    rw [flat_len fun q hq => ext_len M (Lw_inv M m q hq).1, Lw_len M m, Nat.pow_succ]
theorem Lw_le (M : Mach l st) (hl : l ≤ 4) {m : Nat} (hm : m ≤ 6) : (Lw st m).length ≤ 4096 := by
  rw [Lw_len M]
  calc l ^ m ≤ 4 ^ m := Nat.pow_le_pow_left hl m
    _ ≤ 4 ^ 6 := Nat.pow_le_pow_right (by omega) hm
abbrev pG (Q : WS) : List G := Q.map fun q => .tup [nsG q.1, .int (q.2 : Int)]
/-! ### _law_listed -/
theorem call_b {n np ns : Nat} {b : SV} {e0 : Env} (k : Nat) (args : List S) (h : prog[n]? = some ⟨np, ns, b⟩) (hl : args.length = np) (he : args ++ List.replicate (ns - np) .non = e0) : callF prog (k + 1) n args = fin (b (callF prog k) e0) := by
  rw [call_at k args h hl]
  show fin (b (callF prog k) (args ++ List.replicate (ns - np) .non)) = _
  rw [he]
abbrev lEnv (l : Nat) (st : List (List Nat)) (ac : List Nat) (n : Nat) (x2 x3 : S) (A : WS) (x5 x6 : S) : Env :=
  [.val (plG l st ac), .val (.int (n : Int)), x2, x3, .obj (.lst (pG A)), x5, x6, .non, .non]
def xComp : EV := (eComp [7, 8] (eTup (aCons (eBin .add (eV 5) (eTup (aCons (eV 7) aNil))) (aCons (eV 8) aNil))) (gTp [(gNm 7), (gNm 8)]) (iN (eBin .idx (eBin .idx (eV 0) (eK (.int 1))) (eV 6))) tYesT)
def xBody : SV := (sSeq (sExp (eMeth 4 .extend (aCons xComp aNil))) sNil)
theorem b2_addw {w : List Nat} {a : Nat} (hw : w.length ≤ 1000) : Ev.b2 .add (nsG w) (.tup [.int (a : Int)]) = some (.g (nsG (w ++ [a]))) := by
  unfold nsG
  have h1 : (w.map fun (x : Nat) => G.int (x : Int)).length + [G.int (a : Int)].length ≤ 100000 := by simp; omega
  simp only [Ev.b2, h1, if_true]
  simp
theorem xcomp_ok (F : FF) (M : Good l st ac) {n : Nat} {x2 x3 : S} {A : WS} {q : List Nat × Nat} (hq : q.2 < st.length) (hw : q.1.length ≤ 1000) : xComp F (lEnv l st ac n x2 x3 A (.val (nsG q.1)) (.val (.int (q.2 : Int)))) = .ok (.own (.lst (pG (ext st q)))) (lEnv l st ac n x2 x3 A (.val (nsG q.1)) (.val (.int (q.2 : Int)))) := by
  have l64 := M.l64
  have hrl : (rowOf st q.2).length = l := M.toMach.rowl hq
  have hit : iN (eBin .idx (eBin .idx (eV 0) (eK (.int 1))) (eV 6)) F (lEnv l st ac n x2 x3 A (.val (nsG q.1)) (.val (.int (q.2 : Int)))) = .ok ((en (rowOf st q.2) 0).map (fun q => .tup [.int (q.1 : Int), .int (q.2 : Int)]), none) (lEnv l st ac n x2 x3 A (.val (nsG q.1)) (.val (.int (q.2 : Int)))) := by
    have hb : eBin .idx (eBin .idx (eV 0) (eK (.int 1))) (eV 6) F (lEnv l st ac n x2 x3 A (.val (nsG q.1)) (.val (.int (q.2 : Int)))) = .ok (.g (nsG (rowOf st q.2))) (lEnv l st ac n x2 x3 A (.val (nsG q.1)) (.val (.int (q.2 : Int)))) :=
      eBin_ok (eBin_ok (x := .g (plG l st ac)) (y := .g (.int 1)) (gy := .int 1) (d := .g (stG st)) (e1 := lEnv l st ac n x2 x3 A (.val (nsG q.1)) (.val (.int (q.2 : Int)))) rfl rfl rfl rfl rfl) (y := .g (.int (q.2 : Int))) rfl rfl rfl (b2_stG hq)
    unfold iN
    rw [hb]
    show R.ok (enumG ((0 : Nat) : Int) (gs (rowOf st q.2)), none) _ = _
    rw [enumG_en]
  have hc := eComp_all (own := [7, 8]) (el := eTup (aCons (eBin .add (eV 5) (eTup (aCons (eV 7) aNil))) (aCons (eV 8) aNil))) (t := gTp [(gNm 7), (gNm 8)]) (c := tYesT) (h := fun p => .tup [nsG (q.1 ++ [p.1]), .int (p.2 : Int)]) (eW := lEnv l st ac n x2 x3 A (.val (nsG q.1)) (.val (.int (q.2 : Int)))) (e' := lEnv l st ac n x2 x3 A (.val (nsG q.1)) (.val (.int (q.2 : Int)))) hit rfl rfl (fun p hp => by
    have hadd : eBin .add (eV 5) (eTup (aCons (eV 7) aNil)) F [.val (plG l st ac), .val (.int (n : Int)), x2, x3, .obj (.lst (pG A)), .val (nsG q.1), .val (.int (q.2 : Int)), .val (.int (p.1 : Int)), .val (.int (p.2 : Int))] = .ok (.g (nsG (q.1 ++ [p.1]))) [.val (plG l st ac), .val (.int (n : Int)), x2, x3, .obj (.lst (pG A)), .val (nsG q.1), .val (.int (q.2 : Int)), .val (.int (p.1 : Int)), .val (.int (p.2 : Int))] :=
      eBin_ok (x := .g (nsG q.1)) (y := .g (.tup [.int (p.1 : Int)])) (e1 := [.val (plG l st ac), .val (.int (n : Int)), x2, x3, .obj (.lst (pG A)), .val (nsG q.1), .val (.int (q.2 : Int)), .val (.int (p.1 : Int)), .val (.int (p.2 : Int))]) rfl rfl rfl rfl (b2_addw hw)
    have h8 : aCons (eV 8) aNil F [.val (plG l st ac), .val (.int (n : Int)), x2, x3, .obj (.lst (pG A)), .val (nsG q.1), .val (.int (q.2 : Int)), .val (.int (p.1 : Int)), .val (.int (p.2 : Int))] = .ok [.g (.int (p.2 : Int))] [.val (plG l st ac), .val (.int (n : Int)), x2, x3, .obj (.lst (pG A)), .val (nsG q.1), .val (.int (q.2 : Int)), .val (.int (p.1 : Int)), .val (.int (p.2 : Int))] := rfl
    have hel : eTup (aCons (eBin .add (eV 5) (eTup (aCons (eV 7) aNil))) (aCons (eV 8) aNil)) F [.val (plG l st ac), .val (.int (n : Int)), x2, x3, .obj (.lst (pG A)), .val (nsG q.1), .val (.int (q.2 : Int)), .val (.int (p.1 : Int)), .val (.int (p.2 : Int))] = .ok (.g (.tup [nsG (q.1 ++ [p.1]), .int (p.2 : Int)])) [.val (plG l st ac), .val (.int (n : Int)), x2, x3, .obj (.lst (pG A)), .val (nsG q.1), .val (.int (q.2 : Int)), .val (.int (p.1 : Int)), .val (.int (p.2 : Int))] :=
      eTup_ok (ds := [.g (nsG (q.1 ++ [p.1])), .g (.int (p.2 : Int))]) (gs := [nsG (q.1 ++ [p.1]), .int (p.2 : Int)]) (aCons_ok hadd h8) rfl (by simp)
    exact compStep_yes (e1 := [.val (plG l st ac), .val (.int (n : Int)), x2, x3, .obj (.lst (pG A)), .val (nsG q.1), .val (.int (q.2 : Int)), .val (.int (p.1 : Int)), .val (.int (p.2 : Int))]) rfl hel rfl) rfl (by rw [en_len]; omega)
  have : (en (rowOf st q.2) 0).map (fun p => G.tup [nsG (q.1 ++ [p.1]), .int (p.2 : Int)]) = pG (ext st q) := by
    unfold ext pG
    rw [List.map_map]; rfl
  rw [this] at hc
  exact hc
theorem x_loop (F : FF) (M : Good l st ac) {n : Nat} {x2 x3 : S} : ∀ (Q A : WS) (x5 x6 : S), Fr x5 → Fr x6 → (∀ q ∈ Q, q.2 < st.length ∧ q.1.length ≤ 1000) → (A ++ Q.flatMap (ext st)).length < 100000 →
    ∃ y5 y6, Fr y5 ∧ Fr y6 ∧ forL (forStep (gTp [(gNm 5), (gNm 6)]) xBody F) (pG Q) (lEnv l st ac n x2 x3 A x5 x6) = .nx (lEnv l st ac n x2 x3 (A ++ Q.flatMap (ext st)) y5 y6)
  | [], A, x5, x6, h5, h6, hQ, hn => ⟨x5, x6, h5, h6, by simp [forL]⟩
  | q :: Q, A, x5, x6, h5, h6, hQ, hn => by
    obtain ⟨h1, h2⟩ := hQ q (List.mem_cons_self ..)
    rw [List.flatMap_cons, ← List.append_assoc] at hn
    obtain ⟨y5, y6, f5, f6, e2⟩ := x_loop F M (n := n) (x2 := x2) (x3 := x3) Q (A ++ ext st q) (.val (nsG q.1)) (.val (.int (q.2 : Int))) (.v _) (.v _) (fun p hp => hQ p (List.mem_cons_of_mem _ hp)) hn
    refine ⟨y5, y6, f5, f6, ?_⟩
    have ht : gTp [(gNm 5), (gNm 6)] (.tup [nsG q.1, .int (q.2 : Int)]) (lEnv l st ac n x2 x3 A x5 x6) = some (lEnv l st ac n x2 x3 A (.val (nsG q.1)) (.val (.int (q.2 : Int)))) := by
      rcases h5 with rfl | ⟨g, rfl⟩ <;> rcases h6 with rfl | ⟨g', rfl⟩ <;> rfl
    have hm : eMeth 4 .extend (aCons xComp aNil) F (lEnv l st ac n x2 x3 A (.val (nsG q.1)) (.val (.int (q.2 : Int)))) = .ok (.g .non) (lEnv l st ac n x2 x3 (A ++ ext st q) (.val (nsG q.1)) (.val (.int (q.2 : Int)))) := by
      have := eMeth_ext (F := F) (i := 4) (as := aCons xComp aNil) (e := lEnv l st ac n x2 x3 A (.val (nsG q.1)) (.val (.int (q.2 : Int)))) (xs := pG A) (ys := pG (ext st q)) rfl (aCons_ok (xcomp_ok F M h1 h2) rfl) (by rw [List.length_append] at hn; simp at hn ⊢; omega)
      rw [this, ← List.map_append]
      rfl
    have hb : xBody F (lEnv l st ac n x2 x3 A (.val (nsG q.1)) (.val (.int (q.2 : Int)))) = .nx (lEnv l st ac n x2 x3 (A ++ ext st q) (.val (nsG q.1)) (.val (.int (q.2 : Int)))) := by
      unfold xBody
      rw [sSeq_nx (sExp_ok hm)]; rfl
    show forL _ (.tup [nsG q.1, .int (q.2 : Int)] :: pG Q) _ = _
    rw [forL_nx ((forStep_nx ht).trans hb), e2, List.flatMap_cons, List.append_assoc]
def Vl (g : G) (s : S) : Prop := s = .obj g ∨ s = .val g
abbrev kEnv (l : Nat) (st : List (List Nat)) (ac : List Nat) (n : Nat) (x2 x3 x4 x5 x6 : S) : Env :=
  [.val (plG l st ac), .val (.int (n : Int)), x2, x3, x4, x5, x6, .non, .non]
def yBody : SV := (sSeq (sSet 4 (eLst aNil)) (sSeq (sFor (gTp [(gNm 5), (gNm 6)]) (iE (eV 2)) xBody) (sSeq (sSet 2 (eV 4)) sNil)))
theorem y_step (F : FF) (M : Good l st ac) {n m : Nat} {x2 x3 x4 x5 x6 : S} (hm : m ≤ 6) (hl : l ≤ 4) (hn : (Lw st (m + 1)).length < 100000) (h2 : Vl (.lst (pG (Lw st m))) x2) (h4 : Fr x4) (h5 : Fr x5) (h6 : Fr x6) :
    ∃ y2 y4 y5 y6, Vl (.lst (pG (Lw st (m + 1)))) y2 ∧ Fr y4 ∧ Fr y5 ∧ Fr y6 ∧ yBody F (kEnv l st ac n x2 x3 x4 x5 x6) = .nx (kEnv l st ac n y2 x3 y4 y5 y6) := by
  have hs4 : sSet 4 (eLst aNil) F (kEnv l st ac n x2 x3 x4 x5 x6) = .nx (lEnv l st ac n x2 x3 [] x5 x6) := by
    rcases h4 with rfl | ⟨g, rfl⟩ <;> rfl
  have hI : ∀ q ∈ Lw st m, q.2 < st.length ∧ q.1.length ≤ 1000 := fun q hq => by
    obtain ⟨h1, h2⟩ := Lw_inv M.toMach m q hq
    exact ⟨h1, by omega⟩
  rcases h2 with rfl | rfl
  · obtain ⟨y5, y6, f5, f6, e1⟩ := x_loop F M (n := n) (x2 := .lck false (.lst (pG (Lw st m)))) (x3 := x3) (Lw st m) [] x5 x6 h5 h6 hI hn
    refine ⟨.val (.lst (pG (Lw st (m + 1)))), .val (.lst (pG (Lw st (m + 1)))), y5, y6, .inr rfl, .v _, f5, f6, ?_⟩
    have hF : sFor (gTp [(gNm 5), (gNm 6)]) (iE (eV 2)) xBody F (lEnv l st ac n (.obj (.lst (pG (Lw st m)))) x3 [] x5 x6) = .nx (lEnv l st ac n (.obj (.lst (pG (Lw st m)))) x3 (Lw st (m + 1)) y5 y6) := by
      rw [sFor_ok (gs := pG (Lw st m)) (o := some 2) (e1 := lEnv l st ac n (.obj (.lst (pG (Lw st m)))) x3 [] x5 x6) rfl]
      have e1 : forL (forStep (gTp [(gNm 5), (gNm 6)]) xBody F) (pG (Lw st m)) (lockO (some 2) (lEnv l st ac n (.obj (.lst (pG (Lw st m)))) x3 [] x5 x6)) = _ := e1
      rw [e1]; rfl
    unfold yBody
    rw [sSeq_nx hs4, sSeq_nx hF]
    rfl
  · obtain ⟨y5, y6, f5, f6, e1⟩ := x_loop F M (n := n) (x2 := .val (.lst (pG (Lw st m)))) (x3 := x3) (Lw st m) [] x5 x6 h5 h6 hI hn
    refine ⟨.val (.lst (pG (Lw st (m + 1)))), .val (.lst (pG (Lw st (m + 1)))), y5, y6, .inr rfl, .v _, f5, f6, ?_⟩
    have hF : sFor (gTp [(gNm 5), (gNm 6)]) (iE (eV 2)) xBody F (lEnv l st ac n (.val (.lst (pG (Lw st m)))) x3 [] x5 x6) = .nx (lEnv l st ac n (.val (.lst (pG (Lw st m)))) x3 (Lw st (m + 1)) y5 y6) := by
      rw [sFor_ok (gs := pG (Lw st m)) (o := none) (e1 := lEnv l st ac n (.val (.lst (pG (Lw st m)))) x3 [] x5 x6) rfl]
      have e1 : forL (forStep (gTp [(gNm 5), (gNm 6)]) xBody F) (pG (Lw st m)) (lockO none (lEnv l st ac n (.val (.lst (pG (Lw st m)))) x3 [] x5 x6)) = _ := e1
      rw [e1]; rfl
    unfold yBody
    rw [sSeq_nx hs4, sSeq_nx hF]
    rfl
theorem y_loop (F : FF) (M : Good l st ac) (hl : l ≤ 4) {n : Nat} : ∀ (d i : Nat) (x2 x3 x4 x5 x6 : S), i + d ≤ 6 → Vl (.lst (pG (Lw st i))) x2 → Fr x3 → Fr x4 → Fr x5 → Fr x6 →
    ∃ y2 y3 y4 y5 y6, Vl (.lst (pG (Lw st (i + d)))) y2 ∧ Fr y5 ∧ Fr y6 ∧ forL (forStep (gNm 3) yBody F) (rangeG (i : Int) d) (kEnv l st ac n x2 x3 x4 x5 x6) = .nx (kEnv l st ac n y2 y3 y4 y5 y6)
  | 0, i, x2, x3, x4, x5, x6, hi, h2, h3, h4, h5, h6 => ⟨x2, x3, x4, x5, x6, h2, h5, h6, by simp [rangeG, forL]⟩
  | d + 1, i, x2, x3, x4, x5, x6, hi, h2, h3, h4, h5, h6 => by
    have hle := Lw_le M.toMach hl (m := i + 1) (by omega)
    obtain ⟨y2, y4, y5, y6, g2, g4, g5, g6, e1⟩ := y_step F M (n := n) (m := i) (x3 := .val (.int (i : Int))) (by omega) hl (by omega) h2 h4 h5 h6
    obtain ⟨z2, z3, z4, z5, z6, k2, k5, k6, e2⟩ := y_loop F M hl (n := n) d (i + 1) y2 (.val (.int (i : Int))) y4 y5 y6 (by omega) g2 (.v _) g4 g5 g6
    refine ⟨z2, z3, z4, z5, z6, by rw [show i + (d + 1) = i + 1 + d by omega]; exact k2, k5, k6, ?_⟩
    have ht : gNm 3 (.int (i : Int)) (kEnv l st ac n x2 x3 x4 x5 x6) = some (kEnv l st ac n x2 (.val (.int (i : Int))) x4 x5 x6) := by
      rcases h3 with rfl | ⟨g, rfl⟩ <;> rfl
    show forL _ (.int (i : Int) :: rangeG ((i : Int) + 1) d) _ = _
    rw [forL_nx ((forStep_nx ht).trans e1)]
    have : ((i : Int) + 1) = ((i + 1 : Nat) : Int) := by omega
    rw [this, e2]
/-- the words of length n that are taken -/
def Tw (st : List (List Nat)) (ac : List Nat) (n : Nat) : List (List Nat) := ((Lw st n).filter fun q => decide (q.2 ∈ ac)).map (·.1)
def twG (st : List (List Nat)) (ac : List Nat) (n : Nat) : G := .tup ((Tw st ac n).map nsG)
theorem listed (k : Nat) (M : Good l st ac) (hl : l ≤ 4) {n : Nat} (hn : n ≤ 6) : ∃ e, callF prog (k + 1) 41 [.val (plG l st ac), .val (.int (n : Int))] = .ok (.g (twG st ac n)) (.val (plG l st ac) :: .val (.int (n : Int)) :: e) := by
  rw [call_b k _ (rfl : prog[41]? = some ⟨2, 9, b_41⟩) rfl (rfl : _ = ([.val (plG l st ac), .val (.int (n : Int)), .non, .non, .non, .non, .non, .non, .non] : Env))]
  have hle := Lw_le M.toMach hl hn
  obtain ⟨y2, y3, y4, y5, y6, g2, g5, g6, h⟩ := y_loop (callF prog k) M hl (n := n) n 0 (.obj (.lst (pG (Lw st 0)))) .non .non .non .non (by omega) (.inl rfl) .n .n .n .n
  rw [Nat.zero_add] at g2
  refine ⟨[y2, y3, y4, y5, y6, .non, .non], ?_⟩
  have h1 : sSet 2 (eLst (aCons (eTup (aCons (eTup aNil) (aCons (eK (.int 0)) aNil))) aNil)) (callF prog k) [.val (plG l st ac), .val (.int (n : Int)), .non, .non, .non, .non, .non, .non, .non] = .nx (kEnv l st ac n (.obj (.lst (pG (Lw st 0)))) .non .non .non .non) := rfl
  have hit : iR1 (eV 1) (callF prog k) (kEnv l st ac n (.obj (.lst (pG (Lw st 0)))) .non .non .non .non) = .ok (rangeG 0 n, none) (kEnv l st ac n (.obj (.lst (pG (Lw st 0)))) .non .non .non .non) := by
    rw [iR1_eq (e1 := kEnv l st ac n (.obj (.lst (pG (Lw st 0)))) .non .non .non .non) (m := (n : Int)) rfl, ifOk (okR_nat (by omega))]
    simp
  have h : forL (forStep (gNm 3) yBody (callF prog k)) (rangeG 0 n) (kEnv l st ac n (.obj (.lst (pG (Lw st 0)))) .non .non .non .non) = _ := h
  have h2 : sFor (gNm 3) (iR1 (eV 1)) yBody (callF prog k) (kEnv l st ac n (.obj (.lst (pG (Lw st 0)))) .non .non .non .non) = .nx (kEnv l st ac n y2 y3 y4 y5 y6) := by
    rw [sFor_v hit, h]; rfl
  have hstep : ∀ x2 : S, ∀ q ∈ Lw st n, compStep [5, 6] (eV 5) (gTp [(gNm 5), (gNm 6)]) (tV (eBin .in_ (eV 6) (eBin .idx (eV 0) (eK (.int 2))))) (callF prog k) (.tup [nsG q.1, .int (q.2 : Int)]) (kEnv l st ac n x2 y3 y4 .non .non) = .ok (if decide (q.2 ∈ ac) then some (nsG q.1) else none) (kEnv l st ac n x2 y3 y4 .non .non) := fun x2 q _ => by
    refine (compStep_if (e1 := kEnv l st ac n x2 y3 y4 (.val (nsG q.1)) (.val (.int (q.2 : Int)))) (e2 := kEnv l st ac n x2 y3 y4 (.val (nsG q.1)) (.val (.int (q.2 : Int)))) (e3 := kEnv l st ac n x2 y3 y4 (.val (nsG q.1)) (.val (.int (q.2 : Int)))) (e4 := kEnv l st ac n x2 y3 y4 (.val (nsG q.1)) (.val (.int (q.2 : Int)))) (g := nsG q.1) (d := .g (nsG q.1)) (b := decide (q.2 ∈ ac)) rfl ?_ rfl rfl rfl).trans rfl
    exact tV_ok (eBin_ok (x := .g (.int (q.2 : Int))) (y := .g (nsG ac)) (e1 := kEnv l st ac n x2 y3 y4 (.val (nsG q.1)) (.val (.int (q.2 : Int)))) rfl (eBin_ok (x := .g (plG l st ac)) (y := .g (.int 2)) (e1 := kEnv l st ac n x2 y3 y4 (.val (nsG q.1)) (.val (.int (q.2 : Int)))) rfl rfl rfl rfl rfl) rfl rfl (in_ns q.2 ac)) rfl rfl
  have h5 : (!isLck y5) = true := by rcases g5 with rfl | ⟨g, rfl⟩ <;> rfl
  have h6 : (!isLck y6) = true := by rcases g6 with rfl | ⟨g, rfl⟩ <;> rfl
  have h3 : eComp [5, 6] (eV 5) (gTp [(gNm 5), (gNm 6)]) (iE (eV 2)) (tV (eBin .in_ (eV 6) (eBin .idx (eV 0) (eK (.int 2))))) (callF prog k) (kEnv l st ac n y2 y3 y4 y5 y6) = .ok (.own (.lst (((Lw st n).filter fun q => decide (q.2 ∈ ac)).map fun q => nsG q.1))) (kEnv l st ac n y2 y3 y4 y5 y6) := by
    rcases g2 with rfl | rfl
    · exact eComp_fm (o := some 2) (e := kEnv l st ac n (.obj (.lst (pG (Lw st n)))) y3 y4 y5 y6) rfl (by show ((!isLck y5) && ((!isLck y6) && true)) = true; rw [h5, h6]; rfl) rfl (hstep (.lck false (.lst (pG (Lw st n))))) rfl (by omega)
    · exact eComp_fm (o := none) (e := kEnv l st ac n (.val (.lst (pG (Lw st n)))) y3 y4 y5 y6) rfl (by show ((!isLck y5) && ((!isLck y6) && true)) = true; rw [h5, h6]; rfl) rfl (hstep (.val (.lst (pG (Lw st n))))) rfl (by omega)
  have h4 : eBi .tuple (aCons (eComp [5, 6] (eV 5) (gTp [(gNm 5), (gNm 6)]) (iE (eV 2)) (tV (eBin .in_ (eV 6) (eBin .idx (eV 0) (eK (.int 2)))))) aNil) (callF prog k) (kEnv l st ac n y2 y3 y4 y5 y6) = .ok (.g (twG st ac n)) (kEnv l st ac n y2 y3 y4 y5 y6) := by
    refine eBi_ok (ds := [.own (.lst (((Lw st n).filter fun q => decide (q.2 ∈ ac)).map fun q => nsG q.1))]) (aCons_ok h3 rfl) rfl ?_
    show some (D.g (.tup _)) = some (D.g (twG st ac n))
    unfold twG Tw
    rw [List.map_map]; rfl
  generalize twG st ac n = g at h4 ⊢
  have hb : b_41 = sSeq (sSet 2 (eLst (aCons (eTup (aCons (eTup aNil) (aCons (eK (.int 0)) aNil))) aNil))) (sSeq (sFor (gNm 3) (iR1 (eV 1)) yBody) (sSeq (sRet (eBi .tuple (aCons (eComp [5, 6] (eV 5) (gTp [(gNm 5), (gNm 6)]) (iE (eV 2)) (tV (eBin .in_ (eV 6) (eBin .idx (eV 0) (eK (.int 2)))))) aNil))) sNil)) := rfl
  rw [hb, sSeq_nx h1, sSeq_nx h2, sSeq_e, sRet, h4]
  rfl
end K25

end
section
set_option linter.all false
set_option Elab.async false
set_option maxRecDepth 100000
set_option maxHeartbeats 4000000
namespace K25
open Ev
variable {l : Nat} {st : List (List Nat)} {ac : List Nat}
/-! ### longer_words, words: plain -/
def ex (st : List (List Nat)) (ac : List Nat) (m : Nat) (q : List Nat × Nat) : WS := (ext st q).filter fun p => decide (0 < cnt st ac m p.2)
def Ww (st : List (List Nat)) (ac : List Nat) (n t : Nat) : WS := (Lw st t).filter fun q => decide (0 < cnt st ac (n - t) q.2)
theorem flat_filt {α β : Type} {p : α → Bool} {f : α → List β} : ∀ {xs : List α}, (∀ x ∈ xs, p x = false → f x = []) → (xs.filter p).flatMap f = xs.flatMap f
  | [], _ => rfl
  | x :: xs, h => by
    have ih := flat_filt (xs := xs) (fun y hy => h y (List.mem_cons_of_mem _ hy))
    cases hp : p x with
    | true => simp [List.filter_cons, hp, ih]
    | false => simp [List.filter_cons, hp, ih, h x (List.mem_cons_self ..) hp]
theorem filt_flat {α β : Type} {p : β → Bool} {f : α → List β} : ∀ {xs : List α}, xs.flatMap (fun x => (f x).filter p) = (xs.flatMap f).filter p
  | [] => rfl
  | x :: xs => by simp [List.filter_append, filt_flat (xs := xs)]
theorem sum_zero {α : Type} {f : α → Nat} : ∀ {xs : List α}, (xs.map f).sum = 0 → ∀ x ∈ xs, f x = 0
  | x :: xs, h, y, hy => by
    simp at h
    rcases List.mem_cons.mp hy with rfl | hy
    · exact h.1
    · exact sum_zero h.2 y hy
theorem Ww_succ {n t : Nat} (h : t < n) : (Ww st ac n t).flatMap (ex st ac (n - t - 1)) = Ww st ac n (t + 1) := by
  obtain ⟨m, rfl⟩ : ∃ m, n = t + 1 + m := ⟨n - t - 1, by omega⟩
  unfold Ww
  rw [show t + 1 + m - t - 1 = m by omega, show t + 1 + m - t = m + 1 by omega, show t + 1 + m - (t + 1) = m by omega]
  rw [flat_filt]
  · unfold ex
    rw [filt_flat]; rfl
  · intro q _ hq
    have hz : cnt st ac (m + 1) q.2 = 0 := by simpa using hq
    have hall := sum_zero (f := cnt st ac m) hz
    unfold ex
    rw [List.filter_eq_nil_iff]
    intro p hp
    unfold ext at hp
    obtain ⟨a, ha, rfl⟩ := List.mem_map.mp hp
    have := hall a.2 (en_mem ha)
    simp [this]
theorem Ww_end (n : Nat) : (Ww st ac n n).map (·.1) = Tw st ac n := by
  unfold Ww Tw
  have : (fun q : List Nat × Nat => decide (0 < cnt st ac (n - n) q.2)) = fun q => decide (q.2 ∈ ac) := by
    funext q
    rw [Nat.sub_self]
    unfold cnt
    by_cases h : q.2 ∈ ac <;> simp [h]
  rw [this]
theorem Ww_zero (n : Nat) : Ww st ac n 0 = if 0 < cnt st ac n 0 then [([], 0)] else [] := by
  unfold Ww Lw
  by_cases h : 0 < cnt st ac n 0 <;> simp [List.filter_cons, h]
theorem ex_eq (m : Nat) (q : List Nat × Nat) : ex st ac m q = ((en (rowOf st q.2) 0).filter fun p => decide (0 < cnt st ac m p.2)).map fun p => (q.1 ++ [p.1], p.2) := by
  unfold ex ext
  rw [List.filter_map]; rfl
/-! ### longer_words -/
abbrev zEnv (l : Nat) (st : List (List Nat)) (ac : List Nat) (m : Nat) (x1 : S) (A : WS) (x4 x5 x6 : S) : Env :=
  [.val (rdG l st ac), x1, .val (nsG (cv st ac m)), .obj (.lst (pG A)), x4, x5, x6, .non, .non]
def sComp : EV := (eComp [7, 8] (eTup (aCons (eV 7) (aCons (eV 8) aNil))) (gTp [(gNm 7), (gNm 8)]) (iN (eBin .idx (eAttr ct (eV 0) 1) (eV 5))) (tV (eBin .gt (eBin .idx (eV 2) (eV 8)) (eK (.int 0)))))
def eComp24 : EV := (eComp [7, 8] (eTup (aCons (eTup (aStar (eV 4) (aCons (eV 7) aNil))) (aCons (eV 8) aNil))) (gTp [(gNm 7), (gNm 8)]) (iE (eV 6)) tYesT)
def zBody : SV := (sSeq (sSet 6 sComp) (sSeq (sExp (eMeth 3 .extend (aCons eComp24 aNil))) sNil))
abbrev iiG (Q : List (Nat × Nat)) : List G := Q.map fun p => .tup [.int (p.1 : Int), .int (p.2 : Int)]
theorem gt0 (c : Nat) : Ev.b2 .gt (.int (c : Int)) (.int 0) = some (.g (.bl (decide (0 < c)))) := by
  show some (D.g (.bl (decide ((c : Int) > 0)))) = _
  simp
theorem scomp_ok (F : FF) (M : Good l st ac) {m : Nat} {x1 x6 : S} {A : WS} {q : List Nat × Nat} (hq : q.2 < st.length) :
    sComp F (zEnv l st ac m x1 A (.val (nsG q.1)) (.val (.int (q.2 : Int))) x6) = .ok (.own (.lst (iiG ((en (rowOf st q.2) 0).filter fun p => decide (0 < cnt st ac m p.2))))) (zEnv l st ac m x1 A (.val (nsG q.1)) (.val (.int (q.2 : Int))) x6) := by
  have l64 := M.l64
  have hrl : (rowOf st q.2).length = l := M.toMach.rowl hq
  have hit : iN (eBin .idx (eAttr ct (eV 0) 1) (eV 5)) F (zEnv l st ac m x1 A (.val (nsG q.1)) (.val (.int (q.2 : Int))) x6) = .ok ((en (rowOf st q.2) 0).map (fun q => .tup [.int (q.1 : Int), .int (q.2 : Int)]), none) (zEnv l st ac m x1 A (.val (nsG q.1)) (.val (.int (q.2 : Int))) x6) := by
    have hb : eBin .idx (eAttr ct (eV 0) 1) (eV 5) F (zEnv l st ac m x1 A (.val (nsG q.1)) (.val (.int (q.2 : Int))) x6) = .ok (.g (nsG (rowOf st q.2))) (zEnv l st ac m x1 A (.val (nsG q.1)) (.val (.int (q.2 : Int))) x6) :=
      eBin_ok (x := .g (stG st)) (y := .g (.int (q.2 : Int))) (e1 := zEnv l st ac m x1 A (.val (nsG q.1)) (.val (.int (q.2 : Int))) x6) rfl rfl rfl rfl (b2_stG hq)
    unfold iN
    rw [hb]
    show R.ok (enumG ((0 : Nat) : Int) (gs (rowOf st q.2)), none) _ = _
    rw [enumG_en]
  exact eComp_fm (own := [7, 8]) (el := eTup (aCons (eV 7) (aCons (eV 8) aNil))) (t := gTp [(gNm 7), (gNm 8)]) (c := tV (eBin .gt (eBin .idx (eV 2) (eV 8)) (eK (.int 0)))) (p := fun p => decide (0 < cnt st ac m p.2)) (h := fun q => .tup [.int (q.1 : Int), .int (q.2 : Int)]) (eW := zEnv l st ac m x1 A (.val (nsG q.1)) (.val (.int (q.2 : Int))) x6) hit rfl rfl (fun p hp => by
    have hpl := st_lt M.toMach hq (en_mem hp)
    refine (compStep_if (e1 := [.val (rdG l st ac), x1, .val (nsG (cv st ac m)), .obj (.lst (pG A)), .val (nsG q.1), .val (.int (q.2 : Int)), x6, .val (.int (p.1 : Int)), .val (.int (p.2 : Int))]) (e2 := [.val (rdG l st ac), x1, .val (nsG (cv st ac m)), .obj (.lst (pG A)), .val (nsG q.1), .val (.int (q.2 : Int)), x6, .val (.int (p.1 : Int)), .val (.int (p.2 : Int))]) (e3 := [.val (rdG l st ac), x1, .val (nsG (cv st ac m)), .obj (.lst (pG A)), .val (nsG q.1), .val (.int (q.2 : Int)), x6, .val (.int (p.1 : Int)), .val (.int (p.2 : Int))]) (e4 := [.val (rdG l st ac), x1, .val (nsG (cv st ac m)), .obj (.lst (pG A)), .val (nsG q.1), .val (.int (q.2 : Int)), x6, .val (.int (p.1 : Int)), .val (.int (p.2 : Int))]) (g := .tup [.int (p.1 : Int), .int (p.2 : Int)]) (d := .g (.tup [.int (p.1 : Int), .int (p.2 : Int)])) (b := decide (0 < cnt st ac m p.2)) rfl ?_ rfl rfl rfl).trans rfl
    exact tV_ok (eBin_ok (eBin_ok (x := .g (nsG (cv st ac m))) (y := .g (.int (p.2 : Int))) (e1 := [.val (rdG l st ac), x1, .val (nsG (cv st ac m)), .obj (.lst (pG A)), .val (nsG q.1), .val (.int (q.2 : Int)), x6, .val (.int (p.1 : Int)), .val (.int (p.2 : Int))]) rfl rfl rfl rfl (b2_att (by simp [cv_at hpl]))) (y := .g (.int 0)) rfl rfl rfl (gt0 _)) rfl rfl) rfl (by rw [en_len]; omega)
theorem ecomp_ok (F : FF) {m : Nat} {x1 : S} {A : WS} {q : List Nat × Nat} {B : List (Nat × Nat)} (hw : q.1.length ≤ 1000) (hB : B.length ≤ 1000) :
    eComp24 F (zEnv l st ac m x1 A (.val (nsG q.1)) (.val (.int (q.2 : Int))) (.obj (.lst (iiG B)))) = .ok (.own (.lst (pG (B.map fun p => (q.1 ++ [p.1], p.2))))) (zEnv l st ac m x1 A (.val (nsG q.1)) (.val (.int (q.2 : Int))) (.obj (.lst (iiG B)))) := by
  have hc := eComp_all (own := [7, 8]) (el := eTup (aCons (eTup (aStar (eV 4) (aCons (eV 7) aNil))) (aCons (eV 8) aNil))) (t := gTp [(gNm 7), (gNm 8)]) (it := iE (eV 6)) (c := tYesT) (F := F) (o := some 6) (xs := B) (g := fun p => .tup [.int (p.1 : Int), .int (p.2 : Int)]) (h := fun p => .tup [nsG (q.1 ++ [p.1]), .int (p.2 : Int)])
    (e0 := zEnv l st ac m x1 A (.val (nsG q.1)) (.val (.int (q.2 : Int))) (.obj (.lst (iiG B)))) (e := zEnv l st ac m x1 A (.val (nsG q.1)) (.val (.int (q.2 : Int))) (.obj (.lst (iiG B)))) (eW := zEnv l st ac m x1 A (.val (nsG q.1)) (.val (.int (q.2 : Int))) (.lck false (.lst (iiG B)))) (e' := zEnv l st ac m x1 A (.val (nsG q.1)) (.val (.int (q.2 : Int))) (.obj (.lst (iiG B)))) rfl rfl rfl (fun p hp => by
    have hst : aStar (eV 4) (aCons (eV 7) aNil) F [.val (rdG l st ac), x1, .val (nsG (cv st ac m)), .obj (.lst (pG A)), .val (nsG q.1), .val (.int (q.2 : Int)), .lck false (.lst (iiG B)), .val (.int (p.1 : Int)), .val (.int (p.2 : Int))] = .ok ((gs q.1).map D.g ++ [.g (.int (p.1 : Int))]) [.val (rdG l st ac), x1, .val (nsG (cv st ac m)), .obj (.lst (pG A)), .val (nsG q.1), .val (.int (q.2 : Int)), .lck false (.lst (iiG B)), .val (.int (p.1 : Int)), .val (.int (p.2 : Int))] := rfl
    have hin : eTup (aStar (eV 4) (aCons (eV 7) aNil)) F [.val (rdG l st ac), x1, .val (nsG (cv st ac m)), .obj (.lst (pG A)), .val (nsG q.1), .val (.int (q.2 : Int)), .lck false (.lst (iiG B)), .val (.int (p.1 : Int)), .val (.int (p.2 : Int))] = .ok (.g (nsG (q.1 ++ [p.1]))) [.val (rdG l st ac), x1, .val (nsG (cv st ac m)), .obj (.lst (pG A)), .val (nsG q.1), .val (.int (q.2 : Int)), .lck false (.lst (iiG B)), .val (.int (p.1 : Int)), .val (.int (p.2 : Int))] := by
      refine eTup_ok (gs := gs (q.1 ++ [p.1])) hst ?_ (by simp [gs]; omega)
      rw [frzs_gs1]
      simp [gs]
    have h8 : aCons (eV 8) aNil F [.val (rdG l st ac), x1, .val (nsG (cv st ac m)), .obj (.lst (pG A)), .val (nsG q.1), .val (.int (q.2 : Int)), .lck false (.lst (iiG B)), .val (.int (p.1 : Int)), .val (.int (p.2 : Int))] = .ok [.g (.int (p.2 : Int))] [.val (rdG l st ac), x1, .val (nsG (cv st ac m)), .obj (.lst (pG A)), .val (nsG q.1), .val (.int (q.2 : Int)), .lck false (.lst (iiG B)), .val (.int (p.1 : Int)), .val (.int (p.2 : Int))] := rfl
    exact compStep_yes (e1 := [.val (rdG l st ac), x1, .val (nsG (cv st ac m)), .obj (.lst (pG A)), .val (nsG q.1), .val (.int (q.2 : Int)), .lck false (.lst (iiG B)), .val (.int (p.1 : Int)), .val (.int (p.2 : Int))]) rfl
      (eTup_ok (ds := [.g (nsG (q.1 ++ [p.1])), .g (.int (p.2 : Int))]) (gs := [nsG (q.1 ++ [p.1]), .int (p.2 : Int)]) (aCons_ok hin h8) rfl (by simp)) rfl) rfl (by omega)
  have : B.map (fun p => G.tup [nsG (q.1 ++ [p.1]), .int (p.2 : Int)]) = pG (B.map fun p => (q.1 ++ [p.1], p.2)) := by
    unfold pG
    rw [List.map_map]; rfl
  rw [this] at hc
  exact hc
def Fn (s : S) : Prop := s = .non ∨ ∃ g, s = .obj g
theorem z_loop (F : FF) (M : Good l st ac) {m : Nat} {x1 : S} : ∀ (Q A : WS) (x4 x5 x6 : S), Fr x4 → Fr x5 → Fn x6 → (∀ q ∈ Q, q.2 < st.length ∧ q.1.length ≤ 1000) → (A ++ Q.flatMap (ex st ac m)).length < 100000 →
    ∃ y4 y5 y6, forL (forStep (gTp [(gNm 4), (gNm 5)]) zBody F) (pG Q) (zEnv l st ac m x1 A x4 x5 x6) = .nx (zEnv l st ac m x1 (A ++ Q.flatMap (ex st ac m)) y4 y5 y6)
  | [], A, x4, x5, x6, h4, h5, h6, hQ, hn => ⟨x4, x5, x6, by simp [forL]⟩
  | q :: Q, A, x4, x5, x6, h4, h5, h6, hQ, hn => by
    obtain ⟨h1, h2⟩ := hQ q (List.mem_cons_self ..)
    rw [List.flatMap_cons, ← List.append_assoc] at hn
    have l64 := M.l64
    have hrl : (rowOf st q.2).length = l := M.toMach.rowl h1
    obtain ⟨B, hB⟩ : ∃ B, B = (en (rowOf st q.2) 0).filter fun p => decide (0 < cnt st ac m p.2) := ⟨_, rfl⟩
    have hBl : B.length ≤ 1000 := by
      rw [hB]
      have := List.length_filter_le (fun p : Nat × Nat => decide (0 < cnt st ac m p.2)) (en (rowOf st q.2) 0)
      rw [en_len] at this
      omega
    obtain ⟨y4, y5, y6, e2⟩ := z_loop F M (m := m) (x1 := x1) Q (A ++ ex st ac m q) (.val (nsG q.1)) (.val (.int (q.2 : Int))) (.obj (.lst (iiG B))) (.v _) (.v _) (.inr ⟨_, rfl⟩) (fun p hp => hQ p (List.mem_cons_of_mem _ hp)) hn
    refine ⟨y4, y5, y6, ?_⟩
    have ht : gTp [(gNm 4), (gNm 5)] (.tup [nsG q.1, .int (q.2 : Int)]) (zEnv l st ac m x1 A x4 x5 x6) = some (zEnv l st ac m x1 A (.val (nsG q.1)) (.val (.int (q.2 : Int))) x6) := by
      rcases h4 with rfl | ⟨g, rfl⟩ <;> rcases h5 with rfl | ⟨g', rfl⟩ <;> rfl
    have hs := scomp_ok F M (m := m) (x1 := x1) (x6 := x6) (A := A) (q := q) h1
    rw [← hB] at hs
    have e1 : sSet 6 sComp F (zEnv l st ac m x1 A (.val (nsG q.1)) (.val (.int (q.2 : Int))) x6) = .nx (zEnv l st ac m x1 A (.val (nsG q.1)) (.val (.int (q.2 : Int))) (.obj (.lst (iiG B)))) := sSet_ok hs (by rcases h6 with rfl | ⟨g, rfl⟩ <;> rfl)
    have hx := ex_eq (st := st) (ac := ac) m q
    rw [← hB] at hx
    have hm : eMeth 3 .extend (aCons eComp24 aNil) F (zEnv l st ac m x1 A (.val (nsG q.1)) (.val (.int (q.2 : Int))) (.obj (.lst (iiG B)))) = .ok (.g .non) (zEnv l st ac m x1 (A ++ ex st ac m q) (.val (nsG q.1)) (.val (.int (q.2 : Int))) (.obj (.lst (iiG B)))) := by
      have := eMeth_ext (F := F) (i := 3) (as := aCons eComp24 aNil) (e := zEnv l st ac m x1 A (.val (nsG q.1)) (.val (.int (q.2 : Int))) (.obj (.lst (iiG B)))) (xs := pG A) (ys := pG (B.map fun p => (q.1 ++ [p.1], p.2))) rfl (aCons_ok (ecomp_ok F h2 hBl) rfl) (by rw [← hx]; rw [List.length_append] at hn; simp at hn ⊢; omega)
      rw [this, ← List.map_append, ← hx]
      rfl
    have hb : zBody F (zEnv l st ac m x1 A (.val (nsG q.1)) (.val (.int (q.2 : Int))) x6) = .nx (zEnv l st ac m x1 (A ++ ex st ac m q) (.val (nsG q.1)) (.val (.int (q.2 : Int))) (.obj (.lst (iiG B)))) := by
      unfold zBody
      rw [sSeq_nx e1, sSeq_nx (sExp_ok hm)]; rfl
    show forL _ (.tup [nsG q.1, .int (q.2 : Int)] :: pG Q) _ = _
    rw [forL_nx ((forStep_nx ht).trans hb), e2, List.flatMap_cons, List.append_assoc]
theorem longer (k : Nat) (M : Good l st ac) {m : Nat} {Q : WS} (hQ : ∀ q ∈ Q, q.2 < st.length ∧ q.1.length ≤ 1000) (hn : (Q.flatMap (ex st ac m)).length < 100000) :
    ∃ e, callF prog (k + 1) 24 [.val (rdG l st ac), .len (.lst (pG Q)), .val (nsG (cv st ac m))] = .ok (.own (.lst (pG (Q.flatMap (ex st ac m))))) (.val (rdG l st ac) :: .len (.lst (pG Q)) :: .val (nsG (cv st ac m)) :: e) := by
  obtain ⟨y4, y5, y6, h⟩ := z_loop (callF prog k) M (m := m) (x1 := .lck true (.lst (pG Q))) Q [] .non .non .non .n .n (.inl rfl) hQ hn
  refine ⟨[.non, y4, y5, y6, .non, .non], ?_⟩
  rw [call_b k _ (rfl : prog[24]? = some ⟨3, 9, b_24⟩) rfl (rfl : _ = ([.val (rdG l st ac), .len (.lst (pG Q)), .val (nsG (cv st ac m)), .non, .non, .non, .non, .non, .non] : Env))]
  have h1 : sSet 3 (eLst aNil) (callF prog k) [.val (rdG l st ac), .len (.lst (pG Q)), .val (nsG (cv st ac m)), .non, .non, .non, .non, .non, .non] = .nx (zEnv l st ac m (.len (.lst (pG Q))) [] .non .non .non) := rfl
  have h2 : sFor (gTp [(gNm 4), (gNm 5)]) (iE (eV 1)) zBody (callF prog k) (zEnv l st ac m (.len (.lst (pG Q))) [] .non .non .non) = .nx (zEnv l st ac m (.len (.lst (pG Q))) (Q.flatMap (ex st ac m)) y4 y5 y6) := by
    rw [sFor_ok (gs := pG Q) (o := some 1) (e1 := zEnv l st ac m (.len (.lst (pG Q))) [] .non .non .non) rfl]
    have h : forL (forStep (gTp [(gNm 4), (gNm 5)]) zBody (callF prog k)) (pG Q) (lockO (some 1) (zEnv l st ac m (.len (.lst (pG Q))) [] .non .non .non)) = _ := h
    rw [h]; rfl
  have hb : b_24 = sSeq (sSet 3 (eLst aNil)) (sSeq (sFor (gTp [(gNm 4), (gNm 5)]) (iE (eV 1)) zBody) (sSeq (sRet (eV 3)) sNil)) := rfl
  rw [hb, sSeq_nx h1, sSeq_nx h2]
  rfl
end K25

end
section
set_option linter.all false
set_option Elab.async false
set_option maxRecDepth 100000
set_option maxHeartbeats 4000000
namespace K25
open Ev
variable {l : Nat} {st : List (List Nat)} {ac : List Nat}
abbrev oEnv (l : Nat) (st : List (List Nat)) (ac : List Nat) (n : Nat) (x3 x4 : S) : Env :=
  [.val (rdG l st ac), .val (.int (n : Int)), .obj (.lst (fnd st ac (n + 1))), x3, x4, .non, .non]
def oTop : EV := (eBin .idx (eBin .idx (eV 2) (eUn .neg (eK (.int 1)))) (eK (.int 0)))
def oRse : SV := (sIf (tV (eBin .gt oTop (eK (.int 2000)))) (sSeq (sRse 4 (aCons (eK (.int 2000)) aNil)) sNil) sNil)
def oSet : SV := (sSet 3 (eIte (tV (eBin .gt oTop (eK (.int 0)))) (eLst (aCons (eTup (aCons (eTup aNil) (aCons (eK (.int 0)) aNil))) aNil)) (eLst aNil)))
def oIx : EV := (eBin .idx (eV 2) (eBin .sub (eBin .sub (eV 1) (eV 4)) (eK (.int 1))))
def oBody : SV := (sSeq (sSet 3 (eCall 24 [] (aCons (eV 0) (aCons (eV 3) (aCons oIx aNil))))) sNil)
def oComp : EV := (eComp [5, 6] (eV 5) (gTp [(gNm 5), (gNm 6)]) (iE (eV 3)) tYesT)
theorem b33_eq : b_33 = sSeq (sExp (eCall 29 [] (aCons (eV 0) (aCons (eV 1) aNil)))) (sSeq (sSet 2 (eCall 22 [] (aCons (eV 0) (aCons (eV 1) aNil)))) (sSeq oRse (sSeq oSet (sSeq (sFor (gNm 4) (iR1 (eV 1)) oBody) (sSeq (sRet (eBi .tuple (aCons oComp aNil))) sNil))))) := rfl
theorem otop_ok (F : FF) (M : Mach l st) {n : Nat} {x3 x4 : S} : oTop F (oEnv l st ac n x3 x4) = .ok (.g (.int ((cnt st ac n 0 : Nat) : Int))) (oEnv l st ac n x3 x4) := by
  have hq : Ev.b2 .idx (.lst (fnd st ac (n + 1))) (.int (-1)) = some (.g (nsG (cv st ac n))) := by rw [fnd_succ]; exact b2_last
  exact eBin_ok (eBin_ok (x := .sl 2) (y := .g (.int (-1))) (e1 := oEnv l st ac n x3 x4) rfl rfl rfl rfl hq) (y := .g (.int 0)) rfl rfl rfl (cv0 M n)
theorem ogt_ok (F : FF) (M : Mach l st) {n : Nat} {x3 x4 : S} (c : Nat) : tV (eBin .gt oTop (eK (.int (c : Int)))) F (oEnv l st ac n x3 x4) = .ok (decide (c < cnt st ac n 0)) (oEnv l st ac n x3 x4) := by
  have hb : Ev.b2 .gt (.int ((cnt st ac n 0 : Nat) : Int)) (.int (c : Int)) = some (.g (.bl (decide (c < cnt st ac n 0)))) := by
    show some (D.g (.bl (decide (((cnt st ac n 0 : Nat) : Int) > (c : Int))))) = _
    simp
  exact tV_ok (eBin_ok (otop_ok F M) (y := .g (.int (c : Int))) rfl rfl rfl hb) rfl rfl
theorem fnd_at {n m : Nat} (h : m < n) : (fnd st ac n)[m]? = some (nsG (cv st ac m)) := by simp [fnd, h]
theorem oix_ok (F : FF) {n t : Nat} {x3 : S} (h : t < n) : oIx F (oEnv l st ac n x3 (.val (.int (t : Int)))) = .ok (.g (nsG (cv st ac (n - t - 1)))) (oEnv l st ac n x3 (.val (.int (t : Int)))) := by
  have hs : Ev.b2 .sub (.int ((n : Int) - (t : Int))) (.int 1) = some (.g (.int ((n - t - 1 : Nat) : Int))) := by
    show some (D.g (.int ((n : Int) - (t : Int) - 1))) = _
    congr 3
    omega
  exact eBin_ok (x := .sl 2) (e1 := oEnv l st ac n x3 (.val (.int (t : Int)))) rfl (eBin_ok (eBin_ok (x := .g (.int (n : Int))) (y := .g (.int (t : Int))) (e1 := oEnv l st ac n x3 (.val (.int (t : Int)))) rfl rfl rfl rfl rfl) (y := .g (.int 1)) rfl rfl rfl hs) rfl rfl (b2_at (fnd_at (by omega)))
theorem o_loop (k : Nat) (M : Good l st ac) {n : Nat} (hn : n ≤ 99) (hB : ∀ t, t ≤ n → (Lw st t).length ≤ 90000) : ∀ (d t : Nat) (x4 : S), t + d = n → Fr x4 →
    ∃ y4, forL (forStep (gNm 4) oBody (callF prog (k + 1))) (rangeG (t : Int) d) (oEnv l st ac n (.obj (.lst (pG (Ww st ac n t)))) x4) = .nx (oEnv l st ac n (.obj (.lst (pG (Ww st ac n (t + d))))) y4)
  | 0, t, x4, hd, h4 => ⟨x4, by simp [rangeG, forL]⟩
  | d + 1, t, x4, hd, h4 => by
    obtain ⟨y4, e2⟩ := o_loop k M hn hB d (t + 1) (.val (.int (t : Int))) (by omega) (.v _)
    refine ⟨y4, ?_⟩
    have ht : gNm 4 (.int (t : Int)) (oEnv l st ac n (.obj (.lst (pG (Ww st ac n t)))) x4) = some (oEnv l st ac n (.obj (.lst (pG (Ww st ac n t)))) (.val (.int (t : Int)))) := by
      rcases h4 with rfl | ⟨g, rfl⟩ <;> rfl
    have hsucc := Ww_succ (st := st) (ac := ac) (n := n) (t := t) (by omega)
    have hlen : (Ww st ac n (t + 1)).length < 100000 := by
      unfold Ww
      have h1 := List.length_filter_le (fun q : List Nat × Nat => decide (0 < cnt st ac (n - (t + 1)) q.2)) (Lw st (t + 1))
      have h2 := hB (t + 1) (by omega)
      omega
    obtain ⟨e, hL⟩ := longer k M (m := n - t - 1) (Q := Ww st ac n t) (fun q hq => by
      have hq := (List.mem_filter.mp hq).1
      obtain ⟨h1, h2⟩ := Lw_inv M.toMach t q hq
      exact ⟨h1, by omega⟩) (by rw [hsucc]; exact hlen)
    rw [hsucc] at hL
    have hargs : aCons (eV 0) (aCons (eV 3) (aCons oIx aNil)) (callF prog (k + 1)) (oEnv l st ac n (.obj (.lst (pG (Ww st ac n t)))) (.val (.int (t : Int)))) = .ok [.g (rdG l st ac), .sl 3, .g (nsG (cv st ac (n - t - 1)))] (oEnv l st ac n (.obj (.lst (pG (Ww st ac n t)))) (.val (.int (t : Int)))) :=
      aCons_ok (e1 := oEnv l st ac n (.obj (.lst (pG (Ww st ac n t)))) (.val (.int (t : Int)))) rfl (aCons_ok (e1 := oEnv l st ac n (.obj (.lst (pG (Ww st ac n t)))) (.val (.int (t : Int)))) rfl (aCons_ok (oix_ok (callF prog (k + 1)) (by omega)) rfl))
    have hcall : doCall (callF prog (k + 1)) 24 [] [.g (rdG l st ac), .sl 3, .g (nsG (cv st ac (n - t - 1)))] (oEnv l st ac n (.obj (.lst (pG (Ww st ac n t)))) (.val (.int (t : Int)))) = .ok (.own (.lst (pG (Ww st ac n (t + 1))))) (oEnv l st ac n (.obj (.lst (pG (Ww st ac n t)))) (.val (.int (t : Int)))) := by
      generalize callF prog (k + 1) = F at hL ⊢
      simp [doCall, argsS, argS, lent, getS, hL, isMade, back, bkS]
    have hb : oBody (callF prog (k + 1)) (oEnv l st ac n (.obj (.lst (pG (Ww st ac n t)))) (.val (.int (t : Int)))) = .nx (oEnv l st ac n (.obj (.lst (pG (Ww st ac n (t + 1))))) (.val (.int (t : Int)))) := by
      unfold oBody
      rw [sSeq_nx (sSet_ok (eCall_ok hargs hcall) rfl)]; rfl
    show forL _ (.int (t : Int) :: rangeG ((t : Int) + 1) d) _ = _
    rw [forL_nx ((forStep_nx ht).trans hb)]
    have : ((t : Int) + 1) = ((t + 1 : Nat) : Int) := by omega
    rw [this, e2, show t + 1 + d = t + (d + 1) by omega]
theorem words_pre (k : Nat) (M : Good l st ac) {n : Nat} (hn : n ≤ 99) (r : SV) : sSeq (sExp (eCall 29 [] (aCons (eV 0) (aCons (eV 1) aNil)))) (sSeq (sSet 2 (eCall 22 [] (aCons (eV 0) (aCons (eV 1) aNil)))) r) (callF prog (k + 4)) [.val (rdG l st ac), .val (.int (n : Int)), .non, .non, .non, .non, .non] = r (callF prog (k + 4)) (oEnv l st ac n .non .non) := by
  have h1 := require_len (l := l) (st := st) (ac := ac) k hn
  obtain ⟨e, h2⟩ := counts (k + 3) M hn
  generalize callF prog (k + 4) = F at h1 h2 ⊢
  have q1 : sExp (eCall 29 [] (aCons (eV 0) (aCons (eV 1) aNil))) F [.val (rdG l st ac), .val (.int (n : Int)), .non, .non, .non, .non, .non] = .nx [.val (rdG l st ac), .val (.int (n : Int)), .non, .non, .non, .non, .non] := by
    refine sExp_ok (d := .g .non) ?_
    simp [nameD, doCall, argsS, argS, lent, h1, isMade, back]
  have q2 : sSet 2 (eCall 22 [] (aCons (eV 0) (aCons (eV 1) aNil))) F [.val (rdG l st ac), .val (.int (n : Int)), .non, .non, .non, .non, .non] = .nx (oEnv l st ac n .non .non) := by
    refine sSet_ok (d := .own (.lst (fnd st ac (n + 1)))) (e1 := [.val (rdG l st ac), .val (.int (n : Int)), .non, .non, .non, .non, .non]) ?_ rfl
    simp [nameD, doCall, argsS, argS, lent, h2, isMade, back]
  rw [sSeq_nx q1, sSeq_nx q2]
theorem words_many (k : Nat) (M : Good l st ac) {n : Nat} (hn : n ≤ 99) (h : 2000 < cnt st ac n 0) : ∃ e, callF prog (k + 5) 33 [.val (rdG l st ac), .val (.int (n : Int))] = .exn 4 [.int 2000] (.val (rdG l st ac) :: .val (.int (n : Int)) :: e) := by
  refine ⟨[.obj (.lst (fnd st ac (n + 1))), .non, .non, .non, .non], ?_⟩
  rw [call_b (k + 4) _ (rfl : prog[33]? = some ⟨2, 7, b_33⟩) rfl (rfl : _ = ([.val (rdG l st ac), .val (.int (n : Int)), .non, .non, .non, .non, .non] : Env)), b33_eq, words_pre k M hn]
  have hc : tV (eBin .gt oTop (eK (.int 2000))) (callF prog (k + 4)) (oEnv l st ac n .non .non) = .ok (decide (2000 < cnt st ac n 0)) (oEnv l st ac n .non .non) := ogt_ok (ac := ac) (callF prog (k + 4)) M.toMach (n := n) (x3 := .non) (x4 := .non) 2000
  rw [decide_eq_true h] at hc
  have hr : oRse (callF prog (k + 4)) (oEnv l st ac n .non .non) = .exn 4 [.int 2000] (oEnv l st ac n .non .non) := by
    unfold oRse
    rw [sIf_yes hc]; rfl
  rw [sSeq_e, hr]
  rfl
theorem words_gen (k : Nat) (M : Good l st ac) {n : Nat} (hn : n ≤ 99) (hB : ∀ t, t ≤ n → (Lw st t).length ≤ 90000) (h : cnt st ac n 0 ≤ 2000) : ∃ e, callF prog (k + 5) 33 [.val (rdG l st ac), .val (.int (n : Int))] = .ok (.g (twG st ac n)) (.val (rdG l st ac) :: .val (.int (n : Int)) :: e) := by
  obtain ⟨y4, hL⟩ := o_loop (k + 3) M hn hB n 0 .non (by omega) .n
  rw [Nat.zero_add] at hL
  refine ⟨[.obj (.lst (fnd st ac (n + 1))), .obj (.lst (pG (Ww st ac n n))), y4, .non, .non], ?_⟩
  rw [call_b (k + 4) _ (rfl : prog[33]? = some ⟨2, 7, b_33⟩) rfl (rfl : _ = ([.val (rdG l st ac), .val (.int (n : Int)), .non, .non, .non, .non, .non] : Env)), b33_eq, words_pre k M (by omega)]
  have hc : tV (eBin .gt oTop (eK (.int 2000))) (callF prog (k + 4)) (oEnv l st ac n .non .non) = .ok (decide (2000 < cnt st ac n 0)) (oEnv l st ac n .non .non) := ogt_ok (ac := ac) (callF prog (k + 4)) M.toMach (n := n) (x3 := .non) (x4 := .non) 2000
  rw [decide_eq_false (by omega)] at hc
  have hr : oRse (callF prog (k + 4)) (oEnv l st ac n .non .non) = .nx (oEnv l st ac n .non .non) := by
    unfold oRse
    rw [sIf_no hc]; rfl
  have hc0 : tV (eBin .gt oTop (eK (.int 0))) (callF prog (k + 4)) (oEnv l st ac n .non .non) = .ok (decide (0 < cnt st ac n 0)) (oEnv l st ac n .non .non) := ogt_ok (ac := ac) (callF prog (k + 4)) M.toMach (n := n) (x3 := .non) (x4 := .non) 0
  have hs : oSet (callF prog (k + 4)) (oEnv l st ac n .non .non) = .nx (oEnv l st ac n (.obj (.lst (pG (Ww st ac n 0)))) .non) := by
    unfold oSet
    rw [Ww_zero]
    by_cases hz : 0 < cnt st ac n 0
    · rw [decide_eq_true hz] at hc0
      have hi : eIte (tV (eBin .gt oTop (eK (.int 0)))) (eLst (aCons (eTup (aCons (eTup aNil) (aCons (eK (.int 0)) aNil))) aNil)) (eLst aNil) (callF prog (k + 4)) (oEnv l st ac n .non .non) = .ok (.own (.lst (pG [([], 0)]))) (oEnv l st ac n .non .non) := by
        unfold eIte
        rw [hc0]; rfl
      rw [if_pos hz]
      exact sSet_ok hi rfl
    · rw [decide_eq_false hz] at hc0
      have hi : eIte (tV (eBin .gt oTop (eK (.int 0)))) (eLst (aCons (eTup (aCons (eTup aNil) (aCons (eK (.int 0)) aNil))) aNil)) (eLst aNil) (callF prog (k + 4)) (oEnv l st ac n .non .non) = .ok (.own (.lst (pG []))) (oEnv l st ac n .non .non) := by
        unfold eIte
        rw [hc0]; rfl
      rw [if_neg hz]
      exact sSet_ok hi rfl
  have hit : iR1 (eV 1) (callF prog (k + 4)) (oEnv l st ac n (.obj (.lst (pG (Ww st ac n 0)))) .non) = .ok (rangeG 0 n, none) (oEnv l st ac n (.obj (.lst (pG (Ww st ac n 0)))) .non) := by
    rw [iR1_eq (e1 := oEnv l st ac n (.obj (.lst (pG (Ww st ac n 0)))) .non) (m := (n : Int)) rfl, ifOk (okR_nat (by omega))]
    simp
  have hL : forL (forStep (gNm 4) oBody (callF prog (k + 4))) (rangeG 0 n) (oEnv l st ac n (.obj (.lst (pG (Ww st ac n 0)))) .non) = _ := hL
  have hF : sFor (gNm 4) (iR1 (eV 1)) oBody (callF prog (k + 4)) (oEnv l st ac n (.obj (.lst (pG (Ww st ac n 0)))) .non) = .nx (oEnv l st ac n (.obj (.lst (pG (Ww st ac n n)))) y4) := by
    rw [sFor_v hit, hL]; rfl
  have hlen : (Ww st ac n n).length ≤ 100000 := by
    unfold Ww
    have h1 := List.length_filter_le (fun q : List Nat × Nat => decide (0 < cnt st ac (n - n) q.2)) (Lw st n)
    have h2 := hB n (Nat.le_refl _)
    omega
  have hC : oComp (callF prog (k + 4)) (oEnv l st ac n (.obj (.lst (pG (Ww st ac n n)))) y4) = .ok (.own (.lst ((Ww st ac n n).map fun q => nsG q.1))) (oEnv l st ac n (.obj (.lst (pG (Ww st ac n n)))) y4) :=
    eComp_all (own := [5, 6]) (el := eV 5) (t := gTp [(gNm 5), (gNm 6)]) (it := iE (eV 3)) (c := tYesT) (o := some 3) (xs := Ww st ac n n) (g := fun q => .tup [nsG q.1, .int (q.2 : Int)]) (h := fun q => nsG q.1) (e := oEnv l st ac n (.obj (.lst (pG (Ww st ac n n)))) y4) (eW := oEnv l st ac n (.lck false (.lst (pG (Ww st ac n n)))) y4) rfl rfl rfl (fun q _ =>
      compStep_yes (e1 := [.val (rdG l st ac), .val (.int (n : Int)), .obj (.lst (fnd st ac (n + 1))), .lck false (.lst (pG (Ww st ac n n))), y4, .val (nsG q.1), .val (.int (q.2 : Int))]) (d := .g (nsG q.1)) (e2 := [.val (rdG l st ac), .val (.int (n : Int)), .obj (.lst (fnd st ac (n + 1))), .lck false (.lst (pG (Ww st ac n n))), y4, .val (nsG q.1), .val (.int (q.2 : Int))]) rfl rfl rfl) rfl hlen
  have hT : eBi .tuple (aCons oComp aNil) (callF prog (k + 4)) (oEnv l st ac n (.obj (.lst (pG (Ww st ac n n)))) y4) = .ok (.g (twG st ac n)) (oEnv l st ac n (.obj (.lst (pG (Ww st ac n n)))) y4) := by
    refine eBi_ok (ds := [.own (.lst ((Ww st ac n n).map fun q => nsG q.1))]) (aCons_ok hC rfl) rfl ?_
    show some (D.g (.tup _)) = some (D.g (twG st ac n))
    unfold twG
    rw [← Ww_end, List.map_map]; rfl
  generalize twG st ac n = g at hT ⊢
  rw [sSeq_nx hr, sSeq_nx hs, sSeq_nx hF, sSeq_e, sRet, hT]
  rfl
theorem words_ok (k : Nat) (M : Good l st ac) (hl : l ≤ 4) {n : Nat} (hn : n ≤ 6) (h : cnt st ac n 0 ≤ 2000) : ∃ e, callF prog (k + 5) 33 [.val (rdG l st ac), .val (.int (n : Int))] = .ok (.g (twG st ac n)) (.val (rdG l st ac) :: .val (.int (n : Int)) :: e) :=
  words_gen k M (by omega) (fun t ht => by have := Lw_le M.toMach hl (m := t) (by omega); omega) h
/-! ### _law_met_words -/
def manyG : G := .tup [.str (PySem.Str.ofString "many"), .int 2000]
def mwG (st : List (List Nat)) (ac : List Nat) (n : Nat) : G := if cnt st ac n 0 ≤ 2000 then twG st ac n else manyG
theorem met_words (k : Nat) (M : Good l st ac) (hl : l ≤ 4) {n : Nat} (hn : n ≤ 6) : ∃ e, callF prog (k + 6) 42 [.val (rdG l st ac), .val (.int (n : Int))] = .ok (.g (mwG st ac n)) (.val (rdG l st ac) :: .val (.int (n : Int)) :: e) := by
  refine ⟨[.non], ?_⟩
  rw [call_b (k + 5) _ (rfl : prog[42]? = some ⟨2, 3, b_42⟩) rfl (rfl : _ = ([.val (rdG l st ac), .val (.int (n : Int)), .non] : Env))]
  by_cases h : cnt st ac n 0 ≤ 2000
  · obtain ⟨e, hw⟩ := words_ok k M hl hn h
    have : mwG st ac n = twG st ac n := if_pos h
    rw [this]
    generalize twG st ac n = g at hw ⊢
    generalize callF prog (k + 5) = F at hw ⊢
    have hc : eCall 33 [] (aCons (eV 0) (aCons (eV 1) aNil)) F [.val (rdG l st ac), .val (.int (n : Int)), .non] = .ok (.g g) [.val (rdG l st ac), .val (.int (n : Int)), .non] := by
      simp [nameD, doCall, argsS, argS, lent, hw, isMade, back]
    have hb : sSeq (sRet (eCall 33 [] (aCons (eV 0) (aCons (eV 1) aNil)))) sNil F [.val (rdG l st ac), .val (.int (n : Int)), .non] = .rt (.g g) [.val (rdG l st ac), .val (.int (n : Int)), .non] := by
      rw [sSeq_e, sRet, hc]; rfl
    unfold b_42 sTry
    rw [sSeq_e, hb]; rfl
  · obtain ⟨e, hw⟩ := words_many k M (n := n) (by omega) (by omega)
    have : mwG st ac n = manyG := if_neg h
    rw [this]
    generalize callF prog (k + 5) = F at hw ⊢
    have hc : eCall 33 [] (aCons (eV 0) (aCons (eV 1) aNil)) F [.val (rdG l st ac), .val (.int (n : Int)), .non] = .exn 4 [.int 2000] [.val (rdG l st ac), .val (.int (n : Int)), .non] := by
      simp [nameD, doCall, argsS, argS, lent, hw, isMade, back]
    have hb : sSeq (sRet (eCall 33 [] (aCons (eV 0) (aCons (eV 1) aNil)))) sNil F [.val (rdG l st ac), .val (.int (n : Int)), .non] = .exn 4 [.int 2000] [.val (rdG l st ac), .val (.int (n : Int)), .non] := by
      rw [sSeq_e, sRet, hc]; rfl
    unfold b_42 sTry
    rw [sSeq_e, hb]; rfl
end K25

end
section
set_option linter.all false
set_option Elab.async false
set_option maxRecDepth 100000
namespace FoL
open Ev PySem
theorem str_eq {a b : Str} (h : (PyData.canLay0 (.str a) && PyData.canLay0 (.str b)) = true) : pyEq (.str a) (.str b) = some (decide (a = b)) := by
  rw [Bool.and_eq_true] at h
  have h1 : SeqAt.shaped (.str a) = true := shaped_of h.1 (by simp [PyData.depth])
  have h2 : SeqAt.shaped (.str b) = true := shaped_of h.2 (by simp [PyData.depth])
  unfold pyEq
  simp only [G.py, h1, h2, Bool.and_self, if_true, PyData.eqv]
  congr 1
@[simp] theorem w_true_true : pyEq (.str (PySem.Str.ofString "true")) (.str (PySem.Str.ofString "true")) = some true := by decide +kernel
@[simp] theorem w_true_none : pyEq (.str (PySem.Str.ofString "true")) (.str (PySem.Str.ofString "none")) = some false := by decide +kernel
@[simp] theorem w_true_mark : pyEq (.str (PySem.Str.ofString "true")) (.str (PySem.Str.ofString "mark")) = some false := by decide +kernel
@[simp] theorem w_true_link : pyEq (.str (PySem.Str.ofString "true")) (.str (PySem.Str.ofString "link")) = some false := by decide +kernel
@[simp] theorem w_true_same : pyEq (.str (PySem.Str.ofString "true")) (.str (PySem.Str.ofString "same")) = some false := by decide +kernel
@[simp] theorem w_true_not : pyEq (.str (PySem.Str.ofString "true")) (.str (PySem.Str.ofString "not")) = some false := by decide +kernel
@[simp] theorem w_true_and : pyEq (.str (PySem.Str.ofString "true")) (.str (PySem.Str.ofString "and")) = some false := by decide +kernel
@[simp] theorem w_true_or : pyEq (.str (PySem.Str.ofString "true")) (.str (PySem.Str.ofString "or")) = some false := by decide +kernel
@[simp] theorem w_true_some : pyEq (.str (PySem.Str.ofString "true")) (.str (PySem.Str.ofString "some")) = some false := by decide +kernel
@[simp] theorem w_true_all : pyEq (.str (PySem.Str.ofString "true")) (.str (PySem.Str.ofString "all")) = some false := by decide +kernel
@[simp] theorem w_none_true : pyEq (.str (PySem.Str.ofString "none")) (.str (PySem.Str.ofString "true")) = some false := by decide +kernel
@[simp] theorem w_none_none : pyEq (.str (PySem.Str.ofString "none")) (.str (PySem.Str.ofString "none")) = some true := by decide +kernel
@[simp] theorem w_none_mark : pyEq (.str (PySem.Str.ofString "none")) (.str (PySem.Str.ofString "mark")) = some false := by decide +kernel
@[simp] theorem w_none_link : pyEq (.str (PySem.Str.ofString "none")) (.str (PySem.Str.ofString "link")) = some false := by decide +kernel
@[simp] theorem w_none_same : pyEq (.str (PySem.Str.ofString "none")) (.str (PySem.Str.ofString "same")) = some false := by decide +kernel
@[simp] theorem w_none_not : pyEq (.str (PySem.Str.ofString "none")) (.str (PySem.Str.ofString "not")) = some false := by decide +kernel
@[simp] theorem w_none_and : pyEq (.str (PySem.Str.ofString "none")) (.str (PySem.Str.ofString "and")) = some false := by decide +kernel
@[simp] theorem w_none_or : pyEq (.str (PySem.Str.ofString "none")) (.str (PySem.Str.ofString "or")) = some false := by decide +kernel
@[simp] theorem w_none_some : pyEq (.str (PySem.Str.ofString "none")) (.str (PySem.Str.ofString "some")) = some false := by decide +kernel
@[simp] theorem w_none_all : pyEq (.str (PySem.Str.ofString "none")) (.str (PySem.Str.ofString "all")) = some false := by decide +kernel
@[simp] theorem w_mark_true : pyEq (.str (PySem.Str.ofString "mark")) (.str (PySem.Str.ofString "true")) = some false := by decide +kernel
@[simp] theorem w_mark_none : pyEq (.str (PySem.Str.ofString "mark")) (.str (PySem.Str.ofString "none")) = some false := by decide +kernel
@[simp] theorem w_mark_mark : pyEq (.str (PySem.Str.ofString "mark")) (.str (PySem.Str.ofString "mark")) = some true := by decide +kernel
@[simp] theorem w_mark_link : pyEq (.str (PySem.Str.ofString "mark")) (.str (PySem.Str.ofString "link")) = some false := by decide +kernel
@[simp] theorem w_mark_same : pyEq (.str (PySem.Str.ofString "mark")) (.str (PySem.Str.ofString "same")) = some false := by decide +kernel
@[simp] theorem w_mark_not : pyEq (.str (PySem.Str.ofString "mark")) (.str (PySem.Str.ofString "not")) = some false := by decide +kernel
@[simp] theorem w_mark_and : pyEq (.str (PySem.Str.ofString "mark")) (.str (PySem.Str.ofString "and")) = some false := by decide +kernel
@[simp] theorem w_mark_or : pyEq (.str (PySem.Str.ofString "mark")) (.str (PySem.Str.ofString "or")) = some false := by decide +kernel
@[simp] theorem w_mark_some : pyEq (.str (PySem.Str.ofString "mark")) (.str (PySem.Str.ofString "some")) = some false := by decide +kernel
@[simp] theorem w_mark_all : pyEq (.str (PySem.Str.ofString "mark")) (.str (PySem.Str.ofString "all")) = some false := by decide +kernel
@[simp] theorem w_link_true : pyEq (.str (PySem.Str.ofString "link")) (.str (PySem.Str.ofString "true")) = some false := by decide +kernel
@[simp] theorem w_link_none : pyEq (.str (PySem.Str.ofString "link")) (.str (PySem.Str.ofString "none")) = some false := by decide +kernel
@[simp] theorem w_link_mark : pyEq (.str (PySem.Str.ofString "link")) (.str (PySem.Str.ofString "mark")) = some false := by decide +kernel
@[simp] theorem w_link_link : pyEq (.str (PySem.Str.ofString "link")) (.str (PySem.Str.ofString "link")) = some true := by decide +kernel
@[simp] theorem w_link_same : pyEq (.str (PySem.Str.ofString "link")) (.str (PySem.Str.ofString "same")) = some false := by decide +kernel
@[simp] theorem w_link_not : pyEq (.str (PySem.Str.ofString "link")) (.str (PySem.Str.ofString "not")) = some false := by decide +kernel
@[simp] theorem w_link_and : pyEq (.str (PySem.Str.ofString "link")) (.str (PySem.Str.ofString "and")) = some false := by decide +kernel
@[simp] theorem w_link_or : pyEq (.str (PySem.Str.ofString "link")) (.str (PySem.Str.ofString "or")) = some false := by decide +kernel
@[simp] theorem w_link_some : pyEq (.str (PySem.Str.ofString "link")) (.str (PySem.Str.ofString "some")) = some false := by decide +kernel
@[simp] theorem w_link_all : pyEq (.str (PySem.Str.ofString "link")) (.str (PySem.Str.ofString "all")) = some false := by decide +kernel
@[simp] theorem w_same_true : pyEq (.str (PySem.Str.ofString "same")) (.str (PySem.Str.ofString "true")) = some false := by decide +kernel
@[simp] theorem w_same_none : pyEq (.str (PySem.Str.ofString "same")) (.str (PySem.Str.ofString "none")) = some false := by decide +kernel
@[simp] theorem w_same_mark : pyEq (.str (PySem.Str.ofString "same")) (.str (PySem.Str.ofString "mark")) = some false := by decide +kernel
@[simp] theorem w_same_link : pyEq (.str (PySem.Str.ofString "same")) (.str (PySem.Str.ofString "link")) = some false := by decide +kernel
@[simp] theorem w_same_same : pyEq (.str (PySem.Str.ofString "same")) (.str (PySem.Str.ofString "same")) = some true := by decide +kernel
@[simp] theorem w_same_not : pyEq (.str (PySem.Str.ofString "same")) (.str (PySem.Str.ofString "not")) = some false := by decide +kernel
@[simp] theorem w_same_and : pyEq (.str (PySem.Str.ofString "same")) (.str (PySem.Str.ofString "and")) = some false := by decide +kernel
@[simp] theorem w_same_or : pyEq (.str (PySem.Str.ofString "same")) (.str (PySem.Str.ofString "or")) = some false := by decide +kernel
@[simp] theorem w_same_some : pyEq (.str (PySem.Str.ofString "same")) (.str (PySem.Str.ofString "some")) = some false := by decide +kernel
@[simp] theorem w_same_all : pyEq (.str (PySem.Str.ofString "same")) (.str (PySem.Str.ofString "all")) = some false := by decide +kernel
@[simp] theorem w_not_true : pyEq (.str (PySem.Str.ofString "not")) (.str (PySem.Str.ofString "true")) = some false := by decide +kernel
@[simp] theorem w_not_none : pyEq (.str (PySem.Str.ofString "not")) (.str (PySem.Str.ofString "none")) = some false := by decide +kernel
@[simp] theorem w_not_mark : pyEq (.str (PySem.Str.ofString "not")) (.str (PySem.Str.ofString "mark")) = some false := by decide +kernel
@[simp] theorem w_not_link : pyEq (.str (PySem.Str.ofString "not")) (.str (PySem.Str.ofString "link")) = some false := by decide +kernel
@[simp] theorem w_not_same : pyEq (.str (PySem.Str.ofString "not")) (.str (PySem.Str.ofString "same")) = some false := by decide +kernel
@[simp] theorem w_not_not : pyEq (.str (PySem.Str.ofString "not")) (.str (PySem.Str.ofString "not")) = some true := by decide +kernel
@[simp] theorem w_not_and : pyEq (.str (PySem.Str.ofString "not")) (.str (PySem.Str.ofString "and")) = some false := by decide +kernel
@[simp] theorem w_not_or : pyEq (.str (PySem.Str.ofString "not")) (.str (PySem.Str.ofString "or")) = some false := by decide +kernel
@[simp] theorem w_not_some : pyEq (.str (PySem.Str.ofString "not")) (.str (PySem.Str.ofString "some")) = some false := by decide +kernel
@[simp] theorem w_not_all : pyEq (.str (PySem.Str.ofString "not")) (.str (PySem.Str.ofString "all")) = some false := by decide +kernel
@[simp] theorem w_and_true : pyEq (.str (PySem.Str.ofString "and")) (.str (PySem.Str.ofString "true")) = some false := by decide +kernel
@[simp] theorem w_and_none : pyEq (.str (PySem.Str.ofString "and")) (.str (PySem.Str.ofString "none")) = some false := by decide +kernel
@[simp] theorem w_and_mark : pyEq (.str (PySem.Str.ofString "and")) (.str (PySem.Str.ofString "mark")) = some false := by decide +kernel
@[simp] theorem w_and_link : pyEq (.str (PySem.Str.ofString "and")) (.str (PySem.Str.ofString "link")) = some false := by decide +kernel
@[simp] theorem w_and_same : pyEq (.str (PySem.Str.ofString "and")) (.str (PySem.Str.ofString "same")) = some false := by decide +kernel
@[simp] theorem w_and_not : pyEq (.str (PySem.Str.ofString "and")) (.str (PySem.Str.ofString "not")) = some false := by decide +kernel
@[simp] theorem w_and_and : pyEq (.str (PySem.Str.ofString "and")) (.str (PySem.Str.ofString "and")) = some true := by decide +kernel
@[simp] theorem w_and_or : pyEq (.str (PySem.Str.ofString "and")) (.str (PySem.Str.ofString "or")) = some false := by decide +kernel
@[simp] theorem w_and_some : pyEq (.str (PySem.Str.ofString "and")) (.str (PySem.Str.ofString "some")) = some false := by decide +kernel
@[simp] theorem w_and_all : pyEq (.str (PySem.Str.ofString "and")) (.str (PySem.Str.ofString "all")) = some false := by decide +kernel
@[simp] theorem w_or_true : pyEq (.str (PySem.Str.ofString "or")) (.str (PySem.Str.ofString "true")) = some false := by decide +kernel
@[simp] theorem w_or_none : pyEq (.str (PySem.Str.ofString "or")) (.str (PySem.Str.ofString "none")) = some false := by decide +kernel
@[simp] theorem w_or_mark : pyEq (.str (PySem.Str.ofString "or")) (.str (PySem.Str.ofString "mark")) = some false := by decide +kernel
@[simp] theorem w_or_link : pyEq (.str (PySem.Str.ofString "or")) (.str (PySem.Str.ofString "link")) = some false := by decide +kernel
@[simp] theorem w_or_same : pyEq (.str (PySem.Str.ofString "or")) (.str (PySem.Str.ofString "same")) = some false := by decide +kernel
@[simp] theorem w_or_not : pyEq (.str (PySem.Str.ofString "or")) (.str (PySem.Str.ofString "not")) = some false := by decide +kernel
@[simp] theorem w_or_and : pyEq (.str (PySem.Str.ofString "or")) (.str (PySem.Str.ofString "and")) = some false := by decide +kernel
@[simp] theorem w_or_or : pyEq (.str (PySem.Str.ofString "or")) (.str (PySem.Str.ofString "or")) = some true := by decide +kernel
@[simp] theorem w_or_some : pyEq (.str (PySem.Str.ofString "or")) (.str (PySem.Str.ofString "some")) = some false := by decide +kernel
@[simp] theorem w_or_all : pyEq (.str (PySem.Str.ofString "or")) (.str (PySem.Str.ofString "all")) = some false := by decide +kernel
@[simp] theorem w_some_true : pyEq (.str (PySem.Str.ofString "some")) (.str (PySem.Str.ofString "true")) = some false := by decide +kernel
@[simp] theorem w_some_none : pyEq (.str (PySem.Str.ofString "some")) (.str (PySem.Str.ofString "none")) = some false := by decide +kernel
@[simp] theorem w_some_mark : pyEq (.str (PySem.Str.ofString "some")) (.str (PySem.Str.ofString "mark")) = some false := by decide +kernel
@[simp] theorem w_some_link : pyEq (.str (PySem.Str.ofString "some")) (.str (PySem.Str.ofString "link")) = some false := by decide +kernel
@[simp] theorem w_some_same : pyEq (.str (PySem.Str.ofString "some")) (.str (PySem.Str.ofString "same")) = some false := by decide +kernel
@[simp] theorem w_some_not : pyEq (.str (PySem.Str.ofString "some")) (.str (PySem.Str.ofString "not")) = some false := by decide +kernel
@[simp] theorem w_some_and : pyEq (.str (PySem.Str.ofString "some")) (.str (PySem.Str.ofString "and")) = some false := by decide +kernel
@[simp] theorem w_some_or : pyEq (.str (PySem.Str.ofString "some")) (.str (PySem.Str.ofString "or")) = some false := by decide +kernel
@[simp] theorem w_some_some : pyEq (.str (PySem.Str.ofString "some")) (.str (PySem.Str.ofString "some")) = some true := by decide +kernel
@[simp] theorem w_some_all : pyEq (.str (PySem.Str.ofString "some")) (.str (PySem.Str.ofString "all")) = some false := by decide +kernel
@[simp] theorem w_all_true : pyEq (.str (PySem.Str.ofString "all")) (.str (PySem.Str.ofString "true")) = some false := by decide +kernel
@[simp] theorem w_all_none : pyEq (.str (PySem.Str.ofString "all")) (.str (PySem.Str.ofString "none")) = some false := by decide +kernel
@[simp] theorem w_all_mark : pyEq (.str (PySem.Str.ofString "all")) (.str (PySem.Str.ofString "mark")) = some false := by decide +kernel
@[simp] theorem w_all_link : pyEq (.str (PySem.Str.ofString "all")) (.str (PySem.Str.ofString "link")) = some false := by decide +kernel
@[simp] theorem w_all_same : pyEq (.str (PySem.Str.ofString "all")) (.str (PySem.Str.ofString "same")) = some false := by decide +kernel
@[simp] theorem w_all_not : pyEq (.str (PySem.Str.ofString "all")) (.str (PySem.Str.ofString "not")) = some false := by decide +kernel
@[simp] theorem w_all_and : pyEq (.str (PySem.Str.ofString "all")) (.str (PySem.Str.ofString "and")) = some false := by decide +kernel
@[simp] theorem w_all_or : pyEq (.str (PySem.Str.ofString "all")) (.str (PySem.Str.ofString "or")) = some false := by decide +kernel
@[simp] theorem w_all_some : pyEq (.str (PySem.Str.ofString "all")) (.str (PySem.Str.ofString "some")) = some false := by decide +kernel
@[simp] theorem w_all_all : pyEq (.str (PySem.Str.ofString "all")) (.str (PySem.Str.ofString "all")) = some true := by decide +kernel
end FoL

end
section
set_option linter.all false
set_option Elab.async false
set_option maxRecDepth 100000
set_option maxHeartbeats 1000000
namespace FoL
open Ev PySem
/-! formulas and structures, plain -/
inductive Fm where
  | tru | non (i : Nat) | mark (m i : Nat) | link (l i j : Nat) | same (i j : Nat)
  | nt (f : Fm) | an (f g : Fm) | orr (f g : Fm) | som (f : Fm) | al (f : Fm)
def isG (w : List Int) : G := .tup (w.map .int)
def pG (p : Int × Int) : G := .tup [.int p.1, .int p.2]
def fG : Fm → G
  | .tru => .tup [.str (PySem.Str.ofString "true")]
  | .non i => .tup [.str (PySem.Str.ofString "none"), .int (i : Int)]
  | .mark m i => .tup [.str (PySem.Str.ofString "mark"), .int (m : Int), .int (i : Int)]
  | .link l i j => .tup [.str (PySem.Str.ofString "link"), .int (l : Int), .int (i : Int), .int (j : Int)]
  | .same i j => .tup [.str (PySem.Str.ofString "same"), .int (i : Int), .int (j : Int)]
  | .nt f => .tup [.str (PySem.Str.ofString "not"), fG f]
  | .an f g => .tup [.str (PySem.Str.ofString "and"), fG f, fG g]
  | .orr f g => .tup [.str (PySem.Str.ofString "or"), fG f, fG g]
  | .som f => .tup [.str (PySem.Str.ofString "some"), fG f]
  | .al f => .tup [.str (PySem.Str.ofString "all"), fG f]
structure St where
  n : Nat
  marks : List (List Int)
  links : List (List (Int × Int))
def msG (s : St) : G := .tup (s.marks.map isG)
def lG (l : List (Int × Int)) : G := .tup (l.map pG)
def lsG (s : St) : G := .tup (s.links.map lG)
def plG (s : St) : G := .tup [.int (s.n : Int), msG s, lsG s]
def at_ (row : List Int) (i : Nat) : Int := row[i]?.getD 0
def sem (s : St) : Fm → List Int → Bool
  | .tru, _ => true
  | .non i, r => decide (at_ r i < 0)
  | .mark m i, r => (s.marks[m]?.getD []).contains (at_ r i)
  | .link l i j, r => (s.links[l]?.getD []).contains (at_ r i, at_ r j)
  | .same i j, r => decide (at_ r i = at_ r j)
  | .nt f, r => !sem s f r
  | .an f g, r => sem s f r && sem s g r
  | .orr f g, r => sem s f r || sem s g r
  | .som f, r => (List.range s.n).any fun x => sem s f (r ++ [(x : Int)])
  | .al f, r => (List.range s.n).all fun x => sem s f (r ++ [(x : Int)])
def wf (sm sl : Nat) : Nat → Fm → Prop
  | _, .tru => True
  | k, .non i => i < k
  | k, .mark m i => m < sm ∧ i < k
  | k, .link l i j => l < sl ∧ i < k ∧ j < k
  | k, .same i j => i < k ∧ j < k
  | k, .nt f => wf sm sl k f
  | k, .an f g => wf sm sl k f ∧ wf sm sl k g
  | k, .orr f g => wf sm sl k f ∧ wf sm sl k g
  | k, .som f => wf sm sl (k + 1) f
  | k, .al f => wf sm sl (k + 1) f
def depth : Fm → Nat
  | .nt f => depth f
  | .an f g => max (depth f) (depth g)
  | .orr f g => max (depth f) (depth g)
  | .som f => depth f + 1
  | .al f => depth f + 1
  | _ => 0
def ht : Fm → Nat
  | .nt f => ht f + 1
  | .an f g => max (ht f) (ht g) + 1
  | .orr f g => max (ht f) (ht g) + 1
  | .som f => ht f + 1
  | .al f => ht f + 1
  | _ => 0
def nodes : Fm → Nat
  | .nt f => nodes f + 1
  | .an f g => nodes f + nodes g + 1
  | .orr f g => nodes f + nodes g + 1
  | .som f => nodes f + 1
  | .al f => nodes f + 1
  | _ => 1
/-- a structure -/
structure Ok (s : St) : Prop where
  n : s.n ≤ 60
  ms : s.marks.length ≤ 2
  ls : s.links.length ≤ 2
  m : ∀ m ∈ s.marks, (∀ x ∈ m, 0 ≤ x ∧ x < (s.n : Int)) ∧ m.Pairwise (· < ·) ∧ m.length ≤ 60
  l : ∀ l ∈ s.links, (∀ p ∈ l, 0 ≤ p.1 ∧ p.1 < (s.n : Int) ∧ 0 ≤ p.2 ∧ p.2 < (s.n : Int)) ∧ l.Pairwise (fun p q => p.1 < q.1 ∨ (p.1 = q.1 ∧ p.2 < q.2)) ∧ l.length ≤ 3600
/-- a row -/
def Row (s : St) (r : List Int) : Prop := ∀ x ∈ r, -1 ≤ x ∧ x < (s.n : Int)
theorem Row.at_ {s : St} {r : List Int} (h : Row s r) {i : Nat} (hi : i < r.length) : -1 ≤ at_ r i ∧ at_ r i < (s.n : Int) := by
  unfold FoL.at_; rw [List.getElem?_eq_getElem hi]; exact h _ (List.getElem_mem _)
theorem Row.snoc {s : St} {r : List Int} (h : Row s r) {x : Nat} (hx : x < s.n) : Row s (r ++ [(x : Int)]) := by
  intro y hy
  rcases List.mem_append.mp hy with h1 | h1
  · exact h y h1
  · simp at h1; subst h1; omega
theorem row_get {r : List Int} {i : Nat} (hi : i < r.length) : (r.map G.int)[i]? = some (.int (at_ r i)) := by
  unfold at_; rw [List.getElem?_map, List.getElem?_eq_getElem hi]; rfl
/-! indexing -/
theorem idx_t {xs : List G} {i : Nat} {x : G} (h : xs[i]? = some x) : Ev.b2 .idx (.tup xs) (.int (i : Int)) = some (.g x) := by
  simp only [Ev.b2, atIx, L2.atI_nat h, Option.map_some]
theorem idx_l {xs : List G} {i : Nat} {x : G} (h : xs[i]? = some x) : Ev.b2 .idx (.lst xs) (.int (i : Int)) = some (.g x) := by
  simp only [Ev.b2, atIx, L2.atI_nat h, Option.map_some]
@[simp] theorem idx_t0 (a : G) (r : List G) : Ev.b2 .idx (.tup (a :: r)) (.int 0) = some (.g a) := idx_t (i := 0) rfl
@[simp] theorem idx_t1 (a b : G) (r : List G) : Ev.b2 .idx (.tup (a :: b :: r)) (.int 1) = some (.g b) := idx_t (i := 1) rfl
@[simp] theorem idx_t2 (a b c : G) (r : List G) : Ev.b2 .idx (.tup (a :: b :: c :: r)) (.int 2) = some (.g c) := idx_t (i := 2) rfl
@[simp] theorem idx_t3 (a b c d : G) (r : List G) : Ev.b2 .idx (.tup (a :: b :: c :: d :: r)) (.int 3) = some (.g d) := idx_t (i := 3) rfl
theorem idx_row {r : List Int} {i : Nat} (hi : i < r.length) : Ev.b2 .idx (isG r) (.int (i : Int)) = some (.g (.int (at_ r i))) := idx_t (row_get hi)
theorem idx_m {s : St} {m : Nat} (h : m < s.marks.length) : Ev.b2 .idx (msG s) (.int (m : Int)) = some (.g (isG (s.marks[m]?.getD []))) := by
  refine idx_t ?_
  rw [List.getElem?_map, List.getElem?_eq_getElem h]; rfl
theorem idx_l2 {s : St} {m : Nat} (h : m < s.links.length) : Ev.b2 .idx (lsG s) (.int (m : Int)) = some (.g (lG (s.links[m]?.getD []))) := by
  refine idx_t ?_
  rw [List.getElem?_map, List.getElem?_eq_getElem h]; rfl
/-! == -/
theorem int_eq (a b : Int) : pyEq (.int a) (.int b) = some (decide (a = b)) := by
  have h1 : ∀ a : Int, SeqAt.shaped (.int a) = true := fun a => shaped_of (by simp [PyData.canLay0]) (by simp [PyData.depth])
  unfold pyEq
  simp only [G.py, h1, Bool.and_self, if_true, PyData.eqv]
  congr 1
theorem bl_eq (a b : Bool) : pyEq (.bl a) (.bl b) = some (a == b) := by cases a <;> cases b <;> rfl
/-! in -/
theorem in_is (x : Int) (w : List Int) : Ev.b2 .in_ (.int x) (isG w) = some (.g (.bl (w.contains x))) := by
  have h1 : ∀ w : List Int, (w.map G.int).all flatG = true := fun w => by simp [flatG]
  have h2 : ∀ w : List Int, ((w.map G.int).any fun y => eqF y (.int x)) = w.contains x := by
    intro w
    induction w with
    | nil => rfl
    | cons y w ih => simp only [List.map_cons, List.any_cons, ih, List.contains_cons, eqF]; congr 1; rw [Bool.eq_iff_iff, beq_iff_eq, beq_iff_eq]; exact eq_comm
  show (inSeq (.int x) (w.map .int)).map _ = _
  unfold inSeq
  rw [h1, h2]; rfl
theorem pys_p : ∀ l : List (Int × Int), G.pys (l.map pG) = some (l.map fun p => .tuple [.int p.1, .int p.2])
  | [] => rfl
  | p :: l => by simp [G.pys, G.py, pG, pys_p l]
theorem in_ps (a b : Int) (l : List (Int × Int)) : Ev.b2 .in_ (.tup [.int a, .int b]) (lG l) = some (.g (.bl (l.contains (a, b)))) := by
  have h2 : ∀ l : List (Int × Int), ((l.map fun p : Int × Int => PyData.tuple [.int p.1, .int p.2]).any fun z => PyData.eqv z (.tuple [.int a, .int b])) = l.contains (a, b) := by
    intro l
    induction l with
    | nil => rfl
    | cons p l ih =>
      simp only [List.map_cons, List.any_cons, ih, List.contains_cons]
      congr 1
      obtain ⟨c, d⟩ := p
      simp only [PyData.eqv, PyData.eqvAll]
      rw [Bool.eq_iff_iff]
      simp only [Bool.and_true, Bool.and_eq_true, beq_iff_eq, decide_eq_true_eq, Prod.mk.injEq]
      constructor <;> rintro ⟨rfl, rfl⟩ <;> exact ⟨rfl, rfl⟩
  have h3 : SeqAt.shaped (.tuple [.int a, .int b]) = true := shaped_of (by simp [PyData.canLay0, PyData.canLayAll0]) (by simp [PyData.depth, PyData.depthAll])
  have h4 : SeqAt.shaped (.list (l.map fun p => .tuple [.int p.1, .int p.2])) = true := by
    have k1 : ∀ l : List (Int × Int), PyData.canLayAll0 (l.map fun p => .tuple [.int p.1, .int p.2]) = true := by
      intro l
      induction l with
      | nil => simp [PyData.canLayAll0]
      | cons p l ih => simp [PyData.canLayAll0, PyData.canLay0, ih]
    have k2 : ∀ l : List (Int × Int), PyData.depthAll (l.map fun p => .tuple [.int p.1, .int p.2]) ≤ 2 := by
      intro l
      induction l with
      | nil => simp [PyData.depthAll]
      | cons p l ih => simp [PyData.depthAll, PyData.depth]; omega
    refine shaped_of (by simpa [PyData.canLay0] using k1 l) ?_
    have := k2 l
    simp only [PyData.depth]; omega
  show (inSeq (.tup [.int a, .int b]) (l.map pG)).map _ = _
  unfold inSeq
  simp only [flatG, Bool.false_and, Bool.false_eq_true, if_false]
  unfold inDeep
  rw [pys_p]
  simp only [G.py, G.pys, h3, h4, Bool.and_self, if_true, Option.map_some, h2]
/-! operators, for simp -/
@[simp] theorem b2_eq (a b : G) : Ev.b2 .eq a b = (pyEq a b).map fun r => .g (.bl r) := rfl
@[simp] theorem b2_ne (a b : G) : Ev.b2 .ne a b = (pyEq a b).map fun r => .g (.bl (!r)) := rfl
@[simp] theorem b2_lt (a b : Int) : Ev.b2 .lt (.int a) (.int b) = some (.g (.bl (decide (a < b)))) := rfl
@[simp] theorem b2_le (a b : Int) : Ev.b2 .le (.int a) (.int b) = some (.g (.bl (decide (a ≤ b)))) := rfl
@[simp] theorem b2_gt (a b : Int) : Ev.b2 .gt (.int a) (.int b) = some (.g (.bl (decide (b < a)))) := rfl
@[simp] theorem b2_add (a b : Int) : Ev.b2 .add (.int a) (.int b) = some (.g (.int (a + b))) := rfl
@[simp] theorem b2_sub (a b : Int) : Ev.b2 .sub (.int a) (.int b) = some (.g (.int (a - b))) := rfl
@[simp] theorem b2_isnot (a : G) : Ev.b2 .isnot a .non = some (.g (.bl (!isNon a))) := rfl
theorem b2_tup {xs ys : List G} (h : xs.length + ys.length ≤ 100000) : Ev.b2 .add (.tup xs) (.tup ys) = some (.g (.tup (xs ++ ys))) := if_pos h
@[simp] theorem truth_bl (b : Bool) : truth (.bl b) = some b := rfl
@[simp] theorem bi_lt (xs : List G) : bi .len [.tup xs] = some (.g (.int (xs.length : Int))) := rfl
@[simp] theorem bi_ll (xs : List G) : bi .len [.lst xs] = some (.g (.int (xs.length : Int))) := rfl
@[simp] theorem bi_isi (t : Ty) (x : G) : bi (.isi t) [x] = (isTy t x).map fun b => .g (.bl b) := rfl
@[simp] theorem bi_all (xs : List G) : bi .all [.lst xs] = (boolsOf xs).map fun bs => .g (.bl (bs.all id)) := rfl
@[simp] theorem bi_tup (xs : List G) : bi .tuple [.lst xs] = some (.g (.tup xs)) := rfl
@[simp] theorem bi_int (b : Bool) : bi .int [.bl b] = some (.g (.int (if b then 1 else 0))) := rfl
@[simp] theorem isTy_tt (xs : List G) : isTy .tuple (.tup xs) = some true := rfl
@[simp] theorem isTy_ss (s : Str) : isTy .str (.str s) = some true := rfl
theorem frzs_g (e : Ev.Env) : ∀ gs : List G, frzs (gs.map .g) e = some (gs, e)
  | [] => rfl
  | g :: gs => by simp [frzs, frz, frzs_g e gs]
theorem eTup_snoc {F : FF} {e : Ev.Env} {i j : Nat} {xs : List G} {y : G} (hi : nameD e i = some (.g (.tup xs))) (hj : nameD e j = some (.g y)) (hl : xs.length < 100000) : eTup (aStar (eV i) (aCons (eV j) aNil)) F e = .ok (.g (.tup (xs ++ [y]))) e := by
  have h1 : aStar (eV i) (aCons (eV j) aNil) F e = .ok ((xs ++ [y]).map .g) e := by
    unfold aStar
    simp [hi, hj, view]
  refine eTup_ok h1 (frzs_g e _) (by simp; omega)
theorem eAttr_ok {C : CT} {F : FF} {e : Ev.Env} {i n c j : Nat} {fs : List G} {x : G} (hi : nameD e i = some (.g (.ins c fs))) (ha : attrOf C c n = some (.fld j)) (hx : fs[j]? = some x) : eAttr C (eV i) n F e = .ok (.g x) e := by
  unfold eAttr
  simp [hi, view, ha, hx]
/-! loops that look for something -/
theorem forL_look {α : Type} {step : G → Ev.Env → RS} {I : Ev.Env → Prop} {p : α → Bool} {g : α → G} {r : α → D} : ∀ {xs : List α}, (∀ x ∈ xs, ∀ e, I e → ∃ e', I e' ∧ step (g x) e = if p x then .rt (r x) e' else .nx e') → ∀ e, I e →
    ∃ e', I e' ∧ forL step (xs.map g) e = match xs.find? p with | some x => .rt (r x) e' | none => .nx e'
  | [], _, e, i => ⟨e, i, rfl⟩
  | x :: xs, h, e, i => by
    obtain ⟨e1, i1, h1⟩ := h x (List.mem_cons_self ..) e i
    cases hp : p x with
    | true => exact ⟨e1, i1, by rw [List.map_cons, forL_rt (by rw [h1, hp]; rfl), List.find?_cons_of_pos hp]⟩
    | false =>
      obtain ⟨e2, i2, h2⟩ := forL_look (xs := xs) (fun z hz => h z (List.mem_cons_of_mem _ hz)) e1 i1
      exact ⟨e2, i2, by rw [List.map_cons, forL_nx (e1 := e1) (by rw [h1, hp]; rfl), h2, List.find?_cons_of_neg (by simp [hp])]⟩
theorem rangeG_at : ∀ (n : Nat) (lo : Int), rangeG lo n = (List.range n).map fun (x : Nat) => .int (lo + (x : Int))
  | 0, lo => rfl
  | n + 1, lo => by
    rw [List.range_succ_eq_map, List.map_cons, List.map_map]
    show G.int lo :: rangeG (lo + 1) n = _
    rw [rangeG_at n (lo + 1)]
    congr 1
    · simp
    · refine List.map_congr_left fun x _ => ?_
      simp only [Function.comp, Nat.succ_eq_add_one]; congr 1; omega
theorem rangeG_ns (n : Nat) : rangeG 0 n = (List.range n).map fun (x : Nat) => .int (x : Int) := by
  rw [rangeG_at]; simp
end FoL

end
section
set_option linter.all false
set_option Elab.async false
set_option maxRecDepth 100000
set_option maxHeartbeats 1000000
namespace FoL
open Ev PySem
/-! loops and comprehensions over mapped rows -/
theorem compL_mapf {α : Type} {g h : α → G} {step : G → Ev.Env → R (Option G)} {e : Ev.Env} : ∀ {xs : List α} {acc : List G}, (∀ x ∈ xs, step (g x) e = .ok (some (h x)) e) → compL step (xs.map g) acc e = .ok (acc.reverse ++ xs.map h) e
  | [], acc, _ => by simp [compL]
  | x :: xs, acc, k => by
    simp only [List.map_cons, compL, k x (List.mem_cons_self ..), compK]
    rw [compL_mapf fun y hy => k y (List.mem_cons_of_mem _ hy)]
    simp
/-- with a condition -/
theorem compL_filtf {α : Type} {g : α → G} {p : α → Bool} {step : G → Ev.Env → R (Option G)} {e : Ev.Env} : ∀ {xs : List α} {acc : List G}, (∀ x ∈ xs, step (g x) e = .ok (if p x then some (g x) else none) e) → compL step (xs.map g) acc e = .ok (acc.reverse ++ (xs.filter p).map g) e
  | [], acc, _ => by simp [compL]
  | x :: xs, acc, k => by
    have hx := k x (List.mem_cons_self ..)
    cases hp : p x with
    | true =>
      rw [hp] at hx
      simp only [List.map_cons, compL, hx, if_true, compK]
      rw [compL_filtf fun y hy => k y (List.mem_cons_of_mem _ hy), List.filter_cons_of_pos hp]
      simp
    | false =>
      rw [hp] at hx
      simp only [List.map_cons, compL, hx, Bool.false_eq_true, if_false, compK]
      rw [compL_filtf fun y hy => k y (List.mem_cons_of_mem _ hy), List.filter_cons_of_neg (by simp [hp])]
theorem eComp_mapf {α : Type} {g h : α → G} {own : List Nat} {el : EV} {t : GV} {it : IV} {F : FF} {e : Ev.Env} {xs : List α} (hit : it F e = .ok (xs.map g, none) e) (hl : (own.all fun v => !isLck (getS e v)) = true) (hw : wipeE e own = e) (hk : keepE e e own = e)
    (hs : ∀ x ∈ xs, ∃ e1 e2 d e3, t (g x) e = some e1 ∧ el F e1 = .ok d e2 ∧ frz d e2 = some (h x, e3) ∧ wipeE e3 own = e) (hn : xs.length ≤ 100000) : eComp own el t it tYesT F e = .ok (.own (.lst (xs.map h))) e := by
  have hc := compL_mapf (g := g) (h := h) (step := compStep own el t tYesT F) (e := e) (xs := xs) (acc := []) (fun x hx => by
    obtain ⟨e1, e2, d, e3, h1, h2, h3, h4⟩ := hs x hx
    rw [compStep_yes h1 h2 h3, h4])
  have := eComp_v (own := own) (el := el) (t := t) (it := it) (c := tYesT) (F := F) (e0 := e) (e := e) (e1 := e) hit hl (by rw [hw]; exact hc) (by simpa using hn)
  rw [this, hk]; simp
theorem eComp_filtf {α : Type} {g : α → G} {p : α → Bool} {own : List Nat} {el : EV} {t : GV} {it : IV} {c : TV} {F : FF} {e : Ev.Env} {xs : List α} (hit : it F e = .ok (xs.map g, none) e) (hl : (own.all fun v => !isLck (getS e v)) = true) (hw : wipeE e own = e) (hk : keepE e e own = e)
    (hs : ∀ x ∈ xs, ∃ e1 d, t (g x) e = some e1 ∧ c F e1 = .ok (p x) e1 ∧ el F e1 = .ok d e1 ∧ frz d e1 = some (g x, e1) ∧ wipeE e1 own = e) (hn : xs.length ≤ 100000) : eComp own el t it c F e = .ok (.own (.lst ((xs.filter p).map g))) e := by
  have hc := compL_filtf (g := g) (p := p) (step := compStep own el t c F) (e := e) (xs := xs) (acc := []) (fun x hx => by
    obtain ⟨e1, d, h1, h2, h3, h4, h5⟩ := hs x hx
    rw [compStep_if h1 h2 h3 h4 rfl, h5])
  have := eComp_v (own := own) (el := el) (t := t) (it := it) (c := c) (F := F) (e0 := e) (e := e) (e1 := e) hit hl (by rw [hw]; exact hc) (by have := List.length_filter_le p xs; simp; omega)
  rw [this, hk]; simp
theorem whileL_yes {c : Ev.Env → R Bool} {b : Ev.Env → RS} {e e' : Ev.Env} {n : Nat} (hc : c e = .ok true e) (hb : b e = .nx e') : whileL c b (n + 1) e = whileL c b n e' := by
  show (c e).st _ = _
  rw [hc]
  show (match b e with | .nx e1 => whileL c b n e1 | .ct e1 => whileL c b n e1 | .bk e1 => .nx e1 | .ini _ _ _ => .bad | r => r) = _
  rw [hb]
theorem whileL_no {c : Ev.Env → R Bool} {b : Ev.Env → RS} {e : Ev.Env} {n : Nat} (hc : c e = .ok false e) : whileL c b (n + 1) e = .nx e := by
  show (c e).st _ = _
  rw [hc]; rfl
theorem pyEq_tcons_nil {x : G} {xs : List G} (h : oky 64 (.tup (x :: xs)) = true) : pyEq (.tup (x :: xs)) (.tup []) = some false := by
  have h' := h
  simp only [oky, okys, Bool.and_eq_true] at h
  obtain ⟨d, h1, h2, h3⟩ := oky_py 64 _ h'
  obtain ⟨a, e1, _⟩ := oky_py _ x h.2.1
  obtain ⟨b, e2, _⟩ := okys_py _ xs h.2.2
  have e3 : G.py (.tup (x :: xs)) = some (.tuple (a :: b)) := by simp [G.py, G.pys, e1, e2]
  rw [e3] at h1; cases h1
  have e4 : G.py (.tup []) = some (.tuple []) := rfl
  unfold pyEq
  rw [e3, e4]
  have : SeqAt.shaped (.tuple []) = true := by decide +kernel
  simp [shaped_of h2 h3, this, PyData.eqv, PyData.eqvAll]
theorem objOf_obj {e : Ev.Env} {i : Nat} {g : G} (h : getS e i = .obj g) : objOf e i = some g := by unfold objOf; rw [h]
theorem putO_obj {e : Ev.Env} {i : Nat} {g x : G} (h : getS e i = .obj g) : putO e i x = some (e.set i (.obj x)) := by unfold putO; rw [h]
theorem eMeth_pop {F : FF} {e : Ev.Env} {i : Nat} {xs : List G} {x : G} (h : getS e i = .obj (.lst (xs ++ [x]))) : eMeth i .pop aNil F e = .ok (.g x) (e.set i (.obj (.lst xs))) := by
  have hm : Ev.mt .pop (.lst (xs ++ [x])) [] = some (.lst xs, x) := by simp [Ev.mt]
  unfold eMeth
  simp [objOf_obj h, putO_obj h, isLs, frzs, hm]
theorem eMeth_ext {F : FF} {e : Ev.Env} {i : Nat} {xs ys : List G} {as : AV} (h : getS e i = .obj (.lst xs)) (ha : as F e = .ok [.own (.lst ys)] e) (hl : xs.length + ys.length < 100000) : eMeth i .extend as F e = .ok (.g .non) (e.set i (.obj (.lst (xs ++ ys)))) := by
  have hm : Ev.mt .extend (.lst xs) [.lst ys] = some (.lst (xs ++ ys), .non) := by simp [Ev.mt, hl]
  unfold eMeth
  simp [objOf_obj h, putO_obj h, isLs, frzs, frz, hm, ha]
theorem eMeth_app {F : FF} {e e1 : Ev.Env} {i : Nat} {xs : List G} {y : G} {as : AV} (h0 : isLs (objOf e i) = true) (ha : as F e = .ok [.g y] e1) (h : getS e1 i = .obj (.lst xs)) (hl : xs.length < 100000) : eMeth i .append as F e = .ok (.g .non) (e1.set i (.obj (.lst (xs ++ [y])))) := by
  have hm : Ev.mt .append (.lst xs) [y] = some (.lst (xs ++ [y]), .non) := by simp [Ev.mt, hl]
  unfold eMeth
  rw [if_pos h0]
  simp [objOf_obj h, putO_obj h, frzs, frz, hm, ha]
/-! formulas: their words and parts -/
def wd : Fm → PySem.Str
  | .tru => PySem.Str.ofString "true" | .non _ => PySem.Str.ofString "none" | .mark _ _ => PySem.Str.ofString "mark" | .link _ _ _ => PySem.Str.ofString "link" | .same _ _ => PySem.Str.ofString "same"
  | .nt _ => PySem.Str.ofString "not" | .an _ _ => PySem.Str.ofString "and" | .orr _ _ => PySem.Str.ofString "or" | .som _ => PySem.Str.ofString "some" | .al _ => PySem.Str.ofString "all"
def rest : Fm → List G
  | .tru => [] | .non i => [.int (i : Int)] | .mark m i => [.int (m : Int), .int (i : Int)] | .link l i j => [.int (l : Int), .int (i : Int), .int (j : Int)] | .same i j => [.int (i : Int), .int (j : Int)]
  | .nt f => [fG f] | .an f g => [fG f, fG g] | .orr f g => [fG f, fG g] | .som f => [fG f] | .al f => [fG f]
theorem fG_eq (f : Fm) : fG f = .tup (.str (wd f) :: rest f) := by cases f <;> rfl
def parts : Fm → List Fm
  | .nt f => [f] | .an f g => [f, g] | .orr f g => [f, g] | .som f => [f] | .al f => [f] | _ => []
def isJ : Fm → Bool
  | .nt f => true | .an f g => true | .orr f g => true | .som f => true | .al f => true | _ => false
def isQ : Fm → Bool
  | .som f => true | .al f => true | _ => false
theorem rest_parts {f : Fm} (h : isJ f = true) : rest f = (parts f).map fG := by cases f <;> simp_all [isJ] <;> rfl
theorem parts_nil {f : Fm} (h : isJ f = false) : parts f = [] := by cases f <;> simp_all [isJ] <;> rfl
theorem in_q (f : Fm) : Ev.b2 .in_ (.str (wd f)) (.tup [.str (PySem.Str.ofString "some"), .str (PySem.Str.ofString "all")]) = some (.g (.bl (isQ f))) := by cases f <;> rfl
theorem idx_wd (f : Fm) : Ev.b2 .idx (fG f) (.int 0) = some (.g (.str (wd f))) := by rw [fG_eq]; exact idx_t0 _ _
theorem cut1 (a : G) (r : List G) : cutL (a :: r) (some 1) none = r := by
  unfold cutL HT.sIx
  simp
theorem depth_parts (f : Fm) : depth f = maxI ((parts f).map fun g => (depth g : Int)) 0 + (if isQ f then 1 else 0) := by
  cases f <;> simp [parts, depth, isQ, maxI] <;> omega
theorem ht_parts {f g : Fm} (h : g ∈ parts f) : ht g + 1 ≤ ht f := by
  cases f <;> simp [parts] at h <;> (try rcases h with rfl | rfl) <;> (try subst h) <;> simp [ht] <;> omega
theorem wf_parts {sm sl k : Nat} {f g : Fm} (hw : wf sm sl k f) (h : g ∈ parts f) : wf sm sl (k + if isQ f then 1 else 0) g := by
  cases f <;> simp [parts] at h <;> (try rcases h with rfl | rfl) <;> (try subst h) <;> simp [isQ] <;> first | exact hw | exact hw.1 | exact hw.2
theorem depth_part {f g : Fm} (h : g ∈ parts f) : depth g + (if isQ f then 1 else 0) ≤ depth f := by
  cases f <;> simp [parts] at h <;> (try rcases h with rfl | rfl) <;> (try subst h) <;> simp [isQ, depth] <;> omega
theorem nodes_parts (f : Fm) : nodes f = ((parts f).map nodes).sum + 1 := by
  cases f <;> simp [parts, nodes]
theorem oky_wd (n : Nat) (f : Fm) : oky n (.str (wd f)) = true := by
  simp only [oky]
  cases f <;> simp only [wd] <;> decide +kernel
theorem oky_tup (n : Nat) (xs : List G) : oky n (.tup xs) = (decide (0 < n) && okys (n - 1) xs) := by simp only [oky]
theorem okys_cons (n : Nat) (x : G) (xs : List G) : okys n (x :: xs) = (oky n x && okys n xs) := by simp only [okys]
theorem okys_nil (n : Nat) : okys n [] = true := by simp only [okys]
theorem oky_int (n : Nat) (i : Int) : oky n (.int i) = true := by simp only [oky]
theorem oky_fG : ∀ (f : Fm) (n : Nat), ht f + 2 ≤ n → oky n (fG f) = true := by
  have k : ∀ (f : Fm) (n : Nat), 0 < n → okys (n - 1) (rest f) = true → oky n (fG f) = true := by
    intro f n hn h
    rw [fG_eq, oky_tup, okys_cons, oky_wd, h]; simp [hn]
  intro f
  induction f with
  | nt f ih => intro n hn; simp only [ht] at hn; exact k _ n (by omega) (by rw [rest, okys_cons, okys_nil, ih (n - 1) (by omega)]; rfl)
  | an f g ih1 ih2 => intro n hn; simp only [ht] at hn; exact k _ n (by omega) (by rw [rest, okys_cons, okys_cons, okys_nil, ih1 (n - 1) (by omega), ih2 (n - 1) (by omega)]; rfl)
  | orr f g ih1 ih2 => intro n hn; simp only [ht] at hn; exact k _ n (by omega) (by rw [rest, okys_cons, okys_cons, okys_nil, ih1 (n - 1) (by omega), ih2 (n - 1) (by omega)]; rfl)
  | som f ih => intro n hn; simp only [ht] at hn; exact k _ n (by omega) (by rw [rest, okys_cons, okys_nil, ih (n - 1) (by omega)]; rfl)
  | al f ih => intro n hn; simp only [ht] at hn; exact k _ n (by omega) (by rw [rest, okys_cons, okys_nil, ih (n - 1) (by omega)]; rfl)
  | tru => intro n hn; exact k _ n (by omega) (by simp [rest, okys_nil])
  | non i => intro n hn; exact k _ n (by omega) (by simp [rest, okys_cons, okys_nil, oky_int])
  | mark m i => intro n hn; exact k _ n (by omega) (by simp [rest, okys_cons, okys_nil, oky_int])
  | link l i j => intro n hn; exact k _ n (by omega) (by simp [rest, okys_cons, okys_nil, oky_int])
  | same i j => intro n hn; exact k _ n (by omega) (by simp [rest, okys_cons, okys_nil, oky_int])
theorem intsOf_mapg {α : Type} (f : α → Int) : ∀ xs : List α, intsOf (xs.map fun x => .int (f x)) = some (xs.map f)
  | [] => rfl
  | x :: xs => by simp [intsOf, intsOf_mapg f xs]
end FoL

end
section
set_option linter.all false
set_option Elab.async false
set_option maxRecDepth 100000
set_option maxHeartbeats 1000000
namespace FoL
open Ev PySem
theorem argsS_g (e : Ev.Env) : ∀ gs : List G, argsS e (gs.map .g) = some (gs.map .val)
  | [] => rfl
  | g :: gs => by simp [argsS, argS, argsS_g e gs]
theorem lent_g (e : Ev.Env) : ∀ gs : List G, lent e (gs.map .g) = []
  | [] => rfl
  | g :: gs => by simp [lent, lent_g e gs]
theorem back_g (e : Ev.Env) : ∀ (gs : List G) (fn : Ev.Env), gs.length ≤ fn.length → back e (gs.map .g) fn = some e
  | [], fn, _ => by cases fn <;> rfl
  | g :: gs, [], h => by simp at h
  | g :: gs, f :: fn, h => by simp at h; exact back_g e gs fn h
/-- a call with values that are not handed in -/
theorem doCall_d {F : FF} {f : Nat} {gs dfl : List G} {d : D} {fn : Ev.Env} {e : Ev.Env} (h : F f (gs.map .val ++ dfl.map .val) = .ok d fn) (hl : gs.length ≤ fn.length) (hm : isMade d = false) : doCall F f dfl (gs.map .g) e = .ok d e := by
  unfold doCall
  rw [argsS_g, lent_g]
  simp only [List.nodup_nil, if_true, h, hm, back_g e gs fn hl]
  rfl
/-- for turn in range(n), by an invariant that counts -/
theorem forL_rangeI {step : G → Ev.Env → RS} {I : Nat → Ev.Env → Prop} (n : Nat) (h : ∀ i, i < n → ∀ e, I i e → ∃ e', step (.int (i : Int)) e = .nx e' ∧ I (i + 1) e') : ∀ e, I 0 e → ∃ e', forL step (rangeG 0 n) e = .nx e' ∧ I n e' := by
  have k : ∀ (m lo : Nat), lo + m = n → ∀ e, I lo e → ∃ e', forL step (rangeG (lo : Int) m) e = .nx e' ∧ I n e' := by
    intro m
    induction m with
    | zero => intro lo hm e hi; simp at hm; subst hm; exact ⟨e, rfl, hi⟩
    | succ m ih =>
      intro lo hm e hi
      obtain ⟨e1, h1, i1⟩ := h lo (by omega) e hi
      obtain ⟨e2, h2, i2⟩ := ih (lo + 1) (by omega) e1 i1
      refine ⟨e2, ?_, i2⟩
      show forL step (.int (lo : Int) :: rangeG ((lo : Int) + 1) m) e = _
      rw [forL_nx h1]; exact h2
  exact fun e hi => k n 0 (by omega) e hi
/-- comprehensions of two clauses -/
theorem compL2_flat {α : Type} {g : α → G} {h : α → List G} {step : G → List G → Ev.Env → R (List G)} {nm : List Nat} {e : Ev.Env} : ∀ {xs : List α} {acc : List G}, (∀ x ∈ xs, ∀ acc, ∃ e', step (g x) acc e = .ok (acc.reverse ++ h x) e' ∧ wipeE e' nm = e) →
    compL2 step nm (xs.map g) acc e = .ok (acc.reverse ++ xs.flatMap h) e
  | [], acc, _ => by simp [compL2]
  | x :: xs, acc, k => by
    obtain ⟨e', h1, h2⟩ := k x (List.mem_cons_self ..) acc
    simp only [List.map_cons, compL2, h1, comp2K, h2]
    rw [compL2_flat fun y hy => k y (List.mem_cons_of_mem _ hy)]
    simp
/-- over a list of a slot, which is locked -/
theorem eComp_filto {α : Type} {g : α → G} {p : α → Bool} {own : List Nat} {el : EV} {t : GV} {it : IV} {c : TV} {F : FF} {e e0 eL : Ev.Env} {o : Option Nat} {xs : List α} (hit : it F e0 = .ok (xs.map g, o) e) (ho : lockO o e = eL) (hu : unlockO o eL = e) (hl : (own.all fun v => !isLck (getS eL v)) = true) (hw : wipeE eL own = eL) (hk : keepE eL eL own = eL)
    (hs : ∀ x ∈ xs, ∃ e1 d, t (g x) eL = some e1 ∧ c F e1 = .ok (p x) e1 ∧ el F e1 = .ok d e1 ∧ frz d e1 = some (g x, e1) ∧ wipeE e1 own = eL) (hn : xs.length ≤ 100000) : eComp own el t it c F e0 = .ok (.own (.lst ((xs.filter p).map g))) e := by
  have hc := compL_filtf (g := g) (p := p) (step := compStep own el t c F) (e := eL) (xs := xs) (acc := []) (fun x hx => by
    obtain ⟨e1, d, h1, h2, h3, h4, h5⟩ := hs x hx
    rw [compStep_if h1 h2 h3 h4 rfl, h5])
  have hlen : ((xs.filter p).map g).length ≤ 100000 := by have := List.length_filter_le p xs; simp; omega
  unfold eComp
  rw [hit]
  show (if (own.all fun v => !isLck (getS (lockO o e) v)) = false then R.bad else compEnd own o e (compL (compStep own el t c F) (xs.map g) [] (wipeE (lockO o e) own))) = _
  rw [ho, hl, hw, hc]
  simp only [List.reverse_nil, List.nil_append]
  simp only [compEnd, hlen, if_true, ho, hk, hu, Bool.true_eq_false, if_false]
theorem eComp2_flat {α : Type} {g : α → G} {h : α → List G} {nm nm1 : List Nat} {el : EV} {t : GV} {it : IV} {t1 : GV} {it1 : IV} {F : FF} {e e0 eL : Ev.Env} {o : Option Nat} {xs : List α} (hit : it F e0 = .ok (xs.map g, o) e) (ho : lockO o e = eL) (hu : unlockO o eL = e) (hl : (nm.all fun v => !isLck (getS eL v)) = true) (hw : wipeE eL nm = eL) (hk : keepE eL eL nm = eL)
    (hs : ∀ x ∈ xs, ∀ acc, ∃ e', comp2Step nm1 el t tYesT t1 it1 tYesT F (g x) acc eL = .ok (acc.reverse ++ h x) e' ∧ wipeE e' nm = eL) (hn : (xs.flatMap h).length ≤ 100000) : eComp2 nm nm1 el t it tYesT t1 it1 tYesT F e0 = .ok (.own (.lst (xs.flatMap h))) e := by
  have hc := compL2_flat (g := g) (h := h) (step := comp2Step nm1 el t tYesT t1 it1 tYesT F) (nm := nm) (e := eL) (xs := xs) (acc := []) hs
  unfold eComp2
  rw [hit]
  show (if (nm.all fun v => !isLck (getS (lockO o e) v)) = false then R.bad else compEnd nm o e (compL2 (comp2Step nm1 el t tYesT t1 it1 tYesT F) nm (xs.map g) [] (wipeE (lockO o e) nm))) = _
  rw [ho, hl, hw, hc]
  simp only [List.reverse_nil, List.nil_append]
  simp only [compEnd, hn, if_true, ho, hk, hu, Bool.true_eq_false, if_false]
theorem mulOk_small {a b : Int} (h1 : 0 ≤ b) (h2 : b ≤ 1000) : mulOk a b = true := by
  have k1 : -18446744073709551616 < b := by omega
  have k2 : b < 18446744073709551616 := by omega
  exact Bool.or_eq_true_iff.mpr (.inr (Bool.and_eq_true_iff.mpr ⟨decide_eq_true k1, decide_eq_true k2⟩))
theorem sMul_ok {i : Nat} {x : EV} {F : FF} {e e1 : Ev.Env} {a b : Int} {d : D} (h0 : getS e i = .val (.int a)) (hx : x F e = .ok d e1) (hv : view d e1 = some (.int b)) (hm : mulOk a b = true) : sMul i x F e = nxO (setS e1 i (.val (.int (a * b)))) := by
  unfold sMul
  simp only [h0, hx, R_st_ok, hv, hm, if_true, forceI_eq]
/-! rows -/
def rowsL (lo : Int) (n : Nat) : Nat → List (List Int)
  | 0 => [[]]
  | m + 1 => (rowsL lo n m).flatMap fun r => (List.range n).map fun (x : Nat) => r ++ [lo + (x : Int)]
theorem rows_len (lo : Int) (n : Nat) : ∀ m, (rowsL lo n m).length = n ^ m
  | 0 => rfl
  | m + 1 => by
    have : ∀ rs : List (List Int), (rs.flatMap fun r => (List.range n).map fun (x : Nat) => r ++ [lo + (x : Int)]).length = rs.length * n := by
      intro rs
      induction rs with
      | nil => simp
      | cons r rs ih => rw [List.flatMap_cons, List.length_append, ih]; simp [Nat.add_mul]; omega
    rw [rowsL, this, rows_len lo n m, Nat.pow_succ]
theorem rows_mem {lo : Int} {n : Nat} : ∀ {m : Nat} {r : List Int}, r ∈ rowsL lo n m → r.length = m ∧ ∀ x ∈ r, lo ≤ x ∧ x < lo + (n : Int)
  | 0, r, h => by simp [rowsL] at h; subst h; simp
  | m + 1, r, h => by
    obtain ⟨q, hq, h⟩ := List.mem_flatMap.mp h
    obtain ⟨x, hx, rfl⟩ := List.mem_map.mp h
    obtain ⟨h1, h2⟩ := rows_mem hq
    have hx := List.mem_range.mp hx
    refine ⟨by simp [h1], fun y hy => ?_⟩
    rcases List.mem_append.mp hy with h | h
    · exact h2 y h
    · simp at h; subst h; omega
theorem pow_le {n m : Nat} (hn : n ≤ 5) (hm : m ≤ 4) : n ^ m ≤ 1000 :=
  Nat.le_trans (Nat.pow_le_pow_left hn m) (Nat.le_trans (Nat.pow_le_pow_right (by omega) hm) (by decide))
end FoL

end
section
set_option linter.all false
set_option Elab.async false
set_option maxRecDepth 100000
set_option maxHeartbeats 1000000
namespace FoL
open Ev PySem
theorem comp2Step_yes {nm1 : List Nat} {el : EV} {t : GV} {t1 : GV} {it1 : IV} {F : FF} {x : G} {acc : List G} {e e1 : Ev.Env} (h : t x e = some e1) : comp2Step nm1 el t tYesT t1 it1 tYesT F x acc e = comp2In nm1 el t1 it1 tYesT F acc e1 := by
  unfold comp2Step; rw [h]; rfl
theorem comp2In_ok {nm1 : List Nat} {el : EV} {t1 : GV} {it1 : IV} {c1 : TV} {F : FF} {acc gs : List G} {e e1 e2 : Ev.Env} (h : it1 F e = .ok (gs, none) e1) (hw : wipeE e1 nm1 = e2) : comp2In nm1 el t1 it1 c1 F acc e = compL (compStep nm1 el t1 c1 F) gs acc e2 := by
  unfold comp2In; rw [h, ← hw]; rfl
theorem iR2_ok {a b : EV} {F : FF} {e e1 e2 : Ev.Env} {m n : Int} {k : Nat} (h1 : a F e = .ok (.g (.int m)) e1) (h2 : b F e1 = .ok (.g (.int n)) e2) (hm : okR m = true) (hn : okR n = true) (hk : (n - m).toNat = k) : iR2 a b F e = .ok (rangeG m k, none) e2 := by
  unfold iR2
  rw [h1, R_bind_ok, h2, R_bind_ok]
  show (if (okR m && okR n) = true then R.ok (rangeG m (n - m).toNat, none) e2 else R.bad) = _
  rw [hm, hn, hk]; rfl
theorem iE_own {a : EV} {F : FF} {e e1 : Ev.Env} {gs : List G} (h : a F e = .ok (.own (.lst gs)) e1) : iE a F e = .ok (gs, none) e1 := by
  unfold iE; rw [h]; rfl
theorem iE_gl {a : EV} {F : FF} {e e1 : Ev.Env} {gs : List G} (h : a F e = .ok (.g (.lst gs)) e1) : iE a F e = .ok (gs, none) e1 := by
  unfold iE; rw [h]; rfl
theorem iE_gt {a : EV} {F : FF} {e e1 : Ev.Env} {gs : List G} (h : a F e = .ok (.g (.tup gs)) e1) : iE a F e = .ok (gs, none) e1 := by
  unfold iE; rw [h]; rfl
theorem iZ_tt {a b : EV} {F : FF} {e e1 e2 : Ev.Env} {xs ys : List G} (h1 : a F e = .ok (.g (.tup xs)) e1) (h2 : b F e1 = .ok (.g (.tup ys)) e2) : iZ a b F e = .ok (zipG xs ys, none) e2 := by
  unfold iZ; rw [h1, R_bind_ok, h2]; rfl
theorem tNotT_ok {a : TV} {F : FF} {e e1 : Ev.Env} {b : Bool} (h : a F e = .ok b e1) : tNotT a F e = .ok (!b) e1 := by rw [tNotT_e, h]; rfl
theorem tOrT_f {a c : TV} {F : FF} {e e1 e2 : Ev.Env} {b : Bool} (h : a F e = .ok false e1) (h2 : c F e1 = .ok b e2) : tOrT a c F e = .ok b e2 := by rw [tOrT_e, h, R_bind_ok]; exact h2
theorem tOrT_t {a c : TV} {F : FF} {e e1 : Ev.Env} (h : a F e = .ok true e1) : tOrT a c F e = .ok true e1 := by rw [tOrT_e, h, R_bind_ok]
theorem tAndT_t {a c : TV} {F : FF} {e e1 e2 : Ev.Env} {b : Bool} (h : a F e = .ok true e1) (h2 : c F e1 = .ok b e2) : tAndT a c F e = .ok b e2 := by rw [tAndT_e, h, R_bind_ok]; exact h2
theorem tAndT_f {a c : TV} {F : FF} {e e1 : Ev.Env} (h : a F e = .ok false e1) : tAndT a c F e = .ok false e1 := by rw [tAndT_e, h, R_bind_ok]
theorem eAnd_t {a c : EV} {F : FF} {e e1 e2 : Ev.Env} {d d2 : D} (h : a F e = .ok d e1) (hv : view d e1 = some (.bl true)) (h2 : c F e1 = .ok d2 e2) : eAnd a c F e = .ok d2 e2 := by rw [eAnd_e, h, R_bind_ok, hv]; exact h2
theorem eAnd_f {a c : EV} {F : FF} {e e1 : Ev.Env} {d : D} (h : a F e = .ok d e1) (hv : view d e1 = some (.bl false)) : eAnd a c F e = .ok (.g (.bl false)) e1 := by rw [eAnd_e, h, R_bind_ok, hv]
theorem eOr_f {a c : EV} {F : FF} {e e1 e2 : Ev.Env} {d d2 : D} (h : a F e = .ok d e1) (hv : view d e1 = some (.bl false)) (h2 : c F e1 = .ok d2 e2) : eOr a c F e = .ok d2 e2 := by rw [eOr_e, h, R_bind_ok, hv]; exact h2
theorem eOr_t {a c : EV} {F : FF} {e e1 : Ev.Env} {d : D} (h : a F e = .ok d e1) (hv : view d e1 = some (.bl true)) : eOr a c F e = .ok (.g (.bl true)) e1 := by rw [eOr_e, h, R_bind_ok, hv]
theorem eIte_t {c : TV} {a b : EV} {F : FF} {e e1 : Ev.Env} (h : c F e = .ok true e1) : eIte c a b F e = a F e1 := by rw [eIte_e, h]; rfl
theorem eIte_f {c : TV} {a b : EV} {F : FF} {e e1 : Ev.Env} (h : c F e = .ok false e1) : eIte c a b F e = b F e1 := by rw [eIte_e, h]; rfl
theorem sAsg_ok {t : GV} {x : EV} {F : FF} {e e1 e2 e3 : Ev.Env} {d : D} {g : G} (h : x F e = .ok d e1) (hf : frz d e1 = some (g, e2)) (ht : t g e2 = some e3) : sAsg t x F e = .nx e3 := by
  rw [sAsg_e, h, R_st_ok, hf]
  show nxO (t g e2) = _
  rw [ht]; rfl
theorem sPar_ok {is : List Nat} {es : AV} {F : FF} {e e1 e2 : Ev.Env} {ds : List D} (h : es F e = .ok ds e1) (hp : parSet is ds e1 = some e2) : sPar is es F e = .nx e2 := by
  rw [sPar_e, h, R_st_ok, hp]; rfl
end FoL

end
section
set_option linter.all false
set_option Elab.async false
set_option maxRecDepth 100000
set_option maxHeartbeats 4000000
namespace K25
open Ev
theorem doCall_v {F : FF} {f : Nat} {gs : List G} {d : D} {fn : Env} {e : Env} (h : F f (gs.map .val) = .ok d fn) (hl : gs.length ≤ fn.length) (hm : isMade d = false) : doCall F f [] (gs.map .g) e = .ok d e := by
  have h1 : ∀ gs : List G, argsS e (gs.map .g) = some (gs.map .val) := by
    intro gs
    induction gs with
    | nil => rfl
    | cons g gs ih => simp [argsS, argS, ih]
  have h2 : ∀ gs : List G, lent e (gs.map .g) = [] := by
    intro gs
    induction gs with
    | nil => rfl
    | cons g gs ih => simp [lent, ih]
  have h3 : ∀ (gs : List G) (fn : Env), gs.length ≤ fn.length → back e (gs.map .g) fn = some e := by
    intro gs
    induction gs with
    | nil => intro fn _; cases fn <;> rfl
    | cons g gs ih =>
      intro fn hl
      cases fn with
      | nil => simp at hl
      | cons x fn => simp at hl; exact ih fn hl
  unfold doCall
  rw [h1, h2]
  simp only [List.nodup_nil, if_true, List.map_nil, List.append_nil, h, hm, h3 gs fn hl]
  rfl
end K25

end
section
set_option linter.all false
set_option Elab.async false
set_option maxRecDepth 100000
set_option maxHeartbeats 400000
namespace K25
open Ev FoL
theorem smR {i j : Int} (h : -18446744073709551616 < j) (h2 : j < 18446744073709551616) : smallMul i j = true := by
  unfold smallMul; rw [decide_eq_true h, decide_eq_true h2]; simp
theorem smL {i j : Int} (h : -18446744073709551616 < i) (h2 : i < 18446744073709551616) : smallMul i j = true := by
  unfold smallMul; rw [decide_eq_true h, decide_eq_true h2]; simp
theorem b2_mul {i j : Int} (h : smallMul i j = true) : Ev.b2 .mul (.int i) (.int j) = some (.g (.int (i * j))) := by
  show (if smallMul i j then some (D.g (.int (i * j))) else none) = _
  rw [h]; rfl
theorem b2_mod {i j : Int} (h : 0 < j) : Ev.b2 .mod (.int i) (.int j) = some (.g (.int (i % j))) := by
  show (if decide (0 < j) then some (D.g (.int (i % j))) else none) = _
  rw [decide_eq_true h]; rfl
theorem b2_pow {i : Int} {n : Nat} (hn : n ≤ 1000) (hi : i.natAbs < big) : Ev.b2 .pow (.int i) (.int (n : Int)) = some (.g (.int (i ^ n))) := by
  show (if decide (0 ≤ (n : Int)) && decide ((n : Int) ≤ 1000) && decide (i.natAbs < big) then some (D.g (.int (i ^ (n : Int).toNat))) else none) = _
  have h1 : (0 : Int) ≤ (n : Int) := Int.natCast_nonneg n
  have h2 : (n : Int) ≤ 1000 := by omega
  rw [decide_eq_true h1, decide_eq_true h2, decide_eq_true hi, Int.toNat_natCast]; rfl
theorem ten_pow (F : FF) (e : Env) {n : Nat} (hn : n ≤ 1000) : eBin .pow (eK (.int 10)) (eK (.int (n : Int))) F e = .ok (.g (.int (10 ^ n))) e :=
  eBin_ok (x := .g (.int 10)) (y := .g (.int (n : Int))) (e1 := e) rfl rfl rfl rfl (b2_pow hn (by unfold big; decide +kernel))
theorem great_pow (F : FF) (e : Env) : ∃ T : Int, 0 < T ∧ eBin .pow (eBin .pow (eK (.int 10)) (eK (.int 56))) (eK (.int 6)) F e = .ok (.g (.int T)) e :=
  ⟨(10 ^ 56) ^ 6, by decide +kernel, eBin_ok (ten_pow F e (n := 56) (by omega)) (y := .g (.int 6)) rfl rfl rfl (b2_pow (n := 6) (by omega) (by unfold big; decide +kernel))⟩
theorem bag_ok (k : Nat) (ns : List Int) (s : Nat) : ∃ b e, callF prog (k + 1) 34 [.val (.scr (ns.map .int)), .val (.int (s : Int))] = .ok (.own (bagG b)) (.val (.scr (ns.map .int)) :: .val (.int (s : Int)) :: e) := by
  rw [call_at k _ (rfl : prog[34]? = some ⟨2, 5, b_34⟩) rfl]
  show ∃ b e, fin (b_34 (callF prog k) [.val (.scr (ns.map .int)), .val (.int (s : Int)), .non, .non, .non]) = _
  generalize callF prog k = F
  obtain ⟨c, hA⟩ : ∃ c : Int, sSet 2 (eIte (tV (eBin .lt (eV 1) (eBi .len (aCons (eV 0) aNil)))) (eBi .int (aCons (eBin .idx (eV 0) (eV 1)) aNil)) (eBin .add (eBin .mul (eK (.int 431)) (eV 1)) (eK (.int 73)))) F [.val (.scr (ns.map .int)), .val (.int (s : Int)), .non, .non, .non] = .nx [.val (.scr (ns.map .int)), .val (.int (s : Int)), .val (.int c), .non, .non] := by
    have hl : bi .len [.scr (ns.map .int)] = some (.g (.int (ns.length : Int))) := by
      show some (D.g (.int ((ns.map G.int).length : Int))) = _
      simp
    have hc : tV (eBin .lt (eV 1) (eBi .len (aCons (eV 0) aNil))) F [.val (.scr (ns.map .int)), .val (.int (s : Int)), .non, .non, .non] = .ok (decide ((s : Int) < (ns.length : Int))) [.val (.scr (ns.map .int)), .val (.int (s : Int)), .non, .non, .non] :=
      tV_ok (eBin_ok (x := .g (.int (s : Int))) (e1 := [.val (.scr (ns.map .int)), .val (.int (s : Int)), .non, .non, .non]) rfl (eBi_ok (ds := [.g (.scr (ns.map .int))]) (e1 := [.val (.scr (ns.map .int)), .val (.int (s : Int)), .non, .non, .non]) rfl rfl hl) rfl rfl rfl) rfl rfl
    by_cases h : s < ns.length
    · have h' : (s : Int) < (ns.length : Int) := Int.ofNat_lt.mpr h
      rw [decide_eq_true h'] at hc
      have hi : Ev.b2 .idx (.scr (ns.map .int)) (.int (s : Int)) = some (.g (.int ns[s])) := by
        show (atIx (ns.map .int) (s : Int)).map D.g = _
        unfold atIx
        rw [L2.atI_nat (v := .int ns[s]) (by rw [List.getElem?_map, List.getElem?_eq_getElem h]; rfl)]; rfl
      refine ⟨ns[s], sSet_ok (d := .g (.int ns[s])) (e1 := [.val (.scr (ns.map .int)), .val (.int (s : Int)), .non, .non, .non]) ?_ rfl⟩
      rw [eIte_e, hc]
      exact eBi_ok (aCons_ok (eBin_ok (x := .g (.scr (ns.map .int))) (y := .g (.int (s : Int))) (e1 := [.val (.scr (ns.map .int)), .val (.int (s : Int)), .non, .non, .non]) rfl rfl rfl rfl hi) rfl) rfl rfl
    · have h' : ¬ (s : Int) < (ns.length : Int) := fun q => h (Int.ofNat_lt.mp q)
      rw [decide_eq_false h'] at hc
      refine ⟨431 * (s : Int) + 73, sSet_ok (d := .g (.int (431 * (s : Int) + 73))) (e1 := [.val (.scr (ns.map .int)), .val (.int (s : Int)), .non, .non, .non]) ?_ rfl⟩
      rw [eIte_e, hc]
      exact eBin_ok (eBin_ok (x := .g (.int 431)) (y := .g (.int (s : Int))) (e1 := [.val (.scr (ns.map .int)), .val (.int (s : Int)), .non, .non, .non]) rfl rfl rfl rfl (b2_mul (smL (by decide) (by decide)))) (y := .g (.int 73)) rfl rfl rfl rfl
  obtain ⟨g, hB⟩ : ∃ g : Int, sSet 3 (eBin .mod (eBi .int (aCons (eBi .abs (aCons (eV 2) aNil)) aNil)) (eBin .pow (eBin .pow (eK (.int 10)) (eK (.int 56))) (eK (.int 6)))) F [.val (.scr (ns.map .int)), .val (.int (s : Int)), .val (.int c), .non, .non] = .nx [.val (.scr (ns.map .int)), .val (.int (s : Int)), .val (.int c), .val (.int g), .non] := by
    obtain ⟨T, hT, hp⟩ := great_pow F [.val (.scr (ns.map .int)), .val (.int (s : Int)), .val (.int c), .non, .non]
    refine ⟨(if c < 0 then -c else c) % T, sSet_ok (eBin_ok (eBi_ok (aCons_ok (eBi_ok (ds := [.g (.int c)]) (e1 := [.val (.scr (ns.map .int)), .val (.int (s : Int)), .val (.int c), .non, .non]) rfl rfl rfl) rfl) rfl rfl) hp rfl rfl (b2_mod hT)) rfl⟩
  obtain ⟨x, hC⟩ : ∃ x : Int, sSet 4 (eBin .add (eBin .add (eBin .add (eBin .mul (eBin .mod (eBi .int (aCons (eV 3) aNil)) (eK (.int 2305843009213693723))) (eK (.int 79))) (eBin .mul (eK (.int 1009)) (eV 1))) (eBin .mul (eK (.int 53)) (eBi .int (aCons (eBin .lt (eV 2) (eK (.int 0))) aNil)))) (eK (.int 37))) F [.val (.scr (ns.map .int)), .val (.int (s : Int)), .val (.int c), .val (.int g), .non] = .nx [.val (.scr (ns.map .int)), .val (.int (s : Int)), .val (.int c), .val (.int g), .val (.int x)] := by
    generalize he : ([.val (.scr (ns.map .int)), .val (.int (s : Int)), .val (.int c), .val (.int g), .non] : Env) = e
    have v3 : eV 3 F e = .ok (.g (.int g)) e := by rw [← he]; rfl
    have v1 : eV 1 F e = .ok (.g (.int (s : Int))) e := by rw [← he]; rfl
    have v2 : eV 2 F e = .ok (.g (.int c)) e := by rw [← he]; rfl
    have m1 : eBin .mul (eBin .mod (eBi .int (aCons (eV 3) aNil)) (eK (.int 2305843009213693723))) (eK (.int 79)) F e = .ok (.g (.int (g % 2305843009213693723 * 79))) e :=
      eBin_ok (eBin_ok (eBi_ok (aCons_ok v3 rfl) rfl rfl) (y := .g (.int 2305843009213693723)) rfl rfl rfl (b2_mod (by decide))) (y := .g (.int 79)) rfl rfl rfl (b2_mul (smR (by decide) (by decide)))
    have m2 : eBin .mul (eK (.int 1009)) (eV 1) F e = .ok (.g (.int (1009 * (s : Int)))) e := eBin_ok (x := .g (.int 1009)) (e1 := e) rfl v1 rfl rfl (b2_mul (smL (by decide) (by decide)))
    have m3 : eBin .mul (eK (.int 53)) (eBi .int (aCons (eBin .lt (eV 2) (eK (.int 0))) aNil)) F e = .ok (.g (.int (53 * (if decide (c < 0) then 1 else 0)))) e :=
      eBin_ok (x := .g (.int 53)) (e1 := e) rfl (eBi_ok (d := .g (.int (if decide (c < 0) then 1 else 0))) (aCons_ok (eBin_ok v2 (y := .g (.int 0)) rfl rfl rfl rfl) rfl) rfl rfl) rfl rfl (b2_mul (smL (by decide) (by decide)))
    have m5 := eBin_ok (o := .add) (eBin_ok (o := .add) (eBin_ok (o := .add) m1 m2 rfl rfl rfl) m3 rfl rfl rfl) (b := eK (.int 37)) (y := .g (.int 37)) (e2 := e) rfl rfl rfl rfl
    exact ⟨_, sSet_ok m5 (by rw [← he]; rfl)⟩
  refine ⟨(if g - 10 ^ 16 > 0 then g - 10 ^ 16 else 0, x, 0), [.val (.int c), .val (.int g), .val (.int x)], ?_⟩
  unfold b_34
  rw [sSeq_nx hA, sSeq_nx hB, sSeq_nx hC]
  generalize he : ([.val (.int c), .val (.int g), .val (.int x)] : Env) = tl
  have v3 : eV 3 F (.val (.scr (ns.map .int)) :: .val (.int (s : Int)) :: tl) = .ok (.g (.int g)) (.val (.scr (ns.map .int)) :: .val (.int (s : Int)) :: tl) := by rw [← he]; rfl
  have v4 : eV 4 F (.val (.scr (ns.map .int)) :: .val (.int (s : Int)) :: tl) = .ok (.g (.int x)) (.val (.scr (ns.map .int)) :: .val (.int (s : Int)) :: tl) := by rw [← he]; rfl
  have hm : eBi .max2 (aCons (eK (.int 0)) (aCons (eBin .sub (eV 3) (eBin .pow (eK (.int 10)) (eK (.int 16)))) aNil)) F (.val (.scr (ns.map .int)) :: .val (.int (s : Int)) :: tl) = .ok (.g (.int (if g - 10 ^ 16 > 0 then g - 10 ^ 16 else 0))) (.val (.scr (ns.map .int)) :: .val (.int (s : Int)) :: tl) :=
    eBi_ok (aCons_ok (d := .g (.int 0)) (e1 := .val (.scr (ns.map .int)) :: .val (.int (s : Int)) :: tl) rfl (aCons_ok (eBin_ok v3 (ten_pow F _ (n := 16) (by omega)) rfl rfl rfl) rfl)) rfl rfl
  rw [sSeq_rt (sRet_ok (eLst_ok (aCons_ok hm (aCons_ok v4 (aCons_ok (d := .g (.int 0)) (e1 := .val (.scr (ns.map .int)) :: .val (.int (s : Int)) :: tl) rfl rfl))) rfl (by simp)) rfl)]
  rfl
end K25

end
section
set_option linter.all false
set_option Elab.async false
set_option maxRecDepth 100000
set_option maxHeartbeats 400000
namespace K25
open Ev FoL
variable {F : FF}
/-! the loops of law -/
def FrL (x : S) : Prop := x = .non ∨ ∃ g, x = .val g
def FoL_ (x : S) : Prop := FrL x ∨ ∃ g, x = .obj g
abbrev lawE (ns : List Int) (x1 x2 x3 : S) (rest : Env) : Env := .val (.scr (ns.map .int)) :: x1 :: x2 :: x3 :: rest
def RightOk (F : FF) : Prop := ∀ b, ∃ b' e, F 43 [.len (bagG b)] = .ok (.g (.bl true)) (.len (bagG b') :: e)
theorem inner_ok (hR : RightOk F) (ns : List Int) {x1 x3 : S} {rest : Env} (b : Int × Int × Int) (h3 : FrL x3) : ∃ b' y3, FrL y3 ∧ (sFor (gNm 3) (iR1 (eK (.int 3))) (sSeq (sIf (tNotT (tV (eCall 43 [] (aCons (eV 2) aNil)))) (sSeq (sRet (eK (.bl false))) sNil) sNil) sNil)) F (lawE ns x1 (.obj (bagG b)) x3 rest) = .nx (lawE ns x1 (.obj (bagG b')) y3 rest) := by
  have hit : (iR1 (eK (.int 3))) F (lawE ns x1 (.obj (bagG b)) x3 rest) = .ok (rangeG 0 3, none) (lawE ns x1 (.obj (bagG b)) x3 rest) := iR1_ok (n := 3) rfl (by omega)
  obtain ⟨e', h, ⟨b', y3, f3, rfl⟩⟩ := forL_inv (step := forStep (gNm 3) (sSeq (sIf (tNotT (tV (eCall 43 [] (aCons (eV 2) aNil)))) (sSeq (sRet (eK (.bl false))) sNil) sNil) sNil) F) (I := fun e => ∃ b y3, FrL y3 ∧ e = lawE ns x1 (.obj (bagG b)) y3 rest) (xs := rangeG 0 3) (fun x _ e ⟨b, y3, f3, he⟩ => by
    subst he
    obtain ⟨b', e', hr⟩ := hR b
    refine ⟨lawE ns x1 (.obj (bagG b')) (.val x) rest, ?_, b', .val x, .inr ⟨_, rfl⟩, rfl⟩
    have h1 : gNm 3 x (lawE ns x1 (.obj (bagG b)) y3 rest) = some (lawE ns x1 (.obj (bagG b)) (.val x) rest) := by
      rcases f3 with rfl | ⟨q, rfl⟩ <;> rfl
    rw [forStep_nx h1]
    have hd : doCall F 43 [] [.sl 2] (lawE ns x1 (.obj (bagG b)) (.val x) rest) = .ok (.g (.bl true)) (lawE ns x1 (.obj (bagG b')) (.val x) rest) := by
      simp [doCall, argsS, argS, lent, getS, hr, isMade, back, bkS]
    have ht : tV (eCall 43 [] (aCons (eV 2) aNil)) F (lawE ns x1 (.obj (bagG b)) (.val x) rest) = .ok true (lawE ns x1 (.obj (bagG b')) (.val x) rest) :=
      tV_ok (eCall_ok (aCons_ok (d := .sl 2) (e1 := lawE ns x1 (.obj (bagG b)) (.val x) rest) rfl rfl) hd) rfl rfl
    rw [sSeq_nx ((sIf_no (by rw [tNotT_e, ht]; rfl)).trans sNil_e)]
    rfl) (lawE ns x1 (.obj (bagG b)) x3 rest) ⟨b, x3, h3, rfl⟩
  refine ⟨b', y3, f3, ?_⟩
  rw [sFor_v hit, h]; rfl
theorem outer_ok (hR : RightOk F) (ns : List Int) (rest : Env) (hB : ∀ s : Nat, ∃ b e, F 34 [.val (.scr (ns.map .int)), .val (.int (s : Int))] = .ok (.own (bagG b)) (.val (.scr (ns.map .int)) :: .val (.int (s : Int)) :: e)) :
    ∃ x1 x2 x3, (sFor (gNm 1) (iR1 (eBi .max2 (aCons (eK (.int 1)) (aCons (eBi .min2 (aCons (eK (.int 3)) (aCons (eBi .len (aCons (eV 0) aNil)) aNil))) aNil)))) (sSeq (sSet 2 (eCall 34 [] (aCons (eV 0) (aCons (eV 1) aNil)))) (sSeq (sFor (gNm 3) (iR1 (eK (.int 3))) (sSeq (sIf (tNotT (tV (eCall 43 [] (aCons (eV 2) aNil)))) (sSeq (sRet (eK (.bl false))) sNil) sNil) sNil)) sNil))) F (lawE ns .non .non .non rest) = .nx (lawE ns x1 x2 x3 rest) := by
  obtain ⟨n, hn, hv⟩ : ∃ n : Nat, n < 1000000 ∧ (eBi .max2 (aCons (eK (.int 1)) (aCons (eBi .min2 (aCons (eK (.int 3)) (aCons (eBi .len (aCons (eV 0) aNil)) aNil))) aNil))) F (lawE ns .non .non .non rest) = .ok (.g (.int (n : Int))) (lawE ns .non .non .non rest) := by
    have h1 : bi .len [.scr (ns.map .int)] = some (.g (.int (ns.length : Int))) := by
      show some (D.g (.int ((ns.map G.int).length : Int))) = _
      simp
    have h2 := eBi_ok (F := F) (f := .max2) (aCons_ok (eK_e (.int 1)) (aCons_ok (eBi_ok (f := .min2) (aCons_ok (eK_e (.int 3)) (aCons_ok (eBi_ok (aCons_ok (a := eV 0) (d := .g (.scr (ns.map .int))) (e := lawE ns .non .non .non rest) (e1 := lawE ns .non .non .non rest) (by exact rfl) (aNil_e)) (by exact rfl) h1) aNil_e)) (by exact rfl) (by exact rfl)) aNil_e)) (by exact rfl) (by exact rfl)
    refine ⟨max 1 (min 3 ns.length), by omega, ?_⟩
    rw [h2]
    congr 3
    split <;> split <;> omega
  have hit : (iR1 (eBi .max2 (aCons (eK (.int 1)) (aCons (eBi .min2 (aCons (eK (.int 3)) (aCons (eBi .len (aCons (eV 0) aNil)) aNil))) aNil)))) F (lawE ns .non .non .non rest) = .ok (rangeG 0 n, none) (lawE ns .non .non .non rest) := iR1_ok hv hn
  have rng : ∀ (m : Nat) (lo : Nat), ∀ g ∈ rangeG (lo : Int) m, ∃ s : Nat, g = .int (s : Int) := by
    intro m
    induction m with
    | zero => intro lo g hg; simp [rangeG] at hg
    | succ m ih =>
      intro lo g hg
      rcases List.mem_cons.mp hg with h | h
      · exact ⟨lo, h⟩
      · exact ih (lo + 1) g (by simpa using h)
  obtain ⟨e', h, ⟨x1, x2, x3, f1, f2, f3, rfl⟩⟩ := forL_inv (step := forStep (gNm 1) (sSeq (sSet 2 (eCall 34 [] (aCons (eV 0) (aCons (eV 1) aNil)))) (sSeq (sFor (gNm 3) (iR1 (eK (.int 3))) (sSeq (sIf (tNotT (tV (eCall 43 [] (aCons (eV 2) aNil)))) (sSeq (sRet (eK (.bl false))) sNil) sNil) sNil)) sNil)) F) (I := fun e => ∃ x1 x2 x3, FrL x1 ∧ FoL_ x2 ∧ FrL x3 ∧ e = lawE ns x1 x2 x3 rest) (xs := rangeG 0 n) (fun x hx e ⟨x1, x2, x3, f1, f2, f3, he⟩ => by
    subst he
    obtain ⟨s, rfl⟩ := rng n 0 x hx
    obtain ⟨b, eb, hb⟩ := hB s
    obtain ⟨b', y3, g3, hi⟩ := inner_ok hR ns (x1 := .val (.int (s : Int))) (rest := rest) b f3
    refine ⟨lawE ns (.val (.int (s : Int))) (.obj (bagG b')) y3 rest, ?_, _, _, _, .inr ⟨_, rfl⟩, .inr ⟨_, rfl⟩, g3, rfl⟩
    have h1 : gNm 1 (.int (s : Int)) (lawE ns x1 x2 x3 rest) = some (lawE ns (.val (.int (s : Int))) x2 x3 rest) := by
      rcases f1 with rfl | ⟨q, rfl⟩ <;> rfl
    have hd : doCall F 34 [] [.g (.scr (ns.map .int)), .g (.int (s : Int))] (lawE ns (.val (.int (s : Int))) x2 x3 rest) = .ok (.own (bagG b)) (lawE ns (.val (.int (s : Int))) x2 x3 rest) := doCall_v (gs := [_, _]) hb (by simp) rfl
    have h2 : (sSet 2 (eCall 34 [] (aCons (eV 0) (aCons (eV 1) aNil)))) F (lawE ns (.val (.int (s : Int))) x2 x3 rest) = .nx (lawE ns (.val (.int (s : Int))) (.obj (bagG b)) x3 rest) := by
      refine sSet_ok (eCall_ok (ds := [.g (.scr (ns.map .int)), .g (.int (s : Int))]) (e1 := lawE ns (.val (.int (s : Int))) x2 x3 rest) rfl hd) ?_
      rcases f2 with (rfl | ⟨q, rfl⟩) | ⟨q, rfl⟩ <;> rfl
    rw [forStep_nx h1]
    rw [sSeq_nx h2, sSeq_nx hi]
    rfl) (lawE ns .non .non .non rest) ⟨.non, .non, .non, .inl rfl, .inl (.inl rfl), .inl rfl, rfl⟩
  refine ⟨x1, x2, x3, ?_⟩
  rw [sFor_v hit, h]; rfl
def rtT : RS → Bool
  | .rt (.g (.bl true)) _ => true
  | _ => false
theorem rtT_ok {r : RS} (h : rtT r = true) : ∃ e, r = .rt (.g (.bl true)) e := by
  unfold rtT at h
  split at h
  · exact ⟨_, rfl⟩
  · cases h
end K25

end
section
set_option linter.all false
set_option Elab.async false
set_option maxRecDepth 100000
set_option maxHeartbeats 4000000
namespace K25
open Ev
variable {l : Nat} {st : List (List Nat)} {ac : List Nat} {F : FF}
/-- what _law_right leans on -/
structure Fs (F : FF) : Prop where
  draw : ∀ (b : Int × Int × Int) (t : Nat) (e : Env), 0 < t → t < pm → ∃ r b', r < t ∧ doCall F 35 [] [.sl 0, .g (.int (t : Int))] (.len (bagG b) :: e) = .ok (.g (.int ((r : Nat) : Int))) (.len (bagG b') :: e)
  one : ∀ (b : Int × Int × Int) (xs : List G) (e : Env), 0 < xs.length → xs.length < 1000 → ∃ x b', x ∈ xs ∧ doCall F 36 [] [.sl 0, .own (.lst xs)] (.len (bagG b) :: e) = .ok (.g x) (.len (bagG b') :: e)
  drawn : ∀ (b : Int × Int × Int) (l m : Nat) (e : Env), 0 < l → l ≤ 4 → 0 < m → m ≤ 9 → ∃ st ac b', Good l st ac ∧ st.length ≤ m ∧ doCall F 39 [] [.sl 0, .g (.int (l : Int)), .g (.int (m : Int))] (.len (bagG b) :: e) = .ok (.g (plG l st ac)) (.len (bagG b') :: e)
  make : ∀ {l st ac} (e : Env), Good l st ac → doMake ct F 5 [.g (.int (l : Int)), .g (stG st), .g (nsG ac)] e = .ok (.g (rdG l st ac)) e
  remet : ∀ {l st ac} (e : Env), Good l st ac → ∃ K, Clo l st K ∧ doCall F 37 [] [.g (plG l st ac)] e = .ok (.own (.lst (gs K))) e
  first : ∀ {l st ac} (e : Env), Good l st ac → doCall F 31 [] [.g (rdG l st ac)] e = .ok (.g (oG (fw st ac))) e
  refirst : ∀ {l st ac} (e : Env), Good l st ac → doCall F 38 [] [.g (plG l st ac)] e = .ok (.g (oG (fw st ac))) e
  takes : ∀ {l st ac} {w : List Nat} (e : Env), Good l st ac → w.length ≤ 2000 → (∀ a ∈ w, a < l) → doCall F 30 [] [.g (rdG l st ac), .g (nsG w)] e = .ok (.g (.bl (decide (run st 0 w ∈ ac)))) e
  wcount : ∀ {l st ac} {n : Nat} (e : Env), Good l st ac → n ≤ 99 → doCall F 32 [] [.g (rdG l st ac), .g (.int (n : Int))] e = .ok (.g (.int ((cnt st ac n 0 : Nat) : Int))) e
  counted : ∀ {l st ac} {n : Nat} (e : Env), Good l st ac → n ≤ 99 → doCall F 40 [] [.g (plG l st ac), .g (.int (n : Int))] e = .ok (.g (.int ((cnt st ac n 0 : Nat) : Int))) e
  listed : ∀ {l st ac} {n : Nat} (e : Env), Good l st ac → l ≤ 4 → n ≤ 6 → doCall F 41 [] [.g (plG l st ac), .g (.int (n : Int))] e = .ok (.g (twG st ac n)) e
  metw : ∀ {l st ac} {n : Nat} (e : Env), Good l st ac → l ≤ 4 → n ≤ 6 → doCall F 42 [] [.g (rdG l st ac), .g (.int (n : Int))] e = .ok (.g (mwG st ac n)) e
theorem fs_ok (k : Nat) : Fs (callF prog (k + 8)) where
  draw b t e h0 ht := drawL (k + 7) b t e h0 ht
  one b xs e h0 h1 := one_ofD (k + 6) e h0 h1
  drawn b l m e h1 h2 h3 h4 := by
    obtain ⟨st, ac, b', s, g, hl, h⟩ := re_drawn (k + 6) (b := b) h1 h2 h3 h4
    refine ⟨st, ac, b', g, hl, ?_⟩
    simp [doCall, argsS, argS, lent, h, isMade, back, bkS]
  make e g := make_reader (k + 2) g e
  remet e g := by
    obtain ⟨K, e', hc, h⟩ := re_met (k + 7) g
    exact ⟨K, hc, doCall_v (gs := [_]) h (by simp) rfl⟩
  first e g := by
    obtain ⟨e', h⟩ := first_word (k + 5) g
    exact doCall_v (gs := [_]) h (by simp) rfl
  refirst e g := by
    obtain ⟨e', h⟩ := re_first (k + 7) g
    exact doCall_v (gs := [_]) h (by simp) rfl
  takes e g hl hw := doCall_v (gs := [_, _]) (K25.takes (k + 1) g hl hw) (by simp) rfl
  wcount e g hn := by
    obtain ⟨e', h⟩ := word_count (k + 3) g hn
    exact doCall_v (gs := [_, _]) h (by simp) rfl
  counted e g hn := by
    obtain ⟨e', h⟩ := K25.counted (k + 7) g hn
    exact doCall_v (gs := [_, _]) h (by simp) rfl
  listed e g hl hn := by
    obtain ⟨e', h⟩ := K25.listed (k + 7) g hl hn
    exact doCall_v (gs := [_, _]) h (by simp) rfl
  metw e g hl hn := by
    obtain ⟨e', h⟩ := met_words (k + 2) g hl hn
    exact doCall_v (gs := [_, _]) h (by simp) rfl
theorem drawK (Z : Fs F) (b : Int × Int × Int) (t : Nat) {a : EV} {e : Env} (h0 : 0 < t) (ht : t < pm) (ha : ∀ e, a F e = .ok (.g (.int (t : Int))) e) : ∃ r b', r < t ∧ eCall 35 [] (aCons (eV 0) (aCons a aNil)) F (.len (bagG b) :: e) = .ok (.g (.int ((r : Nat) : Int))) (.len (bagG b') :: e) := by
  obtain ⟨r, b', hr, h⟩ := Z.draw b t e h0 ht
  exact ⟨r, b', hr, eCall_ok (aCons_ok (d := .sl 0) (e1 := .len (bagG b) :: e) rfl (aCons_ok (ha _) rfl)) h⟩
theorem oneK (Z : Fs F) (b : Int × Int × Int) (xs : List G) {a : EV} {e : Env} (h0 : 0 < xs.length) (ht : xs.length < 1000) (ha : ∀ e, a F e = .ok (.own (.lst xs)) e) : ∃ x b', x ∈ xs ∧ eCall 36 [] (aCons (eV 0) (aCons a aNil)) F (.len (bagG b) :: e) = .ok (.g x) (.len (bagG b') :: e) := by
  obtain ⟨x, b', hr, h⟩ := Z.one b xs e h0 ht
  exact ⟨x, b', hr, eCall_ok (aCons_ok (d := .sl 0) (e1 := .len (bagG b) :: e) rfl (aCons_ok (ha _) rfl)) h⟩
theorem ne_self {g : G} (h : oky 64 g = true) : Ev.b2 .ne g g = some (.g (.bl false)) := by
  show (pyEq g g).map _ = _
  rw [pyEq_self h]; rfl
abbrev qE (b : Int × Int × Int) (x1 x2 x3 x4 x5 : S) : Env := [.len (bagG b), x1, x2, x3, x4, x5]
def A1 : SV := (sSet 1 (eCall 39 [] (aCons (eV 0) (aCons (eBin .add (eK (.int 1)) (eCall 35 [] (aCons (eV 0) (aCons (eK (.int 4)) aNil)))) (aCons (eCall 36 [] (aCons (eV 0) (aCons (eLst (aCons (eK (.int 1)) (aCons (eK (.int 4)) (aCons (eK (.int 8)) aNil)))) aNil))) aNil)))))
theorem A1_ok (Z : Fs F) (b : Int × Int × Int) : ∃ l st ac b', Good l st ac ∧ l ≤ 4 ∧ A1 F (qE b .non .non .non .non .non) = .nx (qE b' (.val (plG l st ac)) .non .non .non .non) := by
  obtain ⟨r, b1, hr, h1⟩ := drawK Z b 4 (a := eK (.int 4)) (e := [.non, .non, .non, .non, .non]) (by omega) (pm_of (by omega)) (fun e => rfl)
  obtain ⟨l, hl⟩ : ∃ l, l = r + 1 := ⟨_, rfl⟩
  have hl' : (1 : Int) + (r : Int) = (l : Int) := by omega
  obtain ⟨x, b2, hx, h2⟩ := oneK Z b1 [.int 1, .int 4, .int 8] (a := eLst (aCons (eK (.int 1)) (aCons (eK (.int 4)) (aCons (eK (.int 8)) aNil)))) (e := [.non, .non, .non, .non, .non]) (by simp) (by simp) (fun e => eLst_ok (aCons_ok (eK_e _) (aCons_ok (eK_e _) (aCons_ok (eK_e _) aNil_e))) rfl (by simp))
  have hm : ∃ m : Nat, x = .int (m : Int) ∧ 0 < m ∧ m ≤ 9 := by
    simp only [List.mem_cons, List.not_mem_nil, or_false] at hx
    rcases hx with rfl | rfl | rfl
    · exact ⟨1, rfl, by omega, by omega⟩
    · exact ⟨4, rfl, by omega, by omega⟩
    · exact ⟨8, rfl, by omega, by omega⟩
  obtain ⟨m, rfl, hm0, hm⟩ := hm
  obtain ⟨st, ac, b3, g, hs, h3⟩ := Z.drawn b2 l m [.non, .non, .non, .non, .non] (by omega) (by omega) hm0 hm
  refine ⟨l, st, ac, b3, g, by omega, ?_⟩
  have h := eBin_ok (o := .add) (a := eK (.int 1)) (x := .g (.int 1)) (gx := .int 1) (by exact rfl) h1 (by exact rfl) (by exact rfl) (by exact rfl)
  rw [hl'] at h
  exact sSet_ok (eCall_ok (aCons_ok (d := .sl 0) (e1 := qE b .non .non .non .non .non) rfl (aCons_ok h (aCons_ok h2 rfl))) h3) rfl
def A2 : SV := (sIf (tV (eBin .eq (eCall 35 [] (aCons (eV 0) (aCons (eK (.int 4)) aNil))) (eK (.int 0)))) (sSeq (sSet 1 (eBin .add (eSlice (eV 1) pN (pI (eK (.int 2)))) (eTup (aCons (eSlice (eBin .idx (eV 1) (eK (.int 2))) (pI (eUn .neg (eK (.int 1)))) pN) aNil)))) sNil) sNil)
def lastL (ac : List Nat) : List Nat := ac.drop (ac.length - 1)
theorem cut_last (ac : List Nat) : cutL (ac.map fun (x : Nat) => G.int (x : Int)) (some (-1)) none = (lastL ac).map fun (x : Nat) => G.int (x : Int) := by
  have h : HT.sIx (ac.map fun (x : Nat) => G.int (x : Int)).length 0 (some (-1)) = ac.length - 1 := by
    show (if (-1 : Int) < 0 then ((-1 : Int) + ((ac.map fun (x : Nat) => G.int (x : Int)).length : Int)).toNat else min (-1 : Int).toNat (ac.map fun (x : Nat) => G.int (x : Int)).length) = _
    rw [if_pos (by decide), List.length_map]
    omega
  unfold cutL lastL
  rw [h, HT.sIx_none, ← List.map_drop]
  exact List.take_of_length_le (by simp)
theorem good_last (g : Good l st ac) : Good l st (lastL ac) :=
  { g.toMach with
    l64 := g.l64, n512 := g.n512
    asc := g.asc.sublist (List.drop_sublist _ _)
    acn := fun x hx => g.acn x (List.mem_of_mem_drop hx)
    acl := by have := g.acl; unfold lastL; simp; omega }
theorem eq_int (i j : Int) : Ev.b2 .eq (.int i) (.int j) = some (.g (.bl (decide (i = j)))) := by
  show (pyEq (.int i) (.int j)).map (fun r => D.g (.bl r)) = _
  rw [pyEq_int]; rfl
theorem A2_ok (Z : Fs F) (g : Good l st ac) (b : Int × Int × Int) : ∃ ac' b', Good l st ac' ∧ A2 F (qE b (.val (plG l st ac)) .non .non .non .non) = .nx (qE b' (.val (plG l st ac')) .non .non .non .non) := by
  obtain ⟨r, b1, hr, h1⟩ := drawK Z b 4 (a := eK (.int 4)) (e := [.val (plG l st ac), .non, .non, .non, .non]) (by omega) (pm_of (by omega)) (fun e => rfl)
  have hc := tV_ok (eBin_ok h1 (eK_e (F := F) (.int 0)) rfl rfl (eq_int (r : Int) 0)) rfl rfl
  unfold A2
  cases hz : decide ((r : Int) = 0) with
  | false =>
    rw [hz] at hc
    exact ⟨ac, b1, g, (sIf_no hc).trans rfl⟩
  | true =>
    rw [hz] at hc
    refine ⟨lastL ac, b1, good_last g, ?_⟩
    rw [sIf_yes hc]
    have h0 : eSlice (eV 1) pN (pI (eK (.int 2))) F (qE b1 (.val (plG l st ac)) .non .non .non .non) = .ok (.g (.tup [.int (l : Int), stG st])) (qE b1 (.val (plG l st ac)) .non .non .non .non) := rfl
    have hi : eBin .idx (eV 1) (eK (.int 2)) F (qE b1 (.val (plG l st ac)) .non .non .non .non) = .ok (.g (nsG ac)) (qE b1 (.val (plG l st ac)) .non .non .non .non) := eBin_ok (x := .g (plG l st ac)) (y := .g (.int 2)) (e1 := qE b1 (.val (plG l st ac)) .non .non .non .non) rfl rfl rfl rfl rfl
    have h2 : eSlice (eBin .idx (eV 1) (eK (.int 2))) (pI (eUn .neg (eK (.int 1)))) pN F (qE b1 (.val (plG l st ac)) .non .non .non .non) = .ok (.g (nsG (lastL ac))) (qE b1 (.val (plG l st ac)) .non .non .non .non) := by
      unfold eSlice
      rw [hi]
      show R.ok (D.g (.tup (cutL (ac.map fun (x : Nat) => G.int (x : Int)) (some (-1)) none))) _ = _
      rw [cut_last]; rfl
    have h3 : eBin .add (eSlice (eV 1) pN (pI (eK (.int 2)))) (eTup (aCons (eSlice (eBin .idx (eV 1) (eK (.int 2))) (pI (eUn .neg (eK (.int 1)))) pN) aNil)) F (qE b1 (.val (plG l st ac)) .non .non .non .non) = .ok (.g (plG l st (lastL ac))) (qE b1 (.val (plG l st ac)) .non .non .non .non) :=
      eBin_ok h0 (eTup_ok (gs := [nsG (lastL ac)]) (aCons_ok h2 aNil_e) rfl (by simp)) rfl rfl rfl
    rw [sSeq_nx (sSet_ok h3 rfl)]
    rfl
def A3 : SV := (sPar [2, 3] (aCons (eMake ct 5 (aCons (eBin .idx (eV 1) (eK (.int 0))) (aCons (eBin .idx (eV 1) (eK (.int 1))) (aCons (eBin .idx (eV 1) (eK (.int 2))) aNil)))) (aCons (eCall 38 [] (aCons (eV 1) aNil)) aNil)))
theorem A3_ok (Z : Fs F) (g : Good l st ac) (b : Int × Int × Int) : A3 F (qE b (.val (plG l st ac)) .non .non .non .non) = .nx (qE b (.val (plG l st ac)) (.val (rdG l st ac)) (.val (oG (fw st ac))) .non .non) := by
  have h4 := Z.make (qE b (.val (plG l st ac)) .non .non .non .non) g
  have h5 := Z.refirst (qE b (.val (plG l st ac)) .non .non .non .non) g
  generalize he : qE b (.val (plG l st ac)) .non .non .non .non = e at h4 h5 ⊢
  have v1 : eV 1 F e = .ok (.g (plG l st ac)) e := by rw [← he]; rfl
  have q0 : Ev.b2 .idx (plG l st ac) (.int 0) = some (.g (.int (l : Int))) := rfl
  have q1 : Ev.b2 .idx (plG l st ac) (.int 1) = some (.g (stG st)) := rfl
  have q2 : Ev.b2 .idx (plG l st ac) (.int 2) = some (.g (nsG ac)) := rfl
  have ha := aCons_ok (eBin_ok v1 (eK_e (F := F) (e := e) (.int 0)) rfl rfl q0) (aCons_ok (eBin_ok v1 (eK_e (F := F) (e := e) (.int 1)) rfl rfl q1) (aCons_ok (eBin_ok v1 (eK_e (F := F) (e := e) (.int 2)) rfl rfl q2) (aNil_e (F := F) (e := e))))
  have hm : eMake ct 5 (aCons (eBin .idx (eV 1) (eK (.int 0))) (aCons (eBin .idx (eV 1) (eK (.int 1))) (aCons (eBin .idx (eV 1) (eK (.int 2))) aNil))) F e = .ok (.g (rdG l st ac)) e := by
    unfold eMake
    rw [ha]
    exact h4
  have hf : eCall 38 [] (aCons (eV 1) aNil) F e = .ok (.g (oG (fw st ac))) e := eCall_ok (aCons_ok v1 aNil_e) h5
  have hp : aCons (eMake ct 5 (aCons (eBin .idx (eV 1) (eK (.int 0))) (aCons (eBin .idx (eV 1) (eK (.int 1))) (aCons (eBin .idx (eV 1) (eK (.int 2))) aNil)))) (aCons (eCall 38 [] (aCons (eV 1) aNil)) aNil) F e = .ok [.g (rdG l st ac), .g (oG (fw st ac))] e := aCons_ok hm (aCons_ok hf aNil_e)
  unfold A3 sPar
  rw [hp, ← he]
  rfl
end K25

end
section
set_option linter.all false
set_option Elab.async false
set_option maxRecDepth 100000
set_option maxHeartbeats 4000000
namespace K25
open Ev
variable {l : Nat} {st : List (List Nat)} {ac : List Nat} {F : FF}
def retF : SV := (sSeq (sRet (eK (.bl false))) sNil)
def A4T : TV := (tOrT (tV (eBin .ne (eCall 31 [] (aCons (eV 2) aNil)) (eV 3))) (tAndT (tV (eBin .isnot (eV 3) (eK .non))) (tOrT (tNotT (tV (eCall 30 [] (aCons (eV 2) (aCons (eV 3) aNil))))) (tV (eBin .ge (eBi .len (aCons (eV 3) aNil)) (eBi .len (aCons (eCall 37 [] (aCons (eV 1) aNil)) aNil)))))))
theorem A4T_ok (Z : Fs F) (g : Good l st ac) (b : Int × Int × Int) : A4T F (qE b (.val (plG l st ac)) (.val (rdG l st ac)) (.val (oG (fw st ac))) .non .non) = .ok false (qE b (.val (plG l st ac)) (.val (rdG l st ac)) (.val (oG (fw st ac))) .non .non) := by
  have n512 := g.n512
  have h1 := Z.first (qE b (.val (plG l st ac)) (.val (rdG l st ac)) (.val (oG (fw st ac))) .non .non) g
  obtain ⟨K, hK, h2⟩ := Z.remet (qE b (.val (plG l st ac)) (.val (rdG l st ac)) (.val (oG (fw st ac))) .non .non) g
  have hlen : K.length = (wE st).length := by
    have := (hK.perm (wE_clo g.toMach)).length_eq
    simpa using this
  have hE := (wl_inv g.toMach st.length).len
  have hE : (wE st).length ≤ st.length := hE
  have h3 : ∀ w, fw st ac = some w → doCall F 30 [] [.g (rdG l st ac), .g (nsG w)] (qE b (.val (plG l st ac)) (.val (rdG l st ac)) (.val (oG (fw st ac))) .non .non) = .ok (.g (.bl true)) (qE b (.val (plG l st ac)) (.val (rdG l st ac)) (.val (oG (fw st ac))) .non .non) := fun w hw => by
    obtain ⟨k1, k2, k3⟩ := fw_ok g.toMach hw
    rw [Z.takes _ g (by omega) k2, decide_eq_true k1]
  have v1 : eV 1 F (qE b (.val (plG l st ac)) (.val (rdG l st ac)) (.val (oG (fw st ac))) .non .non) = .ok (.g (plG l st ac)) (qE b (.val (plG l st ac)) (.val (rdG l st ac)) (.val (oG (fw st ac))) .non .non) := rfl
  have v2 : eV 2 F (qE b (.val (plG l st ac)) (.val (rdG l st ac)) (.val (oG (fw st ac))) .non .non) = .ok (.g (rdG l st ac)) (qE b (.val (plG l st ac)) (.val (rdG l st ac)) (.val (oG (fw st ac))) .non .non) := rfl
  have v3 : eV 3 F (qE b (.val (plG l st ac)) (.val (rdG l st ac)) (.val (oG (fw st ac))) .non .non) = .ok (.g (oG (fw st ac))) (qE b (.val (plG l st ac)) (.val (rdG l st ac)) (.val (oG (fw st ac))) .non .non) := rfl
  generalize (qE b (.val (plG l st ac)) (.val (rdG l st ac)) (.val (oG (fw st ac))) .non .non : Env) = e at h1 h2 h3 v1 v2 v3 ⊢
  have c1 : tV (eBin .ne (eCall 31 [] (aCons (eV 2) aNil)) (eV 3)) F e = .ok false e := tV_ok (eBin_ok (eCall_ok (aCons_ok v2 aNil_e) h1) v3 rfl rfl (ne_self (oky_oG _))) rfl rfl
  cases hw : fw st ac with
  | none =>
    rw [hw] at v3
    have c2 : tV (eBin .isnot (eV 3) (eK .non)) F e = .ok false e := tV_ok (eBin_ok v3 (eK_e (F := F) (e := e) .non) rfl rfl rfl) rfl rfl
    unfold A4T
    rw [tOrT_e, c1]
    show tAndT _ _ F e = _
    rw [tAndT_e, c2]
    rfl
  | some w =>
    have h3 := h3 w hw
    obtain ⟨k1, k2, k3⟩ := fw_ok g.toMach hw
    rw [hw] at v3
    have v3 : eV 3 F e = .ok (.g (nsG w)) e := v3
    have c2 : tV (eBin .isnot (eV 3) (eK .non)) F e = .ok true e := tV_ok (eBin_ok v3 (eK_e (F := F) (e := e) .non) rfl rfl rfl) rfl rfl
    have c3 : tNotT (tV (eCall 30 [] (aCons (eV 2) (aCons (eV 3) aNil)))) F e = .ok false e := by
      have : tV (eCall 30 [] (aCons (eV 2) (aCons (eV 3) aNil))) F e = .ok true e := tV_ok (eCall_ok (aCons_ok v2 (aCons_ok v3 aNil_e)) h3) rfl rfl
      rw [tNotT_e, this]; rfl
    have hl2 : bi .len [.lst (gs K)] = some (.g (.int (K.length : Int))) := by
      show some (D.g (.int ((gs K).length : Int))) = _
      simp [gs]
    have hge : Ev.b2 .ge (.int (w.length : Int)) (.int (K.length : Int)) = some (.g (.bl false)) := by
      show some (D.g (.bl (decide ((K.length : Int) ≤ (w.length : Int))))) = _
      rw [decide_eq_false (by omega)]
    have c4 : tV (eBin .ge (eBi .len (aCons (eV 3) aNil)) (eBi .len (aCons (eCall 37 [] (aCons (eV 1) aNil)) aNil))) F e = .ok false e :=
      tV_ok (eBin_ok (eBi_ok (aCons_ok v3 aNil_e) rfl len_nsG) (eBi_ok (ds := [.own (.lst (gs K))]) (aCons_ok (eCall_ok (aCons_ok v1 aNil_e) h2) aNil_e) rfl hl2) rfl rfl hge) rfl rfl
    unfold A4T
    rw [tOrT_e, c1]
    show tAndT _ _ F e = _
    rw [tAndT_e, c2]
    show tOrT _ _ F e = _
    rw [tOrT_e, c3]
    exact c4
theorem ltI (n : Nat) : Ev.b2 .lt (.int (n : Int)) (.int 7) = some (.g (.bl (decide (n < 7)))) := by
  show some (D.g (.bl (decide ((n : Int) < 7)))) = _
  have : decide ((n : Int) < 7) = decide (n < 7) := by
    by_cases h : n < 7
    · rw [decide_eq_true h, decide_eq_true (by omega)]
    · rw [decide_eq_false h, decide_eq_false (by omega)]
  rw [this]
theorem leI (n : Nat) : Ev.b2 .le (.int (n : Int)) (.int 2000) = some (.g (.bl (decide (n ≤ 2000)))) := by
  show some (D.g (.bl (decide ((n : Int) ≤ 2000)))) = _
  have : decide ((n : Int) ≤ 2000) = decide (n ≤ 2000) := by
    by_cases h : n ≤ 2000
    · rw [decide_eq_true h, decide_eq_true (by omega)]
    · rw [decide_eq_false h, decide_eq_false (by omega)]
  rw [this]
def dueG (st : List (List Nat)) (ac : List Nat) (n : Nat) : G := if n < 7 ∧ cnt st ac n 0 ≤ 2000 then twG st ac n else manyG
def RB1 : SV := (sSet 5 (eCall 40 [] (aCons (eV 1) (aCons (eV 4) aNil))))
def RB2 : SV := (sIf (tV (eBin .ne (eCall 32 [] (aCons (eV 2) (aCons (eV 4) aNil))) (eV 5))) (sSeq (sRet (eK (.bl false))) sNil) sNil)
def RB3 : SV := (sSet 3 (eIte (tAndT (tV (eBin .lt (eV 4) (eK (.int 7)))) (tV (eBin .le (eV 5) (eK (.int 2000))))) (eCall 41 [] (aCons (eV 1) (aCons (eV 4) aNil))) (eTup (aCons (eK (.str (PySem.Str.ofString "many"))) (aCons (eK (.int 2000)) aNil)))))
def RB4 : SV := (sIf (tAndT (tV (eBin .lt (eV 4) (eK (.int 7)))) (tV (eBin .ne (eCall 42 [] (aCons (eV 2) (aCons (eV 4) aNil))) (eV 3)))) (sSeq (sRet (eK (.bl false))) sNil) sNil)
def RB : SV := sSeq RB1 (sSeq RB2 (sSeq RB3 (sSeq RB4 sNil)))
theorem oky_tw (n : Nat) : oky 64 (twG st ac n) = true := by
  unfold twG
  simp only [oky, Bool.and_eq_true]
  exact ⟨by decide, okys_nss 62 _⟩
theorem oky_many : oky 64 manyG = true := by decide +kernel
theorem oky_due (n : Nat) : oky 64 (dueG st ac n) = true := by
  unfold dueG
  split
  · exact oky_tw n
  · exact oky_many
theorem RB_ok (Z : Fs F) (g : Good l st ac) (hl4 : l ≤ 4) (b : Int × Int × Int) {n : Nat} (hn : n ≤ 99) {x3 x5 : S} (h3 : Fr x3) (h5 : Fr x5) :
    RB F (qE b (.val (plG l st ac)) (.val (rdG l st ac)) x3 (.val (.int (n : Int))) x5) = .nx (qE b (.val (plG l st ac)) (.val (rdG l st ac)) (.val (dueG st ac n)) (.val (.int (n : Int))) (.val (.int ((cnt st ac n 0 : Nat) : Int)))) := by
  have e1 : RB1 F (qE b (.val (plG l st ac)) (.val (rdG l st ac)) x3 (.val (.int (n : Int))) x5) = .nx (qE b (.val (plG l st ac)) (.val (rdG l st ac)) x3 (.val (.int (n : Int))) (.val (.int ((cnt st ac n 0 : Nat) : Int)))) := by
    have h := Z.counted (qE b (.val (plG l st ac)) (.val (rdG l st ac)) x3 (.val (.int (n : Int))) x5) g hn
    refine sSet_ok (d := .g (.int ((cnt st ac n 0 : Nat) : Int))) (e1 := qE b (.val (plG l st ac)) (.val (rdG l st ac)) x3 (.val (.int (n : Int))) x5) (eCall_ok (ds := [.g (plG l st ac), .g (.int (n : Int))]) (e1 := qE b (.val (plG l st ac)) (.val (rdG l st ac)) x3 (.val (.int (n : Int))) x5) rfl h) (by rcases h5 with rfl | ⟨g, rfl⟩ <;> rfl)
  have e2 : RB2 F (qE b (.val (plG l st ac)) (.val (rdG l st ac)) x3 (.val (.int (n : Int))) (.val (.int ((cnt st ac n 0 : Nat) : Int)))) = .nx (qE b (.val (plG l st ac)) (.val (rdG l st ac)) x3 (.val (.int (n : Int))) (.val (.int ((cnt st ac n 0 : Nat) : Int)))) := by
    have h := Z.wcount (qE b (.val (plG l st ac)) (.val (rdG l st ac)) x3 (.val (.int (n : Int))) (.val (.int ((cnt st ac n 0 : Nat) : Int)))) g hn
    have hne : Ev.b2 .ne (.int ((cnt st ac n 0 : Nat) : Int)) (.int ((cnt st ac n 0 : Nat) : Int)) = some (.g (.bl false)) := ne_self (by simp [oky])
    exact (sIf_no (tV_ok (eBin_ok (eCall_ok (ds := [.g (rdG l st ac), .g (.int (n : Int))]) (e1 := qE b (.val (plG l st ac)) (.val (rdG l st ac)) x3 (.val (.int (n : Int))) (.val (.int ((cnt st ac n 0 : Nat) : Int)))) rfl h) (y := .g (.int ((cnt st ac n 0 : Nat) : Int))) (e2 := qE b (.val (plG l st ac)) (.val (rdG l st ac)) x3 (.val (.int (n : Int))) (.val (.int ((cnt st ac n 0 : Nat) : Int)))) rfl rfl rfl hne) rfl rfl)).trans rfl
  have hlt : ∀ x3, tV (eBin .lt (eV 4) (eK (.int 7))) F (qE b (.val (plG l st ac)) (.val (rdG l st ac)) x3 (.val (.int (n : Int))) (.val (.int ((cnt st ac n 0 : Nat) : Int)))) = .ok (decide (n < 7)) (qE b (.val (plG l st ac)) (.val (rdG l st ac)) x3 (.val (.int (n : Int))) (.val (.int ((cnt st ac n 0 : Nat) : Int)))) := fun x3 =>
    tV_ok (eBin_ok (x := .g (.int (n : Int))) (y := .g (.int 7)) (e1 := qE b (.val (plG l st ac)) (.val (rdG l st ac)) x3 (.val (.int (n : Int))) (.val (.int ((cnt st ac n 0 : Nat) : Int)))) rfl rfl rfl rfl (ltI n)) rfl rfl
  have hle : ∀ x3, tV (eBin .le (eV 5) (eK (.int 2000))) F (qE b (.val (plG l st ac)) (.val (rdG l st ac)) x3 (.val (.int (n : Int))) (.val (.int ((cnt st ac n 0 : Nat) : Int)))) = .ok (decide (cnt st ac n 0 ≤ 2000)) (qE b (.val (plG l st ac)) (.val (rdG l st ac)) x3 (.val (.int (n : Int))) (.val (.int ((cnt st ac n 0 : Nat) : Int)))) := fun x3 =>
    tV_ok (eBin_ok (x := .g (.int ((cnt st ac n 0 : Nat) : Int))) (y := .g (.int 2000)) (e1 := qE b (.val (plG l st ac)) (.val (rdG l st ac)) x3 (.val (.int (n : Int))) (.val (.int ((cnt st ac n 0 : Nat) : Int)))) rfl rfl rfl rfl (leI _)) rfl rfl
  have hand : ∀ x3, tAndT (tV (eBin .lt (eV 4) (eK (.int 7)))) (tV (eBin .le (eV 5) (eK (.int 2000)))) F (qE b (.val (plG l st ac)) (.val (rdG l st ac)) x3 (.val (.int (n : Int))) (.val (.int ((cnt st ac n 0 : Nat) : Int)))) = .ok (decide (n < 7 ∧ cnt st ac n 0 ≤ 2000)) (qE b (.val (plG l st ac)) (.val (rdG l st ac)) x3 (.val (.int (n : Int))) (.val (.int ((cnt st ac n 0 : Nat) : Int)))) := fun x3 => by
    have hl := hlt x3
    by_cases h : n < 7
    · rw [decide_eq_true h] at hl
      rw [FoL.tAndT_t hl (hle x3)]
      simp [h]
    · rw [decide_eq_false h] at hl
      rw [FoL.tAndT_f hl]
      simp [h]
  have e3 : RB3 F (qE b (.val (plG l st ac)) (.val (rdG l st ac)) x3 (.val (.int (n : Int))) (.val (.int ((cnt st ac n 0 : Nat) : Int)))) = .nx (qE b (.val (plG l st ac)) (.val (rdG l st ac)) (.val (dueG st ac n)) (.val (.int (n : Int))) (.val (.int ((cnt st ac n 0 : Nat) : Int)))) := by
    refine sSet_ok (d := .g (dueG st ac n)) (e1 := qE b (.val (plG l st ac)) (.val (rdG l st ac)) x3 (.val (.int (n : Int))) (.val (.int ((cnt st ac n 0 : Nat) : Int)))) ?_ (by rcases h3 with rfl | ⟨g, rfl⟩ <;> rfl)
    have hh := hand x3
    unfold dueG
    by_cases h : n < 7 ∧ cnt st ac n 0 ≤ 2000
    · have hL := Z.listed (n := n) (qE b (.val (plG l st ac)) (.val (rdG l st ac)) x3 (.val (.int (n : Int))) (.val (.int ((cnt st ac n 0 : Nat) : Int)))) g hl4 (by omega)
      rw [decide_eq_true h] at hh
      rw [if_pos h]
      exact (FoL.eIte_t hh).trans <| eCall_ok (ds := [.g (plG l st ac), .g (.int (n : Int))]) (e1 := qE b (.val (plG l st ac)) (.val (rdG l st ac)) x3 (.val (.int (n : Int))) (.val (.int ((cnt st ac n 0 : Nat) : Int)))) rfl hL
    · rw [decide_eq_false h] at hh
      rw [if_neg h]
      exact (FoL.eIte_f hh).trans rfl
  have e4 : RB4 F (qE b (.val (plG l st ac)) (.val (rdG l st ac)) (.val (dueG st ac n)) (.val (.int (n : Int))) (.val (.int ((cnt st ac n 0 : Nat) : Int)))) = .nx (qE b (.val (plG l st ac)) (.val (rdG l st ac)) (.val (dueG st ac n)) (.val (.int (n : Int))) (.val (.int ((cnt st ac n 0 : Nat) : Int)))) := by
    have hl := hlt (.val (dueG st ac n))
    by_cases h : n < 7
    · have hM := Z.metw (n := n) (qE b (.val (plG l st ac)) (.val (rdG l st ac)) (.val (dueG st ac n)) (.val (.int (n : Int))) (.val (.int ((cnt st ac n 0 : Nat) : Int)))) g hl4 (by omega)
      have hmd : mwG st ac n = dueG st ac n := by
        unfold mwG dueG
        simp [h]
      rw [hmd] at hM
      have hne := ne_self (oky_due (st := st) (ac := ac) n)
      have c2 : tV (eBin .ne (eCall 42 [] (aCons (eV 2) (aCons (eV 4) aNil))) (eV 3)) F (qE b (.val (plG l st ac)) (.val (rdG l st ac)) (.val (dueG st ac n)) (.val (.int (n : Int))) (.val (.int ((cnt st ac n 0 : Nat) : Int)))) = .ok false (qE b (.val (plG l st ac)) (.val (rdG l st ac)) (.val (dueG st ac n)) (.val (.int (n : Int))) (.val (.int ((cnt st ac n 0 : Nat) : Int)))) :=
        tV_ok (eBin_ok (eCall_ok (ds := [.g (rdG l st ac), .g (.int (n : Int))]) (e1 := qE b (.val (plG l st ac)) (.val (rdG l st ac)) (.val (dueG st ac n)) (.val (.int (n : Int))) (.val (.int ((cnt st ac n 0 : Nat) : Int)))) rfl hM) (y := .g (dueG st ac n)) (e2 := qE b (.val (plG l st ac)) (.val (rdG l st ac)) (.val (dueG st ac n)) (.val (.int (n : Int))) (.val (.int ((cnt st ac n 0 : Nat) : Int)))) rfl rfl rfl hne) rfl rfl
      rw [decide_eq_true h] at hl
      have hc : tAndT (tV (eBin .lt (eV 4) (eK (.int 7)))) (tV (eBin .ne (eCall 42 [] (aCons (eV 2) (aCons (eV 4) aNil))) (eV 3))) F (qE b (.val (plG l st ac)) (.val (rdG l st ac)) (.val (dueG st ac n)) (.val (.int (n : Int))) (.val (.int ((cnt st ac n 0 : Nat) : Int)))) = .ok false (qE b (.val (plG l st ac)) (.val (rdG l st ac)) (.val (dueG st ac n)) (.val (.int (n : Int))) (.val (.int ((cnt st ac n 0 : Nat) : Int)))) := by
        exact FoL.tAndT_t hl c2
      exact (sIf_no hc).trans rfl
    · rw [decide_eq_false h] at hl
      have hc : tAndT (tV (eBin .lt (eV 4) (eK (.int 7)))) (tV (eBin .ne (eCall 42 [] (aCons (eV 2) (aCons (eV 4) aNil))) (eV 3))) F (qE b (.val (plG l st ac)) (.val (rdG l st ac)) (.val (dueG st ac n)) (.val (.int (n : Int))) (.val (.int ((cnt st ac n 0 : Nat) : Int)))) = .ok false (qE b (.val (plG l st ac)) (.val (rdG l st ac)) (.val (dueG st ac n)) (.val (.int (n : Int))) (.val (.int ((cnt st ac n 0 : Nat) : Int)))) := by
        exact FoL.tAndT_f hl
      exact (sIf_no hc).trans rfl
  unfold RB
  rw [sSeq_nx e1, sSeq_nx e2, sSeq_nx e3, sSeq_nx e4]
  rfl
end K25

end
section
set_option linter.all false
set_option Elab.async false
set_option maxRecDepth 100000
set_option maxHeartbeats 4000000
namespace K25
open Ev
variable {l : Nat} {st : List (List Nat)} {ac : List Nat} {F : FF}
def lensA : EV := (eTup (aCons (eK (.int 0)) (aCons (eK (.int 1)) (aCons (eK (.int 2)) (aCons (eK (.int 3)) (aCons (eK (.int 4)) (aCons (eK (.int 5)) (aCons (eK (.int 6)) (aCons (eK (.int 98)) (aCons (eK (.int 99)) (aCons (eCall 35 [] (aCons (eV 0) (aCons (eK (.int 100)) aNil))) aNil)))))))))))
theorem lens_ok (Z : Fs F) (b : Int × Int × Int) (e : Env) : ∃ xs b', (∀ x ∈ xs, ∃ n : Nat, x = .int (n : Int) ∧ n ≤ 99) ∧ lensA F (.len (bagG b) :: e) = .ok (.g (.tup xs)) (.len (bagG b') :: e) := by
  obtain ⟨r, b1, hr, h1⟩ := drawK Z b 100 (a := eK (.int 100)) (e := e) (by omega) (pm_of (by omega)) (fun e => rfl)
  refine ⟨[.int 0, .int 1, .int 2, .int 3, .int 4, .int 5, .int 6, .int 98, .int 99, .int (r : Int)], b1, fun x hx => ?_, ?_⟩
  · simp only [List.mem_cons, List.not_mem_nil, or_false] at hx
    rcases hx with rfl | rfl | rfl | rfl | rfl | rfl | rfl | rfl | rfl | rfl
    · exact ⟨0, rfl, by omega⟩
    · exact ⟨1, rfl, by omega⟩
    · exact ⟨2, rfl, by omega⟩
    · exact ⟨3, rfl, by omega⟩
    · exact ⟨4, rfl, by omega⟩
    · exact ⟨5, rfl, by omega⟩
    · exact ⟨6, rfl, by omega⟩
    · exact ⟨98, rfl, by omega⟩
    · exact ⟨99, rfl, by omega⟩
    · exact ⟨r, rfl, by omega⟩
  · exact eTup_ok (aCons_ok (eK_e _) (aCons_ok (eK_e _) (aCons_ok (eK_e _) (aCons_ok (eK_e _) (aCons_ok (eK_e _) (aCons_ok (eK_e _) (aCons_ok (eK_e _) (aCons_ok (eK_e _) (aCons_ok (eK_e _) (aCons_ok h1 aNil_e)))))))))) rfl (by simp)
theorem A5_ok (Z : Fs F) (g : Good l st ac) (hl4 : l ≤ 4) (b : Int × Int × Int) {x3 : S} (h3 : Fr x3) : ∃ b' x3' x4 x5, sFor (gNm 4) (iE lensA) RB F (qE b (.val (plG l st ac)) (.val (rdG l st ac)) x3 .non .non) = .nx (qE b' (.val (plG l st ac)) (.val (rdG l st ac)) x3' x4 x5) := by
  obtain ⟨xs, b1, hx, hL⟩ := lens_ok Z b [.val (plG l st ac), .val (rdG l st ac), x3, .non, .non]
  have hit : iE lensA F (qE b (.val (plG l st ac)) (.val (rdG l st ac)) x3 .non .non) = .ok (xs, none) (qE b1 (.val (plG l st ac)) (.val (rdG l st ac)) x3 .non .non) := by
    unfold iE
    rw [hL]; rfl
  obtain ⟨e', h, ⟨y3, y4, y5, f3, f4, f5, rfl⟩⟩ := forL_inv (step := forStep (gNm 4) RB F) (I := fun e => ∃ y3 y4 y5, Fr y3 ∧ Fr y4 ∧ Fr y5 ∧ e = qE b1 (.val (plG l st ac)) (.val (rdG l st ac)) y3 y4 y5) (xs := xs) (fun x hxx e ⟨y3, y4, y5, f3, f4, f5, he⟩ => by
    subst he
    obtain ⟨n, rfl, hn⟩ := hx x hxx
    refine ⟨_, ?_, .val (dueG st ac n), .val (.int (n : Int)), .val (.int ((cnt st ac n 0 : Nat) : Int)), .v _, .v _, .v _, rfl⟩
    have h1 : gNm 4 (.int (n : Int)) (qE b1 (.val (plG l st ac)) (.val (rdG l st ac)) y3 y4 y5) = some (qE b1 (.val (plG l st ac)) (.val (rdG l st ac)) y3 (.val (.int (n : Int))) y5) := by
      rcases f4 with rfl | ⟨q, rfl⟩ <;> rfl
    rw [forStep_nx h1, RB_ok Z g hl4 b1 hn f3 f5]) (qE b1 (.val (plG l st ac)) (.val (rdG l st ac)) x3 .non .non) ⟨x3, .non, .non, h3, .n, .n, rfl⟩
  refine ⟨b1, y3, y4, y5, ?_⟩
  rw [sFor_v hit, h]; rfl
theorem b43_eq : b_43 = sSeq A1 (sSeq A2 (sSeq A3 (sSeq (sIf A4T retF sNil) (sSeq (sFor (gNm 4) (iE lensA) RB) (sSeq (sRet (eK (.bl true))) sNil))))) := rfl
theorem right (k : Nat) (b : Int × Int × Int) : ∃ b' e, callF prog (k + 8 + 1) 43 [.len (bagG b)] = .ok (.g (.bl true)) (.len (bagG b') :: e) := by
  rw [call_b (k + 8) _ (rfl : prog[43]? = some ⟨1, 6, b_43⟩) rfl (rfl : _ = (qE b .non .non .non .non .non : Env)), b43_eq]
  have Z := fs_ok k
  generalize callF prog (k + 8) = F at Z
  obtain ⟨l, st, ac, b1, g, hl4, h1⟩ := A1_ok Z b
  obtain ⟨ac2, b2, g2, h2⟩ := A2_ok Z g b1
  have h3 := A3_ok Z g2 b2
  have h4 := A4T_ok Z g2 b2
  obtain ⟨b3, x3, x4, x5, h5⟩ := A5_ok Z g2 hl4 b2 (x3 := .val (oG (fw st ac2))) (.v _)
  refine ⟨b3, [.val (plG l st ac2), .val (rdG l st ac2), x3, x4, x5], ?_⟩
  rw [sSeq_nx h1, sSeq_nx h2, sSeq_nx h3, sSeq_nx (sIf_no h4), sSeq_nx h5]
  rfl
end K25

end
section
set_option linter.all false
set_option Elab.async false
set_option maxRecDepth 100000
set_option maxHeartbeats 4000000
namespace K25
open Ev
def S1 : SV := (sSet 4 (eMake ct 5 (aCons (eK (.int 2)) (aCons (eTup (aCons (eTup (aCons (eK (.int 1)) (aCons (eK (.int 2)) aNil))) (aCons (eTup (aCons (eK (.int 1)) (aCons (eK (.int 3)) aNil))) (aCons (eTup (aCons (eK (.int 3)) (aCons (eK (.int 3)) aNil))) (aCons (eTup (aCons (eK (.int 4)) (aCons (eK (.int 4)) aNil))) (aCons (eTup (aCons (eK (.int 4)) (aCons (eK (.int 4)) aNil))) aNil)))))) (aCons (eTup (aCons (eK (.int 2)) (aCons (eK (.int 3)) aNil))) aNil)))))
def S2 : SV := (sIf (tOrT (tV (eBin .ne (eCall 31 [] (aCons (eV 4) aNil)) (eTup (aCons (eK (.int 1)) aNil)))) (tOrT (tV (eBin .ne (eCall 33 [] (aCons (eV 4) (aCons (eK (.int 2)) aNil))) (eTup (aCons (eTup (aCons (eK (.int 0)) (aCons (eK (.int 1)) aNil))) (aCons (eTup (aCons (eK (.int 1)) (aCons (eK (.int 0)) aNil))) (aCons (eTup (aCons (eK (.int 1)) (aCons (eK (.int 1)) aNil))) aNil)))))) (tV (eBin .ne (eCall 33 [] (aCons (eV 4) (aCons (eK (.int 0)) aNil))) (eTup aNil))))) (sSeq (sRet (eK (.bl false))) sNil) sNil)
def S3 : SV := (sPar [5, 6] (aCons (eMake ct 5 (aCons (eK (.int 2)) (aCons (eTup (aCons (eTup (aCons (eK (.int 0)) (aCons (eK (.int 0)) aNil))) aNil)) (aCons (eTup (aCons (eK (.int 0)) aNil)) aNil)))) (aCons (eMake ct 5 (aCons (eK (.int 3)) (aCons (eTup (aCons (eTup (aCons (eK (.int 0)) (aCons (eK (.int 0)) (aCons (eK (.int 0)) aNil)))) aNil)) (aCons (eTup aNil) aNil)))) aNil)))
def S4 : SV := (sSet 7 (eLst (aCons (eCall 31 [] (aCons (eV 5) aNil)) (aCons (eCall 31 [] (aCons (eV 6) aNil)) (aCons (eBin .eq (eCall 32 [] (aCons (eV 5) (aCons (eK (.int 99)) aNil))) (eShl (eK (.int 1)) (eK (.int 99)))) (aCons (eCall 32 [] (aCons (eV 6) (aCons (eK (.int 99)) aNil))) aNil))))))
def S5 : SV := (sExp (eMeth 7 .append (aCons (eCall 33 [] (aCons (eV 6) (aCons (eK (.int 5)) aNil))) aNil)))
def S6 : SV := (sIf (tOrT (tV (eBin .ne (eV 7) (eLst (aCons (eTup aNil) (aCons (eK .non) (aCons (eK (.bl true)) (aCons (eK (.int 0)) (aCons (eTup aNil) aNil)))))))) (tOrT (tV (eBin .ne (eBi .len (aCons (eCall 33 [] (aCons (eV 5) (aCons (eK (.int 10)) aNil))) aNil)) (eK (.int 1024)))) (tV (eBin .ne (eCall 42 [] (aCons (eV 5) (aCons (eK (.int 11)) aNil))) (eTup (aCons (eK (.str (PySem.Str.ofString "many"))) (aCons (eK (.int 2000)) aNil))))))) (sSeq (sRet (eK (.bl false))) sNil) sNil)
def S7 : SV := (sSet 8 (eMake ct 5 (aCons (eK (.int 1)) (aCons (eBi .tuple (aCons (eComp [10] (eTup (aCons (eBi .min2 (aCons (eBin .add (eV 10) (eK (.int 1))) (aCons (eK (.int 99)) aNil))) aNil)) (gNm 10) (iR1 (eK (.int 100))) tYesT) aNil)) (aCons (eTup (aCons (eK (.int 99)) aNil)) aNil)))))
def S8 : SV := (sSet 7 (eComp [9] (eCall 32 [] (aCons (eV 8) (aCons (eV 9) aNil))) (gNm 9) (iE (eTup (aCons (eK (.int 98)) (aCons (eK (.int 99)) aNil)))) tYesT))
def S9 : SV := (sRet (eAnd (eBin .eq (eV 7) (eLst (aCons (eK (.int 0)) (aCons (eK (.int 1)) aNil)))) (eAnd (eBin .eq (eCall 31 [] (aCons (eV 8) aNil)) (eBin .mul (eTup (aCons (eK (.int 0)) aNil)) (eK (.int 99)))) (eBin .eq (eCall 33 [] (aCons (eV 8) (aCons (eK (.int 99)) aNil))) (eTup (aCons (eBin .mul (eTup (aCons (eK (.int 0)) aNil)) (eK (.int 99))) aNil))))))
def TL : SV := sSeq S1 (sSeq S2 (sSeq S3 (sSeq S4 (sSeq S5 (sSeq S6 (sSeq S7 (sSeq S8 (sSeq S9 (sNil)))))))))

abbrev tE (x0 x1 x2 x3 a b c d f : S) : Env := [x0, x1, x2, x3, a, b, c, d, f, .non, .non]
abbrev forkS : List (List Nat) := [[1, 2], [1, 3], [3, 3], [4, 4], [4, 4]]
abbrev wholeS : List (List Nat) := [[0, 0]]
abbrev noneS : List (List Nat) := [[0, 0, 0]]
def lineS : List (List Nat) := (List.range 100).map fun i => [min (i + 1) 99]
set_option maxHeartbeats 0
theorem S1_ok (x0 x1 x2 x3 : S) : S1 (callF prog 39) (tE x0 x1 x2 x3 .non .non .non .non .non) = .nx (tE x0 x1 x2 x3 (.val (rdG 2 forkS [2, 3])) .non .non .non .non) := by kernel_rfl
theorem S2_ok (x0 x1 x2 x3 : S) : S2 (callF prog 39) (tE x0 x1 x2 x3 (.val (rdG 2 forkS [2, 3])) .non .non .non .non) = .nx (tE x0 x1 x2 x3 (.val (rdG 2 forkS [2, 3])) .non .non .non .non) := by kernel_rfl
theorem S3_ok (x0 x1 x2 x3 : S) : S3 (callF prog 39) (tE x0 x1 x2 x3 (.val (rdG 2 forkS [2, 3])) .non .non .non .non) = .nx (tE x0 x1 x2 x3 (.val (rdG 2 forkS [2, 3])) (.val (rdG 2 wholeS [0])) (.val (rdG 3 noneS [])) .non .non) := by kernel_rfl
theorem S4_ok (x0 x1 x2 x3 : S) : S4 (callF prog 39) (tE x0 x1 x2 x3 (.val (rdG 2 forkS [2, 3])) (.val (rdG 2 wholeS [0])) (.val (rdG 3 noneS [])) .non .non) = .nx (tE x0 x1 x2 x3 (.val (rdG 2 forkS [2, 3])) (.val (rdG 2 wholeS [0])) (.val (rdG 3 noneS [])) (.obj (.lst [.tup [], .non, .bl true, .int 0])) .non) := by kernel_rfl
theorem S5_ok (x0 x1 x2 x3 : S) : S5 (callF prog 39) (tE x0 x1 x2 x3 (.val (rdG 2 forkS [2, 3])) (.val (rdG 2 wholeS [0])) (.val (rdG 3 noneS [])) (.obj (.lst [.tup [], .non, .bl true, .int 0])) .non) = .nx (tE x0 x1 x2 x3 (.val (rdG 2 forkS [2, 3])) (.val (rdG 2 wholeS [0])) (.val (rdG 3 noneS [])) (.obj (.lst [.tup [], .non, .bl true, .int 0, .tup []])) .non) := by kernel_rfl
theorem S7_ok (x0 x1 x2 x3 x4 x5 x6 x7 : S) : S7 (callF prog 39) (tE x0 x1 x2 x3 x4 x5 x6 x7 .non) = .nx (tE x0 x1 x2 x3 x4 x5 x6 x7 (.val (rdG 1 lineS [99]))) := by kernel_rfl
end K25

end
section
set_option linter.all false
set_option Elab.async false
set_option maxRecDepth 100000
set_option maxHeartbeats 4000000
namespace K25
open Ev
theorem good_whole : Good 2 wholeS [0] := { l1 := by decide, n1 := by decide, row := by decide, l64 := by decide, n512 := by decide, asc := by decide, acn := by decide, acl := by decide }
theorem good_line : Good 1 lineS [99] := { l1 := by decide, n1 := by decide +kernel, row := by decide +kernel, l64 := by decide, n512 := by decide +kernel, asc := by decide, acn := by decide +kernel, acl := by decide }
theorem whole_len : (Tw wholeS [0] 10).length = 1024 := by decide +kernel
theorem whole_cnt : cnt wholeS [0] 10 0 ≤ 2000 := by decide +kernel
theorem line_98 : cnt lineS [99] 98 0 = 0 := by decide +kernel
theorem line_99 : cnt lineS [99] 99 0 = 1 := by decide +kernel
theorem line_fw : fw lineS [99] = some (List.replicate 99 0) := by decide +kernel
theorem line_tw : Tw lineS [99] 99 = [List.replicate 99 0] := by decide +kernel
end K25

end
section
set_option linter.all false
set_option Elab.async false
set_option maxRecDepth 100000
set_option maxHeartbeats 4000000
namespace K25
open Ev
abbrev e6 (x0 x1 x2 x3 : S) : Env := tE x0 x1 x2 x3 (.val (rdG 2 forkS [2, 3])) (.val (rdG 2 wholeS [0])) (.val (rdG 3 noneS [])) (.obj (.lst [.tup [], .non, .bl true, .int 0, .tup []])) .non
theorem words_whole (e : Env) : doCall (callF prog 39) 33 [] [.g (rdG 2 wholeS [0]), .g (.int 10)] e = .ok (.g (twG wholeS [0] 10)) e := by
  obtain ⟨e', h⟩ := words_gen 34 good_whole (n := 10) (by decide) (fun t ht => by
    rw [Lw_len good_whole.toMach]
    exact Nat.le_trans (Nat.pow_le_pow_right (by decide) ht) (by decide)) whole_cnt
  exact doCall_v (gs := [_, _]) h (by simp) rfl
theorem words_line (e : Env) : doCall (callF prog 39) 33 [] [.g (rdG 1 lineS [99]), .g (.int 99)] e = .ok (.g (twG lineS [99] 99)) e := by
  obtain ⟨e', h⟩ := words_gen 34 good_line (n := 99) (by decide) (fun t ht => by
    rw [Lw_len good_line.toMach, Nat.one_pow]
    decide) (by rw [line_99]; decide)
  exact doCall_v (gs := [_, _]) h (by simp) rfl
theorem first_line (e : Env) : doCall (callF prog 39) 31 [] [.g (rdG 1 lineS [99])] e = .ok (.g (nsG (List.replicate 99 0))) e := by
  obtain ⟨e', h⟩ := first_word 36 good_line
  rw [line_fw] at h
  exact doCall_v (gs := [_]) h (by simp) rfl
theorem count_line (n : Nat) (hn : n ≤ 99) (e : Env) : doCall (callF prog 39) 32 [] [.g (rdG 1 lineS [99]), .g (.int (n : Int))] e = .ok (.g (.int ((cnt lineS [99] n 0 : Nat) : Int))) e := by
  obtain ⟨e', h⟩ := word_count 34 good_line hn
  exact doCall_v (gs := [_, _]) h (by simp) rfl
def T6a : TV := (tV (eBin .ne (eV 7) (eLst (aCons (eTup aNil) (aCons (eK .non) (aCons (eK (.bl true)) (aCons (eK (.int 0)) (aCons (eTup aNil) aNil))))))))
def T6b : TV := (tV (eBin .ne (eBi .len (aCons (eCall 33 [] (aCons (eV 5) (aCons (eK (.int 10)) aNil))) aNil)) (eK (.int 1024))))
def T6c : TV := (tV (eBin .ne (eCall 42 [] (aCons (eV 5) (aCons (eK (.int 11)) aNil))) (eTup (aCons (eK (.str (PySem.Str.ofString "many"))) (aCons (eK (.int 2000)) aNil)))))
theorem S6_eq : S6 = sIf (tOrT T6a (tOrT T6b T6c)) (sSeq (sRet (eK (.bl false))) sNil) sNil := rfl
set_option maxHeartbeats 0 in
theorem T6a_ok (x0 x1 x2 x3 : S) : T6a (callF prog 39) (e6 x0 x1 x2 x3) = .ok false (e6 x0 x1 x2 x3) := by kernel_rfl
set_option maxHeartbeats 0 in
theorem T6c_ok (x0 x1 x2 x3 : S) : T6c (callF prog 39) (e6 x0 x1 x2 x3) = .ok false (e6 x0 x1 x2 x3) := by kernel_rfl
theorem T6b_of {F : FF} {e : Env} (v : eV 5 F e = .ok (.g (rdG 2 wholeS [0])) e) (hc : doCall F 33 [] [.g (rdG 2 wholeS [0]), .g (.int 10)] e = .ok (.g (twG wholeS [0] 10)) e) : T6b F e = .ok false e := by
  have hl : bi .len [twG wholeS [0] 10] = some (.g (.int 1024)) := by
    show some (D.g (.int (((Tw wholeS [0] 10).map nsG).length : Int))) = _
    rw [List.length_map, whole_len]; rfl
  have hne : Ev.b2 .ne (.int 1024) (.int 1024) = some (.g (.bl false)) := ne_self (by simp [oky])
  exact tV_ok (eBin_ok (eBi_ok (ds := [.g (twG wholeS [0] 10)]) (aCons_ok (eCall_ok (aCons_ok v (aCons_ok (eK_e _) aNil_e)) hc) aNil_e) rfl hl) (eK_e (F := F) (e := e) (.int 1024)) rfl rfl hne) rfl rfl
theorem S6_ok (x0 x1 x2 x3 : S) : S6 (callF prog 39) (e6 x0 x1 x2 x3) = .nx (e6 x0 x1 x2 x3) := by
  have hb := T6b_of (F := callF prog 39) (e := e6 x0 x1 x2 x3) rfl (words_whole _)
  rw [S6_eq]
  exact (sIf_no (FoL.tOrT_f (T6a_ok x0 x1 x2 x3) (FoL.tOrT_f hb (T6c_ok x0 x1 x2 x3)))).trans rfl
theorem S8_of {F : FF} {x0 x1 x2 x3 x4 x5 x6 x7 : S} (h7 : ∃ g, x7 = .obj g) (hc : ∀ n : Nat, n ≤ 99 → ∀ e, doCall F 32 [] [.g (rdG 1 lineS [99]), .g (.int (n : Int))] e = .ok (.g (.int ((cnt lineS [99] n 0 : Nat) : Int))) e) : S8 F (tE x0 x1 x2 x3 x4 x5 x6 x7 (.val (rdG 1 lineS [99]))) = .nx (tE x0 x1 x2 x3 x4 x5 x6 (.obj (.lst [.int 0, .int 1])) (.val (rdG 1 lineS [99]))) := by
  generalize hL : rdG 1 lineS [99] = L at hc ⊢
  have hcomp := eComp_all (own := [9]) (el := eCall 32 [] (aCons (eV 8) (aCons (eV 9) aNil))) (t := gNm 9) (it := iE (eTup (aCons (eK (.int 98)) (aCons (eK (.int 99)) aNil)))) (c := tYesT) (F := F) (o := none) (xs := [98, 99]) (g := fun (n : Nat) => .int (n : Int)) (h := fun n => .int ((cnt lineS [99] n 0 : Nat) : Int)) (e0 := tE x0 x1 x2 x3 x4 x5 x6 x7 (.val L)) (e := tE x0 x1 x2 x3 x4 x5 x6 x7 (.val L)) (eW := tE x0 x1 x2 x3 x4 x5 x6 x7 (.val L)) (e' := tE x0 x1 x2 x3 x4 x5 x6 x7 (.val L)) rfl rfl rfl (fun n hn => by
    have hn : n ≤ 99 := by simp at hn; omega
    have h1 : eCall 32 [] (aCons (eV 8) (aCons (eV 9) aNil)) F [x0, x1, x2, x3, x4, x5, x6, x7, .val L, .val (.int (n : Int)), .non] = .ok (.g (.int ((cnt lineS [99] n 0 : Nat) : Int))) [x0, x1, x2, x3, x4, x5, x6, x7, .val L, .val (.int (n : Int)), .non] := eCall_ok (ds := [.g L, .g (.int (n : Int))]) (e1 := [x0, x1, x2, x3, x4, x5, x6, x7, .val L, .val (.int (n : Int)), .non]) rfl (hc n hn _)
    exact compStep_yes (e1 := [x0, x1, x2, x3, x4, x5, x6, x7, .val L, .val (.int (n : Int)), .non]) rfl h1 rfl) rfl (by simp)
  rw [List.map_cons, List.map_cons, List.map_nil, line_98, line_99] at hcomp
  obtain ⟨g, rfl⟩ := h7
  exact sSet_ok hcomp rfl
def V9a : EV := (eBin .eq (eV 7) (eLst (aCons (eK (.int 0)) (aCons (eK (.int 1)) aNil))))
def V9b : EV := (eBin .eq (eCall 31 [] (aCons (eV 8) aNil)) (eBin .mul (eTup (aCons (eK (.int 0)) aNil)) (eK (.int 99))))
def V9c : EV := (eBin .eq (eCall 33 [] (aCons (eV 8) (aCons (eK (.int 99)) aNil))) (eTup (aCons (eBin .mul (eTup (aCons (eK (.int 0)) aNil)) (eK (.int 99))) aNil)))
theorem S9_eq : S9 = sRet (eAnd V9a (eAnd V9b V9c)) := rfl
theorem mul99 : Ev.b2 .mul (.tup [.int 0]) (.int 99) = some (.g (nsG (List.replicate 99 0))) := by kernel_rfl
theorem eq_self {g : G} (h : oky 64 g = true) : Ev.b2 .eq g g = some (.g (.bl true)) := by
  show (pyEq g g).map (fun r => D.g (.bl r)) = _
  rw [pyEq_self h]; rfl
theorem V9b_of {F : FF} {e : Env} (v : eV 8 F e = .ok (.g (rdG 1 lineS [99])) e) (hc : doCall F 31 [] [.g (rdG 1 lineS [99])] e = .ok (.g (nsG (List.replicate 99 0))) e) : V9b F e = .ok (.g (.bl true)) e := by
  generalize rdG 1 lineS [99] = L at v hc
  exact eBin_ok (eCall_ok (aCons_ok v aNil_e) hc) (eBin_ok (eTup_ok (gs := [.int 0]) (aCons_ok (eK_e (F := F) (e := e) _) aNil_e) rfl (by simp)) (eK_e (F := F) (e := e) _) rfl rfl mul99) rfl rfl (eq_self (oky_ns _))
theorem V9c_of {F : FF} {e : Env} (v : eV 8 F e = .ok (.g (rdG 1 lineS [99])) e) (hc : doCall F 33 [] [.g (rdG 1 lineS [99]), .g (.int 99)] e = .ok (.g (twG lineS [99] 99)) e) : V9c F e = .ok (.g (.bl true)) e := by
  have ht : twG lineS [99] 99 = .tup [nsG (List.replicate 99 0)] := by
    unfold twG
    rw [line_tw]; rfl
  rw [ht] at hc
  have hk : oky 64 (.tup [nsG (List.replicate 99 0)]) = true := by
    have := oky_nsn 62 (List.replicate 99 0)
    simp only [oky, okys, Bool.and_eq_true, Bool.and_true]
    exact ⟨by decide, this⟩
  generalize rdG 1 lineS [99] = L at v hc
  exact eBin_ok (eCall_ok (aCons_ok v (aCons_ok (eK_e _) aNil_e)) hc) (eTup_ok (gs := [nsG (List.replicate 99 0)]) (aCons_ok (eBin_ok (eTup_ok (gs := [.int 0]) (aCons_ok (eK_e (F := F) (e := e) _) aNil_e) rfl (by simp)) (eK_e (F := F) (e := e) _) rfl rfl mul99) aNil_e) rfl (by simp)) rfl rfl (eq_self hk)
theorem V9a_ok {F : FF} {x0 x1 x2 x3 x4 x5 x6 x8 : S} : V9a F (tE x0 x1 x2 x3 x4 x5 x6 (.obj (.lst [.int 0, .int 1])) x8) = .ok (.g (.bl true)) (tE x0 x1 x2 x3 x4 x5 x6 (.obj (.lst [.int 0, .int 1])) x8) :=
  eBin_ok (x := .sl 7) (e1 := tE x0 x1 x2 x3 x4 x5 x6 (.obj (.lst [.int 0, .int 1])) x8) rfl (eLst_ok (gs := [.int 0, .int 1]) (aCons_ok (eK_e _) (aCons_ok (eK_e _) aNil_e)) rfl (by simp)) rfl rfl (eq_self (by decide +kernel))
theorem tail_ok (x0 x1 x2 x3 : S) : ∃ e, TL (callF prog 39) (tE x0 x1 x2 x3 .non .non .non .non .non) = .rt (.g (.bl true)) e := by
  refine ⟨tE x0 x1 x2 x3 (.val (rdG 2 forkS [2, 3])) (.val (rdG 2 wholeS [0])) (.val (rdG 3 noneS [])) (.obj (.lst [.int 0, .int 1])) (.val (rdG 1 lineS [99])), ?_⟩
  have h7 := S7_ok x0 x1 x2 x3 (.val (rdG 2 forkS [2, 3])) (.val (rdG 2 wholeS [0])) (.val (rdG 3 noneS [])) (.obj (.lst [.tup [], .non, .bl true, .int 0, .tup []]))
  have h8 := S8_of (F := callF prog 39) (x0 := x0) (x1 := x1) (x2 := x2) (x3 := x3) (x4 := .val (rdG 2 forkS [2, 3])) (x5 := .val (rdG 2 wholeS [0])) (x6 := .val (rdG 3 noneS [])) (x7 := .obj (.lst [.tup [], .non, .bl true, .int 0, .tup []])) ⟨_, rfl⟩ count_line
  have hb := V9b_of (F := callF prog 39) (e := tE x0 x1 x2 x3 (.val (rdG 2 forkS [2, 3])) (.val (rdG 2 wholeS [0])) (.val (rdG 3 noneS [])) (.obj (.lst [.int 0, .int 1])) (.val (rdG 1 lineS [99]))) rfl (first_line _)
  have hc := V9c_of (F := callF prog 39) (e := tE x0 x1 x2 x3 (.val (rdG 2 forkS [2, 3])) (.val (rdG 2 wholeS [0])) (.val (rdG 3 noneS [])) (.obj (.lst [.int 0, .int 1])) (.val (rdG 1 lineS [99]))) rfl (words_line _)
  have h9 : S9 (callF prog 39) (tE x0 x1 x2 x3 (.val (rdG 2 forkS [2, 3])) (.val (rdG 2 wholeS [0])) (.val (rdG 3 noneS [])) (.obj (.lst [.int 0, .int 1])) (.val (rdG 1 lineS [99]))) = .rt (.g (.bl true)) (tE x0 x1 x2 x3 (.val (rdG 2 forkS [2, 3])) (.val (rdG 2 wholeS [0])) (.val (rdG 3 noneS [])) (.obj (.lst [.int 0, .int 1])) (.val (rdG 1 lineS [99]))) := by
    rw [S9_eq]
    exact sRet_ok (FoL.eAnd_t V9a_ok rfl (FoL.eAnd_t hb rfl hc)) rfl
  unfold TL
  rw [sSeq_nx (S1_ok x0 x1 x2 x3), sSeq_nx (S2_ok x0 x1 x2 x3), sSeq_nx (S3_ok x0 x1 x2 x3), sSeq_nx (S4_ok x0 x1 x2 x3), sSeq_nx (S5_ok x0 x1 x2 x3), sSeq_nx (S6_ok x0 x1 x2 x3), sSeq_nx h7, sSeq_nx h8, sSeq_rt h9]
theorem pure_ok (ns : List Int) (hl : ns.length ≤ 63) : ∃ e, Ev.fin (K25.b_44 (Ev.callF K25.prog 39) (Ev.env0 ⟨1, 11, K25.b_44⟩ [.val (.scr (ns.map .int))])) = .ok (.g (.bl true)) e := by
  obtain ⟨x1, x2, x3, h⟩ := outer_ok (F := callF prog 39) (fun b => right 30 b) ns (List.replicate 7 .non) fun s => bag_ok 38 ns s
  obtain ⟨e, ht⟩ := tail_ok (.val (.scr (ns.map .int))) x1 x2 x3
  refine ⟨e, ?_⟩
  show fin (sSeq (sFor (gNm 1) (iR1 (eBi .max2 (aCons (eK (.int 1)) (aCons (eBi .min2 (aCons (eK (.int 3)) (aCons (eBi .len (aCons (eV 0) aNil)) aNil))) aNil)))) (sSeq (sSet 2 (eCall 34 [] (aCons (eV 0) (aCons (eV 1) aNil)))) (sSeq (sFor (gNm 3) (iR1 (eK (.int 3))) (sSeq (sIf (tNotT (tV (eCall 43 [] (aCons (eV 2) aNil)))) (sSeq (sRet (eK (.bl false))) sNil) sNil) sNil)) sNil))) TL (callF prog 39) (lawE ns .non .non .non (List.replicate 7 .non))) = _
  have ht : TL (callF prog 39) (lawE ns x1 x2 x3 (List.replicate 7 .non)) = _ := ht
  rw [sSeq_nx h, ht]
  rfl
end K25

end
section
set_option linter.all false
set_option Elab.async false
set_option maxRecDepth 100000
set_option maxHeartbeats 0
namespace K25
open PySem PySem.Spec PyProof.Rows L2 Ev
def dd_2 : He.DefD := ⟨("is_whole", none), "is_whole", "is_whole", defArgs st_2, defBody st_2, defScope st_2, [], []⟩
def dd_3 : He.DefD := ⟨("is_from", none), "is_from", "is_from", defArgs st_3, defBody st_3, defScope st_3, [], []⟩
def dd_4 : He.DefD := ⟨("are_from", none), "are_from", "are_from", defArgs st_4, defBody st_4, defScope st_4, [], []⟩
def dd_5 : He.DefD := ⟨("is_ascending", none), "is_ascending", "is_ascending", defArgs st_5, defBody st_5, defScope st_5, [], []⟩
def dd_6 : He.DefD := ⟨("are_indices", none), "are_indices", "are_indices", defArgs st_6, defBody st_6, defScope st_6, [], []⟩
def dd_7 : He.DefD := ⟨("require_from", none), "require_from", "require_from", defArgs st_7, defBody st_7, defScope st_7, [], []⟩
def dd_8 : He.DefD := ⟨("fault_in", none), "fault_in", "fault_in", defArgs st_8, defBody st_8, defScope st_8, [], []⟩
def dd_9 : He.DefD := ⟨("Reader", some "__init__"), "__init__", "Reader.__init__", defArgs st_9, defBody st_9, defScope st_9, [], []⟩
def dd_18 : He.DefD := ⟨("state_in", none), "state_in", "state_in", defArgs st_18, defBody st_18, defScope st_18, [.int 0], []⟩
def dd_19 : He.DefD := ⟨("takes_in", none), "takes_in", "takes_in", defArgs st_19, defBody st_19, defScope st_19, [], []⟩
def dd_20 : He.DefD := ⟨("first_words_in", none), "first_words_in", "first_words_in", defArgs st_20, defBody st_20, defScope st_20, [], []⟩
def dd_21 : He.DefD := ⟨("first_in", none), "first_in", "first_in", defArgs st_21, defBody st_21, defScope st_21, [], []⟩
def dd_22 : He.DefD := ⟨("counts_by_length", none), "counts_by_length", "counts_by_length", defArgs st_22, defBody st_22, defScope st_22, [], []⟩
def dd_23 : He.DefD := ⟨("count_in", none), "count_in", "count_in", defArgs st_23, defBody st_23, defScope st_23, [], []⟩
def dd_24 : He.DefD := ⟨("longer_words", none), "longer_words", "longer_words", defArgs st_24, defBody st_24, defScope st_24, [], []⟩
def dd_25 : He.DefD := ⟨("require_reader", none), "require_reader", "require_reader", defArgs st_25, defBody st_25, defScope st_25, [], []⟩
def dd_26 : He.DefD := ⟨("is_word_in", none), "is_word_in", "is_word_in", defArgs st_26, defBody st_26, defScope st_26, [], []⟩
def dd_27 : He.DefD := ⟨("require_word", none), "require_word", "require_word", defArgs st_27, defBody st_27, defScope st_27, [], []⟩
def dd_28 : He.DefD := ⟨("require_reader_and_word", none), "require_reader_and_word", "require_reader_and_word", defArgs st_28, defBody st_28, defScope st_28, [], []⟩
def dd_29 : He.DefD := ⟨("require_reader_and_length", none), "require_reader_and_length", "require_reader_and_length", defArgs st_29, defBody st_29, defScope st_29, [], []⟩
def dd_30 : He.DefD := ⟨("takes", none), "takes", "takes", defArgs st_30, defBody st_30, defScope st_30, [], []⟩
def dd_31 : He.DefD := ⟨("first_word", none), "first_word", "first_word", defArgs st_31, defBody st_31, defScope st_31, [], []⟩
def dd_32 : He.DefD := ⟨("word_count", none), "word_count", "word_count", defArgs st_32, defBody st_32, defScope st_32, [], []⟩
def dd_33 : He.DefD := ⟨("words", none), "words", "words", defArgs st_33, defBody st_33, defScope st_33, [], []⟩
def dd_34 : He.DefD := ⟨("_law_bag", none), "_law_bag", "_law_bag", defArgs st_34, defBody st_34, defScope st_34, [], []⟩
def dd_35 : He.DefD := ⟨("_law_pick", none), "_law_pick", "_law_pick", defArgs st_35, defBody st_35, defScope st_35, [], []⟩
def dd_36 : He.DefD := ⟨("_law_one_of", none), "_law_one_of", "_law_one_of", defArgs st_36, defBody st_36, defScope st_36, [], []⟩
def dd_37 : He.DefD := ⟨("_law_re_met", none), "_law_re_met", "_law_re_met", defArgs st_37, defBody st_37, defScope st_37, [], []⟩
def dd_38 : He.DefD := ⟨("_law_re_first", none), "_law_re_first", "_law_re_first", defArgs st_38, defBody st_38, defScope st_38, [], []⟩
def dd_39 : He.DefD := ⟨("_law_re_drawn", none), "_law_re_drawn", "_law_re_drawn", defArgs st_39, defBody st_39, defScope st_39, [], []⟩
def dd_40 : He.DefD := ⟨("_law_counted", none), "_law_counted", "_law_counted", defArgs st_40, defBody st_40, defScope st_40, [], []⟩
def dd_41 : He.DefD := ⟨("_law_listed", none), "_law_listed", "_law_listed", defArgs st_41, defBody st_41, defScope st_41, [], []⟩
def dd_42 : He.DefD := ⟨("_law_met_words", none), "_law_met_words", "_law_met_words", defArgs st_42, defBody st_42, defScope st_42, [], []⟩
def dd_43 : He.DefD := ⟨("_law_right", none), "_law_right", "_law_right", defArgs st_43, defBody st_43, defScope st_43, [], []⟩
def dd_44 : He.DefD := ⟨("law", none), "law", "law", defArgs st_44, defBody st_44, defScope st_44, [], []⟩
def sd_3 : SuD := ⟨"InvalidNumber", st_0, "InvalidNumber.__init__", "given", "IndexError", "IndexError.__new__", "IndexError.__init__", ieB⟩
def sd_4 : SuD := ⟨"TooMany", st_1, "TooMany.__init__", "limit", "OverflowError", "OverflowError.__new__", "OverflowError.__init__", oeB⟩
def suL : List SuD := [sd_3, sd_4]
def fnL : List He.DefD := [dd_2, dd_3, dd_4, dd_5, dd_6, dd_7, dd_8, dd_9, dd_18, dd_19, dd_20, dd_21, dd_22, dd_23, dd_24, dd_25, dd_26, dd_27, dd_28, dd_29, dd_30, dd_31, dd_32, dd_33, dd_34, dd_35, dd_36, dd_37, dd_38, dd_39, dd_40, dd_41, dd_42, dd_43, dd_44]
def faL : List He.Fa := [.glo "is_whole",
  .glo "is_from",
  .glo "are_from",
  .glo "is_ascending",
  .glo "are_indices",
  .glo "require_from",
  .glo "fault_in",
  .glo "state_in",
  .glo "takes_in",
  .glo "first_words_in",
  .glo "first_in",
  .glo "counts_by_length",
  .glo "count_in",
  .glo "longer_words",
  .glo "require_reader",
  .glo "is_word_in",
  .glo "require_word",
  .glo "require_reader_and_word",
  .glo "require_reader_and_length",
  .glo "takes",
  .glo "first_word",
  .glo "word_count",
  .glo "words",
  .glo "_law_bag",
  .glo "_law_pick",
  .glo "_law_one_of",
  .glo "_law_re_met",
  .glo "_law_re_first",
  .glo "_law_re_drawn",
  .glo "_law_counted",
  .glo "_law_listed",
  .glo "_law_met_words",
  .glo "_law_right",
  .glo "law",
  .glo "Reader",
  .mkr "Reader",
  .glo "InvalidReader",
  .glo "InvalidWord",
  .glo "InvalidNumber",
  .glo "TooMany",
  .free "super",
  .int "MOST_LENGTH" 99,
  .int "MOST_LETTERS" 64,
  .int "MOST_STATES" 512,
  .int "MOST_WORD" 2000,
  .int "MOST_WORDS" 2000,
  .free "abs",
  .free "all",
  .free "bool",
  .free "enumerate",
  .free "int",
  .free "isinstance",
  .free "len",
  .free "max",
  .free "min",
  .free "range",
  .free "sum",
  .free "tuple",
  .free "zip"]
def caK (K : PySem.W.Frag) : Nat → Addr := fun c => match c with | 1 => He.ga K "InvalidReader" | 2 => He.ga K "InvalidWord" | 3 => He.ga K "InvalidNumber" | 4 => He.ga K "TooMany" | 5 => He.ga K "Reader" | _ => 0
abbrev R : PySem.W.OpenRow := PySem.W.OpenLaw.row PySem.Challenge.rw_wholebyparts_k25_whole_first_words_and_c
def exL (K : PySem.W.Frag) : Bool := kfB K (caK K) [5] && slB K (caK K 5) "own_accepting" 0 && slB K (caK K 5) "own_letters" 1 && slB K (caK K 5) "own_steps" 2 && ecB K (caK K 1) && ecB K (caK K 2) && suB (PySem.Challenge.rw_wholebyparts_k25_whole_first_words_and_c).prog.main.file K sd_3 && suB (PySem.Challenge.rw_wholebyparts_k25_whole_first_words_and_c).prog.main.file K sd_4 && exmB K (caK K 1) (caK K 4) false && exmB K (caK K 2) (caK K 4) false && exmB K (caK K 3) (caK K 4) false && exmB K (caK K 4) (caK K 4) true && xfB K (caK K 4) && noB K (caK K 4) "limit"
def tsL : List He.Tab := []
def prL : List PrD := []
def nm0 : List Str := ["PartError", "InvalidReader", "InvalidWord", "InvalidNumber", "TooMany", "is_whole", "is_from", "are_from", "is_ascending", "are_indices", "require_from", "MOST_LETTERS", "MOST_STATES", "MOST_WORD", "MOST_LENGTH", "MOST_WORDS", "fault_in", "Reader", "state_in", "takes_in", "first_words_in", "first_in", "counts_by_length", "count_in", "longer_words", "require_reader", "is_word_in", "require_word", "require_reader_and_word", "require_reader_and_length"]
def nm1 : List Str := ["takes", "first_word", "word_count", "words", "_law_bag", "_law_pick", "_law_one_of", "_law_re_met", "_law_re_first", "_law_re_drawn", "_law_counted", "_law_listed", "_law_met_words", "_law_right"]
def nmL : List Str := nm0 ++ nm1
abbrev hkL : PySem.W.Hook := hookS 5 faL fnL tsL exL prL suL
def obL (s : PySem.W.SharedT) : AlS := obsS 5 faL fnL tsL exL prL suL (HandSHeadRun.getT s)
theorem obL_eq (s : PySem.W.SharedT) : obL s = hkL.obs s.abs := obsS_eq (HandSHeadRun.getT_eq s)
theorem runL (w : World) : HandSHeadRun.RunEq R (PySem.W.view R.prog [48]) hkL obL 4000 nmL w := by
  intro os
  kernel_rfl
theorem facts {w : World} {K : PySem.W.Frag} {h h0 : Heap} {mg : Str → Option Value} (X : K.In h) (G : h.Ns mainGlobals mg) (cc : SaysS faL fnL tsL exL prL suL w h0 K) : ∃ A : Ad, Ev0 (PySem.Challenge.rw_wholebyparts_k25_whole_first_words_and_c).prog w K mg A ∧ mg "law" = some (.ref (A.f 44)) := by
  have c := cc.p.x.t.d
  have x' := cc.p.x.more
  unfold exP at x'
  have x' := (Bool.and_eq_true_iff.mp x').1
  unfold exL at x'
  simp only [Bool.and_eq_true] at x'
  obtain ⟨fd2, D2⟩ := c.def_ 0 (d := dd_2) rfl
  obtain ⟨fd3, D3⟩ := c.def_ 1 (d := dd_3) rfl
  obtain ⟨fd4, D4⟩ := c.def_ 2 (d := dd_4) rfl
  obtain ⟨fd5, D5⟩ := c.def_ 3 (d := dd_5) rfl
  obtain ⟨fd6, D6⟩ := c.def_ 4 (d := dd_6) rfl
  obtain ⟨fd7, D7⟩ := c.def_ 5 (d := dd_7) rfl
  obtain ⟨fd8, D8⟩ := c.def_ 6 (d := dd_8) rfl
  obtain ⟨fd9, D9⟩ := c.def_ 7 (d := dd_9) rfl
  obtain ⟨fd18, D18⟩ := c.def_ 8 (d := dd_18) rfl
  obtain ⟨fd19, D19⟩ := c.def_ 9 (d := dd_19) rfl
  obtain ⟨fd20, D20⟩ := c.def_ 10 (d := dd_20) rfl
  obtain ⟨fd21, D21⟩ := c.def_ 11 (d := dd_21) rfl
  obtain ⟨fd22, D22⟩ := c.def_ 12 (d := dd_22) rfl
  obtain ⟨fd23, D23⟩ := c.def_ 13 (d := dd_23) rfl
  obtain ⟨fd24, D24⟩ := c.def_ 14 (d := dd_24) rfl
  obtain ⟨fd25, D25⟩ := c.def_ 15 (d := dd_25) rfl
  obtain ⟨fd26, D26⟩ := c.def_ 16 (d := dd_26) rfl
  obtain ⟨fd27, D27⟩ := c.def_ 17 (d := dd_27) rfl
  obtain ⟨fd28, D28⟩ := c.def_ 18 (d := dd_28) rfl
  obtain ⟨fd29, D29⟩ := c.def_ 19 (d := dd_29) rfl
  obtain ⟨fd30, D30⟩ := c.def_ 20 (d := dd_30) rfl
  obtain ⟨fd31, D31⟩ := c.def_ 21 (d := dd_31) rfl
  obtain ⟨fd32, D32⟩ := c.def_ 22 (d := dd_32) rfl
  obtain ⟨fd33, D33⟩ := c.def_ 23 (d := dd_33) rfl
  obtain ⟨fd34, D34⟩ := c.def_ 24 (d := dd_34) rfl
  obtain ⟨fd35, D35⟩ := c.def_ 25 (d := dd_35) rfl
  obtain ⟨fd36, D36⟩ := c.def_ 26 (d := dd_36) rfl
  obtain ⟨fd37, D37⟩ := c.def_ 27 (d := dd_37) rfl
  obtain ⟨fd38, D38⟩ := c.def_ 28 (d := dd_38) rfl
  obtain ⟨fd39, D39⟩ := c.def_ 29 (d := dd_39) rfl
  obtain ⟨fd40, D40⟩ := c.def_ 30 (d := dd_40) rfl
  obtain ⟨fd41, D41⟩ := c.def_ 31 (d := dd_41) rfl
  obtain ⟨fd42, D42⟩ := c.def_ 32 (d := dd_42) rfl
  obtain ⟨fd43, D43⟩ := c.def_ 33 (d := dd_43) rfl
  obtain ⟨fd44, D44⟩ := c.def_ 34 (d := dd_44) rfl
  obtain ⟨⟨⟨⟨⟨⟨⟨⟨⟨⟨⟨⟨⟨xk, x0⟩, x1⟩, x2⟩, x3⟩, x4⟩, x5⟩, x6⟩, x7⟩, x8⟩, x9⟩, x10⟩, x11⟩, x12⟩ := x'
  let A : Ad := ⟨fun i => match i with | 2 => He.fAd K dd_2.at_ | 3 => He.fAd K dd_3.at_ | 4 => He.fAd K dd_4.at_ | 5 => He.fAd K dd_5.at_ | 6 => He.fAd K dd_6.at_ | 7 => He.fAd K dd_7.at_ | 8 => He.fAd K dd_8.at_ | 9 => He.fAd K dd_9.at_ | 18 => He.fAd K dd_18.at_ | 19 => He.fAd K dd_19.at_ | 20 => He.fAd K dd_20.at_ | 21 => He.fAd K dd_21.at_ | 22 => He.fAd K dd_22.at_ | 23 => He.fAd K dd_23.at_ | 24 => He.fAd K dd_24.at_ | 25 => He.fAd K dd_25.at_ | 26 => He.fAd K dd_26.at_ | 27 => He.fAd K dd_27.at_ | 28 => He.fAd K dd_28.at_ | 29 => He.fAd K dd_29.at_ | 30 => He.fAd K dd_30.at_ | 31 => He.fAd K dd_31.at_ | 32 => He.fAd K dd_32.at_ | 33 => He.fAd K dd_33.at_ | 34 => He.fAd K dd_34.at_ | 35 => He.fAd K dd_35.at_ | 36 => He.fAd K dd_36.at_ | 37 => He.fAd K dd_37.at_ | 38 => He.fAd K dd_38.at_ | 39 => He.fAd K dd_39.at_ | 40 => He.fAd K dd_40.at_ | 41 => He.fAd K dd_41.at_ | 42 => He.fAd K dd_42.at_ | 43 => He.fAd K dd_43.at_ | 44 => He.fAd K dd_44.at_ | _ => 0, caK K, fun i => match i with | 2 => fd2 | 3 => fd3 | 4 => fd4 | 5 => fd5 | 6 => fd6 | 7 => fd7 | 8 => fd8 | 9 => fd9 | 18 => fd18 | 19 => fd19 | 20 => fd20 | 21 => fd21 | 22 => fd22 | 23 => fd23 | 24 => fd24 | 25 => fd25 | 26 => fd26 | 27 => fd27 | 28 => fd28 | 29 => fd29 | 30 => fd30 | 31 => fd31 | 32 => fd32 | 33 => fd33 | 34 => fd34 | 35 => fd35 | 36 => fd36 | 37 => fd37 | 38 => fd38 | 39 => fd39 | 40 => fd40 | 41 => fd41 | 42 => fd42 | 43 => fd43 | 44 => fd44 | _ => fd2⟩
  have kf : KF (lk K A) := kfB_ok (cs := [5]) (fun c h => by simp only [lk, beq_iff_eq, Bool.or_eq_true] at h; simp [h]) xk
  have b_18 : Binds K (A.fdd 18) ["reader", "word", "state"] [] := by
    obtain ⟨ds, hv, hb⟩ := FunD.binds1 (ps := ["reader", "word", "state"]) D18 3 1 (by simp [He.DefD.dvs, dd_18]) rfl (fun _ _ _ _ _ _ _ us its hu hi => match us, hu, its, hi with | [_, _, _], _, [_], _ => ⟨_, rfl, rfl⟩)
    cases hv
    exact hb
  have ini_5 : ∀ c, (lk K A).sl c = true → SlX.SCls (lk K A).K ((lk K A).ca c) ∧ ∀ (k : Nat) (f : Str) (i : Nat), (["own_letters", "own_steps", "own_accepting"] : List Str)[k]? = some f → ([1, 2, 0] : List Nat)[k]? = some i → ∃ p, SlX.Slot1 (lk K A).K ((lk K A).ca c) f p i := fun c hc => by
    simp only [lk, beq_iff_eq, Bool.or_eq_true] at hc
    subst hc
    exact ⟨(kf.cls _ rfl).1, fun k f i h1 h2 => match k, f, i, h1, h2 with
      | 0, _, _, h1, h2 => by cases h1; cases h2; exact slB_ok x1
      | 1, _, _, h1, h2 => by cases h1; cases h2; exact slB_ok x2
      | 2, _, _, h1, h2 => by cases h1; cases h2; exact slB_ok x0
      | n + 3, _, _, h1, _ => by simp at h1⟩
  refine ⟨A, ?_, He.glo_ok X G (c.fact 33 (f := .glo "law") rfl)⟩
  exact {
    D_2 := D2
    b_2 := FunD.bindsN (ps := ["value"]) D2 fun _ _ _ _ _ _ us hl => match us, hl with | [_], _ => rfl
    g_2 := He.glo_ok X G (c.fact 0 (f := .glo "is_whole") rfl)
    D_3 := D3
    b_3 := FunD.bindsN (ps := ["value", "least", "most"]) D3 fun _ _ _ _ _ _ us hl => match us, hl with | [_, _, _], _ => rfl
    g_3 := He.glo_ok X G (c.fact 1 (f := .glo "is_from") rfl)
    D_4 := D4
    b_4 := FunD.bindsN (ps := ["value", "least", "most"]) D4 fun _ _ _ _ _ _ us hl => match us, hl with | [_, _, _], _ => rfl
    g_4 := He.glo_ok X G (c.fact 2 (f := .glo "are_from") rfl)
    D_5 := D5
    b_5 := FunD.bindsN (ps := ["value"]) D5 fun _ _ _ _ _ _ us hl => match us, hl with | [_], _ => rfl
    g_5 := He.glo_ok X G (c.fact 3 (f := .glo "is_ascending") rfl)
    D_6 := D6
    b_6 := FunD.bindsN (ps := ["value", "size"]) D6 fun _ _ _ _ _ _ us hl => match us, hl with | [_, _], _ => rfl
    g_6 := He.glo_ok X G (c.fact 4 (f := .glo "are_indices") rfl)
    D_7 := D7
    b_7 := FunD.bindsN (ps := ["value", "least", "most"]) D7 fun _ _ _ _ _ _ us hl => match us, hl with | [_, _, _], _ => rfl
    g_7 := He.glo_ok X G (c.fact 5 (f := .glo "require_from") rfl)
    D_8 := D8
    b_8 := FunD.bindsN (ps := ["letters", "steps", "accepting"]) D8 fun _ _ _ _ _ _ us hl => match us, hl with | [_, _, _], _ => rfl
    g_8 := He.glo_ok X G (c.fact 6 (f := .glo "fault_in") rfl)
    D_9 := D9
    b_9 := FunD.bindsN (ps := ["self", "letters", "steps", "accepting"]) D9 fun _ _ _ _ _ _ us hl => match us, hl with | [_, _, _, _], _ => rfl
    D_18 := D18
    b_18 := b_18
    d_18 := FunD.binds1 (ps := ["reader", "word", "state"]) D18 2 0 (by simp [He.DefD.dvs, dd_18]) rfl (fun _ _ _ _ _ _ _ us its hu hi => match us, hu, its, hi with | [_, _], _, [_], _ => ⟨_, rfl, rfl⟩)
    g_18 := He.glo_ok X G (c.fact 7 (f := .glo "state_in") rfl)
    D_19 := D19
    b_19 := FunD.bindsN (ps := ["reader", "word"]) D19 fun _ _ _ _ _ _ us hl => match us, hl with | [_, _], _ => rfl
    g_19 := He.glo_ok X G (c.fact 8 (f := .glo "takes_in") rfl)
    D_20 := D20
    b_20 := FunD.bindsN (ps := ["reader"]) D20 fun _ _ _ _ _ _ us hl => match us, hl with | [_], _ => rfl
    g_20 := He.glo_ok X G (c.fact 9 (f := .glo "first_words_in") rfl)
    D_21 := D21
    b_21 := FunD.bindsN (ps := ["reader"]) D21 fun _ _ _ _ _ _ us hl => match us, hl with | [_], _ => rfl
    g_21 := He.glo_ok X G (c.fact 10 (f := .glo "first_in") rfl)
    D_22 := D22
    b_22 := FunD.bindsN (ps := ["reader", "length"]) D22 fun _ _ _ _ _ _ us hl => match us, hl with | [_, _], _ => rfl
    g_22 := He.glo_ok X G (c.fact 11 (f := .glo "counts_by_length") rfl)
    D_23 := D23
    b_23 := FunD.bindsN (ps := ["reader", "length"]) D23 fun _ _ _ _ _ _ us hl => match us, hl with | [_, _], _ => rfl
    g_23 := He.glo_ok X G (c.fact 12 (f := .glo "count_in") rfl)
    D_24 := D24
    b_24 := FunD.bindsN (ps := ["reader", "pairs", "counts"]) D24 fun _ _ _ _ _ _ us hl => match us, hl with | [_, _, _], _ => rfl
    g_24 := He.glo_ok X G (c.fact 13 (f := .glo "longer_words") rfl)
    D_25 := D25
    b_25 := FunD.bindsN (ps := ["value"]) D25 fun _ _ _ _ _ _ us hl => match us, hl with | [_], _ => rfl
    g_25 := He.glo_ok X G (c.fact 14 (f := .glo "require_reader") rfl)
    D_26 := D26
    b_26 := FunD.bindsN (ps := ["letters", "value"]) D26 fun _ _ _ _ _ _ us hl => match us, hl with | [_, _], _ => rfl
    g_26 := He.glo_ok X G (c.fact 15 (f := .glo "is_word_in") rfl)
    D_27 := D27
    b_27 := FunD.bindsN (ps := ["letters", "value"]) D27 fun _ _ _ _ _ _ us hl => match us, hl with | [_, _], _ => rfl
    g_27 := He.glo_ok X G (c.fact 16 (f := .glo "require_word") rfl)
    D_28 := D28
    b_28 := FunD.bindsN (ps := ["reader", "word"]) D28 fun _ _ _ _ _ _ us hl => match us, hl with | [_, _], _ => rfl
    g_28 := He.glo_ok X G (c.fact 17 (f := .glo "require_reader_and_word") rfl)
    D_29 := D29
    b_29 := FunD.bindsN (ps := ["reader", "length"]) D29 fun _ _ _ _ _ _ us hl => match us, hl with | [_, _], _ => rfl
    g_29 := He.glo_ok X G (c.fact 18 (f := .glo "require_reader_and_length") rfl)
    D_30 := D30
    b_30 := FunD.bindsN (ps := ["reader", "word"]) D30 fun _ _ _ _ _ _ us hl => match us, hl with | [_, _], _ => rfl
    g_30 := He.glo_ok X G (c.fact 19 (f := .glo "takes") rfl)
    D_31 := D31
    b_31 := FunD.bindsN (ps := ["reader"]) D31 fun _ _ _ _ _ _ us hl => match us, hl with | [_], _ => rfl
    g_31 := He.glo_ok X G (c.fact 20 (f := .glo "first_word") rfl)
    D_32 := D32
    b_32 := FunD.bindsN (ps := ["reader", "length"]) D32 fun _ _ _ _ _ _ us hl => match us, hl with | [_, _], _ => rfl
    g_32 := He.glo_ok X G (c.fact 21 (f := .glo "word_count") rfl)
    D_33 := D33
    b_33 := FunD.bindsN (ps := ["reader", "length"]) D33 fun _ _ _ _ _ _ us hl => match us, hl with | [_, _], _ => rfl
    g_33 := He.glo_ok X G (c.fact 22 (f := .glo "words") rfl)
    D_34 := D34
    b_34 := FunD.bindsN (ps := ["script", "spot"]) D34 fun _ _ _ _ _ _ us hl => match us, hl with | [_, _], _ => rfl
    g_34 := He.glo_ok X G (c.fact 23 (f := .glo "_law_bag") rfl)
    D_35 := D35
    b_35 := FunD.bindsN (ps := ["bag", "total"]) D35 fun _ _ _ _ _ _ us hl => match us, hl with | [_, _], _ => rfl
    g_35 := He.glo_ok X G (c.fact 24 (f := .glo "_law_pick") rfl)
    D_36 := D36
    b_36 := FunD.bindsN (ps := ["bag", "items"]) D36 fun _ _ _ _ _ _ us hl => match us, hl with | [_, _], _ => rfl
    g_36 := He.glo_ok X G (c.fact 25 (f := .glo "_law_one_of") rfl)
    D_37 := D37
    b_37 := FunD.bindsN (ps := ["reader"]) D37 fun _ _ _ _ _ _ us hl => match us, hl with | [_], _ => rfl
    g_37 := He.glo_ok X G (c.fact 26 (f := .glo "_law_re_met") rfl)
    D_38 := D38
    b_38 := FunD.bindsN (ps := ["reader"]) D38 fun _ _ _ _ _ _ us hl => match us, hl with | [_], _ => rfl
    g_38 := He.glo_ok X G (c.fact 27 (f := .glo "_law_re_first") rfl)
    D_39 := D39
    b_39 := FunD.bindsN (ps := ["bag", "letters", "most"]) D39 fun _ _ _ _ _ _ us hl => match us, hl with | [_, _, _], _ => rfl
    g_39 := He.glo_ok X G (c.fact 28 (f := .glo "_law_re_drawn") rfl)
    D_40 := D40
    b_40 := FunD.bindsN (ps := ["reader", "length"]) D40 fun _ _ _ _ _ _ us hl => match us, hl with | [_, _], _ => rfl
    g_40 := He.glo_ok X G (c.fact 29 (f := .glo "_law_counted") rfl)
    D_41 := D41
    b_41 := FunD.bindsN (ps := ["reader", "length"]) D41 fun _ _ _ _ _ _ us hl => match us, hl with | [_, _], _ => rfl
    g_41 := He.glo_ok X G (c.fact 30 (f := .glo "_law_listed") rfl)
    D_42 := D42
    b_42 := FunD.bindsN (ps := ["real", "length"]) D42 fun _ _ _ _ _ _ us hl => match us, hl with | [_, _], _ => rfl
    g_42 := He.glo_ok X G (c.fact 31 (f := .glo "_law_met_words") rfl)
    D_43 := D43
    b_43 := FunD.bindsN (ps := ["bag"]) D43 fun _ _ _ _ _ _ us hl => match us, hl with | [_], _ => rfl
    g_43 := He.glo_ok X G (c.fact 32 (f := .glo "_law_right") rfl)
    D_44 := D44
    b_44 := FunD.bindsN (ps := ["script"]) D44 fun _ _ _ _ _ _ us hl => match us, hl with | [_], _ => rfl
    g_44 := He.glo_ok X G (c.fact 33 (f := .glo "law") rfl)
    at_own_accepting := fun c hc => (by simp only [lk, beq_iff_eq, Bool.or_eq_true] at hc; subst hc; exact ⟨(kf.cls _ rfl).1, slB_ok x0⟩)
    at_own_letters := fun c hc => (by simp only [lk, beq_iff_eq, Bool.or_eq_true] at hc; subst hc; exact ⟨(kf.cls _ rfl).1, slB_ok x1⟩)
    at_own_steps := fun c hc => (by simp only [lk, beq_iff_eq, Bool.or_eq_true] at hc; subst hc; exact ⟨(kf.cls _ rfl).1, slB_ok x2⟩)
    k_MOST_LENGTH := He.int_ok X G (c.fact 41 rfl)
    k_MOST_LETTERS := He.int_ok X G (c.fact 42 rfl)
    k_MOST_STATES := He.int_ok X G (c.fact 43 rfl)
    k_MOST_WORD := He.int_ok X G (c.fact 44 rfl)
    k_MOST_WORDS := He.int_ok X G (c.fact 45 rfl)
    z_abs := He.free_ok X G (c.fact 46 rfl)
    z_all := He.free_ok X G (c.fact 47 rfl)
    z_bool := He.free_ok X G (c.fact 48 rfl)
    z_enumerate := He.free_ok X G (c.fact 49 rfl)
    z_int := He.free_ok X G (c.fact 50 rfl)
    z_isinstance := He.free_ok X G (c.fact 51 rfl)
    z_len := He.free_ok X G (c.fact 52 rfl)
    z_max := He.free_ok X G (c.fact 53 rfl)
    z_min := He.free_ok X G (c.fact 54 rfl)
    z_range := He.free_ok X G (c.fact 55 rfl)
    z_sum := He.free_ok X G (c.fact 56 rfl)
    z_tuple := He.free_ok X G (c.fact 57 rfl)
    z_zip := He.free_ok X G (c.fact 58 rfl)
    kf := kf
    gx_1 := He.glo_ok X G (c.fact 36 (f := .glo "InvalidReader") rfl)
    gx_2 := He.glo_ok X G (c.fact 37 (f := .glo "InvalidWord") rfl)
    gx_3 := He.glo_ok X G (c.fact 38 (f := .glo "InvalidNumber") rfl)
    gx_4 := He.glo_ok X G (c.fact 39 (f := .glo "TooMany") rfl)
    ec_1 := ecB_ok x3
    ec_2 := ecB_ok x4
    su_3 := suB_ok (d := sd_3) (cc.su 0) x5 (by kernel_rfl)
    su_4 := suB_ok (d := sd_4) (cc.su 1) x6 (by kernel_rfl)
    z_super := He.free_ok X G (c.fact 40 rfl)
    xm_4_1 := exmB_ok x7
    xm_4_2 := exmB_ok x8
    xm_4_3 := exmB_ok x9
    xm_4_4 := exmB_ok x10
    xf_4 := xfB_ok x11
    no_4 := noB_ok x12
    gc_5 := He.glo_ok X G (c.fact 34 (f := .glo "Reader") rfl)
    mk_5 := He.mkr_ok (c.fact 35 (f := .mkr "Reader") rfl)
    ini_5 := ini_5 }
end K25
open PySem PySem.W PySem.Calls PyProof.Rows
theorem K25.the_law (pure : ∀ ns : List Int, ns.length ≤ 63 → ∃ e, Ev.fin (K25.b_44 (Ev.callF K25.prog 39) (Ev.env0 ⟨1, 11, K25.b_44⟩ [.val (.scr (ns.map .int))])) = .ok (.g (.bl true)) e) : PySem.Challenge.rw_wholebyparts_k25_whole_first_words_and_c.Holds := by
  w_on; o_law
  refine HandSHeadRun.head_any (r := OpenLaw.row PySem.Challenge.rw_wholebyparts_k25_whole_first_words_and_c) (q := view (OpenLaw.row PySem.Challenge.rw_wholebyparts_k25_whole_first_words_and_c).prog [48]) (H := K25.hkL) (ob := K25.obL) (M := 4000) (loose := K25.nmL) (d := HandSHeadRun.topDef (OpenLaw.row PySem.Challenge.rw_wholebyparts_k25_whole_first_words_and_c).prog 48) (kwd := []) K25.obL_eq
    (by kernel_rfl) (fun s => by kernel_rfl) K25.runL (by kernel_rfl) (by kernel_rfl) (by kernel_rfl) (by rfl) (by first | assumption | decide +kernel) (by decide +kernel) ⟨rfl, rfl, rfl, rfl, rfl, by decide +kernel⟩ ?hw ?hc
  case hw => w_witness2
  case hc =>
    refine L2.walk_ofE (l := PySem.Challenge.rw_wholebyparts_k25_whole_first_words_and_c) (n := 63) (k := 80) (x := "script") (CX := L2.CX0) rfl (by decide) (by kernel_rfl) ⟨rfl, by decide, by decide⟩ ?F (fun _ _ _ _ z => z)
    intro w mg fa h Y G hmg0
    obtain ⟨K, KX, c⟩ := Y
    obtain ⟨A, E, hl⟩ := K25.facts KX G c
    have hmg : mg ("law" : PySem.Str) = some (.ref fa) := by
      have e : (HandSHeadRun.topDef (OpenLaw.row PySem.Challenge.rw_wholebyparts_k25_whole_first_words_and_c).prog 48).name = ("law" : PySem.Str) := by kernel_rfl
      rw [← e]
      exact hmg0
    have e := hmg.symm.trans hl
    cases e
    refine ⟨K, A.fdd 44, Ev.spL (K25.lk K A) ⟨1, 11, K25.b_44⟩ (Ev.callF K25.prog 39), KX, ?_, fun H a ns hl2 hO hS => ?_, fun base _ _ => ?_⟩
    · exact fun s v => L2.FunD.bindsA (ps := ["script"]) E.D_44 (fun _ _ _ _ _ _ us hl => match us, hl with | [_], _ => rfl) s [v] rfl
    · obtain ⟨e, he⟩ := pure ns hl2
      exact Ev.law_sp rfl hO hS he
    · exact K25.law_ok E


end
theorem PySem.Challenge.cw_wholebyparts_k25_whole_first_words_and_c_holds : PySem.Challenge.rw_wholebyparts_k25_whole_first_words_and_c.Holds :=
  K25.the_law K25.pure_ok
