import PyProof.Rows.All
import Wide.All
import OpenK.AllK
import Wide.FinOn
import HandS.ForMost
import HandS.TupAny
import HandS.SortInts
import HandS.Style
import HandS.IsInst
import HandS.Wide
import HandS.Zip
import HandS.Walk
import KE.DataMinMax
import KE.KTupSum
import HandS.Star
import HandS.Conv
import HandS.Dict
import HandS.Rev
import HandS.ExcOwn
import HandS.Small
import HandS.Defaults
import HandS.Ends
import HandS.HeadEnd
import HandS.HeadHook1
import HandS.HeadHook2
import PySem.Challenge.RW_fallrows_k90_whole_main_signed_counts_an
import KE.KStateDown
import HandS.Base
import HandS.Call
import HandS.More
import HandS.Words
import HandS.WordsExc
import HandS.Head0
import HandS.Head1
import HandS.Head2
set_option Elab.async false
set_option linter.all false
set_option maxRecDepth 100000
set_option maxHeartbeats 0

/-! C0: values as trees, the small language, its evaluator. -/
namespace MP
open PySem L2

/-- values as trees -/
inductive T where
  | non | bl (b : Bool) | int (i : Int) | str (x : Str)
  | lst (xs : List T) | tup (xs : List T)
  | dk (ks : List Key) (vs : List T) | dt (ks : List (List Key)) (vs : List T)
  | scr (ns : List Int) | box (k : Nat)
  deriving Inhabited

/-- built-in types that are asked -/
inductive Ty where
  | int | bool | str | list | tuple | dict
  deriving DecidableEq
def Ty.nm : Ty → String
  | .int => "int" | .bool => "bool" | .str => "str" | .list => "list" | .tuple => "tuple" | .dict => "dict"

inductive BOp where
  | add | sub | mul | fdiv | mod | pow
  deriving DecidableEq
inductive COp where
  | lt | le | gt | ge | eq | ne | isN | notN | inn | nin
  deriving DecidableEq
/-- built-in functions by name -/
inductive BI where
  | len | abs | int | list | tuple | sorted | all | any | sum | max1 | min1 | max2 | min2 | repr | dict
  deriving DecidableEq
/-- methods that change nothing -/
inductive ME where
  | get1 | get2 | items | values | index | count
  deriving DecidableEq
/-- targets -/
inductive Tg where
  | nm (i : Nat) | tp (ts : List Tg)

mutual
inductive IE where
  | var (i : Nat) | cst (c : T) | un (a : IE) | bin (op : BOp) (a b : IE) | cmp (op : COp) (a b : IE) | chn (op op' : COp) (a b c : IE)
  | bop (isAnd : Bool) (as : List IE) | nt (a : IE) | ite (c a b : IE)
  | lst (as : List (Bool × IE)) | tup (as : List IE) | sub (a b : IE) | slc (a : IE) (lo hi : Option IE) | rev (a : IE)
  | call (f : Nat) (as : List IE) (kw : List (Nat × IE)) | bi (b : BI) (as : List IE) | isi (a : IE) (cs : List Ty) (one : Bool) | meth (m : ME) (a : IE) (as : List IE)
  | lc (elt : IE) (tg : Tg) (it : II) (cnd : Option IE) | imm (a : IE) | flat (a : IE) | dnew (tk : Bool)
  | neNil (x : Nat) (i : IE) | popAt (x : Nat) (i j : IE) | lof (tp : Bool) (it : II)
  | never
inductive II where
  | seq (a : IE) | rng1 (a : IE) | rng2 (a b : IE) | rng3 (a b c : IE) | enum (a : IE) | zip (a b : IE) | keys (a : IE) | items (a : IE)
end
inductive IS where
  | ex (e : IE) | asg (x : Nat) (e : IE) (ks : List Nat) | par (xs : List Nat) (es : List IE) (ks : List Nat) | unp (tg : Tg) (e : IE) (ks : List Nat)
  | app (x : Nat) (e : IE) (ks : List Nat) | appPop (x y : Nat) (e : Option IE) | asgPop (x y : Nat) (e : Option IE) | ext (x : Nat) (e : IE) (ks : List Nat)
  | set (x : Nat) (i e : IE) (ks : List Nat) | bset (x : Nat) (i e : IE)
  | iff (c : IE) (a b : List IS) | wh (c : IE) (b : List IS) | for (tg : Tg) (it : II) (b : List IS) (ks : List Nat)
  | ret (e : Option IE) | pass | brk | raise (c : Nat) (e : IE) | spoil (x : Nat) | mkbox (x : Nat) | never

/-- kinds of slots: S may be shared; P: the list itself is mine alone; D: all of it is -/
inductive SK where
  | S | P | D
  deriving DecidableEq
/-- kinds of results: I has no list or dict in it; D is new throughout; P is new itself; S any -/
inductive RK where
  | I | D | P | S
  deriving DecidableEq
structure Dn where
  nps : Nat
  n : Nat
  ka : List SK
  rk : RK
  body : List IS

/-! ### the machine's answers -/
abbrev Mem := List T
abbrev Env := List (Option T)
inductive Res (α : Type) where
  | ok (a : α) (μ : Mem) | exc (c : Nat) (t : T) (μ : Mem) | stuck
def Res.bind {α β : Type} : Res α → (α → Mem → Res β) → Res β
  | .ok a μ, f => f a μ
  | .exc c t μ, _ => .exc c t μ
  | .stuck, _ => .stuck
@[simp] theorem Res.bind_ok {α β : Type} (a : α) (μ : Mem) (f : α → Mem → Res β) : (Res.ok a μ).bind f = f a μ := rfl
@[simp] theorem Res.bind_exc {α β : Type} (c : Nat) (t : T) (μ : Mem) (f : α → Mem → Res β) : (Res.exc c t μ : Res α).bind f = .exc c t μ := rfl
@[simp] theorem Res.bind_stuck {α β : Type} (f : α → Mem → Res β) : (Res.stuck : Res α).bind f = .stuck := rfl
/-- an optional value, the memory as it is -/
def opt {α : Type} (o : Option α) (μ : Mem) : Res α := match o with
  | some a => .ok a μ
  | none => .stuck
@[simp] theorem opt_some {α : Type} (a : α) (μ : Mem) : opt (some a) μ = .ok a μ := rfl
@[simp] theorem opt_none {α : Type} (μ : Mem) : opt (none : Option α) μ = .stuck := rfl

def line : Nat := 16777216

/-! ### no list and no dict in it -/
mutual
def nodeless : T → Bool
  | .lst _ => false
  | .dk _ _ => false
  | .dt _ _ => false
  | .tup xs => nodelessL xs
  | _ => true
def nodelessL : List T → Bool
  | [] => true
  | x :: xs => nodeless x && nodelessL xs
end
mutual
def boxless : T → Bool
  | .lst xs => boxlessL xs
  | .dk _ xs => boxlessL xs
  | .dt _ xs => boxlessL xs
  | .tup xs => boxlessL xs
  | .box _ => false
  | _ => true
def boxlessL : List T → Bool
  | [] => true
  | x :: xs => boxless x && boxlessL xs
end
/- all boxes in it are below n -/
mutual
def boxBelow (n : Nat) : T → Bool
  | .lst xs => boxBelowL n xs
  | .dk _ xs => boxBelowL n xs
  | .dt _ xs => boxBelowL n xs
  | .tup xs => boxBelowL n xs
  | .box k => Nat.blt k n
  | _ => true
def boxBelowL (n : Nat) : List T → Bool
  | [] => true
  | x :: xs => boxBelow n x && boxBelowL n xs
end
/-- what stands behind a box -/
def view (μ : Mem) : T → T
  | .box k => (μ[k]?).getD .non
  | t => t
/-- may the children of this go into a new thing -/
def kidsOk (t : T) (xs : List T) : Bool := match t with
  | .box _ => nodelessL xs
  | _ => true

/-! ### the plain operations, behind view -/
def pyEqI (a : T) : Option Int := match a with
  | .int i => some i
  | .bl b => some (if b then 1 else 0)
  | _ => none
mutual
/-- == of data: none, bools, ints, texts, lists, tuples -/
def eqT : T → T → Bool
  | .non, .non => true
  | .bl a, .bl b => a == b
  | .bl a, .int b => (if a then 1 else 0) == b
  | .int a, .bl b => a == (if b then 1 else 0)
  | .int a, .int b => decide (a = b)
  | .str a, .str b => decide (a = b)
  | .lst a, .lst b => eqTL a b
  | .tup a, .tup b => eqTL a b
  | _, _ => false
def eqTL : List T → List T → Bool
  | [], [] => true
  | a :: as, b :: bs => eqT a b && eqTL as bs
  | _, _ => false
end
mutual
/-- data that == compares, at most d deep -/
def datum : Nat → T → Bool
  | _, .non => true
  | _, .bl _ => true
  | _, .int _ => true
  | _, .str x => x.cps.all (· < 0x110000)
  | d, .lst xs => (match d with | 0 => false | d + 1 => datumL d xs)
  | d, .tup xs => (match d with | 0 => false | d + 1 => datumL d xs)
  | _, _ => false
def datumL : Nat → List T → Bool
  | _, [] => true
  | d, x :: xs => datum d x && datumL d xs
end
def intsOf : List T → Option (List Int)
  | [] => some []
  | .int i :: r => (intsOf r).map (i :: ·)
  | _ => none
def blsOf : List T → Option (List Bool)
  | [] => some []
  | .bl b :: r => (blsOf r).map (b :: ·)
  | _ => none
/-- the items of a list or tuple -/
def seqOf : T → Option (List T)
  | .lst xs => some xs
  | .tup xs => some xs
  | .scr ns => some (ns.map .int)
  | _ => none
def pAdd : T → T → Option T
  | .int a, .int b => some (.int (a + b))
  | .lst a, .lst b => if Nat.ble (a.length + b.length) line then some (.lst (a ++ b)) else none
  | .str a, .str b => if Nat.ble (a.length + b.length) line then some (.str (a ++ b)) else none
  | .tup a, .tup b => if Nat.ble (a.length + b.length) line then some (.tup (a ++ b)) else none
  | _, _ => none
def inMul (i : Int) : Bool := decide (-(2 ^ 64) < i) && decide (i < 2 ^ 64)
def pMul : T → T → Option T
  | .int a, .int b => if inMul a || inMul b || Nat.blt (a.natAbs.log2 + b.natAbs.log2) 1000000 then some (.int (a * b)) else none
  | .lst a, .int k => if decide (-(2 ^ 63) ≤ k) && decide (k < 2 ^ 63) && Nat.ble (a.length * k.toNat) line then some (.lst (List.replicate k.toNat a).flatten) else none
  | _, _ => none
def pBin (op : BOp) (a b : T) : Option T := match op with
  | .add => pAdd a b
  | .mul => pMul a b
  | .sub => (match a, b with | .int a, .int b => some (.int (a - b)) | _, _ => none)
  | .fdiv => (match a, b with | .int a, .int b => if decide (b ≠ 0) && (Nat.blt b.natAbs 1073741824 || (decide (0 < b) && Nat.blt b.natAbs.log2 9000)) then some (.int (a.fdiv b)) else none | _, _ => none)
  | .mod => (match a, b with | .int a, .int b => if decide (b ≠ 0) then some (.int (a.fmod b)) else none | _, _ => none)
  | .pow => (match a, b with | .int a, .int b => if decide (0 ≤ b) && decide (b ≤ 1000000) && Nat.blt a.natAbs (2 ^ 64) then some (.int (a ^ b.toNat)) else none | _, _ => none)
/-- the children that an operation carries on -/
def kidsOf : T → List T
  | .lst xs => xs
  | .tup xs => xs
  | .dk _ xs => xs
  | .dt _ xs => xs
  | _ => []
def flatT : T → Bool
  | .non => true
  | .bl _ => true
  | .int _ => true
  | .str _ => true
  | _ => false
def keyT : T → Option Key
  | .int i => some (.inl i)
  | .str x => some (.inr x)
  | _ => none
def keysT : List T → Option (List Key)
  | [] => some []
  | t :: r => (match keyT t, keysT r with | some k, some ks => some (k :: ks) | _, _ => none)
def findK {κ : Type} [DecidableEq κ] (k : κ) : List κ → List T → Option T
  | a :: ks, v :: vs => if k = a then some v else findK k ks vs
  | _, _ => none
/-- x in c -/
def pIn (x c : T) : Option Bool := match c with
  | .lst xs => if flatT x && xs.all flatT then some (xs.any fun y => eqT y x) else none
  | .tup xs => if flatT x && xs.all flatT then some (xs.any fun y => eqT y x) else none
  | .dk ks vs => (match keyT x with | some k => some (findK k ks vs).isSome | none => none)
  | .dt ks vs => (match x with | .tup ts => (match keysT ts with | some k => some (findK k ks vs).isSome | none => none) | _ => none)
  | _ => none
def isNon : T → Bool
  | .non => true
  | _ => false
def pCmp (op : COp) (a b : T) : Option Bool := match op with
  | .eq => if datum 60 a && datum 60 b then some (eqT a b) else none
  | .ne => if datum 60 a && datum 60 b then some (!eqT a b) else none
  | .isN => (match b with | .non => some (isNon a) | _ => none)
  | .notN => (match b with | .non => some (!isNon a) | _ => none)
  | .inn => pIn a b
  | .nin => (pIn a b).map (!·)
  | .lt => (match a, b with | .int a, .int b => some (decide (a < b)) | _, _ => none)
  | .le => (match a, b with | .int a, .int b => some (decide (a ≤ b)) | _, _ => none)
  | .gt => (match a, b with | .int a, .int b => some (decide (b < a)) | _, _ => none)
  | .ge => (match a, b with | .int a, .int b => some (decide (b ≤ a)) | _, _ => none)
/-- xs[i], any sign -/
def atT (xs : List T) (i : Int) : Option T := match ixN xs.length i with
  | some j => xs[j]?
  | none => none
def pSub (c i : T) : Option T := match c, i with
  | .lst xs, .int i => atT xs i
  | .tup xs, .int i => atT xs i
  | .dk ks vs, i => (match keyT i with | some k => findK k ks vs | none => none)
  | .dt ks vs, .tup ts => (match keysT ts with | some k => findK k ks vs | none => none)
  | _, _ => none
def cutT (xs : List T) (lo hi : Option Int) : List T := (xs.drop (HT.sIx xs.length 0 lo)).take (HT.sIx xs.length xs.length hi - HT.sIx xs.length 0 lo)
def pSlc (c : T) (lo hi : Option Int) : Option T := match c with
  | .lst xs => some (.lst (cutT xs lo hi))
  | .tup xs => some (.tup (cutT xs lo hi))
  | _ => none
def ins (i : Int) : List Int → List Int
  | [] => [i]
  | j :: r => if i ≤ j then i :: j :: r else j :: ins i r
def isort : List Int → List Int
  | [] => []
  | i :: r => ins i (isort r)
def lmax : Int → List Int → Int
  | m, [] => m
  | m, i :: r => lmax (if m < i then i else m) r
def lmin : Int → List Int → Int
  | m, [] => m
  | m, i :: r => lmin (if i < m then i else m) r
def truth : T → Option Bool
  | .bl b => some b
  | _ => none



mutual
def dataOf : T → Option PyData
  | .non => some .none
  | .bl b => some (.bool b)
  | .int i => some (.int i)
  | .str x => some (.str x)
  | .lst xs => (dataOfL xs).map .list
  | .tup xs => (dataOfL xs).map .tuple
  | _ => none
def dataOfL : List T → Option (List PyData)
  | [] => some []
  | x :: xs => (match dataOf x, dataOfL xs with | some d, some ds => some (d :: ds) | _, _ => none)
end
def putK {κ α : Type} [DecidableEq κ] (k : κ) (v : α) : List κ → List α → List κ × List α
  | a :: ks, w :: vs => if k = a then (a :: ks, v :: vs) else (a :: (putK k v ks vs).1, w :: (putK k v ks vs).2)
  | _, _ => ([k], [v])
def dictGo : List T → List Key → List T → Option T
  | [], ks, vs => some (.dk ks vs)
  | .tup [k, v] :: r, ks, vs => (match keyT k with | some k => dictGo r (MP.putK k v ks vs).1 (MP.putK k v ks vs).2 | none => none)
  | _, _, _ => none
/-- dict(pairs) -/
def dictOf (xs : List T) : Option T := dictGo xs [] []
/-- built-in functions on viewed arguments; kids: what is carried on of the arguments' children -/
def pBI (b : BI) (as : List T) : Option T := match b, as with
  | .len, [.lst xs] => some (.int xs.length)
  | .len, [.tup xs] => some (.int xs.length)
  | .len, [.str x] => if Nat.ble x.length line then some (.int x.length) else none
  | .len, [.dk ks _] => some (.int ks.length)
  | .abs, [.int i] => some (.int (if i < 0 then -i else i))
  | .int, [.int i] => some (.int i)
  | .int, [.bl b] => some (.int (if b then 1 else 0))
  | .list, [.lst xs] => some (.lst xs)
  | .list, [.tup xs] => some (.lst xs)
  | .list, [.scr ns] => some (.lst (ns.map .int))
  | .tuple, [.lst xs] => some (.tup xs)
  | .tuple, [.tup xs] => some (.tup xs)
  | .sorted, [.lst xs] => (intsOf xs).map fun ns => .lst ((isort ns).map .int)
  | .sorted, [.tup xs] => (intsOf xs).map fun ns => .lst ((isort ns).map .int)
  | .all, [.lst xs] => (blsOf xs).map fun bs => .bl (bs.all id)
  | .any, [.lst xs] => (blsOf xs).map fun bs => .bl (bs.any id)
  | .sum, [.lst xs] => (intsOf xs).map fun ns => .int ns.sum
  | .sum, [.tup xs] => (intsOf xs).map fun ns => .int ns.sum
  | .max1, [.lst xs] => (match intsOf xs with | some (n :: ns) => some (.int (lmax n ns)) | _ => none)
  | .max1, [.tup xs] => (match intsOf xs with | some (n :: ns) => some (.int (lmax n ns)) | _ => none)
  | .min1, [.lst xs] => (match intsOf xs with | some (n :: ns) => some (.int (lmin n ns)) | _ => none)
  | .min1, [.tup xs] => (match intsOf xs with | some (n :: ns) => some (.int (lmin n ns)) | _ => none)
  | .max2, [.int i, .int j] => some (.int (if j > i then j else i))
  | .min2, [.int i, .int j] => some (.int (if j < i then j else i))
  | .dict, [.lst xs] => dictOf xs
  | .repr, [.dk [] _] => some (.str (PyData.dict []).shown)
  | .repr, [t] => if datum 40 t then (match dataOf t with
    | some d => if d.showable && Nat.ble d.shown.length line then some (.str d.shown) else none
    | none => none) else none
  | _, _ => none
def kTy (t : T) : Ty → Bool
  | .int => (match t with | .int _ => true | .bl _ => true | _ => false)
  | .bool => (match t with | .bl _ => true | _ => false)
  | .str => (match t with | .str _ => true | _ => false)
  | .list => (match t with | .lst _ => true | .scr _ => true | _ => false)
  | .tuple => (match t with | .tup _ => true | _ => false)
  | .dict => (match t with | .dk _ _ => true | .dt _ _ => true | _ => false)
def pME (m : ME) (a : T) (as : List T) : Option T := match m, a, as with
  | .get1, .dk ks vs, [k] => (match keyT k with | some k => some ((findK k ks vs).getD .non) | none => none)
  | .get2, .dk ks vs, [k, d] => (match keyT k with | some k => some ((findK k ks vs).getD d) | none => none)
  | .count, .lst xs, [.int k] => (intsOf xs).map fun ns => .int (ns.count k)
  | .index, .lst xs, [y] => if flatT y && xs.all flatT then (match xs.findIdx? fun z => eqT z y with | some j => some (.int j) | none => none) else none
  | _, _, _ => none

/-! ### targets -/
mutual
def bindTg : Tg → T → Env → Option Env
  | .nm i, t, ρ => some (ρ.set i (some t))
  | .tp ts, .tup xs, ρ => bindTgs ts xs ρ
  | _, _, _ => none
def bindTgs : List Tg → List T → Env → Option Env
  | [], [], ρ => some ρ
  | g :: gs, x :: xs, ρ => (match bindTg g x ρ with | some ρ' => bindTgs gs xs ρ' | none => none)
  | _, _, _ => none
end
mutual
def Tg.slots : Tg → List Nat
  | .nm i => [i]
  | .tp ts => Tg.slotsL ts
def Tg.slotsL : List Tg → List Nat
  | [] => []
  | g :: gs => g.slots ++ Tg.slotsL gs
end
/-- the slots is forgotten -/
def forget (ρ : Env) : List Nat → Env
  | [] => ρ
  | i :: is => (forget ρ is).set i none
/-- some slots as they were -/
def restore (ρ ρ0 : Env) : List Nat → Env
  | [] => ρ
  | i :: is => (restore ρ ρ0 is).set i ((ρ0[i]?).getD none)

def getV (ρ : Env) (i : Nat) : Option T := match ρ[i]? with
  | some (some t) => some t
  | _ => none
def rngL (lo c : Int) : Nat → List T
  | 0 => []
  | n + 1 => .int lo :: rngL (lo + c) c n
def enumL (k : Int) : List T → List T
  | [] => []
  | x :: xs => .tup [.int k, x] :: enumL (k + 1) xs
def zipL : List T → List T → List T
  | x :: xs, y :: ys => .tup [x, y] :: zipL xs ys
  | _, _ => []
def smallI (i : Int) : Bool := decide (-(2 ^ 62) ≤ i) && decide (i < 2 ^ 62)
/-- a comprehension's turns -/
def lcLoop (c e : T → Mem → Res (Option T)) : List T → Mem → Res (List T)
  | [], μ => .ok [] μ
  | x :: xs, μ => (e x μ).bind fun o μ => (lcLoop c e xs μ).bind fun r μ => .ok (match o with | some y => y :: r | none => r) μ
def lcGo (f : T → Mem → Res (Option T)) : List T → Nat → Mem → Res (List T)
  | [], _, μ => .ok [] μ
  | x :: xs, n, μ => (f x μ).bind fun o μ => match o with
    | some y => if Nat.blt n line then (lcGo f xs (n + 1) μ).bind fun r μ => .ok (y :: r) μ else .stuck
    | none => lcGo f xs n μ
/-- results of a block: no exception leaves it -/
def noExc {α : Type} : Res α → Res α
  | .exc _ _ _ => .stuck
  | r => r

/-- c[i].pop(0): the first one, c behind it -/
def popB (c : T) (i : Int) : Option (T × T) := match c with
  | .lst cs => (match ixN cs.length i with
    | some m => (match cs[m]? with
      | some (.lst (y :: ys)) => if nodeless y && boxless (.lst (cs.set m (.lst ys))) then some (y, .lst (cs.set m (.lst ys))) else none
      | _ => none)
    | none => none)
  | _ => none
/-- the keywords' values in the parameters' order, from the n-th parameter on -/
def kwArgs (n : Nat) (is : List Nat) (zs : List T) : List T := (List.range is.length).filterMap fun d => (is.zip zs).lookup (n + d)
abbrev Fns := Nat → List T → Mem → Res T
mutual
def evE (F : Fns) (ρ : Env) : IE → Mem → Res T
  | .var i, μ => opt (getV ρ i) μ
  | .cst c, μ => .ok c μ
  | .un a, μ => (evE F ρ a μ).bind fun x μ => (match x with | .int i => .ok (.int (-i)) μ | _ => .stuck)
  | .bin op a b, μ => (evE F ρ a μ).bind fun x μ => (evE F ρ b μ).bind fun y μ =>
      if kidsOk x (kidsOf (view μ x)) && kidsOk y (kidsOf (view μ y)) then opt (pBin op (view μ x) (view μ y)) μ else .stuck
  | .cmp op a b, μ => (evE F ρ a μ).bind fun x μ => (evE F ρ b μ).bind fun y μ => (opt (pCmp op (view μ x) (view μ y)) μ).bind fun r μ => .ok (.bl r) μ
  | .chn op op' a b c, μ => (evE F ρ a μ).bind fun x μ => (evE F ρ b μ).bind fun y μ => (opt (pCmp op (view μ x) (view μ y)) μ).bind fun r μ => (match r with
      | true => (evE F ρ c μ).bind fun z μ => (opt (pCmp op' (view μ y) (view μ z)) μ).bind fun r μ => .ok (.bl r) μ
      | false => .ok (.bl false) μ)
  | .bop isAnd as, μ => evB F ρ isAnd as μ
  | .nt a, μ => (evE F ρ a μ).bind fun x μ => (match x with | .bl b => .ok (.bl (!b)) μ | _ => .stuck)
  | .ite c a b, μ => (evE F ρ c μ).bind fun x μ => (match x with | .bl true => evE F ρ a μ | .bl false => evE F ρ b μ | _ => .stuck)
  | .lst as, μ => (evS F ρ as μ).bind fun ts μ => if Nat.ble ts.length line then .ok (.lst ts) μ else .stuck
  | .tup as, μ => (evL F ρ as μ).bind fun ts μ => if Nat.ble ts.length line then .ok (.tup ts) μ else .stuck
  | .sub a b, μ => (evE F ρ a μ).bind fun x μ => (evE F ρ b μ).bind fun y μ => (opt (pSub (view μ x) y) μ).bind fun r μ => if kidsOk x [r] then .ok r μ else .stuck
  | .slc a lo hi, μ => (evE F ρ a μ).bind fun x μ => (evO F ρ lo μ).bind fun l μ => (evO F ρ hi μ).bind fun h μ =>
      if kidsOk x (kidsOf (view μ x)) then opt (pSlc (view μ x) l h) μ else .stuck
  | .rev a, μ => (evE F ρ a μ).bind fun x μ => if kidsOk x (kidsOf (view μ x)) then (match view μ x with | .lst xs => .ok (.lst xs.reverse) μ | _ => .stuck) else .stuck
  | .call f as kw, μ => (evL F ρ as μ).bind fun ts μ => (evK F ρ kw μ).bind fun zs μ => F f (ts ++ kwArgs ts.length (kw.map (·.1)) zs) μ
  | .bi b as, μ => (evL F ρ as μ).bind fun ts μ => if ts.all (fun t => kidsOk t (kidsOf (view μ t))) then opt (pBI b (ts.map (view μ))) μ else .stuck
  | .isi a cs _, μ => (evE F ρ a μ).bind fun x μ => .ok (.bl (cs.any (kTy (view μ x)))) μ
  | .meth m a as, μ => (evE F ρ a μ).bind fun x μ => (evL F ρ as μ).bind fun ts μ => (opt (pME m (view μ x) ts) μ).bind fun r μ => if kidsOk x [r] then .ok r μ else .stuck
  | .lc elt tg it cnd, μ => (evI F ρ it μ).bind fun xs μ => (noExc (lcGo (fun x μ => match bindTg tg x (forget ρ tg.slots) with
      | some ρ' => (evC F ρ' cnd μ).bind fun b μ => (match b with | true => (evE F ρ' elt μ).bind fun y μ => .ok (some y) μ | false => .ok none μ)
      | none => .stuck) xs 0 μ)).bind fun r μ => .ok (.lst r) μ
  | .imm a, μ => (evE F ρ a μ).bind fun x μ => if nodeless x then .ok x μ else .stuck
  | .flat a, μ => (evE F ρ a μ).bind fun x μ => (match x with | .lst xs => if nodelessL xs then .ok x μ else .stuck | _ => .stuck)
  | .dnew tk, μ => .ok (match tk with | true => .dt [] [] | false => .dk [] []) μ
  | .neNil x i, μ => (match getV ρ x with
      | some (.box k) => (evE F ρ i μ).bind fun j μ => (opt ((μ[k]?).bind fun c => pSub c j) μ).bind fun t μ => (match t with | .lst xs => if datum 60 (.lst xs) then .ok (.bl (!xs.isEmpty)) μ else .stuck | _ => .stuck)
      | _ => .stuck)
  | .popAt x i j, μ => (match getV ρ x with
      | some (.box k) => (evE F ρ i μ).bind fun i μ => (evE F ρ j μ).bind fun j μ => (match i, j, μ[k]? with
        | .int i, .int 0, some c => (match popB c i with
          | some r => .ok r.1 (μ.set k r.2)
          | none => .stuck)
        | _, _, _ => .stuck)
      | _ => .stuck)
  | .lof tp it, μ => (evI F ρ it μ).bind fun xs μ => if Nat.ble xs.length line then .ok (match tp with | true => .tup xs | false => .lst xs) μ else .stuck
  | .never, _ => .stuck
def evB (F : Fns) (ρ : Env) (isAnd : Bool) : List IE → Mem → Res T
  | [], _ => .stuck
  | [a], μ => evE F ρ a μ
  | a :: as, μ => (evE F ρ a μ).bind fun x μ => (match x with | .bl b => if b = isAnd then evB F ρ isAnd as μ else .ok (.bl b) μ | _ => .stuck)
def evS (F : Fns) (ρ : Env) : List (Bool × IE) → Mem → Res (List T)
  | [], μ => .ok [] μ
  | (st, a) :: as, μ => (evE F ρ a μ).bind fun x μ => (match st with
      | false => (evS F ρ as μ).bind fun r μ => .ok (x :: r) μ
      | true => (match seqOf (view μ x) with
        | some xs => if kidsOk x xs then (evS F ρ as μ).bind fun r μ => .ok (xs ++ r) μ else .stuck
        | none => .stuck))
def evL (F : Fns) (ρ : Env) : List IE → Mem → Res (List T)
  | [], μ => .ok [] μ
  | a :: as, μ => (evE F ρ a μ).bind fun x μ => (evL F ρ as μ).bind fun r μ => .ok (x :: r) μ
def evK (F : Fns) (ρ : Env) : List (Nat × IE) → Mem → Res (List T)
  | [], μ => .ok [] μ
  | (_, a) :: as, μ => (evE F ρ a μ).bind fun x μ => (evK F ρ as μ).bind fun r μ => .ok (x :: r) μ
def evO (F : Fns) (ρ : Env) : Option IE → Mem → Res (Option Int)
  | none, μ => .ok none μ
  | some a, μ => (evE F ρ a μ).bind fun x μ => (match x with | .int i => .ok (some i) μ | _ => .stuck)
def evC (F : Fns) (ρ : Env) : Option IE → Mem → Res Bool
  | none, μ => .ok true μ
  | some a, μ => (evE F ρ a μ).bind fun x μ => (match x with | .bl b => .ok b μ | _ => .stuck)
def evI (F : Fns) (ρ : Env) : II → Mem → Res (List T)
  | .seq a, μ => (evE F ρ a μ).bind fun x μ => opt (seqOf x) μ
  | .rng1 a, μ => (evE F ρ a μ).bind fun x μ => (match x with | .int n => if smallI n then .ok (rngL 0 1 n.toNat) μ else .stuck | _ => .stuck)
  | .rng2 a b, μ => (evE F ρ a μ).bind fun x μ => (evE F ρ b μ).bind fun y μ => (match x, y with
      | .int m, .int n => if smallI m && smallI n then .ok (rngL m 1 (n - m).toNat) μ else .stuck
      | _, _ => .stuck)
  | .rng3 a b c, μ => (evE F ρ a μ).bind fun x μ => (evE F ρ b μ).bind fun y μ => (evE F ρ c μ).bind fun z μ => (match x, y, z with
      | .int m, .int n, .int (-1) => if smallI m && smallI n then .ok (rngL m (-1) (m - n).toNat) μ else .stuck
      | _, _, _ => .stuck)
  | .enum a, μ => (evE F ρ a μ).bind fun x μ => (match x with | .lst xs => .ok (enumL 0 xs) μ | _ => .stuck)
  | .zip a b, μ => (evE F ρ a μ).bind fun x μ => (evE F ρ b μ).bind fun y μ => (match x, y with
      | .lst xs, .lst ys => .ok (zipL xs ys) μ
      | .tup xs, .tup ys => .ok (zipL xs ys) μ
      | _, _ => .stuck)
  | .keys a, μ => (evE F ρ a μ).bind fun x μ => (match x with
      | .dk ks _ => .ok (ks.map fun k => match k with | .inl i => .int i | .inr x => .str x) μ
      | _ => .stuck)
  | .items a, μ => (evE F ρ a μ).bind fun x μ => (match x with
      | .dk ks vs => .ok (zipL (ks.map fun k => match k with | .inl i => .int i | .inr x => .str x) vs) μ
      | _ => .stuck)
end
inductive Fl where
  | nx | bk | rt (t : T)
/-- the slots that a statement gives away -/
def kill (ρ : Env) : List Nat → Env
  | [] => ρ
  | i :: is => (kill ρ is).set i none
/-- a list, a dict in the slot; a box in it -/
def getN (ρ : Env) (x : Nat) : Option T := match getV ρ x with
  | some (.lst xs) => some (.lst xs)
  | some (.dk ks vs) => some (.dk ks vs)
  | some (.dt ks vs) => some (.dt ks vs)
  | _ => none
def getB (ρ : Env) (x : Nat) : Option Nat := match getV ρ x with
  | some (.box k) => some k
  | _ => none
def getL (ρ : Env) (x : Nat) : Option (List T) := match getV ρ x with
  | some (.lst xs) => some xs
  | _ => none
def forLoop (f : T → Env → Mem → Res (Fl × Env)) : List T → Env → Mem → Res (Fl × Env)
  | [], ρ, μ => .ok (.nx, ρ) μ
  | x :: xs, ρ, μ => (f x ρ μ).bind fun r μ => match r.1 with
    | .nx => forLoop f xs r.2 μ
    | .bk => .ok (.nx, r.2) μ
    | .rt t => .ok (.rt t, r.2) μ
def whLoop (c : Env → Mem → Res T) (f : Env → Mem → Res (Fl × Env)) : Nat → Env → Mem → Res (Fl × Env)
  | 0, _, _ => .stuck
  | n + 1, ρ, μ => (c ρ μ).bind fun b μ => match b with
    | .bl true => (f ρ μ).bind fun r μ => match r.1 with
      | .nx => whLoop c f n r.2 μ
      | .bk => .ok (.nx, r.2) μ
      | .rt t => .ok (.rt t, r.2) μ
    | .bl false => .ok (.nx, ρ) μ
    | _ => .stuck
def setAll (ρ : Env) : List Nat → List T → Option Env
  | [], [] => some ρ
  | i :: is, t :: ts => setAll (ρ.set i (some t)) is ts
  | _, _ => none
/-- a list, a dict with one thing stored -/
def pSet (c i v : T) : Option T := match c, i with
  | .lst xs, .int i => (match ixN xs.length i with | some j => some (.lst (xs.set j v)) | none => none)
  | .dk ks vs, i => (match keyT i with | some k => if Nat.blt ks.length line then some (.dk (MP.putK k v ks vs).1 (MP.putK k v ks vs).2) else none | none => none)
  | .dt ks vs, .tup ts => (match keysT ts with | some k => if Nat.blt ks.length line then some (.dt (MP.putK k v ks vs).1 (MP.putK k v ks vs).2) else none | none => none)
  | _, _ => none
def pApp (c v : T) : Option T := match c with
  | .lst xs => if Nat.blt xs.length line then some (.lst (xs ++ [v])) else none
  | _ => none
def pExt (c d : T) : Option T := match c, d with
  | .lst xs, .lst ys => if Nat.ble (xs.length + ys.length) line then some (.lst (xs ++ ys)) else none
  | _, _ => none
def pPop (c : T) (i : Option T) : Option (T × T) := match c, i with
  | .lst xs, none => (match xs.getLast? with | some y => some (y, .lst xs.dropLast) | none => none)
  | .lst xs, some (.int i) => (match ixN xs.length i with | some j => (match xs[j]? with | some y => some (y, .lst (xs.eraseIdx j)) | none => none) | none => none)
  | _, _ => none
/-- a change of the thing in slot x: in the slot itself, or in its box (then what is stored has no list in it) -/
def upS (ρ : Env) (x : Nat) (μ : Mem) (f : T → Option T) : Res Env := match getV ρ x with
  | some (.box k) => (match (μ[k]?).bind f with | some c => if boxless c then .ok ρ (μ.set k c) else .stuck | none => .stuck)
  | some c => (match f c with | some c' => .ok (ρ.set x (some c')) μ | none => .stuck)
  | none => .stuck
def evP (F : Fns) (ρ : Env) (e : Option IE) (μ : Mem) : Res (Option T) := match e with
  | none => .ok none μ
  | some e => (evE F ρ e μ).bind fun t μ => .ok (some t) μ
mutual
def evI1 (F : Fns) (W : Nat) : IS → Env → Mem → Res (Fl × Env)
  | .ex e, ρ, μ => (evE F ρ e μ).bind fun _ μ => .ok (.nx, ρ) μ
  | .asg x e ks, ρ, μ => (evE F ρ e μ).bind fun t μ => .ok (.nx, (kill ρ ks).set x (some t)) μ
  | .par xs es ks, ρ, μ => (evL F ρ es μ).bind fun ts μ => (opt (setAll (kill ρ ks) xs ts) μ).bind fun ρ μ => .ok (.nx, ρ) μ
  | .unp tg e ks, ρ, μ => (evE F ρ e μ).bind fun t μ => (opt (bindTg tg (view μ t) (kill ρ ks)) μ).bind fun ρ μ => .ok (.nx, ρ) μ
  | .app x e ks, ρ, μ => (opt (getL (kill ρ ks) x) μ).bind fun xs μ => (evE F ρ e μ).bind fun t μ => if Nat.blt xs.length line then .ok (.nx, (kill ρ ks).set x (some (.lst (xs ++ [t])))) μ else .stuck
  | .appPop x y e, ρ, μ => (evP F ρ e μ).bind fun i μ => (match getV ρ y with
      | some c => (opt (pPop c i) μ).bind fun r μ => (upS (ρ.set y (some r.2)) x μ fun c => pApp c r.1).bind fun ρ μ => .ok (.nx, ρ) μ
      | none => .stuck)
  | .asgPop x y e, ρ, μ => (evP F ρ e μ).bind fun i μ => (match getV ρ y with
      | some c => (opt (pPop c i) μ).bind fun r μ => .ok (.nx, (ρ.set y (some r.2)).set x (some r.1)) μ
      | none => .stuck)
  | .ext x e ks, ρ, μ => (opt (getL (kill ρ ks) x) μ).bind fun xs μ => (evE F ρ e μ).bind fun t μ => (match t with | .lst ys => if Nat.ble (xs.length + ys.length) line then .ok (.nx, (kill ρ ks).set x (some (.lst (xs ++ ys)))) μ else .stuck | _ => .stuck)
  | .set x i e ks, ρ, μ => (evE F ρ e μ).bind fun t μ => (opt (getN (kill ρ ks) x) μ).bind fun c μ => (evE F ρ i μ).bind fun j μ => (opt (pSet c j t) μ).bind fun c' μ => .ok (.nx, (kill ρ ks).set x (some c')) μ
  | .bset x i e, ρ, μ => (evE F ρ e μ).bind fun t μ => (opt (getB ρ x) μ).bind fun k μ => (evE F ρ i μ).bind fun j μ => (opt ((μ[k]?).bind fun b => pSet b j t) μ).bind fun b μ => if nodeless t && boxless b then .ok (.nx, ρ) (μ.set k b) else .stuck
  | .iff c a b, ρ, μ => (evE F ρ c μ).bind fun t μ => (match t with | .bl true => evIs F W a ρ μ | .bl false => evIs F W b ρ μ | _ => .stuck)
  | .wh c b, ρ, μ => whLoop (fun ρ μ => evE F ρ c μ) (fun ρ μ => evIs F W b ρ μ) W ρ μ
  | .for tg it b ks, ρ, μ => (evI F ρ it μ).bind fun xs μ => forLoop (fun x ρ μ => match bindTg tg x ρ with | some ρ' => evIs F W b ρ' μ | none => .stuck) xs (kill ρ ks) μ
  | .ret none, ρ, μ => .ok (.rt .non, ρ) μ
  | .ret (some e), ρ, μ => (evE F ρ e μ).bind fun t μ => .ok (.rt t, ρ) μ
  | .pass, ρ, μ => .ok (.nx, ρ) μ
  | .brk, ρ, μ => .ok (.bk, ρ) μ
  | .raise c e, ρ, μ => (evE F ρ e μ).bind fun t μ => .exc c t μ
  | .spoil x, ρ, μ => (match getV ρ x with | some _ => .ok (.nx, ρ.set x none) μ | none => .stuck)
  | .mkbox x, ρ, μ => (match getV ρ x with | some t => if boxless t && (match t with | .lst _ => true | .dk _ _ => true | .dt _ _ => true | _ => false) then .ok (.nx, ρ.set x (some (.box μ.length))) (μ ++ [t]) else .stuck | none => .stuck)
  | .never, _, _ => .stuck
def evIs (F : Fns) (W : Nat) : List IS → Env → Mem → Res (Fl × Env)
  | [], ρ, μ => .ok (.nx, ρ) μ
  | st :: r, ρ, μ => (evI1 F W st ρ μ).bind fun q μ => match q.1 with
    | .nx => evIs F W r q.2 μ
    | .bk => .ok q μ
    | .rt _ => .ok q μ
end
/-- behind a def's body: new boxes are forgotten -/
def outD (rk : RK) (n : Nat) (t : T) (μ : Mem) : Res T :=
  if (match rk with | .I => nodeless t | _ => true) then
    if Nat.ble μ.length n then .ok t μ else if boxBelow n t then .ok t (μ.take n) else .stuck
  else .stuck
/-- a def called -/
def runD (F : Fns) (W : Nat) (d : Dn) (as : List T) (μ : Mem) : Res T :=
  if Nat.beq as.length d.nps then
    match evIs F W d.body (as.map some ++ List.replicate (d.n - as.length) none) μ with
    | .ok (.nx, _) μ' => outD d.rk μ.length .non μ'
    | .ok (.rt t, _) μ' => outD d.rk μ.length t μ'
    | .ok (.bk, _) _ => .stuck
    | .exc c t μ' => if Nat.ble μ'.length μ.length then .exc c t μ' else if boxBelow μ.length t then .exc c t (μ'.take μ.length) else .stuck
    | .stuck => .stuck
  else .stuck
/-- k levels of calls -/
def callF (Δ : List Dn) (W : Nat) : Nat → Fns
  | 0 => fun _ _ _ => .stuck
  | k + 1 => fun f as μ => match Δ[f]? with
    | some d => runD (callF Δ W k) W d as μ
    | none => .stuck
end MP

/-! C1: trees read off the abstract heap; boxes; steps of the heap. -/
namespace MP
open PySem PySem.Spec PyProof.Rows L2

mutual
/-- v reads as the tree; n: the lists and dicts in it -/
def Rds (K : PySem.W.Frag) (β : List Addr) (H : Hp) : T → V → List Addr → Prop
  | .non, v, n => v = .non ∧ n = []
  | .bl b, v, n => v = .bl b ∧ n = []
  | .int i, v, n => v = .int i ∧ n = []
  | .str x, v, n => v = .str x ∧ n = []
  | .lst xs, v, n => ∃ a vs m, v = .ref a ∧ H a = some (.lst vs) ∧ RdsL K β H xs vs m ∧ n = a :: m
  | .tup xs, v, n => ∃ a vs, v = .ref a ∧ H a = some (.tup vs) ∧ RdsL K β H xs vs n
  | .dk ks xs, v, n => ∃ a vs m, v = .ref a ∧ H a = some (.dK (ks.zip vs)) ∧ (ks.length = vs.length ∧ ks.Nodup) ∧ RdsL K β H xs vs m ∧ n = a :: m
  | .dt ks xs, v, n => ∃ a vs m, v = .ref a ∧ H a = some (.dT (ks.zip vs)) ∧ (ks.length = vs.length ∧ ks.Nodup) ∧ RdsL K β H xs vs m ∧ n = a :: m
  | .scr ns, v, n => ∃ a, v = .ref a ∧ n = [] ∧ ((∃ o, H a = some (.frz o (.lst (ns.map V.int)))) ∨
      ∃ (o : Obj) (its : Array Value) (m : Nat), K.lookup a = some o ∧ o.cls = .type "list" ∧ o.dict = none ∧ o.data = .seq its m ∧ its.size ≤ sizeLine ∧ Vals (ns.map V.int) its.toList)
  | .box k, v, n => ∃ a, v = .ref a ∧ β[k]? = some a ∧ n = []
def RdsL (K : PySem.W.Frag) (β : List Addr) (H : Hp) : List T → List V → List Addr → Prop
  | [], vs, n => vs = [] ∧ n = []
  | x :: xs, vs, n => ∃ v ws m k, vs = v :: ws ∧ Rds K β H x v m ∧ RdsL K β H xs ws k ∧ n = m ++ k
end

/-- lists and dicts -/
def isMut : HO → Bool
  | .lst _ => true
  | .dK _ => true
  | .dT _ => true
  | _ => false
/-- what is tracked stays but at B -/
structure Keeps (B : Addr → Prop) (H H' : Hp) : Prop where
  keep : ∀ a o, H a = some o → ¬ B a → H' a = some o
  tup : ∀ a xs, H a = some (.tup xs) → H' a = some (.tup xs)
  frz : ∀ a o u, H a = some (.frz o u) → H' a = some (.frz o u)
  more : ∀ a, H' a = none → H a = none
theorem Keeps.refl (B : Addr → Prop) (H : Hp) : Keeps B H H := ⟨fun _ _ e _ => e, fun _ _ e => e, fun _ _ _ e => e, fun _ e => e⟩
theorem Keeps.trans {B B' : Addr → Prop} {H H1 H2 : Hp} (k : Keeps B H H1) (k' : Keeps B' H1 H2) (sub : ∀ a, B' a → B a ∨ H a = none) : Keeps B H H2 where
  keep := fun a o e nb => k'.keep a o (k.keep a o e nb) fun b => by
    rcases sub a b with z | z
    · exact nb z
    · rw [e] at z; cases z
  tup := fun a xs e => k'.tup a xs (k.tup a xs e)
  frz := fun a o u e => k'.frz a o u (k.frz a o u e)
  more := fun a e => k.more a (k'.more a e)
theorem Keeps.new {B : Addr → Prop} {H : Hp} {p : Addr} {o : HO} (h : H p = none) : Keeps B H (upd H p o) where
  keep := fun a u e _ => by rw [upd_ne (ne_of_none e h)]; exact e
  tup := fun a u e => by rw [upd_ne (ne_of_none e h)]; exact e
  frz := fun a u w e => by rw [upd_ne (ne_of_none e h)]; exact e
  more := fun a e => by
    by_cases z : a = p
    · rw [z]; exact h
    · rw [upd_ne z] at e; exact e
/-- a thing is written at p -/
theorem Keeps.write {B : Addr → Prop} {H : Hp} {p : Addr} {o u : HO} (h : H p = some u) (hb : B p) (hm : isMut u = true) : Keeps B H (upd H p o) where
  keep := fun a u' e nb => by rw [upd_ne (fun z => nb (by rw [z]; exact hb))]; exact e
  tup := fun a xs e => by
    rw [upd_ne (fun z => ?_)]
    · exact e
    · rw [z, h] at e; cases e; cases hm
  frz := fun a o' u' e => by
    rw [upd_ne (fun z => ?_)]
    · exact e
    · rw [z, h] at e; cases e; cases hm
  more := fun a e => by
    by_cases z : a = p
    · rw [z, upd_same] at e; cases e
    · rw [upd_ne z] at e; exact e
theorem Keeps.wider {B B' : Addr → Prop} {H H' : Hp} (k : Keeps B H H') (s : ∀ a, B a → B' a) : Keeps B' H H' := ⟨fun a o e nb => k.keep a o e fun b => nb (s a b), k.tup, k.frz, k.more⟩

section
variable {K : PySem.W.Frag} {β β' : List Addr} {H H' : Hp} {B : Addr → Prop}
mutual
/-- each node is a tracked list or dict -/
theorem Rds.node : ∀ (t : T) {v : V} {n : List Addr}, Rds K β H t v n → ∀ a ∈ n, ∃ o, H a = some o ∧ isMut o = true
  | .non, v, n, h => by obtain ⟨_, rfl⟩ := h; intro a ha; cases ha
  | .bl _, v, n, h => by obtain ⟨_, rfl⟩ := h; intro a ha; cases ha
  | .int _, v, n, h => by obtain ⟨_, rfl⟩ := h; intro a ha; cases ha
  | .str _, v, n, h => by obtain ⟨_, rfl⟩ := h; intro a ha; cases ha
  | .lst xs, v, n, h => by
    obtain ⟨a, vs, m, _, e, r, rfl⟩ := h
    intro b hb
    rcases List.mem_cons.mp hb with rfl | hb
    · exact ⟨_, e, rfl⟩
    · exact RdsL.node xs r b hb
  | .tup xs, v, n, h => by
    obtain ⟨a, vs, _, e, r⟩ := h
    exact RdsL.node xs r
  | .dk ks xs, v, n, h => by
    obtain ⟨a, vs, m, _, e, _, r, rfl⟩ := h
    intro b hb
    rcases List.mem_cons.mp hb with rfl | hb
    · exact ⟨_, e, rfl⟩
    · exact RdsL.node xs r b hb
  | .dt ks xs, v, n, h => by
    obtain ⟨a, vs, m, _, e, _, r, rfl⟩ := h
    intro b hb
    rcases List.mem_cons.mp hb with rfl | hb
    · exact ⟨_, e, rfl⟩
    · exact RdsL.node xs r b hb
  | .scr _, v, n, h => by obtain ⟨_, _, rfl, _⟩ := h; intro a ha; cases ha
  | .box _, v, n, h => by obtain ⟨_, _, _, rfl⟩ := h; intro a ha; cases ha
theorem RdsL.node : ∀ (ts : List T) {vs : List V} {n : List Addr}, RdsL K β H ts vs n → ∀ a ∈ n, ∃ o, H a = some o ∧ isMut o = true
  | [], vs, n, h => by obtain ⟨_, rfl⟩ := h; intro a ha; cases ha
  | x :: xs, vs, n, h => by
    obtain ⟨v, ws, m, k, _, r1, r2, rfl⟩ := h
    intro a ha
    rcases List.mem_append.mp ha with ha | ha
    · exact Rds.node x r1 a ha
    · exact RdsL.node xs r2 a ha
end
mutual
/-- a tree stays where its nodes do -/
theorem Rds.keep (k : Keeps B H H') (hβ : ∀ (i : Nat) (a : Addr), β[i]? = some a → β'[i]? = some a) : ∀ (t : T) {v : V} {n : List Addr}, Rds K β H t v n → (∀ a ∈ n, ¬ B a) → Rds K β' H' t v n
  | .non, v, n, h, _ => h
  | .bl _, v, n, h, _ => h
  | .int _, v, n, h, _ => h
  | .str _, v, n, h, _ => h
  | .lst xs, v, n, h, hn => by
    obtain ⟨a, vs, m, e1, e, r, rfl⟩ := h
    exact ⟨a, vs, m, e1, k.keep a _ e (hn a List.mem_cons_self), RdsL.keep k hβ xs r (fun b hb => hn b (List.mem_cons_of_mem _ hb)), rfl⟩
  | .tup xs, v, n, h, hn => by
    obtain ⟨a, vs, e1, e, r⟩ := h
    exact ⟨a, vs, e1, k.tup a _ e, RdsL.keep k hβ xs r hn⟩
  | .dk ks xs, v, n, h, hn => by
    obtain ⟨a, vs, m, e1, e, l, r, rfl⟩ := h
    exact ⟨a, vs, m, e1, k.keep a _ e (hn a List.mem_cons_self), l, RdsL.keep k hβ xs r (fun b hb => hn b (List.mem_cons_of_mem _ hb)), rfl⟩
  | .dt ks xs, v, n, h, hn => by
    obtain ⟨a, vs, m, e1, e, l, r, rfl⟩ := h
    exact ⟨a, vs, m, e1, k.keep a _ e (hn a List.mem_cons_self), l, RdsL.keep k hβ xs r (fun b hb => hn b (List.mem_cons_of_mem _ hb)), rfl⟩
  | .scr ns, v, n, h, _ => by
    obtain ⟨a, e1, e2, h⟩ := h
    refine ⟨a, e1, e2, ?_⟩
    rcases h with ⟨o, h⟩ | h
    · exact .inl ⟨o, k.frz a o _ h⟩
    · exact .inr h
  | .box i, v, n, h, _ => by
    obtain ⟨a, e1, e2, e3⟩ := h
    exact ⟨a, e1, hβ _ _ e2, e3⟩
theorem RdsL.keep (k : Keeps B H H') (hβ : ∀ (i : Nat) (a : Addr), β[i]? = some a → β'[i]? = some a) : ∀ (ts : List T) {vs : List V} {n : List Addr}, RdsL K β H ts vs n → (∀ a ∈ n, ¬ B a) → RdsL K β' H' ts vs n
  | [], vs, n, h, _ => h
  | x :: xs, vs, n, h, hn => by
    obtain ⟨v, ws, m, j, e, r1, r2, rfl⟩ := h
    exact ⟨v, ws, m, j, e, Rds.keep k hβ x r1 (fun a ha => hn a (List.mem_append_left _ ha)), RdsL.keep k hβ xs r2 (fun a ha => hn a (List.mem_append_right _ ha)), rfl⟩
end
mutual
/-- without a list or a dict there is no node -/
theorem Rds.nil : ∀ (t : T) {v : V} {n : List Addr}, Rds K β H t v n → nodeless t = true → n = []
  | .non, v, n, h, _ => h.2
  | .bl _, v, n, h, _ => h.2
  | .int _, v, n, h, _ => h.2
  | .str _, v, n, h, _ => h.2
  | .lst _, v, n, h, e => by simp [nodeless] at e
  | .tup xs, v, n, h, e => by
    obtain ⟨a, vs, _, _, r⟩ := h
    exact RdsL.nil xs r (by simpa [nodeless] using e)
  | .dk _ _, v, n, h, e => by simp [nodeless] at e
  | .dt _ _, v, n, h, e => by simp [nodeless] at e
  | .scr _, v, n, h, _ => by obtain ⟨_, _, e, _⟩ := h; exact e
  | .box _, v, n, h, _ => by obtain ⟨_, _, _, e⟩ := h; exact e
theorem RdsL.nil : ∀ (ts : List T) {vs : List V} {n : List Addr}, RdsL K β H ts vs n → nodelessL ts = true → n = []
  | [], vs, n, h, _ => h.2
  | x :: xs, vs, n, h, e => by
    obtain ⟨v, ws, m, j, _, r1, r2, rfl⟩ := h
    have e' : nodeless x = true ∧ nodelessL xs = true := by simpa [nodelessL] using e
    rw [Rds.nil x r1 e'.1, RdsL.nil xs r2 e'.2]
    rfl
end
mutual
/-- one value, one tree: the nodes are told by the tree and the value -/
theorem Rds.uniq : ∀ (t : T) {v : V} {n m : List Addr}, Rds K β H t v n → Rds K β H t v m → n = m
  | .non, v, n, m, h, h' => by rw [h.2, h'.2]
  | .bl _, v, n, m, h, h' => by rw [h.2, h'.2]
  | .int _, v, n, m, h, h' => by rw [h.2, h'.2]
  | .str _, v, n, m, h, h' => by rw [h.2, h'.2]
  | .lst xs, v, n, m, h, h' => by
    obtain ⟨a, vs, k, rfl, e, r, rfl⟩ := h
    obtain ⟨a', vs', k', e1, e', r', rfl⟩ := h'
    cases e1
    rw [e] at e'; cases e'
    rw [RdsL.uniq xs r r']
  | .tup xs, v, n, m, h, h' => by
    obtain ⟨a, vs, rfl, e, r⟩ := h
    obtain ⟨a', vs', e1, e', r'⟩ := h'
    cases e1
    rw [e] at e'; cases e'
    exact RdsL.uniq xs r r'
  | .dk ks xs, v, n, m, h, h' => by
    obtain ⟨a, vs, k, rfl, e, l, r, rfl⟩ := h
    obtain ⟨a', vs', k', e1, e', l', r', rfl⟩ := h'
    cases e1
    rw [e] at e'
    have e2 := congrArg (fun z => match z with | some (HO.dK q) => q.map Prod.snd | _ => []) e'
    simp only [List.map_snd_zip (Nat.le_of_eq l.1.symm), List.map_snd_zip (Nat.le_of_eq l'.1.symm)] at e2
    subst e2
    rw [RdsL.uniq xs r r']
  | .dt ks xs, v, n, m, h, h' => by
    obtain ⟨a, vs, k, rfl, e, l, r, rfl⟩ := h
    obtain ⟨a', vs', k', e1, e', l', r', rfl⟩ := h'
    cases e1
    rw [e] at e'
    have e2 := congrArg (fun z => match z with | some (HO.dT q) => q.map Prod.snd | _ => []) e'
    simp only [List.map_snd_zip (Nat.le_of_eq l.1.symm), List.map_snd_zip (Nat.le_of_eq l'.1.symm)] at e2
    subst e2
    rw [RdsL.uniq xs r r']
  | .scr _, v, n, m, h, h' => by
    obtain ⟨_, _, e, _⟩ := h
    obtain ⟨_, _, e', _⟩ := h'
    rw [e, e']
  | .box _, v, n, m, h, h' => by
    obtain ⟨_, _, _, e⟩ := h
    obtain ⟨_, _, _, e'⟩ := h'
    rw [e, e']
theorem RdsL.uniq : ∀ (ts : List T) {vs : List V} {n m : List Addr}, RdsL K β H ts vs n → RdsL K β H ts vs m → n = m
  | [], vs, n, m, h, h' => by rw [h.2, h'.2]
  | x :: xs, vs, n, m, h, h' => by
    obtain ⟨v, ws, k, j, rfl, r1, r2, rfl⟩ := h
    obtain ⟨v', ws', k', j', e, r1', r2', rfl⟩ := h'
    cases e
    rw [Rds.uniq x r1 r1', RdsL.uniq xs r2 r2']
end
/-! ### lists of trees -/
theorem RdsL.length : ∀ {ts : List T} {vs : List V} {n : List Addr}, RdsL K β H ts vs n → vs.length = ts.length
  | [], vs, n, h => by rw [h.1] <;> rfl
  | x :: xs, vs, n, h => by
    obtain ⟨v, ws, m, k, rfl, _, r2, _⟩ := h
    simp [RdsL.length r2]
theorem RdsL.append : ∀ {ts ss : List T} {vs ws : List V} {n m : List Addr}, RdsL K β H ts vs n → RdsL K β H ss ws m → RdsL K β H (ts ++ ss) (vs ++ ws) (n ++ m)
  | [], ss, vs, ws, n, m, h, h' => by rw [h.1, h.2]; exact h'
  | x :: xs, ss, vs, ws, n, m, h, h' => by
    obtain ⟨v, us, k, j, rfl, r1, r2, rfl⟩ := h
    exact ⟨v, us ++ ws, k, j ++ m, rfl, r1, RdsL.append r2 h', by rw [List.append_assoc]⟩
/-- the nodes of each, one behind another -/
theorem RdsL.split : ∀ {ts ss : List T} {vs : List V} {n : List Addr}, RdsL K β H (ts ++ ss) vs n → ∃ v1 v2 n1 n2, vs = v1 ++ v2 ∧ n = n1 ++ n2 ∧ RdsL K β H ts v1 n1 ∧ RdsL K β H ss v2 n2
  | [], ss, vs, n, h => ⟨[], vs, [], n, rfl, rfl, ⟨rfl, rfl⟩, h⟩
  | x :: xs, ss, vs, n, h => by
    obtain ⟨v, ws, m, k, rfl, r1, r2, rfl⟩ := h
    obtain ⟨v1, v2, n1, n2, rfl, rfl, h1, h2⟩ := RdsL.split (ts := xs) r2
    exact ⟨v :: v1, v2, m ++ n1, n2, rfl, by rw [List.append_assoc], ⟨v, v1, m, n1, rfl, r1, h1, rfl⟩, h2⟩
theorem RdsL.one {t : T} {vs : List V} {n : List Addr} : RdsL K β H [t] vs n ↔ ∃ v, vs = [v] ∧ Rds K β H t v n := by
  constructor
  · rintro ⟨v, ws, m, k, rfl, r, ⟨rfl, rfl⟩, rfl⟩
    exact ⟨v, rfl, by rw [List.append_nil]; exact r⟩
  · rintro ⟨v, rfl, r⟩
    exact ⟨v, [], n, [], rfl, r, ⟨rfl, rfl⟩, by rw [List.append_nil]⟩
/-- the i-th -/
theorem RdsL.at {ts : List T} {vs : List V} {n : List Addr} (h : RdsL K β H ts vs n) {i : Nat} {t : T} (e : ts[i]? = some t) :
    ∃ v n1 m n2, vs[i]? = some v ∧ n = n1 ++ (m ++ n2) ∧ Rds K β H t v m ∧ RdsL K β H (ts.take i) (vs.take i) n1 ∧ RdsL K β H (ts.drop (i + 1)) (vs.drop (i + 1)) n2 := by
  induction i generalizing ts vs n with
  | zero =>
    cases ts with
    | nil => simp at e
    | cons x xs =>
      simp at e; subst e
      obtain ⟨v, ws, m, k, rfl, r1, r2, rfl⟩ := h
      exact ⟨v, [], m, k, by simp, by simp, r1, ⟨by simp, rfl⟩, by simpa using r2⟩
  | succ i ih =>
    cases ts with
    | nil => simp at e
    | cons x xs =>
      obtain ⟨v, ws, m, k, rfl, r1, r2, rfl⟩ := h
      obtain ⟨v', n1, m', n2, e1, rfl, r, h1, h2⟩ := ih r2 (by simpa using e)
      exact ⟨v', m ++ n1, m', n2, by simpa using e1, by simp, r, ⟨v, ws.take i, m, n1, by simp, r1, h1, rfl⟩, by simpa using h2⟩
theorem RdsL.get {ts : List T} {vs : List V} {n : List Addr} (h : RdsL K β H ts vs n) {i : Nat} {v : V} (e : vs[i]? = some v) : ∃ t, ts[i]? = some t := by
  have l := h.length
  have hi : i < vs.length := (List.getElem?_eq_some_iff.mp e).1
  exact ⟨ts[i]'(by omega), List.getElem?_eq_getElem _⟩
/-- a part: its nodes are a part -/
theorem RdsL.takeN {ts : List T} {vs : List V} {n : List Addr} (h : RdsL K β H ts vs n) (i : Nat) : ∃ n1 n2, n = n1 ++ n2 ∧ RdsL K β H (ts.take i) (vs.take i) n1 ∧ RdsL K β H (ts.drop i) (vs.drop i) n2 := by
  have l := h.length
  rw [← List.take_append_drop i ts] at h
  obtain ⟨v1, v2, n1, n2, e1, e2, h1, h2⟩ := h.split
  have l1 := h1.length
  have l2 : v1.length = min i ts.length := by rw [l1, List.length_take]
  have t1 : vs.take i = v1 := by
    rw [e1]
    by_cases hi : i ≤ ts.length
    · rw [List.take_append_of_le_length (by omega), List.take_of_length_le (by omega)]
    · have : v2 = [] := by
        have := h2.length
        have z : (ts.drop i).length = 0 := by rw [List.length_drop]; omega
        rw [z] at this
        exact List.length_eq_zero_iff.mp this
      rw [this, List.append_nil, List.take_of_length_le (by omega)]
  have t2 : vs.drop i = v2 := by
    rw [e1]
    by_cases hi : i ≤ ts.length
    · rw [List.drop_append_of_le_length (by omega), List.drop_eq_nil_of_le (by omega), List.nil_append]
    · have : v2 = [] := by
        have := h2.length
        have z : (ts.drop i).length = 0 := by rw [List.length_drop]; omega
        rw [z] at this
        exact List.length_eq_zero_iff.mp this
      rw [this, List.append_nil, List.drop_eq_nil_of_le (by omega)]
  exact ⟨n1, n2, e2, by rw [t1]; exact h1, by rw [t2]; exact h2⟩
end
end MP

/-! C2: boxes, the state of an expression, what a value leans on. -/
namespace MP
open PySem L2

/-! ### what a value leans on, read off the text -/
/-- dp: slots whose things may be in it; dc: lists whose children may be in it; lin: nothing stands twice in it; top: the thing itself is new -/
structure Inf where
  dp : List Nat
  dc : List Nat
  lin : Bool
  top : Bool
  self : Option Nat := none
def Inf.nil : Inf := ⟨[], [], true, true, none⟩
def Inf.non (i : Inf) : Bool := i.dp.isEmpty && i.dc.isEmpty
/-- the kinds of the slots, of the defs' results -/
structure Sg where
  ka : List SK
  rk : List RK
def Sg.k (g : Sg) (i : Nat) : SK := (g.ka[i]?).getD .S
def disj (a b : List Nat) : Bool := a.all fun i => !b.contains i
def Inf.join (g : Sg) (x r : Inf) : Inf := ⟨x.dp ++ r.dp, x.dc ++ r.dc, x.lin && r.lin && x.dc.isEmpty && r.dc.isEmpty && disj x.dp r.dp && x.dp.all (fun i => g.k i == .D) && r.dp.all (fun i => g.k i == .D), true, none⟩
/-- .. where nothing is told of the whole -/
def Inf.mix (x r : Inf) : Inf := ⟨x.dp ++ r.dp, x.dc ++ r.dc, false, false, none⟩
/-- of the children of the value -/
def kidI (g : Sg) (i : Inf) : Inf := match i.self with
  | some j => ⟨[], [j], false, false, none⟩
  | none => ⟨i.dp, i.dc, i.lin, false, none⟩
def Inf.newTop (i : Inf) : Inf := ⟨i.dp, i.dc, i.lin, true, none⟩
def Inf.noTop (i : Inf) : Inf := ⟨i.dp, i.dc, i.lin, false, none⟩
def rkInf (rk : RK) (i : Inf) : Inf := match rk with
  | .I => .nil
  | .D => .nil
  | .P => ⟨i.dp, i.dc, false, true, none⟩
  | .S => ⟨i.dp, i.dc, false, false, none⟩
/-- a comprehension's: its own names stand for the items -/
def lcInf (own : List Nat) (el it : Inf) : Inf :=
  let dp := el.dp.filter fun i => !own.contains i
  let dc := el.dc.filter fun i => !own.contains i
  let u := el.dp.any (fun i => own.contains i) || el.dc.any (fun i => own.contains i)
  ⟨if u then dp ++ it.dp else dp, if u then dc ++ it.dc else dc, el.lin && dp.isEmpty && dc.isEmpty && !u, true, none⟩
mutual
def info (g : Sg) : IE → Inf
  | .var i => ⟨[i], [], g.k i == .D, false, if g.k i = .P then some i else none⟩
  | .bin op a b => (match op with
    | .add => (kidI g (info g a)).join g (kidI g (info g b))
    | .mul => ((kidI g (info g a)).mix (kidI g (info g b))).newTop
    | _ => .nil)
  | .bop _ as => (infoLast g as).noTop
  | .ite _ a b => ⟨(info g a).dp ++ (info g b).dp, (info g a).dc ++ (info g b).dc, (info g a).lin && (info g b).lin, (info g a).top && (info g b).top, none⟩
  | .lst as => infoS g as
  | .tup as => infoL g as
  | .sub a _ => (kidI g (info g a)).noTop
  | .slc a _ _ => (kidI g (info g a)).newTop
  | .rev a => (kidI g (info g a)).newTop
  | .call f as kw => rkInf ((g.rk[f]?).getD .S) ((infoL g as).mix (infoK g kw))
  | .bi b as => (match b, as with
    | .list, [a] => (kidI g (info g a)).newTop
    | .tuple, [a] => (kidI g (info g a)).newTop
    | .sorted, [a] => (kidI g (info g a)).newTop
    | .dict, [a] => (kidI g (info g a)).newTop
    | _, _ => .nil)
  | .meth m a as => (match m with
    | .get1 => ((kidI g (info g a)).mix (infoL g as))
    | .get2 => ((kidI g (info g a)).mix (infoL g as))
    | .items => ((kidI g (info g a)).mix (infoL g as))
    | .values => ((kidI g (info g a)).mix (infoL g as))
    | _ => .nil)
  | .lc elt tg it _ => lcInf tg.slots (info g elt) (infoI g it)
  | .lof _ it => (infoI g it).newTop
  | .flat a => if (info g a).top then .nil else ⟨(info g a).dp, (info g a).dc, (info g a).dp.all (fun i => g.k i == .D), false, none⟩
  | _ => .nil
def infoLast (g : Sg) : List IE → Inf
  | [] => .nil
  | [a] => info g a
  | _ :: as => infoLast g as
def infoS (g : Sg) : List (Bool × IE) → Inf
  | [] => .nil
  | (st, a) :: as => (if st then kidI g (info g a) else info g a).join g (infoS g as)
def infoL (g : Sg) : List IE → Inf
  | [] => .nil
  | a :: as => (info g a).join g (infoL g as)
def infoK (g : Sg) : List (Nat × IE) → Inf
  | [] => .nil
  | (_, a) :: as => (info g a).join g (infoK g as)
/-- of the items that are walked -/
def infoI (g : Sg) : II → Inf
  | .seq a => kidI g (info g a)
  | .enum a => kidI g (info g a)
  | .zip a b => (kidI g (info g a)).mix (kidI g (info g b))
  | .items a => kidI g (info g a)
  | _ => .nil
end

/-- of the walked thing as a whole -/
def infoW (g : Sg) : II → Inf
  | .seq a => info g a
  | .enum a => info g a
  | .zip a b => (info g a).mix (info g b)
  | .keys a => info g a
  | .items a => info g a
  | _ => .nil
/-! ### boxes -/
/-- the boxes' nodes -/
def Bx (β : List Addr) (bn : Nat → List Addr) : Addr → Prop := fun a => ∃ k, k < β.length ∧ a ∈ bn k
structure BoxOk (K : PySem.W.Frag) (β : List Addr) (H : Hp) (μ : Mem) (bn : Nat → List Addr) : Prop where
  len : β.length = μ.length
  rd : ∀ (k : Nat) (t : T), μ[k]? = some t → ∃ a, β[k]? = some a ∧ Rds K β H t (.ref a) (bn k) ∧ boxless t = true ∧ (bn k).Nodup
  dj : ∀ k l, k ≠ l → k < β.length → l < β.length → ∀ a ∈ bn k, a ∉ bn l
/-- a step of the heap: all but the boxes stays; the boxes are boxes still -/
structure Step (K : PySem.W.Frag) (β : List Addr) (bn : Nat → List Addr) (H H' : Hp) (μ' : Mem) (bn' : Nat → List Addr) : Prop where
  keep : Keeps (Bx β bn) H H'
  box : BoxOk K β H' μ' bn'
  sub : ∀ a, Bx β bn' a → Bx β bn a ∨ H a = none
theorem Step.refl {K : PySem.W.Frag} {β : List Addr} {bn : Nat → List Addr} {H : Hp} {μ : Mem} (b : BoxOk K β H μ bn) : Step K β bn H H μ bn := ⟨Keeps.refl _ _, b, fun _ z => .inl z⟩
theorem Step.trans {K : PySem.W.Frag} {β : List Addr} {bn bn1 bn2 : Nat → List Addr} {H H1 H2 : Hp} {μ1 μ2 : Mem} (s : Step K β bn H H1 μ1 bn1) (t : Step K β bn1 H1 H2 μ2 bn2) : Step K β bn H H2 μ2 bn2 where
  keep := s.keep.trans t.keep s.sub
  box := t.box
  sub := fun a z => by
    rcases t.sub a z with z | z
    · exact s.sub a z
    · exact .inr (s.keep.more a z)
/-- a box's nodes are tracked -/
theorem BoxOk.node {K : PySem.W.Frag} {β : List Addr} {H : Hp} {μ : Mem} {bn : Nat → List Addr} (b : BoxOk K β H μ bn) {a : Addr} (h : Bx β bn a) : ∃ o, H a = some o ∧ isMut o = true := by
  obtain ⟨k, hk, ha⟩ := h
  have hk' : k < μ.length := by rw [← b.len]; exact hk
  obtain ⟨c, _, r, _⟩ := b.rd k μ[k] (List.getElem?_eq_getElem hk')
  exact r.node _ a ha
/-- a new thing -/
theorem Step.new {K : PySem.W.Frag} {β : List Addr} {bn : Nat → List Addr} {H : Hp} {μ : Mem} {p : Addr} {o : HO} (b : BoxOk K β H μ bn) (h : H p = none) : Step K β bn H (upd H p o) μ bn where
  keep := Keeps.new h
  box := ⟨b.len, fun k t e => by
    obtain ⟨a, e1, r, bl, nd⟩ := b.rd k t e
    exact ⟨a, e1, r.keep (B := fun _ => False) (Keeps.new h) (fun _ _ e => e) t (fun _ _ z => z), bl, nd⟩, b.dj⟩
  sub := fun a z => .inl z

/-! ### the state of an expression -/
/-- a list, a dict -/
def isNode : T → Bool
  | .lst _ => true
  | .dk _ _ => true
  | .dt _ _ => true
  | _ => false
structure ESt (K : PySem.W.Frag) (g : Sg) (β : List Addr) (H : Hp) (ρ : Env) (σ : St) (μ : Mem) (ns : Nat → List Addr) (bn : Nat → List Addr) : Prop where
  box : BoxOk K β H μ bn
  len : ρ.length = σ.length
  sl : ∀ i t, getV ρ i = some t → ∃ v, σ[i]? = some (some v) ∧ Rds K β H t v (ns i)
  no : ∀ i, getV ρ i = none → ns i = []
  sb : ∀ i a, a ∈ ns i → ¬ Bx β bn a
  dn : ∀ i, g.k i = .D → (ns i).Nodup
  dd : ∀ i j, i ≠ j → g.k i = .D → g.k j = .D → ∀ a ∈ ns i, a ∉ ns j
  pk : ∀ i t, g.k i = .P → getV ρ i = some t → isNode t = true ∨ ns i = []
theorem ESt.node {K : PySem.W.Frag} {g : Sg} {β : List Addr} {H : Hp} {ρ : Env} {σ : St} {μ : Mem} {ns bn : Nat → List Addr} (S : ESt K g β H ρ σ μ ns bn) {i : Nat} {a : Addr} (h : a ∈ ns i) : ∃ o, H a = some o ∧ isMut o = true := by
  cases e : getV ρ i with
  | none => rw [S.no i e] at h; cases h
  | some t =>
    obtain ⟨v, _, r⟩ := S.sl i t e
    exact r.node t a h
theorem ESt.step {K : PySem.W.Frag} {g : Sg} {β : List Addr} {H H' : Hp} {ρ : Env} {σ : St} {μ μ' : Mem} {ns bn bn' : Nat → List Addr} (S : ESt K g β H ρ σ μ ns bn) (s : Step K β bn H H' μ' bn') : ESt K g β H' ρ σ μ' ns bn' where
  box := s.box
  len := S.len
  sl := fun i t e => by
    obtain ⟨v, e1, r⟩ := S.sl i t e
    exact ⟨v, e1, r.keep s.keep (fun _ _ z => z) t (S.sb i)⟩
  no := S.no
  sb := fun i a h z => by
    rcases s.sub a z with z | z
    · exact S.sb i a h z
    · obtain ⟨o, e, _⟩ := S.node h
      rw [e] at z; cases z
  dn := S.dn
  dd := S.dd
  pk := S.pk

/-- what a value's nodes are, seen from the heap H ahead of it -/
structure Good (ns : Nat → List Addr) (H : Hp) (i : Inf) (t : T) (n : List Addr) : Prop where
  src : ∀ a ∈ n, H a = none ∨ (∃ j ∈ i.dp, a ∈ ns j) ∨ (∃ j ∈ i.dc, a ∈ (ns j).drop 1)
  lin : i.lin = true → n.Nodup
  top : i.top = true → isNode t = true → ∃ p m, n = p :: m ∧ H p = none ∧ p ∉ m
  self : ∀ j, i.self = some j → n = ns j ∧ (isNode t = true ∨ n = [])
theorem Good.nil {ns : Nat → List Addr} {H : Hp} {i : Inf} {t : T} (h : isNode t = false) (hs : i.self = none) : Good ns H i t [] where
  src := fun _ z => by cases z
  lin := fun _ => List.nodup_nil
  top := fun _ z => by rw [h] at z; cases z
  self := fun j z => by rw [hs] at z; cases z
/-- seen from further back -/
theorem Good.back {ns : Nat → List Addr} {B : Addr → Prop} {H H1 : Hp} {i : Inf} {t : T} {n : List Addr} (h : Good ns H1 i t n) (k : Keeps B H H1) : Good ns H i t n where
  src := fun a ha => (h.src a ha).imp_left (k.more a)
  lin := h.lin
  top := fun e1 e2 => by
    obtain ⟨p, m, e, q, nm⟩ := h.top e1 e2
    exact ⟨p, m, e, k.more p q, nm⟩
  self := h.self
/-- a value that came -/
structure Val (K : PySem.W.Frag) (β : List Addr) (bn' ns : Nat → List Addr) (H H' : Hp) (i : Inf) (t : T) (v : V) (n : List Addr) : Prop where
  rd : Rds K β H' t v n
  nb : ∀ a ∈ n, ¬ Bx β bn' a
  ok : Good ns H i t n
theorem Val.node {K : PySem.W.Frag} {β : List Addr} {bn' ns : Nat → List Addr} {H H' : Hp} {i : Inf} {t : T} {v : V} {n : List Addr} (x : Val K β bn' ns H H' i t v n) {a : Addr} (h : a ∈ n) : ∃ o, H' a = some o ∧ isMut o = true := x.rd.node t a h
/-- a value stays while the next ones come -/
theorem Val.step {K : PySem.W.Frag} {β : List Addr} {bn1 bn2 ns : Nat → List Addr} {H H1 H2 : Hp} {μ2 : Mem} {i : Inf} {t : T} {v : V} {n : List Addr} (x : Val K β bn1 ns H H1 i t v n) (s : Step K β bn1 H1 H2 μ2 bn2) : Val K β bn2 ns H H2 i t v n where
  rd := x.rd.keep s.keep (fun _ _ z => z) t x.nb
  nb := fun a h z => by
    rcases s.sub a z with z | z
    · exact x.nb a h z
    · obtain ⟨o, e, _⟩ := x.node h
      rw [e] at z; cases z
  ok := x.ok
/-- .. seen from further back -/
theorem Val.back {K : PySem.W.Frag} {β : List Addr} {bn' ns : Nat → List Addr} {B : Addr → Prop} {H H1 H' : Hp} {i : Inf} {t : T} {v : V} {n : List Addr} (x : Val K β bn' ns H1 H' i t v n) (k : Keeps B H H1) : Val K β bn' ns H H' i t v n := ⟨x.rd, x.nb, x.ok.back k⟩
/-- several values that came -/
structure Vls (K : PySem.W.Frag) (β : List Addr) (bn' ns : Nat → List Addr) (H H' : Hp) (i : Inf) (ts : List T) (vs : List V) (n : List Addr) : Prop where
  rd : RdsL K β H' ts vs n
  nb : ∀ a ∈ n, ¬ Bx β bn' a
  src : ∀ a ∈ n, H a = none ∨ (∃ j ∈ i.dp, a ∈ ns j) ∨ (∃ j ∈ i.dc, a ∈ (ns j).drop 1)
  lin : i.lin = true → n.Nodup
theorem Vls.node {K : PySem.W.Frag} {β : List Addr} {bn' ns : Nat → List Addr} {H H' : Hp} {i : Inf} {ts : List T} {vs : List V} {n : List Addr} (x : Vls K β bn' ns H H' i ts vs n) {a : Addr} (h : a ∈ n) : ∃ o, H' a = some o ∧ isMut o = true := x.rd.node ts a h
theorem Vls.step {K : PySem.W.Frag} {β : List Addr} {bn1 bn2 ns : Nat → List Addr} {H H1 H2 : Hp} {μ2 : Mem} {i : Inf} {ts : List T} {vs : List V} {n : List Addr} (x : Vls K β bn1 ns H H1 i ts vs n) (s : Step K β bn1 H1 H2 μ2 bn2) : Vls K β bn2 ns H H2 i ts vs n where
  rd := x.rd.keep s.keep (fun _ _ z => z) ts x.nb
  nb := fun a h z => by
    rcases s.sub a z with z | z
    · exact x.nb a h z
    · obtain ⟨o, e, _⟩ := x.node h
      rw [e] at z; cases z
  src := x.src
  lin := x.lin
theorem Vls.back {K : PySem.W.Frag} {β : List Addr} {bn' ns : Nat → List Addr} {B : Addr → Prop} {H H1 H' : Hp} {i : Inf} {ts : List T} {vs : List V} {n : List Addr} (x : Vls K β bn' ns H1 H' i ts vs n) (k : Keeps B H H1) : Vls K β bn' ns H H' i ts vs n :=
  ⟨x.rd, x.nb, fun a ha => (x.src a ha).imp_left (k.more a), x.lin⟩
theorem Vls.nil {K : PySem.W.Frag} {β : List Addr} {bn' ns : Nat → List Addr} {H H' : Hp} {i : Inf} : Vls K β bn' ns H H' i [] [] [] where
  rd := ⟨rfl, rfl⟩
  nb := fun _ z => by cases z
  src := fun _ z => by cases z
  lin := fun _ => List.nodup_nil

theorem mem_disj {a b : List Nat} (h : disj a b = true) {i : Nat} (x : i ∈ a) (y : i ∈ b) : False := by
  have := List.all_eq_true.mp h i x
  simp at this
  exact this y
/-- the first values, then the further ones: those lean on H, these on H1 -/
theorem Vls.append {K : PySem.W.Frag} {g : Sg} {β : List Addr} {bn bn1 bn2 ns : Nat → List Addr} {H H1 H2 : Hp} {ρ : Env} {σ : St} {μ μ1 μ2 : Mem} {i j : Inf} {ts ss : List T} {vs ws : List V} {n m : List Addr} (S : ESt K g β H ρ σ μ ns bn)
    (x : Vls K β bn1 ns H H1 i ts vs n) (s1 : Step K β bn H H1 μ1 bn1) (y : Vls K β bn2 ns H1 H2 j ss ws m) (s : Step K β bn1 H1 H2 μ2 bn2) : Vls K β bn2 ns H H2 (i.join g j) (ts ++ ss) (vs ++ ws) (n ++ m) where
  rd := (x.step s).rd.append y.rd
  nb := fun a ha => by
    rcases List.mem_append.mp ha with ha | ha
    · exact (x.step s).nb a ha
    · exact y.nb a ha
  src := fun a ha => by
    rcases List.mem_append.mp ha with ha | ha
    · rcases x.src a ha with h | ⟨k, h1, h2⟩ | ⟨k, h1, h2⟩
      · exact .inl h
      · exact .inr (.inl ⟨k, List.mem_append_left _ h1, h2⟩)
      · exact .inr (.inr ⟨k, List.mem_append_left _ h1, h2⟩)
    · rcases y.src a ha with h | ⟨k, h1, h2⟩ | ⟨k, h1, h2⟩
      · exact .inl (s1.keep.more a h)
      · exact .inr (.inl ⟨k, List.mem_append_right _ h1, h2⟩)
      · exact .inr (.inr ⟨k, List.mem_append_right _ h1, h2⟩)
  lin := fun e => by
    have e' : (i.lin && j.lin && i.dc.isEmpty && j.dc.isEmpty && disj i.dp j.dp && i.dp.all (fun k => g.k k == .D) && j.dp.all (fun k => g.k k == .D)) = true := e
    simp only [Bool.and_eq_true] at e'
    obtain ⟨⟨⟨⟨⟨⟨h1, h2⟩, h3⟩, h4⟩, h5⟩, h6⟩, h7⟩ := e'
    have kd : ∀ k ∈ i.dp, g.k k = .D := fun k hk => by simpa using List.all_eq_true.mp h6 k hk
    have kd' : ∀ k ∈ j.dp, g.k k = .D := fun k hk => by simpa using List.all_eq_true.mp h7 k hk
    refine List.nodup_append.mpr ⟨x.lin h1, y.lin h2, fun a ha b hb z => ?_⟩
    subst z
    have q1 : ∃ o, H1 a = some o := let ⟨o, e, _⟩ := x.node ha; ⟨o, e⟩
    have nodc : ∀ {l : List Nat}, l.isEmpty = true → ∀ k, k ∉ l := fun h k hk => by rw [List.isEmpty_iff.mp h] at hk; cases hk
    rcases y.src a hb with z | ⟨k, k1, k2⟩ | ⟨k, k1, _⟩
    · obtain ⟨o, q⟩ := q1; rw [q] at z; cases z
    · rcases x.src a ha with z | ⟨l, l1, l2⟩ | ⟨l, l1, _⟩
      · obtain ⟨o, q, _⟩ := S.node k2
        rw [q] at z; cases z
      · have hne : l ≠ k := fun z => mem_disj h5 l1 (z ▸ k1)
        exact S.dd l k hne (kd l l1) (kd' k k1) a l2 k2
      · exact nodc h3 l l1
    · exact nodc h4 k k1
end MP

/-! C3: the operations by values. -/
namespace MP
open PySem L2

theorem line_eq : line = sizeLine := by rw [PySem.sizeLine_eq] <;> rfl
/-- the nodes of a value's children -/
def kn (t : T) (n : List Addr) : List Addr := if isNode t then n.drop 1 else n
/-- nothing but new things: at most one -/
def New1 (H H' : Hp) : Prop := H' = H ∨ ∃ p o, H p = none ∧ H' = upd H p o
/-- what an operation hands on: a value that reads as r; its nodes come out of ks, a list or dict is new itself (nd: nothing comes twice) -/
def OutN (K : PySem.W.Frag) (β : List Addr) (H : Hp) (nd : Bool) (r : T) (ks : List Addr) (Q : VK) : Prop :=
  ∀ v H' n, New1 H H' → Rds K β H' r v n → (∃ k, (∀ a ∈ k, a ∈ ks) ∧ (nd = true → ks.Nodup → k.Nodup) ∧ ((isNode r = false ∧ n = k) ∨ ∃ p, H p = none ∧ n = p :: k)) → Q v H'
section
variable {K : PySem.W.Frag} {β : List Addr} {H H' : Hp}
theorem keepsN (h : New1 H H') : Keeps (fun _ => False) H H' := by
  rcases h with rfl | ⟨p, o, hp, rfl⟩
  · exact Keeps.refl _ _
  · exact Keeps.new hp
theorem Rds.new {t : T} {v : V} {n : List Addr} (h : Rds K β H t v n) (k : New1 H H') : Rds K β H' t v n := h.keep (B := fun _ => False) (keepsN k) (fun _ _ e => e) t (fun _ _ z => z)
theorem RdsL.new {ts : List T} {vs : List V} {n : List Addr} (h : RdsL K β H ts vs n) (k : New1 H H') : RdsL K β H' ts vs n := h.keep (B := fun _ => False) (keepsN k) (fun _ _ e => e) ts (fun _ _ z => z)
/-- a scalar is handed on -/
theorem OutN.scal {nd : Bool} {r : T} {ks : List Addr} {Q : VK} {v : V} (h : OutN K β H nd r ks Q) (e : Rds K β H r v []) (hn : isNode r = false) : Q v H :=
  h v H [] (.inl rfl) e ⟨[], (fun _ z => by cases z), (fun _ _ => List.nodup_nil), .inl ⟨hn, rfl⟩⟩
/-- a new list -/
theorem OutN.lst {nd : Bool} {ts : List T} {vs : List V} {m ks : List Addr} {Q : VK} (h : OutN K β H nd (.lst ts) ks Q) (r : RdsL K β H ts vs m) (h1 : ∀ a ∈ m, a ∈ ks) (h2 : nd = true → ks.Nodup → m.Nodup) : ∀ p, H p = none → Q (.ref p) (upd H p (.lst vs)) := fun p hp =>
  h _ _ (p :: m) (.inr ⟨p, _, hp, rfl⟩) ⟨p, vs, m, rfl, upd_same, r.new (.inr ⟨p, _, hp, rfl⟩), rfl⟩ ⟨m, h1, h2, .inr ⟨p, hp, rfl⟩⟩
/-- a new tuple -/
theorem OutN.tup {nd : Bool} {ts : List T} {vs : List V} {m ks : List Addr} {Q : VK} (h : OutN K β H nd (.tup ts) ks Q) (r : RdsL K β H ts vs m) (h1 : ∀ a ∈ m, a ∈ ks) (h2 : nd = true → ks.Nodup → m.Nodup) : ∀ p, H p = none → Q (.ref p) (upd H p (.tup vs)) := fun p hp =>
  h _ _ m (.inr ⟨p, _, hp, rfl⟩) ⟨p, vs, rfl, upd_same, r.new (.inr ⟨p, _, hp, rfl⟩)⟩ ⟨m, h1, h2, .inl ⟨rfl, rfl⟩⟩
/-- a tuple that stands -/
theorem OutN.old {nd : Bool} {ts : List T} {v : V} {m ks : List Addr} {Q : VK} (h : OutN K β H nd (.tup ts) ks Q) (r : Rds K β H (.tup ts) v m) (h1 : ∀ a ∈ m, a ∈ ks) (h2 : nd = true → ks.Nodup → m.Nodup) : Q v H :=
  h _ _ m (.inl rfl) r ⟨m, h1, h2, .inl ⟨rfl, rfl⟩⟩
theorem RdsL.ints : ∀ {ts : List T} {is : List Int} {vs : List V} {n : List Addr}, RdsL K β H ts vs n → intsOf ts = some is → vs = is.map V.int ∧ n = []
  | [], is, vs, n, h, e => by simp [intsOf] at e; subst e; exact ⟨h.1, h.2⟩
  | .int i :: r, is, vs, n, h, e => by
    obtain ⟨v, ws, m, k, rfl, r1, r2, rfl⟩ := h
    obtain ⟨rfl, rfl⟩ := r1
    unfold intsOf at e
    cases q : intsOf r with
    | none => rw [q] at e; cases e
    | some js =>
      rw [q] at e
      have e' : i :: js = is := Option.some.inj e
      subst e'
      obtain ⟨h1, h2⟩ := RdsL.ints r2 q
      exact ⟨by rw [h1] <;> rfl, by rw [h2] <;> rfl⟩
  | .non :: r, is, vs, n, h, e => by simp [intsOf] at e
  | .bl _ :: r, is, vs, n, h, e => by simp [intsOf] at e
  | .str _ :: r, is, vs, n, h, e => by simp [intsOf] at e
  | .lst _ :: r, is, vs, n, h, e => by simp [intsOf] at e
  | .tup _ :: r, is, vs, n, h, e => by simp [intsOf] at e
  | .dk _ _ :: r, is, vs, n, h, e => by simp [intsOf] at e
  | .dt _ _ :: r, is, vs, n, h, e => by simp [intsOf] at e
  | .scr _ :: r, is, vs, n, h, e => by simp [intsOf] at e
  | .box _ :: r, is, vs, n, h, e => by simp [intsOf] at e
theorem RdsL.ofInts : ∀ (is : List Int), RdsL K β H (is.map T.int) (is.map V.int) []
  | [] => ⟨rfl, rfl⟩
  | i :: is => ⟨.int i, is.map V.int, [], [], rfl, ⟨rfl, rfl⟩, RdsL.ofInts is, rfl⟩
theorem RdsL.rep {ts : List T} {vs : List V} {n : List Addr} (h : RdsL K β H ts vs n) : ∀ k : Nat, ∃ m, RdsL K β H (List.replicate k ts).flatten (List.replicate k vs).flatten m ∧ ∀ a ∈ m, a ∈ n
  | 0 => ⟨[], ⟨rfl, rfl⟩, (fun _ z => by cases z)⟩
  | k + 1 => by
    obtain ⟨m, r, s⟩ := RdsL.rep h k
    refine ⟨n ++ m, ?_, fun a ha => ?_⟩
    · rw [List.replicate_succ, List.replicate_succ, List.flatten_cons, List.flatten_cons]
      exact h.append r
    · rcases List.mem_append.mp ha with z | z
      · exact z
      · exact s a z
end
def BOp.py : BOp → Operator
  | .add => .Add | .sub => .Sub | .mul => .Mult | .fdiv => .FloorDiv | .mod => .Mod | .pow => .Pow
section
variable {X : Cx}
theorem OpR.weak {f : Value → Value → Sem Value} {r r' : R2} (h : OpR X f r) (w : ∀ x y H Q, r' x y H Q → r x y H Q) : OpR X f r' := fun pins s σ H x y v u Q I rx ry q => h pins s σ H x y v u Q I rx ry (w x y H Q q)
/-- two readings by cases of the values -/
theorem OpR.byCases {f : Value → Value → Sem Value} {r : R2} (h : ∀ x y H Q, r x y H Q → ∃ r', OpR X f r' ∧ r' x y H Q) : OpR X f r := fun pins s σ H x y v u Q I rx ry q => by
  obtain ⟨r', h', q'⟩ := h x y H Q q
  exact h' pins s σ H x y v u Q I rx ry q'
def rBin (K : PySem.W.Frag) (op : BOp) : R2 := fun x y H Q => ∃ β t u r n m, Rds K β H t x n ∧ Rds K β H u y m ∧ pBin op t u = some r ∧ OutN K β H (op != .mul) r (kn t n ++ kn u m) Q
theorem le_line {n : Nat} (h : Nat.ble n line = true) : n ≤ sizeLine := by
  rw [← line_eq]
  exact Nat.le_of_ble_eq_true h
theorem lt_line {n : Nat} (h : Nat.blt n line = true) : n < sizeLine := by
  rw [← line_eq]
  exact Nat.le_of_ble_eq_true h
theorem opBin (op : BOp) : OpR X (binaryOp op.py) (rBin X.K op) := OpR.byCases fun x y H Q h => by
  obtain ⟨β, t, u, r, n, m, h1, h2, e, q⟩ := h
  cases op with
  | sub =>
    cases t <;> cases u <;> simp only [pBin, reduceCtorEq, Option.some.injEq] at e
    subst e
    obtain ⟨rfl, rfl⟩ := h1
    obtain ⟨rfl, rfl⟩ := h2
    exact ⟨_, op_sub, _, _, rfl, rfl, q.scal ⟨rfl, rfl⟩ rfl⟩
  | fdiv =>
    cases t <;> cases u <;> simp only [pBin, reduceCtorEq] at e
    rename_i i j
    obtain ⟨rfl, rfl⟩ := h1
    obtain ⟨rfl, rfl⟩ := h2
    split at e
    · rename_i hc
      simp only [Option.some.injEq] at e
      subst e
      simp only [Bool.and_eq_true, Bool.or_eq_true, decide_eq_true_eq] at hc
      obtain ⟨h0, hc | ⟨h3, h4⟩⟩ := hc
      · exact ⟨_, op_fdivN, _, _, rfl, rfl, ⟨h0, Nat.le_of_ble_eq_true hc⟩, q.scal ⟨rfl, rfl⟩ rfl⟩
      · refine ⟨_, op_fdivW, _, _, rfl, rfl, ⟨h3, Nat.le_of_ble_eq_true h4⟩, q.scal ⟨?_, rfl⟩ rfl⟩
        rw [Int.fdiv_eq_ediv_of_nonneg _ (by omega)]
    · cases e
  | mod =>
    cases t <;> cases u <;> simp only [pBin, reduceCtorEq] at e
    obtain ⟨rfl, rfl⟩ := h1
    obtain ⟨rfl, rfl⟩ := h2
    split at e
    · rename_i hc
      simp only [Option.some.injEq] at e
      subst e
      exact ⟨_, op_modN, _, _, rfl, rfl, of_decide_eq_true hc, q.scal ⟨rfl, rfl⟩ rfl⟩
    · cases e
  | pow =>
    cases t <;> cases u <;> simp only [pBin, reduceCtorEq] at e
    obtain ⟨rfl, rfl⟩ := h1
    obtain ⟨rfl, rfl⟩ := h2
    split at e
    · rename_i hc
      simp only [Option.some.injEq] at e
      subst e
      simp only [Bool.and_eq_true, decide_eq_true_eq] at hc
      exact ⟨_, op_pow, _, _, rfl, rfl, ⟨hc.1.1, hc.1.2, Nat.le_of_ble_eq_true hc.2⟩, q.scal ⟨rfl, rfl⟩ rfl⟩
    · cases e
  | mul =>
    cases t <;> cases u <;> simp only [pBin, pMul, reduceCtorEq] at e
    · rename_i i j
      obtain ⟨rfl, rfl⟩ := h1
      obtain ⟨rfl, rfl⟩ := h2
      split at e
      · rename_i hc
        simp only [Option.some.injEq] at e
        subst e
        simp only [Bool.or_eq_true] at hc
        have hm : ∀ k : Int, inMul k = true → -(2 ^ 64) < k ∧ k < 2 ^ 64 := fun k h => by
          simp only [inMul, Bool.and_eq_true, decide_eq_true_eq] at h
          exact h
        rcases hc with (hc | hc) | hc
        · exact ⟨_, op_mul, _, _, rfl, rfl, .inl (hm _ hc), q.scal ⟨rfl, rfl⟩ rfl⟩
        · exact ⟨_, op_mul, _, _, rfl, rfl, .inr (hm _ hc), q.scal ⟨rfl, rfl⟩ rfl⟩
        · exact ⟨_, op_mulW, _, _, rfl, rfl, Nat.le_of_ble_eq_true hc, q.scal ⟨rfl, rfl⟩ rfl⟩
      · cases e
    · rename_i xs k
      obtain ⟨a, vs, m1, rfl, ea, ra, rfl⟩ := h1
      obtain ⟨rfl, rfl⟩ := h2
      split at e
      · rename_i hc
        simp only [Option.some.injEq] at e
        subst e
        simp only [Bool.and_eq_true, decide_eq_true_eq] at hc
        obtain ⟨m2, r2, s2⟩ := ra.rep k.toNat
        refine ⟨_, op_rep, a, k, vs, rfl, rfl, ea, hc.1.1, hc.1.2, ?_, q.lst r2 (fun b hb => ?_) (fun z => by cases z)⟩
        · rw [ra.length]; exact le_line hc.2
        · simpa [kn, isNode] using s2 b hb
      · cases e
  | add =>
    cases t <;> cases u <;> simp only [pBin, pAdd, reduceCtorEq, Option.some.injEq] at e
    · subst e
      obtain ⟨rfl, rfl⟩ := h1
      obtain ⟨rfl, rfl⟩ := h2
      exact ⟨_, op_add, _, _, rfl, rfl, q.scal ⟨rfl, rfl⟩ rfl⟩
    · obtain ⟨rfl, rfl⟩ := h1
      obtain ⟨rfl, rfl⟩ := h2
      split at e
      · rename_i hc
        simp only [Option.some.injEq] at e
        subst e
        exact ⟨_, op_add_str, _, _, rfl, rfl, le_line hc, q.scal ⟨rfl, rfl⟩ rfl⟩
      · cases e
    · obtain ⟨a, vs, m1, rfl, ea, ra, rfl⟩ := h1
      obtain ⟨b, ws, m2, rfl, eb, rb, rfl⟩ := h2
      split at e
      · rename_i hc
        simp only [Option.some.injEq] at e
        subst e
        refine ⟨_, op_cat, a, b, vs, ws, rfl, rfl, ea, eb, ?_, q.lst (ra.append rb) (fun c hc => ?_) (fun _ z => ?_)⟩
        · rw [ra.length, rb.length]; exact le_line hc
        · simpa [kn, isNode] using hc
        · simpa [kn, isNode] using z
      · cases e
    · obtain ⟨a, vs, rfl, ea, ra⟩ := h1
      obtain ⟨b, ws, rfl, eb, rb⟩ := h2
      split at e
      · rename_i hc
        simp only [Option.some.injEq] at e
        subst e
        rename_i xs ys
        refine ⟨_, op_catA, a, b, vs, ws, rfl, rfl, SqT.of ea, SqT.of eb, ?_, fun z => ?_, fun _ z => ?_, fun _ _ => q.tup (ra.append rb) (fun c hc => ?_) (fun _ z => ?_)⟩
        · rw [ra.length, rb.length]; exact le_line hc
        · subst z
          have l := ra.length
          have l' : xs = [] := List.length_eq_zero_iff.mp l.symm
          subst l'
          obtain ⟨_, rfl⟩ := ra
          exact q.old ⟨b, ws, rfl, eb, rb⟩ (fun c hc => by simpa [kn, isNode] using hc) (fun _ z => by simpa [kn, isNode] using z)
        · subst z
          have l := rb.length
          have l' : ys = [] := List.length_eq_zero_iff.mp l.symm
          subst l'
          obtain ⟨_, rfl⟩ := rb
          exact q.old (m := n) ⟨a, vs, rfl, ea, by simpa using ra⟩ (fun c hc => by simpa [kn, isNode] using hc) (fun _ z => by simpa [kn, isNode] using z)
        · simpa [kn, isNode] using hc
        · simpa [kn, isNode] using z
      · cases e
end
end MP

/-! C4: comparisons, subscripts, slices, isinstance by values. -/
namespace MP
open PySem L2
section
variable {K : PySem.W.Frag} {β : List Addr} {H H' : Hp}
mutual
/-- data as the library reads it -/
theorem datum_dp : ∀ (t : T) {d : Nat} {v : V} {n : List Addr}, Rds K β H t v n → datum d t = true → ∃ p, Dp K H v p ∧ p.canLay0 = true ∧ p.depth ≤ d ∧ dataOf t = some p
  | .non, d, v, n, h, _ => by obtain ⟨rfl, _⟩ := h; exact ⟨.none, .non, rfl, Nat.zero_le _, rfl⟩
  | .bl b, d, v, n, h, _ => by obtain ⟨rfl, _⟩ := h; exact ⟨.bool b, .bl b, rfl, Nat.zero_le _, rfl⟩
  | .int i, d, v, n, h, _ => by obtain ⟨rfl, _⟩ := h; exact ⟨.int i, .int i, rfl, Nat.zero_le _, rfl⟩
  | .str x, d, v, n, h, e => by
    obtain ⟨rfl, _⟩ := h
    exact ⟨.str x, .str x, by simpa [PyData.canLay0, PyData.strOk, datum] using e, Nat.zero_le _, rfl⟩
  | .lst xs, d, v, n, h, e => by
    obtain ⟨a, vs, m, rfl, ea, r, rfl⟩ := h
    cases d with
    | zero => simp [datum] at e
    | succ d =>
      obtain ⟨ps, h1, h2, h3, h4⟩ := datum_dpL xs r (by simpa [datum] using e)
      exact ⟨.list ps, .lst (SqL.of ea) h1, by simpa [PyData.canLay0] using h2, by simp [PyData.depth]; exact h3, by simp [dataOf, h4]⟩
  | .tup xs, d, v, n, h, e => by
    obtain ⟨a, vs, rfl, ea, r⟩ := h
    cases d with
    | zero => simp [datum] at e
    | succ d =>
      obtain ⟨ps, h1, h2, h3, h4⟩ := datum_dpL xs r (by simpa [datum] using e)
      exact ⟨.tuple ps, .tup (SqT.of ea) h1, by simpa [PyData.canLay0] using h2, by simp [PyData.depth]; exact h3, by simp [dataOf, h4]⟩
  | .dk _ _, d, v, n, h, e => by simp [datum] at e
  | .dt _ _, d, v, n, h, e => by simp [datum] at e
  | .scr _, d, v, n, h, e => by simp [datum] at e
  | .box _, d, v, n, h, e => by simp [datum] at e
theorem datum_dpL : ∀ (ts : List T) {d : Nat} {vs : List V} {n : List Addr}, RdsL K β H ts vs n → datumL d ts = true → ∃ ps, DpAll K H vs ps ∧ PyData.canLayAll0 ps = true ∧ PyData.depthAll ps ≤ d ∧ dataOfL ts = some ps
  | [], d, vs, n, h, _ => by obtain ⟨rfl, _⟩ := h; exact ⟨[], .nil, rfl, Nat.zero_le _, rfl⟩
  | x :: xs, d, vs, n, h, e => by
    obtain ⟨v, ws, m, k, rfl, r1, r2, rfl⟩ := h
    have e' : datum d x = true ∧ datumL d xs = true := by simpa [datumL] using e
    obtain ⟨p, h1, h2, h3, h4⟩ := datum_dp x r1 e'.1
    obtain ⟨ps, g1, g2, g3, g4⟩ := datum_dpL xs r2 e'.2
    exact ⟨p :: ps, .cons h1 g1, by simp [PyData.canLayAll0, h2, g2], by simp only [PyData.depthAll]; omega, by simp [dataOfL, h4, g4]⟩
end
mutual
theorem eqT_eqv : ∀ (t u : T) {p q : PyData}, dataOf t = some p → dataOf u = some q → p.canLay0 = true → q.canLay0 = true → eqT t u = PyData.eqv p q := by
  intro t u p q h1 h2 c1 c2
  cases t with
  | non => simp [dataOf] at h1; subst h1; cases u <;> simp [dataOf, Option.map_eq_some_iff] at h2 <;> first | (subst h2; rfl) | (obtain ⟨_, _, rfl⟩ := h2; rfl)
  | bl b => simp [dataOf] at h1; subst h1; cases u <;> simp [dataOf, Option.map_eq_some_iff] at h2 <;> first | (subst h2; simp [eqT, PyData.eqv]) | (obtain ⟨_, _, rfl⟩ := h2; rfl)
  | int i => simp [dataOf] at h1; subst h1; cases u <;> simp [dataOf, Option.map_eq_some_iff] at h2 <;> first | (subst h2; simp [eqT, PyData.eqv]; try rfl) | (obtain ⟨_, _, rfl⟩ := h2; rfl)
  | str x => simp [dataOf] at h1; subst h1; cases u <;> simp [dataOf, Option.map_eq_some_iff] at h2 <;> first | (subst h2; simp [eqT, PyData.eqv]; try rfl) | (obtain ⟨_, _, rfl⟩ := h2; rfl)
  | lst xs =>
    simp [dataOf, Option.map_eq_some_iff] at h1
    obtain ⟨ps, e1, rfl⟩ := h1
    cases u with
    | lst ys =>
      simp [dataOf, Option.map_eq_some_iff] at h2
      obtain ⟨qs, e2, rfl⟩ := h2
      simp only [eqT, PyData.eqv]
      exact eqTL_eqv xs ys e1 e2 (by simpa [PyData.canLay0] using c1) (by simpa [PyData.canLay0] using c2)
    | _ => simp [dataOf, Option.map_eq_some_iff] at h2 <;> first | (subst h2; rfl) | (obtain ⟨_, _, rfl⟩ := h2; rfl)
  | tup xs =>
    simp [dataOf, Option.map_eq_some_iff] at h1
    obtain ⟨ps, e1, rfl⟩ := h1
    cases u with
    | tup ys =>
      simp [dataOf, Option.map_eq_some_iff] at h2
      obtain ⟨qs, e2, rfl⟩ := h2
      simp only [eqT, PyData.eqv]
      exact eqTL_eqv xs ys e1 e2 (by simpa [PyData.canLay0] using c1) (by simpa [PyData.canLay0] using c2)
    | _ => simp [dataOf, Option.map_eq_some_iff] at h2 <;> first | (subst h2; rfl) | (obtain ⟨_, _, rfl⟩ := h2; rfl)
  | dk _ _ => simp [dataOf] at h1
  | dt _ _ => simp [dataOf] at h1
  | scr _ => simp [dataOf] at h1
  | box _ => simp [dataOf] at h1
theorem eqTL_eqv : ∀ (ts us : List T) {ps qs : List PyData}, dataOfL ts = some ps → dataOfL us = some qs → PyData.canLayAll0 ps = true → PyData.canLayAll0 qs = true → eqTL ts us = PyData.eqvAll ps qs := by
  intro ts us ps qs h1 h2 c1 c2
  cases ts with
  | nil =>
    simp [dataOfL] at h1; subst h1
    cases us with
    | nil => simp [dataOfL] at h2; subst h2; rfl
    | cons y ys =>
      simp only [dataOfL] at h2
      split at h2
      · cases h2; rfl
      · cases h2
  | cons x xs =>
    simp only [dataOfL] at h1
    split at h1
    · rename_i p ps' e1 e2
      cases h1
      cases us with
      | nil => simp [dataOfL] at h2; subst h2; rfl
      | cons y ys =>
        simp only [dataOfL] at h2
        split at h2
        · rename_i q qs' f1 f2
          cases h2
          have c1' : p.canLay0 = true ∧ PyData.canLayAll0 ps' = true := by simpa [PyData.canLayAll0] using c1
          have c2' : q.canLay0 = true ∧ PyData.canLayAll0 qs' = true := by simpa [PyData.canLayAll0] using c2
          simp only [eqTL, PyData.eqvAll]
          rw [eqT_eqv x y e1 f1 c1'.1 c2'.1, eqTL_eqv xs ys e2 f2 c1'.2 c2'.2]
        · cases h2
    · cases h1
end
/-! ### flat values, keys -/
def fV : T → V
  | .bl b => .bl b
  | .int i => .int i
  | .str x => .str x
  | _ => .non
theorem flat_v {t : T} {v : V} {n : List Addr} (h : Rds K β H t v n) (f : flatT t = true) : v = fV t ∧ flatV v = true := by
  cases t <;> simp [flatT] at f <;> (obtain ⟨rfl, _⟩ := h; exact ⟨rfl, rfl⟩)
theorem flat_eq {t u : T} (f : flatT t = true) (g : flatT u = true) : eqV (fV t) (fV u) = eqT t u := by
  cases t <;> simp [flatT] at f <;> cases u <;> simp [flatT] at g <;> first | rfl | simp [fV, eqV, eqT] | (simp [fV, eqV, eqT]; rfl)
theorem flat_list : ∀ {ts : List T} {vs : List V} {n : List Addr}, RdsL K β H ts vs n → ts.all flatT = true → vs.all flatV = true ∧ ∀ u, flatT u = true → (vs.any fun y => eqV y (fV u)) = ts.any fun y => eqT y u
  | [], vs, n, h, _ => by rw [h.1]; exact ⟨rfl, fun _ _ => rfl⟩
  | x :: xs, vs, n, h, e => by
    obtain ⟨v, ws, m, k, rfl, r1, r2, _⟩ := h
    have e' : flatT x = true ∧ xs.all flatT = true := by simpa using e
    obtain ⟨h1, h2⟩ := flat_v r1 e'.1
    obtain ⟨g1, g2⟩ := flat_list r2 e'.2
    refine ⟨by simp [h2]; simpa using g1, fun u hu => ?_⟩
    rw [List.any_cons, List.any_cons, g2 u hu, h1, flat_eq e'.1 hu]
theorem key_v {t : T} {k : Key} {v : V} {n : List Addr} (h : Rds K β H t v n) (e : keyT t = some k) : v = kV k := by
  cases t <;> simp [keyT] at e <;> (subst e; exact h.1)
theorem keys_v : ∀ {ts : List T} {ks : List Key} {vs : List V} {n : List Addr}, RdsL K β H ts vs n → keysT ts = some ks → vs = ks.map kV
  | [], ks, vs, n, h, e => by simp [keysT] at e; subst e; exact h.1
  | x :: xs, ks, vs, n, h, e => by
    obtain ⟨v, ws, m, k, rfl, r1, r2, _⟩ := h
    simp only [keysT] at e
    split at e
    · rename_i k1 ks1 e1 e2
      cases e
      rw [key_v r1 e1, keys_v r2 e2] <;> rfl
    · cases e
theorem valV_zip {κ : Type} [DecidableEq κ] (k : κ) : ∀ {ks : List κ} {ts : List T} {vs : List V} {n : List Addr}, RdsL K β H ts vs n → ks.length = vs.length →
    (findK k ks ts = none ∧ valV (ks.zip vs) k = none) ∨ ∃ t v m, findK k ks ts = some t ∧ valV (ks.zip vs) k = some v ∧ Rds K β H t v m ∧ m.Sublist n
  | [], ts, vs, n, h, l => by
    have : vs = [] := List.length_eq_zero_iff.mp l.symm
    subst this
    exact .inl ⟨by cases ts <;> rfl, by simp [valV]⟩
  | a :: ks, ts, vs, n, h, l => by
    cases ts with
    | nil => obtain ⟨rfl, _⟩ := h; cases l
    | cons t ts =>
      obtain ⟨v, ws, m, j, rfl, r1, r2, rfl⟩ := h
      by_cases z : k = a
      · subst z
        exact .inr ⟨t, v, m, by simp [findK], by simp [List.zip_cons_cons, valV_pos], r1, List.sublist_append_left _ _⟩
      · have z' : ¬ a = k := fun q => z q.symm
        rcases valV_zip k (ks := ks) r2 (by simpa using l) with ⟨h1, h2⟩ | ⟨t', v', m', h1, h2, h3, h4⟩
        · exact .inl ⟨by simp [findK, z, h1], by rw [List.zip_cons_cons, valV_neg (by exact z'), h2]⟩
        · exact .inr ⟨t', v', m', by simp [findK, z, h1], by rw [List.zip_cons_cons, valV_neg (by exact z'), h2], h3, h4.trans (List.sublist_append_right _ _)⟩
end
def COp.py : COp → CmpOp
  | .lt => .Lt | .le => .LtE | .gt => .Gt | .ge => .GtE | .eq => .Eq | .ne => .NotEq | .isN => .Is | .notN => .IsNot | .inn => .In | .nin => .NotIn
section
variable {X : Cx}
def rCmp (K : PySem.W.Frag) (op : COp) : R2 := fun x y H Q => ∃ β t u r n m, Rds K β H t x n ∧ Rds K β H u y m ∧ pCmp op t u = some r ∧ Q (.bl r) H
theorem op_dIn (hu : X.A.units + 1 < cLine) : OpR X (compareOp .In) (fun x y H Q => ∃ a o, y = .ref a ∧ DGet H a x o ∧ Q (.bl o.isSome) H) := fun pins s σ H x y v u Q I rx ry q => by
  obtain ⟨a, o, rfl, g, q⟩ := q
  obtain rfl : u = Value.ref a := ry
  exact d_in hu I g rx fun s' I' => ⟨.bl o.isSome, H, I', rfl, q⟩
theorem op_dNotIn (hu : X.A.units + 1 < cLine) : OpR X (compareOp .NotIn) (fun x y H Q => ∃ a o, y = .ref a ∧ DGet H a x o ∧ Q (.bl (!o.isSome)) H) := fun pins s σ H x y v u Q I rx ry q => by
  obtain ⟨a, o, rfl, g, q⟩ := q
  obtain rfl : u = Value.ref a := ry
  exact d_notIn hu I g rx fun s' I' => ⟨.bl (!o.isSome), H, I', rfl, q⟩
theorem isNon_v {K : PySem.W.Frag} {β : List Addr} {H : Hp} {t : T} {v : V} {n : List Addr} (h : Rds K β H t v n) : decide (v = .non) = isNon t := by
  cases t with
  | non => obtain ⟨rfl, _⟩ := h; rfl
  | bl _ => obtain ⟨rfl, _⟩ := h; rfl
  | int _ => obtain ⟨rfl, _⟩ := h; rfl
  | str _ => obtain ⟨rfl, _⟩ := h; rfl
  | lst _ => obtain ⟨_, _, _, rfl, _⟩ := h; rfl
  | tup _ => obtain ⟨_, _, rfl, _⟩ := h; rfl
  | dk _ _ => obtain ⟨_, _, _, rfl, _⟩ := h; rfl
  | dt _ _ => obtain ⟨_, _, _, rfl, _⟩ := h; rfl
  | scr _ => obtain ⟨_, rfl, _⟩ := h; rfl
  | box _ => obtain ⟨_, rfl, _⟩ := h; rfl
/-- x in c, its answer -/
theorem pIn_ok {K : PySem.W.Frag} {β : List Addr} {H : Hp} {t u : T} {x y : V} {r : Bool} {n m : List Addr} (h1 : Rds K β H t x n) (h2 : Rds K β H u y m) (e : pIn t u = some r) :
    (∃ p xs, y = .ref p ∧ (SqL K H p xs ∨ SqT K H p xs) ∧ flatV x = true ∧ xs.all flatV = true ∧ inV x xs = r) ∨ ∃ a o, y = .ref a ∧ DGet H a x o ∧ o.isSome = r := by
  cases u with
  | lst xs =>
    obtain ⟨a, vs, m1, rfl, ea, ra, _⟩ := h2
    simp only [pIn] at e
    split at e
    · rename_i hc
      cases e
      simp only [Bool.and_eq_true] at hc
      obtain ⟨g1, g2⟩ := flat_list ra hc.2
      obtain ⟨f1, f2⟩ := flat_v h1 hc.1
      exact .inl ⟨a, vs, rfl, .inl (SqL.of ea), f2, g1, by rw [f1]; exact g2 t hc.1⟩
    · cases e
  | tup xs =>
    obtain ⟨a, vs, rfl, ea, ra⟩ := h2
    simp only [pIn] at e
    split at e
    · rename_i hc
      cases e
      simp only [Bool.and_eq_true] at hc
      obtain ⟨g1, g2⟩ := flat_list ra hc.2
      obtain ⟨f1, f2⟩ := flat_v h1 hc.1
      exact .inl ⟨a, vs, rfl, .inr (SqT.of ea), f2, g1, by rw [f1]; exact g2 t hc.1⟩
    · cases e
  | dk ks ts =>
    obtain ⟨a, vs, m1, rfl, ea, l, ra, _⟩ := h2
    simp only [pIn] at e
    split at e
    · rename_i k hk
      cases e
      have hx := key_v h1 hk
      subst hx
      refine .inr ⟨a, _, rfl, DGet.k ea, ?_⟩
      rcases valV_zip k ra l.1 with ⟨h1, h2⟩ | ⟨t', v', m', h1, h2, _⟩ <;> rw [h1, h2] <;> rfl
    · cases e
  | dt ks ts =>
    obtain ⟨a, vs, m1, rfl, ea, l, ra, _⟩ := h2
    simp only [pIn] at e
    split at e
    · rename_i us
      split at e
      · rename_i k hk
        cases e
        obtain ⟨b, ws, rfl, eb, rb⟩ := h1
        have hx := keys_v rb hk
        subst hx
        refine .inr ⟨a, _, rfl, DGet.t ea eb, ?_⟩
        rcases valV_zip k ra l.1 with ⟨h1, h2⟩ | ⟨t', v', m', h1, h2, _⟩ <;> rw [h1, h2] <;> rfl
      · cases e
    · cases e
  | _ => simp [pIn] at e
theorem opCmp (hu : X.A.units + 65 < cLine) (op : COp) : OpR X (compareOp op.py) (rCmp X.K op) := OpR.byCases fun x y H Q h => by
  obtain ⟨β, t, u, r, n, m, h1, h2, e, q⟩ := h
  cases op with
  | eq =>
    simp only [pCmp] at e
    split at e
    · rename_i hc
      cases e
      simp only [Bool.and_eq_true] at hc
      obtain ⟨p, d1, c1, l1, e1⟩ := datum_dp t h1 hc.1
      obtain ⟨p', d2, c2, l2, e2⟩ := datum_dp u h2 hc.2
      refine ⟨_, op_eqD (by omega), p, p', d1, d2, ?_, ?_, ?_⟩
      · simp [SeqAt.shaped, c1]; omega
      · simp [SeqAt.shaped, c2]; omega
      · rw [← eqT_eqv t u e1 e2 c1 c2]; exact q
    · cases e
  | ne =>
    simp only [pCmp] at e
    split at e
    · rename_i hc
      cases e
      simp only [Bool.and_eq_true] at hc
      obtain ⟨p, d1, c1, l1, e1⟩ := datum_dp t h1 hc.1
      obtain ⟨p', d2, c2, l2, e2⟩ := datum_dp u h2 hc.2
      refine ⟨_, op_neD (by omega), p, p', d1, d2, ?_, ?_, ?_⟩
      · simp [SeqAt.shaped, c1]; omega
      · simp [SeqAt.shaped, c2]; omega
      · rw [← eqT_eqv t u e1 e2 c1 c2]; exact q
    · cases e
  | isN =>
    simp only [pCmp] at e
    split at e
    · cases e
      obtain ⟨rfl, _⟩ := h2
      exact ⟨_, op_isN, rfl, by rw [isNon_v h1]; exact q⟩
    · cases e
  | notN =>
    simp only [pCmp] at e
    split at e
    · cases e
      obtain ⟨rfl, _⟩ := h2
      exact ⟨_, op_notN, rfl, by rw [isNon_v h1]; exact q⟩
    · cases e
  | inn =>
    simp only [pCmp] at e
    rcases pIn_ok h1 h2 e with ⟨p, xs, rfl, hs, f1, f2, rfl⟩ | ⟨a, o, rfl, g, rfl⟩
    · exact ⟨_, op_in_seq, p, xs, rfl, hs, f1, f2, q⟩
    · exact ⟨_, op_dIn (by omega), a, o, rfl, g, q⟩
  | nin =>
    simp only [pCmp, Option.map_eq_some_iff] at e
    obtain ⟨r', e, rfl⟩ := e
    rcases pIn_ok h1 h2 e with ⟨p, xs, rfl, hs, f1, f2, rfl⟩ | ⟨a, o, rfl, g, rfl⟩
    · exact ⟨_, op_notIn_seq, p, xs, rfl, hs, f1, f2, q⟩
    · exact ⟨_, op_dNotIn (by omega), a, o, rfl, g, q⟩
  | lt =>
    cases t <;> cases u <;> simp only [pCmp, reduceCtorEq, Option.some.injEq] at e
    subst e; obtain ⟨rfl, rfl⟩ := h1; obtain ⟨rfl, rfl⟩ := h2
    exact ⟨_, op_lt, _, _, rfl, rfl, q⟩
  | le =>
    cases t <;> cases u <;> simp only [pCmp, reduceCtorEq, Option.some.injEq] at e
    subst e; obtain ⟨rfl, rfl⟩ := h1; obtain ⟨rfl, rfl⟩ := h2
    exact ⟨_, op_le, _, _, rfl, rfl, q⟩
  | gt =>
    cases t <;> cases u <;> simp only [pCmp, reduceCtorEq, Option.some.injEq] at e
    subst e; obtain ⟨rfl, rfl⟩ := h1; obtain ⟨rfl, rfl⟩ := h2
    exact ⟨_, op_gt, _, _, rfl, rfl, q⟩
  | ge =>
    cases t <;> cases u <;> simp only [pCmp, reduceCtorEq, Option.some.injEq] at e
    subst e; obtain ⟨rfl, rfl⟩ := h1; obtain ⟨rfl, rfl⟩ := h2
    exact ⟨_, op_ge, _, _, rfl, rfl, q⟩
end
end MP

/-! C5: subscripts, slices, isinstance, built-in functions by values. -/
namespace MP
open PySem L2
section
variable {X : Cx}
theorem IxR.byCases {r : R2} (h : ∀ x y H Q, r x y H Q → ∃ r', IxR X r' ∧ r' x y H Q) : IxR X r := fun value slice pins s σ H x y v u Q I rx ry q hs => by
  obtain ⟨r', h', q'⟩ := h x y H Q q
  exact h' value slice pins s σ H x y v u Q I rx ry q' hs
theorem ix_dict (hu : X.A.units + 1 < cLine) : IxR X (fun x y H Q => ∃ a v, x = .ref a ∧ DGet H a y (some v) ∧ Q v H) := fun value slice pins s σ H x y v u Q I rx ry q hs => by
  obtain ⟨a, z, rfl, g, q⟩ := q
  obtain rfl : v = Value.ref a := rx
  exact PyProof.Rows.tail_any (dict_typeIs I g) PySem.F.slot_dict_getitem.lookup (d_getItem hu I g ry fun w' s' I' rw' => ⟨z, H, I', rw', q⟩) hs
def rSub (K : PySem.W.Frag) : R2 := fun x y H Q => ∃ β t u r n m, Rds K β H t x n ∧ Rds K β H u y m ∧ pSub t u = some r ∧ ∀ v k, Rds K β H r v k → k.Sublist (kn t n) → Q v H
theorem at_ok {K : PySem.W.Frag} {β : List Addr} {H : Hp} {xs : List T} {vs : List V} {n : List Addr} {i : Int} {r : T} (h : RdsL K β H xs vs n) (e : atT xs i = some r) : ∃ v k, atI vs i = some v ∧ Rds K β H r v k ∧ k.Sublist n := by
  unfold atT at e
  split at e
  · rename_i j hj
    obtain ⟨v, n1, m, n2, e1, rfl, r1, _, _⟩ := h.at e
    refine ⟨v, m, ?_, r1, ?_⟩
    · unfold atI
      rw [h.length, hj]
      exact e1
    · exact (List.sublist_append_left m n2).trans (List.sublist_append_right n1 (m ++ n2))
  · cases e
theorem ixSub (hu : X.A.units + 1 < cLine) : IxR X (rSub X.K) := IxR.byCases fun x y H Q h => by
  obtain ⟨β, t, u, r, n, m, h1, h2, e, q⟩ := h
  cases t with
  | lst xs =>
    obtain ⟨a, vs, m1, rfl, ea, ra, rfl⟩ := h1
    cases u <;> simp only [pSub, reduceCtorEq] at e
    obtain ⟨rfl, rfl⟩ := h2
    obtain ⟨v, k, e1, r1, s1⟩ := at_ok ra e
    exact ⟨_, ix_list, a, vs, _, v, rfl, rfl, SqL.of ea, e1, q v k r1 (by simpa [kn, isNode] using s1)⟩
  | tup xs =>
    obtain ⟨a, vs, rfl, ea, ra⟩ := h1
    cases u <;> simp only [pSub, reduceCtorEq] at e
    obtain ⟨rfl, rfl⟩ := h2
    obtain ⟨v, k, e1, r1, s1⟩ := at_ok ra e
    exact ⟨_, ix_tup, a, vs, _, v, rfl, rfl, SqT.of ea, e1, q v k r1 (by simpa [kn, isNode] using s1)⟩
  | dk ks ts =>
    obtain ⟨a, vs, m1, rfl, ea, l, ra, rfl⟩ := h1
    simp only [pSub] at e
    split at e
    · rename_i k hk
      have hy := key_v h2 hk
      subst hy
      rcases valV_zip k ra l.1 with ⟨h1, _⟩ | ⟨t', v', m', g1, g2, g3, g4⟩
      · rw [h1] at e; cases e
      · rw [g1] at e; cases e
        exact ⟨_, ix_dict hu, a, v', rfl, g2 ▸ DGet.k ea, q v' m' g3 (by simpa [kn, isNode] using g4)⟩
    · cases e
  | dt ks ts =>
    obtain ⟨a, vs, m1, rfl, ea, l, ra, rfl⟩ := h1
    cases u <;> simp only [pSub, reduceCtorEq] at e
    split at e
    · rename_i k hk
      obtain ⟨b, ws, rfl, eb, rb⟩ := h2
      have hy := keys_v rb hk
      subst hy
      rcases valV_zip k ra l.1 with ⟨h1, _⟩ | ⟨t', v', m', g1, g2, g3, g4⟩
      · rw [h1] at e; cases e
      · rw [g1] at e; cases e
        exact ⟨_, ix_dict hu, a, v', rfl, g2 ▸ DGet.t ea eb, q v' m' g3 (by simpa [kn, isNode] using g4)⟩
    · cases e
  | _ => cases u <;> simp [pSub] at e
/-! ### slices -/
theorem cut_ok {K : PySem.W.Frag} {β : List Addr} {H : Hp} {xs : List T} {vs : List V} {n : List Addr} (h : RdsL K β H xs vs n) (lo hi : Option Int) : ∃ m, RdsL K β H (cutT xs lo hi) (cutV vs lo hi) m ∧ m.Sublist n := by
  unfold cutT cutV
  rw [h.length]
  obtain ⟨n1, n2, rfl, _, r2⟩ := h.takeN (HT.sIx xs.length 0 lo)
  obtain ⟨n3, n4, rfl, r3, _⟩ := r2.takeN (HT.sIx xs.length xs.length hi - HT.sIx xs.length 0 lo)
  exact ⟨n3, r3, (List.sublist_append_left n3 n4).trans (List.sublist_append_right n1 _)⟩
theorem SlR.byCases {r : V → Option Int → Option Int → Hp → VK → Prop} (h : ∀ x lo hi H Q, r x lo hi H Q → ∃ r', SlR X r' ∧ r' x lo hi H Q) : SlR X r := fun pins s σ H x v vl vu lo hi sl Q I rx h1 h2 h3 q => by
  obtain ⟨r', h', q'⟩ := h x lo hi H Q q
  exact h' pins s σ H x v vl vu lo hi sl Q I rx h1 h2 h3 q'
def rSlc (K : PySem.W.Frag) : V → Option Int → Option Int → Hp → VK → Prop := fun x lo hi H Q => ∃ β t r n, Rds K β H t x n ∧ pSlc t lo hi = some r ∧ OutN K β H true r (kn t n) Q
theorem cut_whole {α : Type} (xs : List α) {a b : Nat} (ha : a = 0) (hb : b = xs.length) : (xs.drop a).take (b - a) = xs := by subst ha hb; simp
theorem slSlc : SlR X (rSlc X.K) := SlR.byCases fun x lo hi H Q h => by
  obtain ⟨β, t, r, n, h1, e, q⟩ := h
  cases t <;> simp only [pSlc, reduceCtorEq, Option.some.injEq] at e
  · subst e
    obtain ⟨a, vs, m1, rfl, ea, ra, rfl⟩ := h1
    obtain ⟨m, r2, s2⟩ := cut_ok ra lo hi
    exact ⟨_, sl_list, a, vs, rfl, SqL.of ea, q.lst r2 (fun b hb => by simpa [kn, isNode] using s2.subset hb) (fun _ z => (by simpa [kn, isNode] using z : m1.Nodup).sublist s2)⟩
  · subst e
    obtain ⟨a, vs, rfl, ea, ra⟩ := h1
    obtain ⟨m, r2, s2⟩ := cut_ok ra lo hi
    rename_i xs
    refine ⟨_, sl_tupA, a, vs, rfl, SqT.of ea, fun z => ?_, fun _ => q.tup r2 (fun b hb => by simpa [kn, isNode] using s2.subset hb) (fun _ z => (by simpa [kn, isNode] using z : n.Nodup).sublist s2)⟩
    have e : cutT xs lo hi = xs := cut_whole xs (by rw [ra.length] at z; exact z.1) (by rw [ra.length] at z; exact z.2)
    rw [e] at q
    exact q.old ⟨a, vs, rfl, ea, ra⟩ (fun b hb => by simpa [kn, isNode] using hb) (fun _ z => by simpa [kn, isNode] using z)
/-! ### isinstance -/
def tyN : T → String
  | .non => "NoneType" | .bl _ => "bool" | .int _ => "int" | .str _ => "str" | .lst _ => "list" | .tup _ => "tuple" | .dk _ _ => "dict" | .dt _ _ => "dict" | .scr _ => "list" | .box _ => "list"
def tyK : List String := ["NoneType", "bool", "int", "str", "list", "tuple", "dict"]
def kN (a : String) (c : Ty) : Bool := (a == c.nm) || (a == "bool" && c == .int)
theorem kit_tab : (tyK.all fun a => [Ty.int, .bool, .str, .list, .tuple, .dict].all fun c => kitB a c.nm == some (kN a c)) = true := by decide +kernel
theorem tyN_mem (t : T) : tyN t ∈ tyK := by cases t <;> simp [tyN, tyK]
theorem kTy_eq (t : T) (ht : ∀ k, t ≠ .box k) (c : Ty) : kN (tyN t) c = kTy t c := by
  cases t <;> cases c <;> first | rfl | (exact absurd rfl (ht _)) | decide
theorem kit_of_ty {K : PySem.W.Frag} (t : T) (ht : ∀ k, t ≠ .box k) (c : Ty) : PySem.W.kitOne K (.type (tyN t)) (.type c.nm) = some (kTy t c) := by
  refine kit_ty ?_
  have h1 := List.all_eq_true.mp kit_tab (tyN t) (tyN_mem t)
  have h2 := List.all_eq_true.mp h1 c (by cases c <;> simp)
  rw [← kTy_eq t ht c]
  exact eq_of_beq h2
theorem kitAny_of {K : PySem.W.Frag} (t : T) (ht : ∀ k, t ≠ .box k) : ∀ cs : List Ty, PySem.W.kitAny K (.type (tyN t)) (cs.map fun c => .type c.nm) = some (cs.any (kTy t))
  | [] => kitAny_nil
  | c :: cs => by
    refine kitAny_cons (b := kTy t c) (kit_of_ty t ht c) (fun h => ?_) (fun h => by simp [h])
    rw [kitAny_of t ht cs, List.any_cons, h] <;> rfl
theorem ty_of {K : PySem.W.Frag} {β : List Addr} {H : Hp} (t : T) {v : V} {n : List Addr} (h : Rds K β H t v n) (ht : ∀ k, t ≠ .box k) : TyX K H v (.type (tyN t)) := by
  cases t with
  | non => obtain ⟨rfl, _⟩ := h; exact .base .non
  | bl b => obtain ⟨rfl, _⟩ := h; exact .base (.bl b)
  | int i => obtain ⟨rfl, _⟩ := h; exact .base (.int i)
  | str x => obtain ⟨rfl, _⟩ := h; exact .base (.str x)
  | lst xs => obtain ⟨a, vs, m, rfl, e, _⟩ := h; exact .base (.lst e)
  | tup xs => obtain ⟨a, vs, rfl, e, _⟩ := h; exact .base (.tup e)
  | dk ks xs => obtain ⟨a, vs, m, rfl, e, _⟩ := h; exact .base (.dK e)
  | dt ks xs => obtain ⟨a, vs, m, rfl, e, _⟩ := h; exact .base (.dT e)
  | scr ns =>
    obtain ⟨a, rfl, _, h⟩ := h
    rcases h with ⟨o, h⟩ | ⟨o, its, m, h1, h2, _⟩
    · exact .base (.frz h)
    · exact .kList h1 h2
  | box k => exact absurd rfl (ht k)
theorem cls_all : ∀ cs : List Ty, Paired ClsV (cs.map fun c => V.ty c.nm) (cs.map fun c => Value.type c.nm)
  | [] => .nil
  | c :: cs => .cons (.ty _) (cls_all cs)
end
end MP

/-! C6: built-in functions by values. -/
namespace MPS
open PySem PyProof.Rows
section
variable {prog : Program} {w : World} {A : Around} {E : Value → Shared → Prop} {s : Shared}
/-- sorted of a list or a tuple of ints -/
theorem sortedOf {it : Addr} {T : String} {o : Obj} {its : List Value} {n : Nat} {ns : List Int} {Q : Value → Shared → Prop} (hT : T = "list" ∨ T = "tuple") (ho : s.heap.get? it = some o) (hc : o.cls = .type T) (hd : o.data = .seq its.toArray n)
    (hI : IntsAre its ns) (hz : its.length ≤ sizeLine)
    (hQ : ∀ (h1 h' : Heap) (p : Addr) (out : List Value) (ns' : List Int) (e : Nat), (∀ b u, s.heap.get? b = some u → h1.get? b = some u) → (∀ b u, h1.get? b = some u → h'.get? b = some u) → h1.objs.size ≤ p → h'.get? p = some (seqObj "list" out.toArray e) →
      IntsAre out ns' → ns'.Perm ns → ns'.Pairwise (· ≤ ·) → Q (.ref p) { s with heap := h' }) : wpAny (model prog w) A (call (.builtin "sorted") [.ref it]) Q E s := by
  refine Calls.call_function_entry kind_sorted plain_sorted entry_sorted (args_sorted1 _) ?_
  unfold Builtin.«sorted»
  refine wpAny_bind (m := checkCount "sorted" 1 1 _) (wpAny_pure ?_)
  refine wpAny_bind (wpAny_collect_seq it hT ho hc hd (fun h1 k1 => ?_) (by rw [List.size_toArray]; exact hz))
  refine wpAny_bind (wpAny_newList ?_ hz)
  have h0 : (h1.push (seqObj "list" its.toArray 0)).get? h1.objs.size = some (seqObj "list" its.toArray 0) := Heap.get?_push_size _ rfl
  refine wpAny_bind (wpAny_holding (wpAny_call_entry slot_list_sort ⟨_, h0, rfl⟩ entry_list_sort
    (SrtO.list_sort_ord (n := 0) (s := { s with heap := h1.push (seqObj "list" its.toArray 0) }) SrtO.swo_int h0 hz (fun h2 => SrtO.ints_sortable hI h2) fun out hs hb => ⟨_, rfl, ?_⟩) (args_list_sort _)))
  obtain ⟨g1, g2, g3⟩ := SrtO.ints_out hI hs hb
  obtain ⟨e, he⟩ := sortedHeap_at (out := out.toArray) h0
  refine wpAny_pure ⟨_, rfl, hQ h1 _ _ out _ e k1 (fun b u hb => ?_) (Nat.le_refl _) he g1 g2 g3⟩
  have hlt := Heap.lt_size hb
  show (sortedHeap (h1.push (seqObj "list" its.toArray 0)) h1.objs.size its out.toArray).get? b = some u
  rw [sortedHeap_old (Nat.ne_of_lt hlt) (by rw [size_push']; exact Nat.lt_succ_of_lt hlt)]
  exact Heap.get?_push_of_some _ hb
/-- sum of a tuple of ints -/
theorem sumT {t : Addr} {its : List Value} {ns : List Int} {Q : Value → Shared → Prop} (hh : A.handled = none) (ht : s.heap.IsTuple t its.toArray) (hi : IntsAre its ns)
    (h : ∀ h' tk t', (∀ b o, s.heap.get? b = some o → h'.get? b = some o) → Q (.int ns.sum t') { s with heap := h', toks := tk }) : wpAny (model prog w) A (call (.builtin "sum") [.ref t]) Q E s := by
  obtain ⟨xs, e⟩ := hi.allInts.items
  have hn : numsOf (intItems xs).toList = ns := by rw [← e]; exact hi.numsOf
  rw [nums_intItems] at hn
  rw [e] at ht
  refine PySem.W.ktm_sumG hh ht fun h' tk t' hk => ?_
  have z := h h' tk t' hk
  rw [preSum_eq, List.take_of_length_le (by simp), hn]
  exact z
end
end MPS

namespace MP
open PySem L2
/-! ### plain facts -/
theorem ins_perm (i : Int) : ∀ l : List Int, (ins i l).Perm (i :: l)
  | [] => List.Perm.refl _
  | j :: r => by
    unfold ins
    split
    · exact List.Perm.refl _
    · exact ((ins_perm i r).cons j).trans (List.Perm.swap i j r)
theorem isort_perm : ∀ l : List Int, (isort l).Perm l
  | [] => List.Perm.refl _
  | i :: r => (ins_perm i (isort r)).trans ((isort_perm r).cons i)
theorem ins_sorted (i : Int) : ∀ l : List Int, l.Pairwise (· ≤ ·) → (ins i l).Pairwise (· ≤ ·)
  | [], _ => List.pairwise_singleton _ _
  | j :: r, h => by
    unfold ins
    split
    · rename_i hc
      exact List.pairwise_cons.mpr ⟨fun k hk => by
        rcases List.mem_cons.mp hk with rfl | hk
        · exact hc
        · exact Int.le_trans hc (List.rel_of_pairwise_cons h hk), h⟩
    · rename_i hc
      refine List.pairwise_cons.mpr ⟨fun k hk => ?_, ins_sorted i r h.tail⟩
      rcases List.mem_cons.mp ((ins_perm i r).mem_iff.mp hk) with rfl | hk
      · omega
      · exact List.rel_of_pairwise_cons h hk
theorem isort_sorted : ∀ l : List Int, (isort l).Pairwise (· ≤ ·)
  | [] => List.Pairwise.nil
  | i :: r => ins_sorted i _ (isort_sorted r)
theorem sorted_uniq {a b : List Int} (p : a.Perm b) (ha : a.Pairwise (· ≤ ·)) (hb : b.Pairwise (· ≤ ·)) : a = b :=
  p.eq_of_pairwise (fun x y _ _ h1 h2 => Int.le_antisymm h1 h2) ha hb
theorem lmax_foldl : ∀ (l : List Int) (m : Int), lmax m l = l.foldl max m
  | [], m => rfl
  | i :: r, m => by
    unfold lmax
    rw [lmax_foldl r, List.foldl_cons]
    congr 1
    split <;> omega
theorem lmin_foldl : ∀ (l : List Int) (m : Int), lmin m l = l.foldl min m
  | [], m => rfl
  | i :: r, m => by
    unfold lmin
    rw [lmin_foldl r, List.foldl_cons]
    congr 1
    split <;> omega
theorem lmax_spec : ∀ (l : List Int) (m : Int), lmax m l ∈ m :: l ∧ ∀ x ∈ m :: l, x ≤ lmax m l
  | [], m => ⟨List.mem_cons_self, fun x hx => by simp at hx; simp [lmax, hx]⟩
  | i :: r, m => by
    unfold lmax
    obtain ⟨h1, h2⟩ := lmax_spec r (if m < i then i else m)
    refine ⟨?_, fun x hx => ?_⟩
    · rcases List.mem_cons.mp h1 with h | h
      · rw [h]; split <;> simp
      · simp [h]
    · have h3 := h2 (if m < i then i else m) List.mem_cons_self
      rcases List.mem_cons.mp hx with rfl | hx
      · split at h3 <;> split <;> omega
      · rcases List.mem_cons.mp hx with rfl | hx
        · split at h3 <;> split <;> omega
        · exact h2 x (List.mem_cons_of_mem _ hx)
theorem lmin_spec : ∀ (l : List Int) (m : Int), lmin m l ∈ m :: l ∧ ∀ x ∈ m :: l, lmin m l ≤ x
  | [], m => ⟨List.mem_cons_self, fun x hx => by simp at hx; simp [lmin, hx]⟩
  | i :: r, m => by
    unfold lmin
    obtain ⟨h1, h2⟩ := lmin_spec r (if i < m then i else m)
    refine ⟨?_, fun x hx => ?_⟩
    · rcases List.mem_cons.mp h1 with h | h
      · rw [h]; split <;> simp
      · simp [h]
    · have h3 := h2 (if i < m then i else m) List.mem_cons_self
      rcases List.mem_cons.mp hx with rfl | hx
      · split at h3 <;> split <;> omega
      · rcases List.mem_cons.mp hx with rfl | hx
        · split at h3 <;> split <;> omega
        · exact h2 x (List.mem_cons_of_mem _ hx)
section
variable {K : PySem.W.Frag} {β : List Addr} {H H' : Hp}
theorem RdsL.bls : ∀ {ts : List T} {bs : List Bool} {vs : List V} {n : List Addr}, RdsL K β H ts vs n → blsOf ts = some bs → vs = bs.map V.bl
  | [], is, vs, n, h, e => by simp [blsOf] at e; subst e; exact h.1
  | t :: r, is, vs, n, h, e => by
    obtain ⟨v, ws, m, k, rfl, r1, r2, rfl⟩ := h
    cases t <;> simp only [blsOf, reduceCtorEq, Option.map_eq_some_iff] at e
    obtain ⟨js, e, rfl⟩ := e
    obtain ⟨rfl, _⟩ := r1
    rw [RdsL.bls r2 e] <;> rfl
/-! ### dicts: one thing stored -/
theorem zip_nil {κ α : Type} {ks : List κ} {ws : List α} (l : ks.length = ws.length) (h : ks = []) : ws = [] := by
  subst h; exact List.length_eq_zero_iff.mp l.symm
theorem putK_keys {κ α α' : Type} [DecidableEq κ] (k : κ) (v : α) (v' : α') : ∀ {ks : List κ} {ws : List α} {us : List α'}, ks.length = ws.length → ks.length = us.length → (MP.putK k v ks ws).1 = (MP.putK k v' ks us).1
  | [], ws, us, h1, h2 => by
    rw [zip_nil h1 rfl, zip_nil h2 rfl] <;> rfl
  | a :: ks, [], us, h1, h2 => by cases h1
  | a :: ks, w :: ws, [], h1, h2 => by cases h2
  | a :: ks, w :: ws, u :: us, h1, h2 => by
    unfold MP.putK
    split
    · rfl
    · show a :: _ = a :: _
      rw [putK_keys k v v' (by simpa using h1) (by simpa using h2)]
theorem putK_len {κ α : Type} [DecidableEq κ] (k : κ) (v : α) : ∀ {ks : List κ} {ws : List α}, ks.length = ws.length → (MP.putK k v ks ws).1.length = (MP.putK k v ks ws).2.length
  | [], ws, h => by rw [zip_nil h rfl] <;> rfl
  | a :: ks, [], h => by cases h
  | a :: ks, w :: ws, h => by
    unfold MP.putK
    split
    · simpa using h
    · simpa using putK_len k v (ks := ks) (ws := ws) (by simpa using h)
theorem putK_mem {κ α : Type} [DecidableEq κ] (k : κ) (v : α) : ∀ {ks : List κ} {ws : List α}, ks.length = ws.length → ∀ a ∈ (MP.putK k v ks ws).1, a = k ∨ a ∈ ks
  | [], ws, h, a, ha => by
    rw [zip_nil h rfl] at ha
    simp [MP.putK] at ha
    exact .inl ha
  | b :: ks, [], h, a, ha => by cases h
  | b :: ks, w :: ws, h, a, ha => by
    unfold MP.putK at ha
    split at ha
    · exact .inr ha
    · rcases List.mem_cons.mp ha with rfl | ha
      · exact .inr List.mem_cons_self
      · rcases putK_mem k v (by simpa using h) a ha with z | z
        · exact .inl z
        · exact .inr (List.mem_cons_of_mem _ z)
theorem putK_nodup {κ α : Type} [DecidableEq κ] (k : κ) (v : α) : ∀ {ks : List κ} {ws : List α}, ks.length = ws.length → ks.Nodup → (MP.putK k v ks ws).1.Nodup
  | [], ws, h, _ => by rw [zip_nil h rfl]; simp [MP.putK]
  | a :: ks, [], h, _ => by cases h
  | a :: ks, w :: ws, h, nd => by
    unfold MP.putK
    split
    · exact nd
    · rename_i hne
      obtain ⟨h1, h2⟩ := List.nodup_cons.mp nd
      refine List.nodup_cons.mpr ⟨fun z => ?_, putK_nodup k v (by simpa using h) h2⟩
      rcases putK_mem k v (by simpa using h) a z with q | q
      · exact hne q.symm
      · exact h1 q
theorem putK_zip {κ : Type} [DecidableEq κ] (k : κ) (v : V) : ∀ {ks : List κ} {ws : List V}, ks.length = ws.length → ks.Nodup → L2.putK (ks.zip ws) k v = (MP.putK k v ks ws).1.zip (MP.putK k v ks ws).2
  | [], ws, h, _ => by rw [zip_nil h rfl] <;> rfl
  | a :: ks, [], h, _ => by cases h
  | a :: ks, w :: ws, h, nd => by
    obtain ⟨h1, h2⟩ := List.nodup_cons.mp nd
    have ih := putK_zip k v (ks := ks) (ws := ws) (by simpa using h) h2
    by_cases z : k = a
    · subst z
      have no : ∀ p ∈ ks.zip ws, ¬ p.1 = k := fun p hp e => h1 (e ▸ (List.of_mem_zip hp).1)
      have e1 : (ks.zip ws).map (fun kv => if kv.1 = k then (kv.1, v) else kv) = ks.zip ws := by
        conv => rhs; rw [← List.map_id (ks.zip ws)]
        exact List.map_congr_left fun p hp => by simp [no p hp]
      unfold L2.putK
      simp only [List.zip_cons_cons, List.any_cons, decide_true, Bool.true_or, if_true, List.map_cons]
      rw [e1]
      simp [MP.putK]
    · have z' : ¬ a = k := fun q => z q.symm
      have e2 : (decide (a = k)) = false := decide_eq_false z'
      unfold L2.putK at ih ⊢
      simp only [List.zip_cons_cons, List.any_cons, e2, Bool.false_or, List.map_cons, if_neg z']
      unfold MP.putK
      simp only [if_neg z, List.zip_cons_cons]
      rw [← ih]
      split <;> rfl
theorem putK_rds {κ : Type} [DecidableEq κ] (k : κ) {t : T} {v : V} {m : List Addr} (ht : Rds K β H t v m) : ∀ {ks : List κ} {ts : List T} {ws : List V} {n : List Addr}, ks.length = ws.length → RdsL K β H ts ws n →
    ∃ n', RdsL K β H (MP.putK k t ks ts).2 (MP.putK k v ks ws).2 n' ∧ (∀ a ∈ n', a ∈ n ∨ a ∈ m) ∧ ((∀ a ∈ n, a ∉ m) → n.Nodup → m.Nodup → n'.Nodup)
  | [], ts, ws, n, h, r => by
    have hw := zip_nil h rfl
    subst hw
    have l := r.length
    have ht' : ts = [] := List.length_eq_zero_iff.mp l.symm
    subst ht'
    exact ⟨m, ⟨v, [], m, [], rfl, ht, ⟨rfl, rfl⟩, by simp⟩, fun a ha => .inr ha, fun _ _ h => h⟩
  | a :: ks, ts, [], n, h, r => by cases h
  | a :: ks, [], w :: ws, n, h, r => by
    have := r.length
    cases this
  | a :: ks, u :: ts, w :: ws, n, h, r => by
    obtain ⟨w', ws', n1, n2, e, r1, r2, rfl⟩ := r
    cases e
    by_cases z : k = a
    · subst z
      refine ⟨m ++ n2, ?_, fun b hb => ?_, fun hd h1 h2 => ?_⟩
      · simp only [MP.putK, if_true]
        exact ⟨v, ws, m, n2, rfl, ht, r2, rfl⟩
      · rcases List.mem_append.mp hb with q | q
        · exact .inr q
        · exact .inl (List.mem_append_right _ q)
      · exact List.nodup_append.mpr ⟨h2, (List.nodup_append.mp h1).2.1, fun x hx y hy e => hd y (List.mem_append_right _ hy) (e ▸ hx)⟩
    · obtain ⟨n', h1, h2, h3⟩ := putK_rds k ht (ks := ks) (ts := ts) (ws := ws) (by simpa using h) r2
      refine ⟨n1 ++ n', ?_, fun b hb => ?_, fun hd g1 g2 => ?_⟩
      · simp only [MP.putK, if_neg z]
        exact ⟨w, _, n1, n', rfl, r1, h1, rfl⟩
      · rcases List.mem_append.mp hb with q | q
        · exact .inl (List.mem_append_left _ q)
        · rcases h2 b q with q | q
          · exact .inl (List.mem_append_right _ q)
          · exact .inr q
      · obtain ⟨k1, k2, k3⟩ := List.nodup_append.mp g1
        refine List.nodup_append.mpr ⟨k1, h3 (fun b hb => hd b (List.mem_append_right _ hb)) k2 g2, fun x hx y hy e => ?_⟩
        rcases h2 y hy with q | q
        · exact k3 x hx y q e
        · exact hd x (List.mem_append_left _ hx) (e ▸ q)
theorem dictGo_inv {x : T} {xs : List T} {ks : List Key} {ts : List T} {r : T} (e : dictGo (x :: xs) ks ts = some r) : ∃ k0 v0 kk, x = .tup [k0, v0] ∧ keyT k0 = some kk ∧ dictGo xs (MP.putK kk v0 ks ts).1 (MP.putK kk v0 ks ts).2 = some r := by
  cases x with
  | tup l =>
    match l, e with
    | [], e => simp [dictGo] at e
    | [_], e => simp [dictGo] at e
    | [k0, v0], e =>
      simp only [dictGo] at e
      cases q : keyT k0 with
      | none => rw [q] at e; cases e
      | some kk => rw [q] at e; exact ⟨k0, v0, kk, rfl, q, e⟩
    | _ :: _ :: _ :: _, e => simp [dictGo] at e
  | _ => simp [dictGo] at e
/-- dict(pairs): the pairs as the library reads them -/
theorem dictGo_ok : ∀ {xs : List T} {vs : List V} {n : List Addr} {ks : List Key} {ts : List T} {ws : List V} {m : List Addr} {r : T}, RdsL K β H xs vs n → RdsL K β H ts ws m → ks.length = ws.length → ks.Nodup → dictGo xs ks ts = some r →
    ∃ (ps : List Addr) (kvs : List (Key × V)) (ks' : List Key) (ts' : List T) (ws' : List V) (m' : List Addr), vs = ps.map V.ref ∧ Paired (fun p kv => SqT K H p [kV kv.1, kv.2]) ps kvs ∧ r = .dk ks' ts' ∧ RdsL K β H ts' ws' m' ∧ ks'.length = ws'.length ∧ ks'.Nodup ∧
      mergeK (ks.zip ws) kvs = ks'.zip ws' ∧ (∀ a ∈ m', a ∈ m ∨ a ∈ n) ∧ ((∀ a ∈ m, a ∉ n) → m.Nodup → n.Nodup → m'.Nodup)
  | [], vs, n, ks, ts, ws, m, r, h, h2, l, nd, e => by
    obtain ⟨rfl, rfl⟩ := h
    simp [dictGo] at e
    subst e
    exact ⟨[], [], ks, ts, ws, m, rfl, .nil, rfl, h2, l, nd, rfl, fun a ha => .inl ha, fun _ h _ => h⟩
  | x :: xs, vs, n, ks, ts, ws, m, r, h, h2, l, nd, e => by
    obtain ⟨v, us, n1, n2, rfl, r1, r2, rfl⟩ := h
    obtain ⟨k0, v0, kk, rfl, hk, e⟩ := dictGo_inv e
    obtain ⟨p, ps0, rfl, ep, rp⟩ := r1
    obtain ⟨w1, l1, q1, q2, rfl, s1, s2, rfl⟩ := rp
    obtain ⟨w2, l2, q3, q4, rfl, s3, s4, rfl⟩ := s2
    obtain ⟨rfl, rfl⟩ := s4
    have hw := key_v s1 hk
    subst hw
    have hq1 : q1 = [] := by
      cases k0 <;> simp [keyT] at hk <;> exact (show _ ∧ _ from s1).2
    subst hq1
    obtain ⟨n', g1, g2, g3⟩ := putK_rds kk s3 l h2
    have lz := putK_len kk w2 (ks := ks) (ws := ws) l
    have ek : (MP.putK kk v0 ks ts).1 = (MP.putK kk w2 ks ws).1 := putK_keys kk v0 w2 (by rw [l]; exact h2.length) l
    rw [ek] at e
    obtain ⟨ps, kvs, ks', ts', ws', m', e1, e2, e3, e4, e5, e6, e7, e8, e9⟩ := dictGo_ok r2 g1 lz (putK_nodup kk w2 l nd) e
    refine ⟨p :: ps, (kk, w2) :: kvs, ks', ts', ws', m', by rw [e1] <;> rfl, .cons (SqT.of ep) e2, e3, e4, e5, e6, ?_, fun a ha => ?_, fun hd k1 k2 => ?_⟩
    · show mergeK (L2.putK (ks.zip ws) kk w2) kvs = _
      rw [putK_zip kk w2 l nd]
      exact e7
    · simp only [List.nil_append, List.append_nil]
      rcases e8 a ha with q | q
      · rcases g2 a q with q | q
        · exact .inl q
        · exact .inr (List.mem_append_left _ q)
      · exact .inr (List.mem_append_right _ q)
    · simp only [List.nil_append, List.append_nil] at hd k2
      obtain ⟨j1, j2, j3⟩ := List.nodup_append.mp k2
      refine e9 (fun a ha hb => ?_) (g3 (fun a ha hb => hd a ha (List.mem_append_left _ hb)) k1 j1) j2
      rcases g2 a ha with q | q
      · exact hd a q (List.mem_append_right _ hb)
      · exact j3 a q a hb rfl
end
end MP

/-! C7: the built-in functions as rules. -/
namespace MP
open PySem L2
def BI.val : BI → Value
  | .len => .builtin "len" | .abs => .builtin "abs" | .int => .type "int" | .list => .type "list" | .tuple => .type "tuple" | .sorted => .builtin "sorted" | .all => .builtin "all" | .any => .builtin "any" | .sum => .builtin "sum"
  | .max1 => .builtin "max" | .min1 => .builtin "min" | .max2 => .builtin "max" | .min2 => .builtin "min" | .repr => .builtin "repr" | .dict => .type "dict"
def BI.name : BI → Str
  | .len => "len" | .abs => "abs" | .int => "int" | .list => "list" | .tuple => "tuple" | .sorted => "sorted" | .all => "all" | .any => "any" | .sum => "sum"
  | .max1 => "max" | .min1 => "min" | .max2 => "max" | .min2 => "min" | .repr => "repr" | .dict => "dict"
/-- the kids' nodes of the arguments -/
def kn1 (ts : List T) (n : List Addr) : List Addr := match ts with
  | [t] => kn t n
  | _ => n
section
variable {X : Cx}
theorem CallR.byCases {f : Value} {r : List V → Hp → VK → Prop} (h : ∀ xs H Q, r xs H Q → ∃ r', CallR X f r' ∧ r' xs H Q) : CallR X f r := fun pins s σ H xs us Q I rv q => by
  obtain ⟨r', h', q'⟩ := h xs H Q q
  exact h' pins s σ H xs us Q I rv q'
def rBI (K : PySem.W.Frag) (b : BI) : List V → Hp → VK → Prop := fun vs H Q => ∃ β ts r n, RdsL K β H ts vs n ∧ pBI b ts = some r ∧ OutN K β H true r (kn1 ts n) Q
theorem call_len_dict : CallR X (.builtin "len") (fun vs H Q => ∃ a kvs, vs = [V.ref a] ∧ H a = some (.dK kvs) ∧ Q (.int kvs.length) H) := fun pins s σ H xs us Q I rv q => by
  obtain ⟨a, kvs, rfl, e, q⟩ := q
  rw [Vals.ref1 rv]
  exact d_len I (.inl e) fun t s' I' => ⟨.int kvs.length, H, I', ⟨t, rfl⟩, q⟩
theorem call_sumT (hc : X.calm = true) : CallR X (.builtin "sum") (fun vs H Q => ∃ (a : Addr) (ns : List Int), vs = [V.ref a] ∧ SqT X.K H a (ns.map V.int) ∧ Q (.int ns.sum) H) := fun pins s σ H xs us Q I rv q => by
  obtain ⟨a, ns, rfl, e, q⟩ := q
  rw [Vals.ref1 rv]
  obtain ⟨its, r1, ht, hz⟩ := I.tuple e
  exact MPS.sumT (I.ok.hd hc) ht r1.ints fun h' tk t' hk => ⟨.int _, H, I.kept hk, ⟨_, rfl⟩, q⟩
theorem ints_data : ∀ (ns : List Int), dataOfL (ns.map T.int) = some (ns.map PyData.int)
  | [] => rfl
  | i :: ns => by simp [dataOfL, dataOf, ints_data ns]
theorem ints_alike (ns : List Int) : PySem.W.AlikeAll (ns.map PyData.int) := by
  refine ⟨fun x hx y hy => ?_, fun x hx => ?_⟩
  · obtain ⟨i, _, rfl⟩ := List.mem_map.mp hx
    obtain ⟨j, _, rfl⟩ := List.mem_map.mp hy
    rfl
  · obtain ⟨i, _, rfl⟩ := List.mem_map.mp hx
    intro z; cases z
theorem ints_depth : ∀ ns : List Int, PyData.depthAll (ns.map PyData.int) = 0
  | [] => rfl
  | i :: ns => by simp only [List.map_cons, PyData.depthAll, PyData.depth, ints_depth ns]; rfl
theorem ints_dp {K : PySem.W.Frag} {H : Hp} : ∀ ns : List Int, DpAll K H (ns.map V.int) (ns.map PyData.int)
  | [] => .nil
  | i :: ns => .cons (.int i) (ints_dp ns)
theorem reads_int {h : Heap} {v : Value} {i : Int} {as : List Addr} (r : Reads h v (.int i) as) : RelV (.int i) v := by
  cases r with
  | int i t => exact ⟨t, rfl⟩
theorem call_maxT (hc : X.calm = true) (hu : X.A.units + 1 < cLine) : CallR X (.builtin "max") (fun vs H Q => ∃ (a : Addr) (n : Int) (ns : List Int), vs = [V.ref a] ∧ SqT X.K H a ((n :: ns).map V.int) ∧ Q (.int (lmax n ns)) H) := fun pins s σ H xs us Q I rv q => by
  obtain ⟨a, n, ns, rfl, e, q⟩ := q
  rw [Vals.ref1 rv]
  obtain ⟨its, r1, ht, hz⟩ := I.tuple e
  obtain ⟨as, hr⟩ := Dp.readsAll I ((n :: ns).map PyData.int) _ its (ints_dp (n :: ns)) r1
  refine PySem.W.max_tuple_data (I.ok.hd hc) ht (x := .int n) (xs := ns.map PyData.int) (by simpa using hr) (ints_alike (n :: ns)) (by rw [show PyData.int n :: ns.map PyData.int = (n :: ns).map PyData.int from rfl, ints_depth]; exact hu) fun i v h' tk bs _ rv' hk => ?_
  rw [PySem.W.maxD_ints, ← lmax_foldl] at rv'
  exact ⟨.int _, H, I.kept hk, reads_int rv', q⟩
theorem call_minT (hc : X.calm = true) (hu : X.A.units + 1 < cLine) : CallR X (.builtin "min") (fun vs H Q => ∃ (a : Addr) (n : Int) (ns : List Int), vs = [V.ref a] ∧ SqT X.K H a ((n :: ns).map V.int) ∧ Q (.int (lmin n ns)) H) := fun pins s σ H xs us Q I rv q => by
  obtain ⟨a, n, ns, rfl, e, q⟩ := q
  rw [Vals.ref1 rv]
  obtain ⟨its, r1, ht, hz⟩ := I.tuple e
  obtain ⟨as, hr⟩ := Dp.readsAll I ((n :: ns).map PyData.int) _ its (ints_dp (n :: ns)) r1
  refine PySem.W.min_tuple_data (I.ok.hd hc) ht (x := .int n) (xs := ns.map PyData.int) (by simpa using hr) (ints_alike (n :: ns)) (by rw [show PyData.int n :: ns.map PyData.int = (n :: ns).map PyData.int from rfl, ints_depth]; exact hu) fun i v h' tk bs _ rv' hk => ?_
  rw [PySem.W.minD_ints, ← lmin_foldl] at rv'
  exact ⟨.int _, H, I.kept hk, reads_int rv', q⟩
theorem call_sortedT : CallR X (.builtin "sorted") (fun vs H Q => ∃ (a : Addr) (ns : List Int), vs = [V.ref a] ∧ SqT X.K H a (ns.map V.int) ∧ ∀ (ns' : List Int) (p : Addr), ns'.Perm ns → ns'.Pairwise (· ≤ ·) → H p = none → Q (.ref p) (upd H p (.lst (ns'.map V.int)))) := fun pins s σ H xs us Q I rv q => by
  obtain ⟨a, ns, rfl, e, q⟩ := q
  rw [Vals.ref1 rv]
  obtain ⟨its, r1, ht, hz⟩ := I.tuple e
  obtain ⟨o, ho, hcl, n, hd⟩ := ht
  refine MPS.sortedOf (.inr rfl) ho hcl hd r1.ints (by rw [← r1.length]; exact hz) fun h1 h' p out ns' ep k1 k2 hp he g1 g2 g3 => ?_
  have I1 := I.kept (t' := s.toks) k1
  have hlen : (ns'.map V.int).length ≤ sizeLine := by
    rw [List.length_map, g2.length_eq]
    rw [List.length_map] at hz
    exact hz
  exact ⟨.ref p, upd H p (.lst (ns'.map V.int)), I1.laid (t' := s.toks) k2 hp ⟨hlen, out, ep, vals_of_ints g1, he⟩, rfl, q ns' p g2 g3 (I1.hok.fresh hp)⟩
theorem call_reprD (hg : X.A.guards = some []) (hu : X.A.units + 65 < cLine) : CallR X (.builtin "repr") (fun vs H Q => ∃ v d, vs = [v] ∧ Dp X.K H v d ∧ d.canLay0 = true ∧ d.depth ≤ 60 ∧ d.showable = true ∧ d.shown.length ≤ sizeLine ∧ Q (.str d.shown) H) := fun pins s σ H xs us Q I rv q => by
  obtain ⟨v, d, rfl, hd, hl, hdp, hsh, hz, q⟩ := q
  obtain ⟨u, rfl, ru⟩ := vals1 rv
  have nd : d.hasDict = false := PyData.hasDict_of_canLay d hl
  cases hd with
  | non =>
    obtain rfl : u = Value.none := ru
    exact PySem.P.repr_of_none ⟨.str _, H, I.tok _, ⟨_, rfl⟩, q⟩
  | bl b =>
    obtain rfl : u = Value.bool b := ru
    exact PySem.P.repr_of_bool ⟨.str _, H, I.tok _, ⟨_, rfl⟩, q⟩
  | int i =>
    obtain ⟨t, rfl⟩ := ru
    exact PySem.P.repr_of_int (of_decide_eq_true hsh) ⟨.str _, H, I.tok _, ⟨_, rfl⟩, q⟩
  | str x =>
    obtain ⟨t, rfl⟩ := ru
    exact PySem.P.repr_of_str ⟨.str _, H, I.tok _, ⟨_, rfl⟩, q⟩ hz
  | @lst a xs ds h1 h2 =>
    obtain rfl : u = Value.ref a := ru
    obtain ⟨as, hr⟩ := Dp.reads I (.list ds) (.ref a) (.ref a) (.lst h1 h2) rfl
    exact PySem.repr_of_reads' hr hsh (fun z => by rw [nd] at z; cases z) hg (by omega) (fun _ _ e => e) (fun h' w' tk hk => ⟨.str _, H, I.kept hk, ⟨_, rfl⟩, q⟩) hz
  | @tup a xs ds h1 h2 =>
    obtain rfl : u = Value.ref a := ru
    obtain ⟨as, hr⟩ := Dp.reads I (.tuple ds) (.ref a) (.ref a) (.tup h1 h2) rfl
    exact PySem.repr_of_reads' hr hsh (fun z => by rw [nd] at z; cases z) hg (by omega) (fun _ _ e => e) (fun h' w' tk hk => ⟨.str _, H, I.kept hk, ⟨_, rfl⟩, q⟩) hz
theorem call_repr0 (hg : X.A.guards = some []) (hu : X.A.units + 65 < cLine) : CallR X (.builtin "repr") (fun vs H Q => ∃ a, vs = [V.ref a] ∧ H a = some (.dK []) ∧ Q (.str (PyData.dict []).shown) H) := fun pins s σ H xs us Q I rv q => by
  obtain ⟨a, rfl, e, q⟩ := q
  rw [Vals.ref1 rv]
  obtain ⟨_, hs, vs, kv, o, es, ep, ho, hx, hdat, _, hp, _⟩ := I.hok a _ e
  have hv : vs = [] := by cases kv; rfl
  subst hv
  have hes : es.toList = [] := by
    cases h : es.toList with
    | nil => rfl
    | cons x r => rw [h] at hp; cases hp
  have hr : Reads s.heap (.ref a) (.dict []) (a :: [] ++ []) := .dict ho hx.1 hdat (by rw [hes]; exact .nil) (by rw [hes]; exact .nil)
  refine PySem.repr_of_reads' hr rfl (fun _ z => ?_) hg (by show X.A.units + (0 + 1 + 1) < cLine; omega) (fun _ _ e => e) (fun h' w' tk hk => ⟨.str _, H, I.kept hk, ⟨_, rfl⟩, q⟩) (by decide +kernel)
  have z' : sysModules ∈ [a] := by simpa using z
  have : a = sysModules := by simpa using (List.mem_singleton.mp z').symm
  rw [this] at hs
  simp at hs
theorem rds1 {K : PySem.W.Frag} {β : List Addr} {H : Hp} {t : T} {vs : List V} {n : List Addr} (h : RdsL K β H [t] vs n) : ∃ v, vs = [v] ∧ Rds K β H t v n := RdsL.one.mp h
theorem rds2 {K : PySem.W.Frag} {β : List Addr} {H : Hp} {t u : T} {vs : List V} {n : List Addr} (h : RdsL K β H [t, u] vs n) : ∃ v w n1 n2, vs = [v, w] ∧ Rds K β H t v n1 ∧ Rds K β H u w n2 := by
  obtain ⟨v, ws, n1, n2, rfl, r1, r2, _⟩ := h
  obtain ⟨w, rfl, r3⟩ := rds1 r2
  exact ⟨v, w, n1, n2, rfl, r1, r3⟩
theorem subL {α : Type} {m n : List α} (h : m = n) : ∀ a ∈ m, a ∈ n := fun a ha => h ▸ ha
theorem crBI (hc : X.calm = true) (hg : X.A.guards = some []) (hu : X.A.units + 65 < cLine) (b : BI) : CallR X b.val (rBI X.K b) := CallR.byCases fun vs H Q h => by
  obtain ⟨β, ts, r, n, h1, e, q⟩ := h
  cases b with
  | len =>
    match ts, e with
    | [.lst xs], e =>
      obtain ⟨v, rfl, a, ws, m, rfl, ea, ra, rfl⟩ := rds1 h1
      simp only [pBI, Option.some.injEq] at e; subst e
      exact ⟨_, call_len_seq, a, ws, rfl, .inl (SqL.of ea), by rw [ra.length]; exact q.scal ⟨rfl, rfl⟩ rfl⟩
    | [.tup xs], e =>
      obtain ⟨v, rfl, a, ws, rfl, ea, ra⟩ := rds1 h1
      simp only [pBI, Option.some.injEq] at e; subst e
      exact ⟨_, call_len_seq, a, ws, rfl, .inr (SqT.of ea), by rw [ra.length]; exact q.scal ⟨rfl, rfl⟩ rfl⟩
    | [.str x], e =>
      obtain ⟨v, rfl, rfl, _⟩ := rds1 h1
      simp only [pBI] at e
      split at e
      · rename_i hz
        cases e
        exact ⟨_, call_len_str, x, rfl, le_line hz, q.scal ⟨rfl, rfl⟩ rfl⟩
      · cases e
    | [.dk ks xs], e =>
      obtain ⟨v, rfl, a, ws, m, rfl, ea, l, ra, rfl⟩ := rds1 h1
      simp only [pBI, Option.some.injEq] at e; subst e
      refine ⟨_, call_len_dict, a, _, rfl, ea, ?_⟩
      rw [List.length_zip, ← l.1, Nat.min_self]
      exact q.scal ⟨rfl, rfl⟩ rfl
    | [.non], e | [.bl _], e | [.int _], e | [.dt _ _], e | [.scr _], e | [.box _], e => simp [pBI] at e
    | [], e | _ :: _ :: _, e => simp [pBI] at e
  | abs =>
    match ts, e with
    | [.int i], e =>
      obtain ⟨v, rfl, rfl, _⟩ := rds1 h1
      simp only [pBI, Option.some.injEq] at e; subst e
      exact ⟨_, call_abs, i, rfl, q.scal ⟨rfl, rfl⟩ rfl⟩
    | [.non], e | [.bl _], e | [.str _], e | [.lst _], e | [.tup _], e | [.dk _ _], e | [.dt _ _], e | [.scr _], e | [.box _], e => simp [pBI] at e
    | [], e | _ :: _ :: _, e => simp [pBI] at e
  | int =>
    match ts, e with
    | [.int i], e =>
      obtain ⟨v, rfl, rfl, _⟩ := rds1 h1
      simp only [pBI, Option.some.injEq] at e; subst e
      exact ⟨_, call_int1, .inl ⟨i, rfl, q.scal ⟨rfl, rfl⟩ rfl⟩⟩
    | [.bl i], e =>
      obtain ⟨v, rfl, rfl, _⟩ := rds1 h1
      simp only [pBI, Option.some.injEq] at e; subst e
      exact ⟨_, call_int1, .inr ⟨i, rfl, q.scal ⟨rfl, rfl⟩ rfl⟩⟩
    | [.non], e | [.str _], e | [.lst _], e | [.tup _], e | [.dk _ _], e | [.dt _ _], e | [.scr _], e | [.box _], e => simp [pBI] at e
    | [], e | _ :: _ :: _, e => simp [pBI] at e
  | list =>
    match ts, e with
    | [.lst xs], e =>
      obtain ⟨v, rfl, a, ws, m, rfl, ea, ra, rfl⟩ := rds1 h1
      simp only [pBI, Option.some.injEq] at e; subst e
      exact ⟨_, call_list_of, a, ws, rfl, .inl (SqL.of ea), q.lst ra (by simp [kn1, kn, isNode]) (fun _ z => by simpa [kn1, kn, isNode] using z)⟩
    | [.tup xs], e =>
      obtain ⟨v, rfl, a, ws, rfl, ea, ra⟩ := rds1 h1
      simp only [pBI, Option.some.injEq] at e; subst e
      exact ⟨_, call_list_of, a, ws, rfl, .inr (SqT.of ea), q.lst ra (by simp [kn1, kn, isNode]) (fun _ z => by simpa [kn1, kn, isNode] using z)⟩
    | [.scr ns], e =>
      obtain ⟨v, rfl, a, rfl, rfl, hs⟩ := rds1 h1
      simp only [pBI, Option.some.injEq] at e; subst e
      have hq : SqL X.K H a (ns.map V.int) := by
        rcases hs with ⟨o, h⟩ | h
        · exact .inl (.inr ⟨o, h⟩)
        · exact .inr h
      exact ⟨_, call_list_of, a, _, rfl, .inl hq, q.lst (RdsL.ofInts ns) (by simp) (fun _ _ => List.nodup_nil)⟩
    | [.non], e | [.bl _], e | [.int _], e | [.str _], e | [.dk _ _], e | [.dt _ _], e | [.box _], e => simp [pBI] at e
    | [], e | _ :: _ :: _, e => simp [pBI] at e
  | tuple =>
    match ts, e with
    | [.lst xs], e =>
      obtain ⟨v, rfl, a, ws, m, rfl, ea, ra, rfl⟩ := rds1 h1
      simp only [pBI, Option.some.injEq] at e; subst e
      exact ⟨_, call_tuple_of, a, ws, rfl, .inl ⟨SqL.of ea, q.tup ra (by simp [kn1, kn, isNode]) (fun _ z => by simpa [kn1, kn, isNode] using z)⟩⟩
    | [.tup xs], e =>
      obtain ⟨v, rfl, a, ws, rfl, ea, ra⟩ := rds1 h1
      simp only [pBI, Option.some.injEq] at e; subst e
      exact ⟨_, call_tuple_of, a, ws, rfl, .inr ⟨SqT.of ea, q.old (m := n) ⟨a, ws, rfl, ea, ra⟩ (by simp [kn1, kn, isNode]) (fun _ z => by simpa [kn1, kn, isNode] using z)⟩⟩
    | [.non], e | [.bl _], e | [.int _], e | [.str _], e | [.dk _ _], e | [.dt _ _], e | [.scr _], e | [.box _], e => simp [pBI] at e
    | [], e | _ :: _ :: _, e => simp [pBI] at e
  | sorted =>
    match ts, e with
    | [.lst xs], e =>
      obtain ⟨v, rfl, a, ws, m, rfl, ea, ra, rfl⟩ := rds1 h1
      simp only [pBI, Option.map_eq_some_iff] at e
      obtain ⟨ns, e', rfl⟩ := e
      obtain ⟨rfl, rfl⟩ := ra.ints e'
      refine ⟨_, cr_sortedI, a, ns, rfl, SqL.of ea, fun ns' p hp hs hn => ?_⟩
      have : ns' = isort ns := sorted_uniq (hp.trans (isort_perm ns).symm) hs (isort_sorted ns)
      subst this
      exact q.lst (RdsL.ofInts (isort ns)) (by simp) (fun _ _ => List.nodup_nil) p hn
    | [.tup xs], e =>
      obtain ⟨v, rfl, a, ws, rfl, ea, ra⟩ := rds1 h1
      simp only [pBI, Option.map_eq_some_iff] at e
      obtain ⟨ns, e', rfl⟩ := e
      obtain ⟨rfl, rfl⟩ := ra.ints e'
      refine ⟨_, call_sortedT, a, ns, rfl, SqT.of ea, fun ns' p hp hs hn => ?_⟩
      have : ns' = isort ns := sorted_uniq (hp.trans (isort_perm ns).symm) hs (isort_sorted ns)
      subst this
      exact q.lst (RdsL.ofInts (isort ns)) (by simp) (fun _ _ => List.nodup_nil) p hn
    | [.non], e | [.bl _], e | [.int _], e | [.str _], e | [.dk _ _], e | [.dt _ _], e | [.scr _], e | [.box _], e => simp [pBI] at e
    | [], e | _ :: _ :: _, e => simp [pBI] at e
  | all =>
    match ts, e with
    | [.lst xs], e =>
      obtain ⟨v, rfl, a, ws, m, rfl, ea, ra, rfl⟩ := rds1 h1
      simp only [pBI, Option.map_eq_some_iff] at e
      obtain ⟨bs, e', rfl⟩ := e
      have hw := ra.bls e'
      subst hw
      exact ⟨_, cr_all hc, a, bs, rfl, SqL.of ea, q.scal ⟨rfl, rfl⟩ rfl⟩
    | [.non], e | [.bl _], e | [.int _], e | [.str _], e | [.tup _], e | [.dk _ _], e | [.dt _ _], e | [.scr _], e | [.box _], e => simp [pBI] at e
    | [], e | _ :: _ :: _, e => simp [pBI] at e
  | any =>
    match ts, e with
    | [.lst xs], e =>
      obtain ⟨v, rfl, a, ws, m, rfl, ea, ra, rfl⟩ := rds1 h1
      simp only [pBI, Option.map_eq_some_iff] at e
      obtain ⟨bs, e', rfl⟩ := e
      have hw := ra.bls e'
      subst hw
      exact ⟨_, cr_any hc, a, bs, rfl, SqL.of ea, q.scal ⟨rfl, rfl⟩ rfl⟩
    | [.non], e | [.bl _], e | [.int _], e | [.str _], e | [.tup _], e | [.dk _ _], e | [.dt _ _], e | [.scr _], e | [.box _], e => simp [pBI] at e
    | [], e | _ :: _ :: _, e => simp [pBI] at e
  | sum =>
    match ts, e with
    | [.lst xs], e =>
      obtain ⟨v, rfl, a, ws, m, rfl, ea, ra, rfl⟩ := rds1 h1
      simp only [pBI, Option.map_eq_some_iff] at e
      obtain ⟨bs, e', rfl⟩ := e
      obtain ⟨hw, _⟩ := ra.ints e'
      subst hw
      exact ⟨_, cr_sum hc, a, bs, rfl, SqL.of ea, q.scal ⟨rfl, rfl⟩ rfl⟩
    | [.tup xs], e =>
      obtain ⟨v, rfl, a, ws, rfl, ea, ra⟩ := rds1 h1
      simp only [pBI, Option.map_eq_some_iff] at e
      obtain ⟨bs, e', rfl⟩ := e
      obtain ⟨hw, _⟩ := ra.ints e'
      subst hw
      exact ⟨_, call_sumT hc, a, bs, rfl, SqT.of ea, q.scal ⟨rfl, rfl⟩ rfl⟩
    | [.non], e | [.bl _], e | [.int _], e | [.str _], e | [.dk _ _], e | [.dt _ _], e | [.scr _], e | [.box _], e => simp [pBI] at e
    | [], e | _ :: _ :: _, e => simp [pBI] at e
  | max1 =>
    match ts, e with
    | [.lst xs], e =>
      obtain ⟨v, rfl, a, ws, m, rfl, ea, ra, rfl⟩ := rds1 h1
      simp only [pBI] at e
      split at e
      · rename_i k ns e1
        cases e
        obtain ⟨hw, _⟩ := ra.ints e1
        subst hw
        obtain ⟨m1, m2⟩ := lmax_spec ns k
        refine ⟨_, cr_max hc, a, k :: ns, rfl, SqL.of ea, by simp, fun z h2 h3 => ?_⟩
        have : z = lmax k ns := Int.le_antisymm (m2 z h2) (h3 _ m1)
        subst this
        exact q.scal ⟨rfl, rfl⟩ rfl
      · cases e
    | [.tup xs], e =>
      obtain ⟨v, rfl, a, ws, rfl, ea, ra⟩ := rds1 h1
      simp only [pBI] at e
      split at e
      · rename_i k ns e1
        cases e
        obtain ⟨hw, _⟩ := ra.ints e1
        subst hw
        exact ⟨_, call_maxT hc (by omega), a, k, ns, rfl, SqT.of ea, q.scal ⟨rfl, rfl⟩ rfl⟩
      · cases e
    | [.non], e | [.bl _], e | [.int _], e | [.str _], e | [.dk _ _], e | [.dt _ _], e | [.scr _], e | [.box _], e => simp [pBI] at e
    | [], e | _ :: _ :: _, e => simp [pBI] at e
  | min1 =>
    match ts, e with
    | [.lst xs], e =>
      obtain ⟨v, rfl, a, ws, m, rfl, ea, ra, rfl⟩ := rds1 h1
      simp only [pBI] at e
      split at e
      · rename_i k ns e1
        cases e
        obtain ⟨hw, _⟩ := ra.ints e1
        subst hw
        obtain ⟨m1, m2⟩ := lmin_spec ns k
        refine ⟨_, cr_min hc, a, k :: ns, rfl, SqL.of ea, by simp, fun z h2 h3 => ?_⟩
        have : z = lmin k ns := Int.le_antisymm (h3 _ m1) (m2 z h2)
        subst this
        exact q.scal ⟨rfl, rfl⟩ rfl
      · cases e
    | [.tup xs], e =>
      obtain ⟨v, rfl, a, ws, rfl, ea, ra⟩ := rds1 h1
      simp only [pBI] at e
      split at e
      · rename_i k ns e1
        cases e
        obtain ⟨hw, _⟩ := ra.ints e1
        subst hw
        exact ⟨_, call_minT hc (by omega), a, k, ns, rfl, SqT.of ea, q.scal ⟨rfl, rfl⟩ rfl⟩
      · cases e
    | [.non], e | [.bl _], e | [.int _], e | [.str _], e | [.dk _ _], e | [.dt _ _], e | [.scr _], e | [.box _], e => simp [pBI] at e
    | [], e | _ :: _ :: _, e => simp [pBI] at e
  | max2 =>
    match ts, e with
    | [.int i, .int j], e =>
      obtain ⟨v, w, n1, n2, rfl, ⟨rfl, _⟩, ⟨rfl, _⟩⟩ := rds2 h1
      simp only [pBI, Option.some.injEq] at e; subst e
      exact ⟨_, call_max2 hc, i, j, rfl, q.scal ⟨rfl, rfl⟩ rfl⟩
    | [], e | [_], e | _ :: _ :: _ :: _, e => simp [pBI] at e
    | [t, u], e =>
      cases t <;> cases u <;> simp only [pBI, reduceCtorEq] at e
      obtain ⟨v, w, n1, n2, rfl, ⟨rfl, _⟩, ⟨rfl, _⟩⟩ := rds2 h1
      simp only [Option.some.injEq] at e; subst e
      exact ⟨_, call_max2 hc, _, _, rfl, q.scal ⟨rfl, rfl⟩ rfl⟩
  | min2 =>
    match ts, e with
    | [.int i, .int j], e =>
      obtain ⟨v, w, n1, n2, rfl, ⟨rfl, _⟩, ⟨rfl, _⟩⟩ := rds2 h1
      simp only [pBI, Option.some.injEq] at e; subst e
      exact ⟨_, call_min2 hc, i, j, rfl, q.scal ⟨rfl, rfl⟩ rfl⟩
    | [], e | [_], e | _ :: _ :: _ :: _, e => simp [pBI] at e
    | [t, u], e =>
      cases t <;> cases u <;> simp only [pBI, reduceCtorEq] at e
      obtain ⟨v, w, n1, n2, rfl, ⟨rfl, _⟩, ⟨rfl, _⟩⟩ := rds2 h1
      simp only [Option.some.injEq] at e; subst e
      exact ⟨_, call_min2 hc, _, _, rfl, q.scal ⟨rfl, rfl⟩ rfl⟩
  | repr =>
    match ts, e with
    | [], e | _ :: _ :: _, e => simp [pBI] at e
    | [t], e =>
      obtain ⟨v, rfl, rt⟩ := rds1 h1
      have main : (if datum 40 t then (match dataOf t with | some d => if d.showable && Nat.ble d.shown.length line then some (T.str d.shown) else none | none => none) else none) = some r →
          ∃ r', CallR X BI.repr.val r' ∧ r' [v] H Q := fun e => by
        split at e
        · rename_i hd
          split at e
          · rename_i d hdd
            split at e
            · rename_i hc2
              cases e
              simp only [Bool.and_eq_true] at hc2
              obtain ⟨p, d1, c1, l1, e1⟩ := datum_dp t rt hd
              rw [hdd] at e1
              cases e1
              exact ⟨_, call_reprD hg hu, v, d, rfl, d1, c1, by omega, hc2.1, le_line hc2.2, q.scal ⟨rfl, rfl⟩ rfl⟩
            · cases e
          · cases e
        · cases e
      cases t with
      | dk ks xs =>
        cases ks with
        | nil =>
          obtain ⟨a, ws, m, rfl, ea, l, ra, rfl⟩ := rt
          have hw := zip_nil l.1 rfl
          subst hw
          simp only [pBI, Option.some.injEq] at e; subst e
          exact ⟨_, call_repr0 hg hu, a, rfl, ea, q.scal ⟨rfl, rfl⟩ rfl⟩
        | cons k ks => exact main e
      | _ => exact main e
  | dict =>
    match ts, e with
    | [.lst xs], e =>
      obtain ⟨v, rfl, a, ws, m, rfl, ea, ra, rfl⟩ := rds1 h1
      simp only [pBI, dictOf] at e
      obtain ⟨ps, kvs, ks', ts', ws', m', rfl, e2, rfl, e4, e5, e6, e7, e8, e9⟩ := dictGo_ok (ks := []) (ts := []) (ws := []) (m := []) ra ⟨rfl, rfl⟩ rfl List.nodup_nil e
      have e7' : mergeK [] kvs = ks'.zip ws' := e7
      refine ⟨_, call_dictP hc, a, ps, kvs, rfl, SqL.of ea, e2, fun p hp => ?_⟩
      rw [e7']
      have k1 : New1 H (upd H p (.dK (ks'.zip ws'))) := .inr ⟨p, _, hp, rfl⟩
      refine q _ _ (p :: m') k1 ⟨p, ws', m', rfl, upd_same, ⟨e5, e6⟩, e4.new k1, rfl⟩ ⟨m', fun b hb => ?_, fun _ z => ?_, .inr ⟨p, hp, rfl⟩⟩
      · rcases e8 b hb with z | z
        · cases z
        · simpa [kn1, kn, isNode] using z
      · exact e9 (fun _ z => by cases z) List.nodup_nil (by simpa [kn1, kn, isNode] using z)
    | [.non], e | [.bl _], e | [.int _], e | [.str _], e | [.tup _], e | [.dk _ _], e | [.dt _ _], e | [.scr _], e | [.box _], e => simp [pBI] at e
    | [], e | _ :: _ :: _, e => simp [pBI] at e
end
end MP

/-! C8: readings from the evaluator; the rules for expressions, one by one. -/
namespace MP
open PySem L2

/-- what the program is: the slots' kinds, the defs, the error classes -/
structure Cf where
  g : Sg
  F : Fns
  at_ : Nat → Str
  cl : Nat → Addr
def Sat {α : Type} (r : Res α) (P : α → Mem → Prop) (E : Nat → T → Mem → Prop) : Prop := match r with
  | .ok a μ => P a μ
  | .exc c t μ => E c t μ
  | .stuck => False
theorem Sat_bind {α β : Type} {r : Res α} {f : α → Mem → Res β} {P : β → Mem → Prop} {E : Nat → T → Mem → Prop} (h : Sat (r.bind f) P E) : Sat r (fun a μ => Sat (f a μ) P E) E := by cases r <;> exact h
theorem Sat.mono {α : Type} {r : Res α} {P P' : α → Mem → Prop} {E E' : Nat → T → Mem → Prop} (h : Sat r P E) (hp : ∀ a μ, P a μ → P' a μ) (he : ∀ c t μ, E c t μ → E' c t μ) : Sat r P' E' := by
  cases r with
  | ok a μ => exact hp a μ h
  | exc c t μ => exact he c t μ h
  | stuck => exact h
theorem Sat_opt {α : Type} {o : Option α} {μ : Mem} {P : α → Mem → Prop} {E : Nat → T → Mem → Prop} (h : Sat (opt o μ) P E) : ∃ a, o = some a ∧ P a μ := by
  cases o with
  | some a => exact ⟨a, rfl, h⟩
  | none => exact False.elim h
theorem Sat_if {α : Type} {b : Bool} {r : Res α} {P : α → Mem → Prop} {E : Nat → T → Mem → Prop} (h : Sat (if b = true then r else .stuck) P E) : b = true ∧ Sat r P E := by
  cases b with
  | true => exact ⟨rfl, h⟩
  | false => exact False.elim h
/-- the wish about an exception -/
def XW (C : Cf) (K : PySem.W.Frag) (β : List Addr) (bn : Nat → List Addr) (H : Hp) (W : Value → Option Addr → Hp → Prop) : Nat → T → Mem → Prop := fun c t μ' =>
  ∀ d v H' bn' n, H d = none → H' d = some (.xd [(C.at_ c, v)]) → Step K β bn H H' μ' bn' → Rds K β H' t v n → (∀ a ∈ n, ¬ Bx β bn' a) → W (.ref (C.cl c)) (some d) H'
theorem XW.step {C : Cf} {K : PySem.W.Frag} {β : List Addr} {bn bn1 : Nat → List Addr} {H H1 : Hp} {μ1 : Mem} {W : Value → Option Addr → Hp → Prop} {c : Nat} {t : T} {μ : Mem} (s : Step K β bn H H1 μ1 bn1) (h : XW C K β bn H W c t μ) : XW C K β bn1 H1 W c t μ :=
  fun d v H' bn' n h0 h1 s' r nb => h d v H' bn' n (s.keep.more d h0) h1 (s.trans s') r nb
/-- an expression's reading -/
def tE (C : Cf) (K : PySem.W.Frag) (W : WX) (ie : IE) : TE := fun σ H Q => ∃ ρ μ β ns bn, ESt K C.g β H ρ σ μ ns bn ∧
  Sat (evE C.F ρ ie μ) (fun t μ' => ∀ v H' bn' n, Step K β bn H H' μ' bn' → Val K β bn' ns H H' (info C.g ie) t v n → Q v H') (XW C K β bn H fun c d H' => W c d σ H')
/-- a list of expressions, any evaluator of them -/
def tLs (C : Cf) (K : PySem.W.Frag) (W : WX) (ev : Env → Mem → Res (List T)) (i : Inf) : TA := fun σ H Q => ∃ ρ μ β ns bn, ESt K C.g β H ρ σ μ ns bn ∧
  Sat (ev ρ μ) (fun ts μ' => ∀ vs H' bn' n, Step K β bn H H' μ' bn' → Vls K β bn' ns H H' i ts vs n → Q vs H') (XW C K β bn H fun c d H' => W c d σ H')
/-- a test's reading -/
def tT (C : Cf) (K : PySem.W.Frag) (W : WX) (ie : IE) : TT := fun σ H Q => ∃ ρ μ β ns bn, ESt K C.g β H ρ σ μ ns bn ∧
  Sat (evE C.F ρ ie μ) (fun t μ' => ∃ b, t = .bl b ∧ ∀ H' bn', Step K β bn H H' μ' bn' → Q b H') (XW C K β bn H fun c d H' => W c d σ H')
section
variable {C : Cf} {K : PySem.W.Frag} {W : WX} {β : List Addr} {H : Hp} {ρ : Env} {σ : St} {μ : Mem} {ns bn : Nat → List Addr}
theorem use {ie : IE} {Q : VK} {P : T → Mem → Prop} (S : ESt K C.g β H ρ σ μ ns bn) (h : Sat (evE C.F ρ ie μ) P (XW C K β bn H fun c d H' => W c d σ H'))
    (k : ∀ t μ' v H' bn' n, P t μ' → Step K β bn H H' μ' bn' → Val K β bn' ns H H' (info C.g ie) t v n → Q v H') : tE C K W ie σ H Q :=
  ⟨ρ, μ, β, ns, bn, S, h.mono (fun t μ' p v H' bn' n s x => k t μ' v H' bn' n p s x) fun _ _ _ e => e⟩
theorem useL {ev : Env → Mem → Res (List T)} {i : Inf} {Q : List V → Hp → Prop} {P : List T → Mem → Prop} (S : ESt K C.g β H ρ σ μ ns bn) (h : Sat (ev ρ μ) P (XW C K β bn H fun c d H' => W c d σ H'))
    (k : ∀ ts μ' vs H' bn' n, P ts μ' → Step K β bn H H' μ' bn' → Vls K β bn' ns H H' i ts vs n → Q vs H') : tLs C K W ev i σ H Q :=
  ⟨ρ, μ, β, ns, bn, S, h.mono (fun t μ' p v H' bn' n s x => k t μ' v H' bn' n p s x) fun _ _ _ e => e⟩
theorem useT {ie : IE} {Q : Bool → Hp → Prop} {P : T → Mem → Prop} (S : ESt K C.g β H ρ σ μ ns bn) (h : Sat (evE C.F ρ ie μ) P (XW C K β bn H fun c d H' => W c d σ H'))
    (kb : ∀ t μ', P t μ' → ∃ b, t = .bl b) (k : ∀ b μ' H' bn', P (.bl b) μ' → Step K β bn H H' μ' bn' → Q b H') : tT C K W ie σ H Q :=
  ⟨ρ, μ, β, ns, bn, S, h.mono (fun t μ' p => by
    obtain ⟨b, rfl⟩ := kb t μ' p
    exact ⟨b, rfl, fun H' bn' s => k b μ' H' bn' p s⟩) fun _ _ _ e => e⟩
/-- what follows at a later heap -/
theorem Sat.later {α : Type} {r : Res α} {P : α → Mem → Prop} {H1 : Hp} {bn1 : Nat → List Addr} {μ1 : Mem} {Ws : Value → Option Addr → Hp → Prop} (s : Step K β bn H H1 μ1 bn1) (h : Sat r P (XW C K β bn H Ws)) : Sat r P (XW C K β bn1 H1 Ws) :=
  h.mono (fun _ _ p => p) fun _ _ _ e => e.step s
end
section
variable {X : Cx}
theorem _root_.L2.PE.weak {e : Expr} {t t' : TE} (h : PE X e t) (w : ∀ σ H Q, t' σ H Q → t σ H Q) : PE X e t' := ⟨fun pins s σ H Q I q => h.run pins s σ H Q I (w σ H Q q)⟩
theorem _root_.L2.PT.weak {e : Expr} {t t' : TT} (h : PT X e t) (w : ∀ σ H Q, t' σ H Q → t σ H Q) : PT X e t' := ⟨fun pins s σ H Q I q => h.run pins s σ H Q I (w σ H Q q)⟩
theorem _root_.L2.PW.weak {e : Expr} {t t' : TT} (h : PW X e t) (w : ∀ σ H Q, t' σ H Q → t σ H Q) : PW X e t' := ⟨fun wh pins s σ H Q I q => h.run wh pins s σ H Q I (w σ H Q q)⟩
theorem _root_.L2.PA.weak {es : List Expr} {t t' : TA} (h : PA X es t) (w : ∀ σ H Q, t' σ H Q → t σ H Q) : PA X es t' := ⟨fun pos pins s σ H Q I q => h.run pos pins s σ H Q I (w σ H Q q)⟩
theorem _root_.L2.PS.weak {st : Stmt} {t t' : TS} (h : PS X st t) (w : ∀ D σ H, t' D σ H → t D σ H) : PS X st t' := ⟨fun pins s σ H D I q => h.run pins s σ H D I (w D σ H q)⟩
theorem _root_.L2.PSs.weak {st : List Stmt} {t t' : TS} (h : PSs X st t) (w : ∀ D σ H, t' D σ H → t D σ H) : PSs X st t' := ⟨fun pins s σ H D I q => h.run pins s σ H D I (w D σ H q)⟩
end
/-! ### values behind boxes -/
section
variable {K : PySem.W.Frag} {g : Sg} {β : List Addr} {H H1 : Hp} {ρ : Env} {σ : St} {μ μ1 : Mem} {ns bn bn1 : Nat → List Addr} {i : Inf} {t : T} {v : V} {n : List Addr}
/-- the children's nodes lean on what kidI tells -/
structure Kid (ns bn1 : Nat → List Addr) (β : List Addr) (H : Hp) (i : Inf) (m : List Addr) : Prop where
  nb : ∀ a ∈ m, ¬ Bx β bn1 a
  src : ∀ a ∈ m, H a = none ∨ (∃ j ∈ i.dp, a ∈ ns j) ∨ (∃ j ∈ i.dc, a ∈ (ns j).drop 1)
  lin : i.lin = true → m.Nodup
theorem Kid.nil : Kid ns bn1 β H i [] where
  nb := fun _ z => by cases z
  src := fun _ z => by cases z
  lin := fun _ => List.nodup_nil
theorem kn_sub (t : T) (n : List Addr) : (kn t n).Sublist n := by
  unfold kn
  split
  · exact List.drop_sublist 1 n
  · exact List.Sublist.refl n
theorem Val.kid (x : Val K β bn1 ns H H1 i t v n) : Kid ns bn1 β H (kidI g i) (kn t n) := by
  have sub := (kn_sub t n).subset
  cases e : i.self with
  | none =>
    have ek : kidI g i = ⟨i.dp, i.dc, i.lin, false, none⟩ := by unfold kidI; rw [e]
    rw [ek]
    exact ⟨fun a ha => x.nb a (sub ha), fun a ha => x.ok.src a (sub ha), fun h => (x.ok.lin h).sublist (kn_sub t n)⟩
  | some j =>
    have ek : kidI g i = ⟨[], [j], false, false, none⟩ := by unfold kidI; rw [e]
    rw [ek]
    obtain ⟨en, ht⟩ := x.ok.self j e
    rcases ht with ht | ht
    · refine ⟨fun a ha => x.nb a (sub ha), fun a ha => .inr (.inr ⟨j, by simp, ?_⟩), fun h => by cases h⟩
      unfold kn at ha
      rw [if_pos ht, en] at ha
      exact ha
    · have e0 : kn t n = [] := List.eq_nil_of_subset_nil (fun a ha => ht ▸ sub ha)
      rw [e0]
      exact Kid.nil
mutual
theorem nodeless_kids : ∀ (t : T) {v : V} {n : List Addr}, Rds K β H t v n → nodelessL (kidsOf t) = true → kn t n = []
  | .non, v, n, h, _ => by obtain ⟨_, rfl⟩ := h; rfl
  | .bl _, v, n, h, _ => by obtain ⟨_, rfl⟩ := h; rfl
  | .int _, v, n, h, _ => by obtain ⟨_, rfl⟩ := h; rfl
  | .str _, v, n, h, _ => by obtain ⟨_, rfl⟩ := h; rfl
  | .lst xs, v, n, h, e => by obtain ⟨a, vs, m, _, _, r, rfl⟩ := h; show m = []; exact r.nil _ e
  | .tup xs, v, n, h, e => by obtain ⟨a, vs, _, _, r⟩ := h; show n = []; exact r.nil _ e
  | .dk _ xs, v, n, h, e => by obtain ⟨a, vs, m, _, _, _, r, rfl⟩ := h; show m = []; exact r.nil _ e
  | .dt _ xs, v, n, h, e => by obtain ⟨a, vs, m, _, _, _, r, rfl⟩ := h; show m = []; exact r.nil _ e
  | .scr _, v, n, h, _ => by obtain ⟨_, _, rfl, _⟩ := h; rfl
  | .box _, v, n, h, _ => by obtain ⟨_, _, _, rfl⟩ := h; rfl
end
/-- a value as it is seen through its box -/
theorem view_ok (b : BoxOk K β H1 μ1 bn1) (x : Val K β bn1 ns H H1 i t v n) :
    ∃ n', Rds K β H1 (view μ1 t) v n' ∧ (∀ k, view μ1 t ≠ .box k) ∧ (kidsOk t (kidsOf (view μ1 t)) = true → Kid ns bn1 β H (kidI g i) (kn (view μ1 t) n') ∧ ∀ a ∈ kn (view μ1 t) n', a ∈ n) := by
  cases t with
  | box k =>
    obtain ⟨a, rfl, e, rfl⟩ := x.rd
    have hk : k < μ1.length := by rw [← b.len]; exact (List.getElem?_eq_some_iff.mp e).1
    obtain ⟨a', e', r, bl, _⟩ := b.rd k μ1[k] (List.getElem?_eq_getElem hk)
    rw [e] at e'; cases e'
    have ev : view μ1 (.box k) = μ1[k] := by simp [view, List.getElem?_eq_getElem hk]
    rw [ev]
    refine ⟨bn1 k, r, fun j z => ?_, fun ok => ?_⟩
    · rw [z] at bl; cases bl
    · have := nodeless_kids _ r ok
      rw [this]
      exact ⟨Kid.nil, fun _ z => by cases z⟩
  | _ => exact ⟨n, x.rd, fun k z => (by cases z), fun _ => ⟨x.kid, (kn_sub _ n).subset⟩⟩
/-- a value out of OutN: nodes out of the children of one -/
theorem Kid.val {r : T} {w : V} {H' : Hp} {m k nn : List Addr} {j : Inf} {nd : Bool} (kd : Kid ns bn1 β H j m) (hs : Step K β bn H H1 μ1 bn1) (kk : Keeps (fun _ => False) H1 H') (rd : Rds K β H' r w nn) (h1 : ∀ a ∈ k, a ∈ m) (h2 : nd = true → m.Nodup → k.Nodup)
    (h3 : (isNode r = false ∧ nn = k) ∨ ∃ p, H1 p = none ∧ nn = p :: k) (tr : ∀ a ∈ m, H1 a ≠ none) (hb : ∀ a, H1 a = none → ¬ Bx β bn1 a) : Val K β bn1 ns H H' ⟨j.dp, j.dc, nd && j.lin, true, none⟩ r w nn where
  rd := rd
  nb := fun a ha => by
    rcases h3 with ⟨_, rfl⟩ | ⟨p, hp, rfl⟩
    · exact kd.nb a (h1 a ha)
    · rcases List.mem_cons.mp ha with rfl | ha
      · exact hb a hp
      · exact kd.nb a (h1 a ha)
  ok := {
    src := fun a ha => by
      rcases h3 with ⟨_, rfl⟩ | ⟨p, hp, rfl⟩
      · exact kd.src a (h1 a ha)
      · rcases List.mem_cons.mp ha with rfl | ha
        · exact .inl (hs.keep.more a hp)
        · exact kd.src a (h1 a ha)
    lin := fun e => by
      have e' : nd = true ∧ j.lin = true := by simpa using e
      have hk : k.Nodup := h2 e'.1 (kd.lin e'.2)
      rcases h3 with ⟨_, rfl⟩ | ⟨p, hp, rfl⟩
      · exact hk
      · exact List.nodup_cons.mpr ⟨fun z => tr p (h1 p z) hp, hk⟩
    top := fun _ en => by
      rcases h3 with ⟨e, _⟩ | ⟨p, hp, rfl⟩
      · rw [en] at e; cases e
      · exact ⟨p, k, rfl, hs.keep.more p hp, fun z => tr p (h1 p z) hp⟩
    self := fun j z => by cases z }
/-- a new thing is no box's -/
theorem BoxOk.fresh (b : BoxOk K β H1 μ1 bn1) (a : Addr) (h : H1 a = none) : ¬ Bx β bn1 a := fun z => by
  obtain ⟨o, e, _⟩ := b.node z
  rw [e] at h; cases h
theorem Step.new1 {H' : Hp} (b : BoxOk K β H μ bn) (h : New1 H H') : Step K β bn H H' μ bn := by
  rcases h with rfl | ⟨p, o, hp, rfl⟩
  · exact Step.refl b
  · exact Step.new b hp
end
end MP

/-! C9: the rules for expressions, one by one. -/
namespace MP
open PySem L2

section
variable {K : PySem.W.Frag} {g : Sg} {β : List Addr} {H H1 H2 H' : Hp} {ρ : Env} {σ : St} {μ μ1 μ2 : Mem} {ns bn bn1 bn2 bn' : Nat → List Addr} {i i' j : Inf} {t r : T} {v : V} {n : List Addr}
theorem nodeless_isNode {t : T} (h : nodeless t = true) : isNode t = false := by cases t <;> first | rfl | cases h
theorem Val.imm (rd : Rds K β H' t v n) (nl : nodeless t = true) (hs : i.self = none) : Val K β bn' ns H H' i t v n := by
  have := rd.nil _ nl
  subst this
  exact ⟨rd, (fun _ z => by cases z), Good.nil (nodeless_isNode nl) hs⟩
theorem Val.imp (x : Val K β bn' ns H H' i t v n) (hd : ∀ l ∈ i.dp, l ∈ i'.dp) (hc : ∀ l ∈ i.dc, l ∈ i'.dc) (hl : i'.lin = true → i.lin = true) (ht : i'.top = true → i.top = true) (hs : i'.self = none) : Val K β bn' ns H H' i' t v n where
  rd := x.rd
  nb := x.nb
  ok := {
    src := fun a ha => by
      rcases x.ok.src a ha with z | ⟨k, k1, k2⟩ | ⟨k, k1, k2⟩
      · exact .inl z
      · exact .inr (.inl ⟨k, hd k k1, k2⟩)
      · exact .inr (.inr ⟨k, hc k k1, k2⟩)
    lin := fun z => x.ok.lin (hl z)
    top := fun z => x.ok.top (ht z)
    self := fun k z => by rw [hs] at z; cases z }
theorem fin_out {nd : Bool} {ks : List Addr} {Q : VK} (b2 : BoxOk K β H2 μ2 bn2) (s : Step K β bn H H2 μ2 bn2) (kd : Kid ns bn2 β H j ks) (tr : ∀ a ∈ ks, H2 a ≠ none) (hd : ∀ l ∈ j.dp, l ∈ i.dp) (hc : ∀ l ∈ j.dc, l ∈ i.dc) (hl : i.lin = true → nd = true ∧ j.lin = true) (hs : i.self = none)
    (q : ∀ v H' bn' n, Step K β bn H H' μ2 bn' → Val K β bn' ns H H' i r v n → Q v H') : OutN K β H2 nd r ks Q := fun v H' n n1 rd ⟨k, h1, h2, h3⟩ =>
  q v H' bn2 n (s.trans (Step.new1 b2 n1)) ((Kid.val kd s (keepsN n1) rd h1 h2 h3 tr fun a z => b2.fresh a z).imp hd hc (fun z => by simpa using hl z) (fun _ => rfl) hs)
theorem fin_imm {nd : Bool} {ks : List Addr} {Q : VK} (b2 : BoxOk K β H2 μ2 bn2) (s : Step K β bn H H2 μ2 bn2) (nl : nodeless r = true) (hs : i.self = none)
    (q : ∀ v H' bn' n, Step K β bn H H' μ2 bn' → Val K β bn' ns H H' i r v n → Q v H') : OutN K β H2 nd r ks Q := fun v H' n n1 rd _ =>
  q v H' bn2 n (s.trans (Step.new1 b2 n1)) (Val.imm rd nl hs)
theorem kid_trk {a : Addr} (rd : Rds K β H t v n) (h : a ∈ kn t n) : H a ≠ none := fun z => by
  obtain ⟨o, e, _⟩ := rd.node t a ((kn_sub t n).subset h)
  rw [e] at z; cases z
/-- two parts' children: those of the second were made behind the first -/
theorem Kid.join {m1 m2 : List Addr} (S : ESt K g β H ρ σ μ ns bn) (s1 : Step K β bn H H1 μ1 bn1) (x : Kid ns bn2 β H i m1) (y : Kid ns bn2 β H1 j m2) (tx : ∀ a ∈ m1, H1 a ≠ none) : Kid ns bn2 β H (i.join g j) (m1 ++ m2) where
  nb := fun a ha => by
    rcases List.mem_append.mp ha with ha | ha
    · exact x.nb a ha
    · exact y.nb a ha
  src := fun a ha => by
    rcases List.mem_append.mp ha with ha | ha
    · rcases x.src a ha with h | ⟨k, h1, h2⟩ | ⟨k, h1, h2⟩
      · exact .inl h
      · exact .inr (.inl ⟨k, List.mem_append_left _ h1, h2⟩)
      · exact .inr (.inr ⟨k, List.mem_append_left _ h1, h2⟩)
    · rcases y.src a ha with h | ⟨k, h1, h2⟩ | ⟨k, h1, h2⟩
      · exact .inl (s1.keep.more a h)
      · exact .inr (.inl ⟨k, List.mem_append_right _ h1, h2⟩)
      · exact .inr (.inr ⟨k, List.mem_append_right _ h1, h2⟩)
  lin := fun e => by
    have e' : (i.lin && j.lin && i.dc.isEmpty && j.dc.isEmpty && disj i.dp j.dp && i.dp.all (fun k => g.k k == .D) && j.dp.all (fun k => g.k k == .D)) = true := e
    simp only [Bool.and_eq_true] at e'
    obtain ⟨⟨⟨⟨⟨⟨h1, h2⟩, h3⟩, h4⟩, h5⟩, h6⟩, h7⟩ := e'
    have kd : ∀ k ∈ i.dp, g.k k = .D := fun k hk => by simpa using List.all_eq_true.mp h6 k hk
    have kd' : ∀ k ∈ j.dp, g.k k = .D := fun k hk => by simpa using List.all_eq_true.mp h7 k hk
    refine List.nodup_append.mpr ⟨x.lin h1, y.lin h2, fun a ha b hb z => ?_⟩
    subst z
    have nodc : ∀ {l : List Nat}, l.isEmpty = true → ∀ k, k ∉ l := fun h k hk => by rw [List.isEmpty_iff.mp h] at hk; cases hk
    rcases y.src a hb with z | ⟨k, k1, k2⟩ | ⟨k, k1, _⟩
    · exact tx a ha z
    · rcases x.src a ha with z | ⟨l, l1, l2⟩ | ⟨l, l1, _⟩
      · obtain ⟨o, q, _⟩ := S.node k2
        rw [q] at z; cases z
      · have hne : l ≠ k := fun z => mem_disj h5 l1 (z ▸ k1)
        exact S.dd l k hne (kd l l1) (kd' k k1) a l2 k2
      · exact nodc h3 l l1
    · exact nodc h4 k k1
theorem Kid.mix {m1 m2 : List Addr} (s1 : Step K β bn H H1 μ1 bn1) (x : Kid ns bn2 β H i m1) (y : Kid ns bn2 β H1 j m2) : Kid ns bn2 β H (i.mix j) (m1 ++ m2) where
  nb := fun a ha => by
    rcases List.mem_append.mp ha with ha | ha
    · exact x.nb a ha
    · exact y.nb a ha
  src := fun a ha => by
    rcases List.mem_append.mp ha with ha | ha
    · rcases x.src a ha with h | ⟨k, h1, h2⟩ | ⟨k, h1, h2⟩
      · exact .inl h
      · exact .inr (.inl ⟨k, List.mem_append_left _ h1, h2⟩)
      · exact .inr (.inr ⟨k, List.mem_append_left _ h1, h2⟩)
    · rcases y.src a ha with h | ⟨k, h1, h2⟩ | ⟨k, h1, h2⟩
      · exact .inl (s1.keep.more a h)
      · exact .inr (.inl ⟨k, List.mem_append_right _ h1, h2⟩)
      · exact .inr (.inr ⟨k, List.mem_append_right _ h1, h2⟩)
  lin := fun e => by cases e
/-- a list, a tuple that is gone through -/
theorem seq_ok {ts : List T} (h : Rds K β H t v n) (e : seqOf t = some ts) : ∃ p vs, v = .ref p ∧ (SqT K H p vs ∨ SqL K H p vs) ∧ RdsL K β H ts vs (kn t n) := by
  cases t <;> simp only [seqOf, reduceCtorEq, Option.some.injEq] at e
  · subst e
    obtain ⟨a, vs, m, rfl, ea, r, rfl⟩ := h
    exact ⟨a, vs, rfl, .inr (SqL.of ea), r⟩
  · subst e
    obtain ⟨a, vs, rfl, ea, r⟩ := h
    exact ⟨a, vs, rfl, .inl (SqT.of ea), r⟩
  · subst e
    obtain ⟨a, rfl, rfl, h⟩ := h
    refine ⟨a, _, rfl, .inr ?_, RdsL.ofInts _⟩
    rcases h with ⟨o, h⟩ | ⟨o, its, m, h1, h2, h3, h4, h5, h6⟩
    · exact .inl (.inr ⟨o, h⟩)
    · exact .inr ⟨o, its, m, h1, h2, h3, h4, h5, h6⟩
theorem kidsOf_seq {ts : List T} (e : seqOf t = some ts) (h : kidsOk r ts = true) : kidsOk r (kidsOf t) = true := by
  cases t <;> simp only [seqOf, reduceCtorEq, Option.some.injEq] at e
  · subst e; exact h
  · subst e; exact h
  · cases r <;> rfl
end
section
variable {X : Cx} {C : Cf} {W : WX} {a b c : Expr} {x y z : IE} {pos : Pos}
theorem e_var {i : Nat} {nm : Str} (hN : X.N[i]? = some nm) (hv : Vis X.env.scope nm) (hd : (nm == ("__debug__" : Str)) = false) (hcd : (nm == ("__classdict__" : Str)) = false) : PE X (.Name nm pos) (tE C X.K W (.var i)) := (pe_var hN hv hd hcd).weak fun σ H Q h => by
  obtain ⟨ρ, μ, β, ns, bn, S, h⟩ := h
  obtain ⟨t, e, q⟩ := Sat_opt h
  obtain ⟨v, e1, r⟩ := S.sl i t e
  refine ⟨v, e1, q v H bn (ns i) (Step.refl S.box) ⟨r, S.sb i, ?_⟩⟩
  refine ⟨fun a ha => .inr (.inl ⟨i, List.mem_singleton.mpr rfl, ha⟩), fun z => S.dn i (by simpa [info] using z), (fun z => by cases z), fun j z => ?_⟩
  have z' : (if C.g.k i = .P then some i else none) = some j := z
  split at z'
  · rename_i hp
    cases z'
    exact ⟨rfl, S.pk i t hp e⟩
  · cases z'
theorem e_cst {t : T} {v : V} {e : Expr} (h : PE X e (tC v)) (rd : ∀ β H, Rds X.K β H t v []) (nl : nodeless t = true) : PE X e (tE C X.K W (.cst t)) := h.weak fun σ H Q h => by
  obtain ⟨ρ, μ, β, ns, bn, S, h⟩ := h
  exact h v H bn [] (Step.refl S.box) (Val.imm (rd β H) nl rfl)
theorem e_un (ha : PE X a (tE C X.K W x)) : PE X (.UnaryOp .USub a pos) (tE C X.K W (.un x)) := (pe_un un_neg ha).weak fun σ H Q h => by
  obtain ⟨ρ, μ, β, ns, bn, S, h⟩ := h
  refine use S (Sat_bind h) fun t μ1 v H1 bn1 n h s1 x1 => ?_
  cases t <;> try exact False.elim h
  obtain ⟨rfl, _⟩ := x1.rd
  exact ⟨_, rfl, h _ H1 bn1 [] s1 (Val.imm ⟨rfl, rfl⟩ rfl rfl)⟩
theorem e_bin (op : BOp) (ha : PE X a (tE C X.K W x)) (hb : PE X b (tE C X.K W y)) : PE X (.BinOp a op.py b pos) (tE C X.K W (.bin op x y)) := (pe_op (opBin op) ha hb).weak fun σ H Q h => by
  obtain ⟨ρ, μ, β, ns, bn, S, h⟩ := h
  refine use S (Sat_bind h) fun t μ1 v H1 bn1 n h s1 x1 => ?_
  refine use (S.step s1) ((Sat_bind h).later s1) fun u μ2 w H2 bn2 m h s2 y1 => ?_
  obtain ⟨ok, h⟩ := Sat_if h
  obtain ⟨r, e, q⟩ := Sat_opt h
  rw [Bool.and_eq_true] at ok
  have s := s1.trans s2
  obtain ⟨n', r1, _, k1⟩ := view_ok (g := C.g) s2.box (x1.step s2)
  obtain ⟨m', r2, _, k2⟩ := view_ok (g := C.g) s2.box y1
  obtain ⟨k1, u1⟩ := k1 ok.1
  obtain ⟨k2, u2⟩ := k2 ok.2
  refine ⟨β, _, _, r, n', m', r1, r2, e, ?_⟩
  have trk : ∀ a ∈ kn (view μ2 t) n' ++ kn (view μ2 u) m', H2 a ≠ none := fun a ha => by
    rcases List.mem_append.mp ha with ha | ha
    · exact kid_trk r1 ha
    · exact kid_trk r2 ha
  have tx : ∀ a ∈ kn (view μ2 t) n', H1 a ≠ none := fun a ha z => by
    obtain ⟨o, e, _⟩ := x1.node (u1 a ha)
    rw [e] at z; cases z
  cases op with
  | add => exact fin_out s2.box s (Kid.join S s1 k1 k2 tx) trk (fun _ h => h) (fun _ h => h) (fun z => ⟨rfl, z⟩) rfl q
  | mul => exact fin_out (i := info C.g (.bin .mul x y)) s2.box s (Kid.mix s1 k1 k2) trk (fun _ h => h) (fun _ h => h) (fun z => by cases z) rfl q
  | sub => exact fin_imm s2.box s (by revert e; cases view μ2 t <;> cases view μ2 u <;> simp [pBin] <;> (intro e; subst e; rfl)) rfl q
  | fdiv => exact fin_imm s2.box s (by revert e; cases view μ2 t <;> cases view μ2 u <;> simp only [pBin, reduceCtorEq, false_implies] <;> (split <;> intro e <;> cases e; rfl)) rfl q
  | mod => exact fin_imm s2.box s (by revert e; cases view μ2 t <;> cases view μ2 u <;> simp only [pBin, reduceCtorEq, false_implies] <;> (split <;> intro e <;> cases e; rfl)) rfl q
  | pow => exact fin_imm s2.box s (by revert e; cases view μ2 t <;> cases view μ2 u <;> simp only [pBin, reduceCtorEq, false_implies] <;> (split <;> intro e <;> cases e; rfl)) rfl q
theorem e_cmp (op : COp) (hu : X.A.units + 65 < cLine) (ha : PE X a (tE C X.K W x)) (hb : PE X b (tE C X.K W y)) (hm : behindInMarks op.py b = false) : PE X (.Compare a [op.py] [b] pos) (tE C X.K W (.cmp op x y)) := (pe_cmpR (opCmp hu op) ha hb hm).weak fun σ H Q h => by
  obtain ⟨ρ, μ, β, ns, bn, S, h⟩ := h
  refine use S (Sat_bind h) fun t μ1 v H1 bn1 n h s1 x1 => ?_
  refine use (S.step s1) ((Sat_bind h).later s1) fun u μ2 w H2 bn2 m h s2 y1 => ?_
  obtain ⟨r, e, q⟩ := Sat_opt (Sat_bind h)
  have s := s1.trans s2
  obtain ⟨n', r1, _, _⟩ := view_ok (g := C.g) s2.box (x1.step s2)
  obtain ⟨m', r2, _, _⟩ := view_ok (g := C.g) s2.box y1
  exact ⟨β, _, _, r, n', m', r1, r2, e, q _ H2 bn2 [] s (Val.imm ⟨rfl, rfl⟩ rfl rfl)⟩
theorem e_chn (op op' : COp) (hu : X.A.units + 65 < cLine) (ha : PE X a (tE C X.K W x)) (hb : PE X b (tE C X.K W y)) (hc : PE X c (tE C X.K W z)) (hm : lastMarks [op.py, op'.py] [b, c] = false) : PE X (.Compare a [op.py, op'.py] [b, c] pos) (tE C X.K W (.chn op op' x y z)) :=
  (pe_chain (opCmp hu op) (opCmp hu op') ha hb hc hm).weak fun σ H Q h => by
  obtain ⟨ρ, μ, β, ns, bn, S, h⟩ := h
  refine use S (Sat_bind h) fun t μ1 v H1 bn1 n h s1 x1 => ?_
  refine use (S.step s1) ((Sat_bind h).later s1) fun u μ2 w H2 bn2 m h s2 y1 => ?_
  obtain ⟨r, e, q⟩ := Sat_opt (Sat_bind h)
  have s := s1.trans s2
  obtain ⟨n', r1, _, _⟩ := view_ok (g := C.g) s2.box (x1.step s2)
  obtain ⟨m', r2, _, _⟩ := view_ok (g := C.g) s2.box y1
  refine ⟨β, _, _, r, n', m', r1, r2, e, r, rfl, ?_⟩
  cases r with
  | false => exact q _ H2 bn2 [] s (Val.imm ⟨rfl, rfl⟩ rfl rfl)
  | true =>
    show tE C X.K W z σ H2 _
    refine use (S.step s) ((Sat_bind q).later s) fun u' μ3 w' H3 bn3 m3 h s3 z1 => ?_
    obtain ⟨r', e', q⟩ := Sat_opt (Sat_bind h)
    obtain ⟨m'', r2', _, _⟩ := view_ok (g := C.g) s3.box (y1.step s3)
    obtain ⟨l', r3, _, _⟩ := view_ok (g := C.g) s3.box z1
    exact ⟨β, _, _, r', m'', l', r2', r3, e', q _ H3 bn3 [] (s.trans s3) (Val.imm ⟨rfl, rfl⟩ rfl rfl)⟩
/-! ### and, or, not, if -/
def tEB (C : Cf) (K : PySem.W.Frag) (W : WX) (isAnd : Bool) (as : List IE) : TE := fun σ H Q => ∃ ρ μ β ns bn, ESt K C.g β H ρ σ μ ns bn ∧
  Sat (evB C.F ρ isAnd as μ) (fun t μ' => ∀ v H' bn' n, Step K β bn H H' μ' bn' → Val K β bn' ns H H' (infoLast C.g as).noTop t v n → Q v H') (XW C K β bn H fun c d H' => W c d σ H')
def tTB (C : Cf) (K : PySem.W.Frag) (W : WX) (isAnd : Bool) (as : List IE) : TT := fun σ H Q => ∃ ρ μ β ns bn, ESt K C.g β H ρ σ μ ns bn ∧
  Sat (evB C.F ρ isAnd as μ) (fun t μ' => ∃ b, t = .bl b ∧ ∀ H' bn', Step K β bn H H' μ' bn' → Q b H') (XW C K β bn H fun c d H' => W c d σ H')
theorem e_b1 {op : BoolOp} {k : Bool} (ha : PE X a (tE C X.K W x)) : PE X (.BoolOp op [a] pos) (tEB C X.K W k [x]) := (pe_one ha).weak fun σ H Q h => by
  obtain ⟨ρ, μ, β, ns, bn, S, h⟩ := h
  exact use S h fun t μ1 v H1 bn1 n q s1 x1 => q v H1 bn1 n s1 (x1.imp (fun _ h => h) (fun _ h => h) (fun h => h) (fun h => by cases h) rfl)
theorem e_b2 {k : Bool} {es : List Expr} {as : List IE} (ha : PE X a (tE C X.K W x)) (hb : PE X (.BoolOp (if k then .And else .Or) (b :: es) pos) (tEB C X.K W k (y :: as))) : PE X (.BoolOp (if k then .And else .Or) (a :: b :: es) pos) (tEB C X.K W k (x :: y :: as)) := by
  cases k with
  | true =>
    refine (pe_and ha hb).weak fun σ H Q h => ?_
    obtain ⟨ρ, μ, β, ns, bn, S, h⟩ := h
    refine use S (Sat_bind h) fun t μ1 v H1 bn1 n h s1 x1 => ?_
    cases t <;> try exact False.elim h
    rename_i d
    obtain ⟨rfl, _⟩ := x1.rd
    refine ⟨d, rfl, ?_⟩
    cases d with
    | true =>
      refine ⟨ρ, μ1, β, ns, bn1, S.step s1, ?_⟩
      refine (Sat.later s1 h).mono (fun t μ2 q v H2 bn2 n s2 v2 => q v H2 bn2 n (s1.trans s2) (v2.back s1.keep)) fun _ _ _ e => e
    | false => exact h _ H1 bn1 [] s1 (Val.imm ⟨rfl, rfl⟩ rfl rfl)
  | false =>
    refine (pe_or ha hb).weak fun σ H Q h => ?_
    obtain ⟨ρ, μ, β, ns, bn, S, h⟩ := h
    refine use S (Sat_bind h) fun t μ1 v H1 bn1 n h s1 x1 => ?_
    cases t <;> try exact False.elim h
    rename_i d
    obtain ⟨rfl, _⟩ := x1.rd
    refine ⟨d, rfl, ?_⟩
    cases d with
    | false =>
      refine ⟨ρ, μ1, β, ns, bn1, S.step s1, ?_⟩
      refine (Sat.later s1 h).mono (fun t μ2 q v H2 bn2 n s2 v2 => q v H2 bn2 n (s1.trans s2) (v2.back s1.keep)) fun _ _ _ e => e
    | true => exact h _ H1 bn1 [] s1 (Val.imm ⟨rfl, rfl⟩ rfl rfl)
theorem t_b1 {k : Bool} (ha : PT X a (tT C X.K W x)) : PW X (.BoolOp (if k then .And else .Or) [a] pos) (tTB C X.K W k [x]) := by
  cases k with
  | true => exact (pw_and1 ha).weak fun σ H Q h => h
  | false => exact (pw_or1 ha).weak fun σ H Q h => h
theorem t_b2 {k : Bool} {es : List Expr} {as : List IE} (ha : PT X a (tT C X.K W x)) (hb : PW X (.BoolOp (if k then .And else .Or) (b :: es) pos) (tTB C X.K W k (y :: as))) : PW X (.BoolOp (if k then .And else .Or) (a :: b :: es) pos) (tTB C X.K W k (x :: y :: as)) := by
  have key : ∀ {σ : St} {H : Hp} {Q : Bool → Hp → Prop}, tTB C X.K W k (x :: y :: as) σ H Q → tT C X.K W x σ H fun c H1 => if c = k then tTB C X.K W k (y :: as) σ H1 Q else Q c H1 := fun {σ H Q} h => by
    obtain ⟨ρ, μ, β, ns, bn, S, h⟩ := h
    refine useT S (Sat_bind h) (fun t μ1 h => ?_) fun d μ1 H1 bn1 h s1 => ?_
    · cases t <;> first | exact False.elim h | exact ⟨_, rfl⟩
    · by_cases e : d = k
      · rw [if_pos e]
        have h : Sat (if d = k then evB C.F ρ k (y :: as) μ1 else .ok (.bl d) μ1) _ _ := h
        rw [if_pos e] at h
        refine ⟨ρ, μ1, β, ns, bn1, S.step s1, ?_⟩
        exact (Sat.later s1 h).mono (fun t μ2 ⟨b, e, q⟩ => ⟨b, e, fun H2 bn2 s2 => q H2 bn2 (s1.trans s2)⟩) fun _ _ _ e => e
      · rw [if_neg e]
        have h : Sat (if d = k then evB C.F ρ k (y :: as) μ1 else .ok (.bl d) μ1) _ _ := h
        rw [if_neg e] at h
        obtain ⟨b, e, q⟩ := h
        cases e
        exact q H1 bn1 s1
  cases k with
  | true =>
    refine (pw_and ha hb).weak fun σ H Q h => ?_
    obtain ⟨ρ, μ, β, ns, bn, S, h⟩ := key h
    refine ⟨ρ, μ, β, ns, bn, S, h.mono (fun t μ2 ⟨b, e, q⟩ => ⟨b, e, fun H2 bn2 s2 => ?_⟩) fun _ _ _ e => e⟩
    have := q H2 bn2 s2
    cases b <;> exact this
  | false =>
    refine (pw_or ha hb).weak fun σ H Q h => ?_
    obtain ⟨ρ, μ, β, ns, bn, S, h⟩ := key h
    refine ⟨ρ, μ, β, ns, bn, S, h.mono (fun t μ2 ⟨b, e, q⟩ => ⟨b, e, fun H2 bn2 s2 => ?_⟩) fun _ _ _ e => e⟩
    have := q H2 bn2 s2
    cases b <;> exact this
theorem e_nt (ha : PE X a (tE C X.K W x)) : PE X (.UnaryOp .Not a pos) (tE C X.K W (.nt x)) := (pe_not ha).weak fun σ H Q h => by
  obtain ⟨ρ, μ, β, ns, bn, S, h⟩ := h
  refine use S (Sat_bind h) fun t μ1 v H1 bn1 n h s1 x1 => ?_
  cases t <;> try exact False.elim h
  obtain ⟨rfl, _⟩ := x1.rd
  exact ⟨_, rfl, h _ H1 bn1 [] s1 (Val.imm ⟨rfl, rfl⟩ rfl rfl)⟩
theorem t_nt (ha : PT X a (tT C X.K W x)) : PT X (.UnaryOp .Not a pos) (tT C X.K W (.nt x)) := (pt_not ha).weak fun σ H Q h => by
  obtain ⟨ρ, μ, β, ns, bn, S, h⟩ := h
  refine useT S (Sat_bind h) (fun t μ1 h => ?_) fun d μ1 H1 bn1 h s1 => ?_
  · cases t <;> first | exact False.elim h | exact ⟨_, rfl⟩
  · obtain ⟨b, e, q⟩ := h
    cases e
    exact q H1 bn1 s1
theorem e_ite (hc : PT X c (tT C X.K W z)) (ha : PE X a (tE C X.K W x)) (hb : PE X b (tE C X.K W y)) : PE X (.IfExp c a b pos) (tE C X.K W (.ite z x y)) := (pe_ifExp hc ha hb).weak fun σ H Q h => by
  obtain ⟨ρ, μ, β, ns, bn, S, h⟩ := h
  refine useT S (Sat_bind h) (fun t μ1 h => ?_) fun d μ1 H1 bn1 h s1 => ?_
  · cases t <;> first | exact False.elim h | exact ⟨_, rfl⟩
  · cases d with
    | true =>
      rw [if_pos rfl]
      have h : Sat (evE C.F ρ x μ1) _ _ := h
      refine use (S.step s1) (Sat.later s1 h) fun u μ2 w H2 bn2 m q s2 y1 => q w H2 bn2 m (s1.trans s2) ((y1.back s1.keep).imp (fun _ h => List.mem_append_left _ h) (fun _ h => List.mem_append_left _ h) (fun h => ?_) (fun h => ?_) rfl)
      · exact (Bool.and_eq_true_iff.mp h).1
      · exact (Bool.and_eq_true_iff.mp h).1
    | false =>
      rw [if_neg (by decide)]
      have h : Sat (evE C.F ρ y μ1) _ _ := h
      refine use (S.step s1) (Sat.later s1 h) fun u μ2 w H2 bn2 m q s2 y1 => q w H2 bn2 m (s1.trans s2) ((y1.back s1.keep).imp (fun _ h => List.mem_append_right _ h) (fun _ h => List.mem_append_right _ h) (fun h => ?_) (fun h => ?_) rfl)
      · exact (Bool.and_eq_true_iff.mp h).2
      · exact (Bool.and_eq_true_iff.mp h).2
/-- a value that is a bool, as a test -/
theorem t_val (ha : PE X a (tE C X.K W x)) (he : ∀ whole, isTrue a X.env whole = (do let v ← whole; standAt a.pos; holding [v] (truthy v))) : PT X a (tT C X.K W x) := (pt_val ha he).weak fun σ H Q h => by
  obtain ⟨ρ, μ, β, ns, bn, S, h⟩ := h
  refine use S h fun t μ1 v H1 bn1 n h s1 x1 => ?_
  obtain ⟨b, rfl, q⟩ := h
  obtain ⟨rfl, _⟩ := x1.rd
  exact ⟨b, rfl, q H1 bn1 s1⟩
theorem t_cmp (op : COp) (hu : X.A.units + 65 < cLine) (ha : PE X a (tE C X.K W x)) (hb : PE X b (tE C X.K W y)) (hm : behindInMarks op.py b = false) : PT X (.Compare a [op.py] [b] pos) (tT C X.K W (.cmp op x y)) := (pt_cmpR (opCmp hu op) ha hb hm).weak fun σ H Q h => by
  obtain ⟨ρ, μ, β, ns, bn, S, h⟩ := h
  refine use S (Sat_bind h) fun t μ1 v H1 bn1 n h s1 x1 => ?_
  refine use (S.step s1) ((Sat_bind h).later s1) fun u μ2 w H2 bn2 m h s2 y1 => ?_
  obtain ⟨r, e, b, er, q⟩ := Sat_opt (Sat_bind h)
  cases er
  have s := s1.trans s2
  obtain ⟨n', r1, _, _⟩ := view_ok (g := C.g) s2.box (x1.step s2)
  obtain ⟨m', r2, _, _⟩ := view_ok (g := C.g) s2.box y1
  exact ⟨β, _, _, r, n', m', r1, r2, e, r, rfl, q H2 bn2 s⟩
theorem t_chn (op op' : COp) (hu : X.A.units + 65 < cLine) (ha : PE X a (tE C X.K W x)) (hb : PE X b (tE C X.K W y)) (hc : PE X c (tE C X.K W z)) (hm : lastMarks [op.py, op'.py] [b, c] = false) : PT X (.Compare a [op.py, op'.py] [b, c] pos) (tT C X.K W (.chn op op' x y z)) :=
  (pt_chain (opCmp hu op) (opCmp hu op') ha hb hc hm).weak fun σ H Q h => by
  obtain ⟨ρ, μ, β, ns, bn, S, h⟩ := h
  refine use S (Sat_bind h) fun t μ1 v H1 bn1 n h s1 x1 => ?_
  refine use (S.step s1) ((Sat_bind h).later s1) fun u μ2 w H2 bn2 m h s2 y1 => ?_
  obtain ⟨r, e, q⟩ := Sat_opt (Sat_bind h)
  have s := s1.trans s2
  obtain ⟨n', r1, _, _⟩ := view_ok (g := C.g) s2.box (x1.step s2)
  obtain ⟨m', r2, _, _⟩ := view_ok (g := C.g) s2.box y1
  refine ⟨β, _, _, r, n', m', r1, r2, e, r, rfl, ?_⟩
  cases r with
  | false =>
    obtain ⟨b, er, q⟩ := q
    cases er
    exact ⟨false, rfl, q H2 bn2 s⟩
  | true =>
    show tE C X.K W z σ H2 _
    refine use (S.step s) ((Sat_bind q).later s) fun u' μ3 w' H3 bn3 m3 h s3 z1 => ?_
    obtain ⟨r', e', b, er, q⟩ := Sat_opt (Sat_bind h)
    cases er
    obtain ⟨m'', r2', _, _⟩ := view_ok (g := C.g) s3.box (y1.step s3)
    obtain ⟨l', r3, _, _⟩ := view_ok (g := C.g) s3.box z1
    exact ⟨β, _, _, r', m'', l', r2', r3, e', r', rfl, q H3 bn3 (s.trans s3)⟩
/-! ### lists of expressions -/
theorem l_nil {ev : Env → Mem → Res (List T)} {i : Inf} (he : ∀ ρ μ, ev ρ μ = .ok [] μ) : PA X [] (tLs C X.K W ev i) := pa_nil.weak fun σ H Q h => by
  obtain ⟨ρ, μ, β, ns, bn, S, h⟩ := h
  rw [he] at h
  exact h [] H bn [] (Step.refl S.box) Vls.nil
theorem l_cons {es : List Expr} {ev ev' : Env → Mem → Res (List T)} {i : Inf} (ha : PE X a (tE C X.K W x)) (hr : PA X es (tLs C X.K W ev i)) (he : ∀ ρ μ, ev' ρ μ = (evE C.F ρ x μ).bind fun t μ => (ev ρ μ).bind fun r μ => .ok (t :: r) μ)
    (hs : starEach (a :: es) X.env = (false, eval a X.env) :: starEach es X.env) : PA X (a :: es) (tLs C X.K W ev' ((info C.g x).join C.g i)) := (pa_cons ha hr hs).weak fun σ H Q h => by
  obtain ⟨ρ, μ, β, ns, bn, S, h⟩ := h
  rw [he] at h
  refine use S (Sat_bind h) fun t μ1 v H1 bn1 n h s1 x1 => ?_
  refine useL (S.step s1) ((Sat_bind h).later s1) fun us μ2 ws H2 bn2 m h s2 y1 => ?_
  have x2 : Vls X.K β bn1 ns H H1 (info C.g x) [t] [v] n := ⟨RdsL.one.mpr ⟨v, rfl, x1.rd⟩, x1.nb, x1.ok.src, x1.ok.lin⟩
  exact h (v :: ws) H2 bn2 (n ++ m) (s1.trans s2) (x2.append S s1 y1 s2)
theorem l_star {es : List Expr} {p : Pos} {ev ev' : Env → Mem → Res (List T)} {i : Inf} (ha : PE X a (tE C X.K W x)) (hr : PA X es (tLs C X.K W ev i))
    (he : ∀ ρ μ, ev' ρ μ = (evE C.F ρ x μ).bind fun t μ => (match seqOf (view μ t) with
        | some xs => if kidsOk t xs then (ev ρ μ).bind fun r μ => .ok (xs ++ r) μ else .stuck
        | none => .stuck)) : PA X (.Starred a p :: es) (tLs C X.K W ev' ((kidI C.g (info C.g x)).join C.g i)) := (StX.pa_star ha hr rfl).weak fun σ H Q h => by
  obtain ⟨ρ, μ, β, ns, bn, S, h⟩ := h
  rw [he] at h
  refine use S (Sat_bind h) fun t μ1 v H1 bn1 n h s1 x1 => ?_
  obtain ⟨n', r1, _, k1⟩ := view_ok (g := C.g) s1.box x1
  split at h
  · rename_i ts et
    obtain ⟨ok, h⟩ := Sat_if h
    obtain ⟨k1, u1⟩ := k1 (kidsOf_seq et ok)
    obtain ⟨p, vs, rfl, hq, rl⟩ := seq_ok r1 et
    refine ⟨p, vs, rfl, hq, ?_⟩
    refine useL (S.step s1) ((Sat_bind h).later s1) fun us μ2 ws H2 bn2 m h s2 y1 => ?_
    have x2 : Vls X.K β bn1 ns H H1 (kidI C.g (info C.g x)) ts vs (kn (view μ1 t) n') := ⟨rl, k1.nb, k1.src, k1.lin⟩
    exact h (vs ++ ws) H2 bn2 (kn (view μ1 t) n' ++ m) (s1.trans s2) (x2.append S s1 y1 s2)
  · exact False.elim h
theorem e_tup {es : List Expr} {k : Nat} {as : List IE} (ha : PA X es (tLs C X.K W (fun ρ => evL C.F ρ as) (infoL C.g as))) : PE X (.Tuple es k pos) (tE C X.K W (.tup as)) := (pe_tup ha).weak fun σ H Q h => by
  obtain ⟨ρ, μ, β, ns, bn, S, h⟩ := h
  refine useL S (Sat_bind h) fun ts μ1 vs H1 bn1 n h s1 x1 => ?_
  obtain ⟨hz, h⟩ := Sat_if h
  refine ⟨by rw [x1.rd.length]; exact le_line hz, fun p hp => ?_⟩
  have n1 : New1 H1 (upd H1 p (.tup vs)) := .inr ⟨p, _, hp, rfl⟩
  refine h _ _ bn1 n (s1.trans (Step.new1 s1.box n1)) ⟨⟨p, vs, rfl, upd_same, x1.rd.new n1⟩, x1.nb, x1.src, x1.lin, fun _ z => (by cases z), fun j z => ?_⟩
  have : (infoL C.g as).self = none := by cases as <;> rfl
  have z' : (infoL C.g as).self = some j := z
  rw [this] at z'; cases z'
theorem e_lst {es : List Expr} {as : List (Bool × IE)} (ha : PA X es (tLs C X.K W (fun ρ => evS C.F ρ as) (infoS C.g as))) : PE X (.List es pos) (tE C X.K W (.lst as)) := (pe_lst ha).weak fun σ H Q h => by
  obtain ⟨ρ, μ, β, ns, bn, S, h⟩ := h
  refine useL S (Sat_bind h) fun ts μ1 vs H1 bn1 n h s1 x1 => ?_
  obtain ⟨hz, h⟩ := Sat_if h
  refine ⟨by rw [x1.rd.length]; exact le_line hz, fun p hp => ?_⟩
  have n1 : New1 H1 (upd H1 p (.lst vs)) := .inr ⟨p, _, hp, rfl⟩
  have hpn : p ∉ n := fun z => by
    obtain ⟨o, e, _⟩ := x1.node z
    rw [e] at hp; cases hp
  refine h _ _ bn1 (p :: n) (s1.trans (Step.new1 s1.box n1)) ⟨⟨p, vs, n, rfl, upd_same, x1.rd.new n1, rfl⟩, fun a ha => ?_, fun a ha => ?_, fun z => List.nodup_cons.mpr ⟨hpn, x1.lin z⟩, fun _ _ => ⟨p, n, rfl, s1.keep.more p hp, hpn⟩, fun j z => ?_⟩
  · rcases List.mem_cons.mp ha with rfl | ha
    · exact s1.box.fresh _ hp
    · exact x1.nb a ha
  · rcases List.mem_cons.mp ha with rfl | ha
    · exact .inl (s1.keep.more _ hp)
    · exact x1.src a ha
  · have : (infoS C.g as).self = none := by rcases as with _ | ⟨⟨_, _⟩, _⟩ <;> rfl
    have z' : (infoS C.g as).self = some j := z
    rw [this] at z'; cases z'
end
end MP

/-! C10: the rules for expressions: subscripts, slices, built-in functions, isinstance, the box. -/
namespace MP
open PySem L2

section
variable {K : PySem.W.Frag} {g : Sg} {β : List Addr} {H H1 H2 H' : Hp} {ρ : Env} {σ : St} {μ μ1 μ2 : Mem} {ns bn bn1 bn2 bn' : Nat → List Addr} {i i' j : Inf} {t r : T} {v : V} {n : List Addr}
theorem kidsOk_or {t : T} {xs : List T} (h : kidsOk t xs = true) : nodelessL xs = true ∨ ∀ ys, kidsOk t ys = true := by
  cases t <;> first | exact .inr fun _ => rfl | exact .inl h
theorem nodelessL_one {r : T} (h : nodelessL [r] = true) : nodeless r = true := by simpa [nodelessL] using h
/-- a child of a value, as a value -/
theorem kid_val {w : V} {k : List Addr} (hs : Step K β bn H H1 μ1 bn1) (b : kidsOk t [r] = true) (kd : kidsOk t (kidsOf (view μ1 t)) = true → Kid ns bn1 β H j n) (rd : Rds K β H1 r w k) (sb : k.Sublist n) : Val K β bn1 ns H H1 j.noTop r w k := by
  rcases kidsOk_or b with h | h
  · exact Val.imm rd (nodelessL_one h) rfl
  · have kd := kd (h _)
    exact ⟨rd, fun a ha => kd.nb a (sb.subset ha), fun a ha => kd.src a (sb.subset ha), fun e => (kd.lin e).sublist sb, fun z => (by cases z), fun _ z => (by cases z)⟩
theorem RdsL.rev : ∀ {ts : List T} {vs : List V} {n : List Addr}, RdsL K β H ts vs n → ∃ m, RdsL K β H ts.reverse vs.reverse m ∧ m.Perm n
  | [], vs, n, h => by obtain ⟨rfl, rfl⟩ := h; exact ⟨[], ⟨rfl, rfl⟩, List.Perm.refl _⟩
  | x :: xs, vs, n, h => by
    obtain ⟨v, ws, m, k, rfl, r1, r2, rfl⟩ := h
    obtain ⟨k', r3, p⟩ := RdsL.rev r2
    rw [List.reverse_cons, List.reverse_cons]
    exact ⟨k' ++ m, r3.append (RdsL.one.mpr ⟨v, rfl, r1⟩), (List.perm_append_comm).trans (p.append_left m)⟩
end
/-- no star -/
def nost : Expr → Bool
  | .Starred _ _ => false
  | _ => true
theorem star_cons {e : Expr} {es : List Expr} {env : PySem.Env} (h : nost e = true) : starEach (e :: es) env = (false, eval e env) :: starEach es env := by
  cases e <;> first | rfl | cases h
theorem star_any {es : List Expr} {env : PySem.Env} {pos : Pos} (h : es.all nost = true) : (backTo pos (starEach es env)).any (·.1) = false := by
  induction es with
  | nil => rfl
  | cons e es ih =>
    rw [List.all_cons, Bool.and_eq_true] at h
    rw [star_cons h.1]
    show (false || (backTo pos (starEach es env)).any (·.1)) = false
    rw [ih h.2] <;> rfl
section
variable {X : Cx} {C : Cf} {W : WX} {a b c : Expr} {x y z : IE} {pos : Pos}
theorem e_sub (hu : X.A.units + 65 < cLine) (ha : PE X a (tE C X.K W x)) (hb : PE X b (tE C X.K W y)) (hs : PlainIx b) : PE X (.Subscript a b pos) (tE C X.K W (.sub x y)) := (pe_ix (ixSub (by omega)) ha hb hs).weak fun σ H Q h => by
  obtain ⟨ρ, μ, β, ns, bn, S, h⟩ := h
  refine use S (Sat_bind h) fun t μ1 v H1 bn1 n h s1 x1 => ?_
  refine use (S.step s1) ((Sat_bind h).later s1) fun u μ2 w H2 bn2 m h s2 y1 => ?_
  obtain ⟨r, e, q⟩ := Sat_opt (Sat_bind h)
  obtain ⟨ok, q⟩ := Sat_if q
  have s := s1.trans s2
  obtain ⟨n', r1, _, k1⟩ := view_ok (g := C.g) s2.box (x1.step s2)
  exact ⟨β, _, _, r, n', m, r1, y1.rd, e, fun v k rd sb => q v H2 bn2 k s (kid_val s ok (fun z => (k1 z).1) rd sb)⟩
def tO (C : Cf) (K : PySem.W.Frag) (W : WX) (o : Option IE) : TO := fun σ H Q => ∃ ρ μ β ns bn, ESt K C.g β H ρ σ μ ns bn ∧
  Sat (evO C.F ρ o μ) (fun l μ' => ∀ H' bn', Step K β bn H H' μ' bn' → Q l H') (XW C K β bn H fun c d H' => W c d σ H')
theorem PO.weak {e : Option Expr} {t t' : TO} (h : PO X e t) (w : ∀ σ H Q, t' σ H Q → t σ H Q) : PO X e t' := ⟨fun pins s σ H Q I q => h.run pins s σ H Q I (w σ H Q q)⟩
theorem o_none : PO X none (tO C X.K W none) := PO.weak po_none fun σ H Q h => by
  obtain ⟨ρ, μ, β, ns, bn, S, h⟩ := h
  exact h H bn (Step.refl S.box)
theorem o_some (ha : PE X a (tE C X.K W x)) : PO X (some a) (tO C X.K W (some x)) := PO.weak (po_some ha) fun σ H Q h => by
  obtain ⟨ρ, μ, β, ns, bn, S, h⟩ := h
  refine use S (Sat_bind h) fun t μ1 v H1 bn1 n h s1 x1 => ?_
  cases t <;> try exact False.elim h
  obtain ⟨rfl, _⟩ := x1.rd
  exact ⟨_, rfl, h H1 bn1 s1⟩
theorem e_slc {lo hi : Option Expr} {l h : Option IE} {p2 : Pos} (ha : PE X a (tE C X.K W x)) (hl : PO X lo (tO C X.K W l)) (hh : PO X hi (tO C X.K W h)) : PE X (.Subscript a (.Slice lo hi none p2) pos) (tE C X.K W (.slc x l h)) := (pe_slice slSlc ha hl hh).weak fun σ H Q q => by
  obtain ⟨ρ, μ, β, ns, bn, S, q⟩ := q
  refine use S (Sat_bind q) fun t μ1 v H1 bn1 n q s1 x1 => ?_
  refine ⟨ρ, μ1, β, ns, bn1, S.step s1, ((Sat_bind q).later s1).mono (fun l' μ2 q H2 bn2 s2 => ?_) fun _ _ _ e => e⟩
  have s := s1.trans s2
  refine ⟨ρ, μ2, β, ns, bn2, S.step s, ((Sat_bind q).later s).mono (fun h' μ3 q H3 bn3 s3 => ?_) fun _ _ _ e => e⟩
  obtain ⟨ok, q⟩ := Sat_if q
  obtain ⟨r, e, q⟩ := Sat_opt q
  have s' := s.trans s3
  obtain ⟨n', r1, _, k1⟩ := view_ok (g := C.g) s3.box (x1.step (s2.trans s3))
  obtain ⟨k1, _⟩ := k1 ok
  exact ⟨β, _, r, n', r1, e, fin_out (i := info C.g (.slc x l h)) s3.box s' k1 (fun a ha => kid_trk r1 ha) (fun _ h => h) (fun _ h => h) (fun z => ⟨rfl, z⟩) rfl q⟩
theorem e_rev {k : Nat} {p1 p2 p3 : Pos} (ha : PE X a (tE C X.K W x)) : PE X (.Subscript a (.Slice none none (some (.UnaryOp .USub (.Constant (.int 1) k p1) p2)) p3) pos) (tE C X.K W (.rev x)) := (pe_revL ha).weak fun σ H Q q => by
  obtain ⟨ρ, μ, β, ns, bn, S, q⟩ := q
  refine use S (Sat_bind q) fun t μ1 v H1 bn1 n q s1 x1 => ?_
  obtain ⟨ok, q⟩ := Sat_if q
  obtain ⟨n', r1, _, k1⟩ := view_ok (g := C.g) s1.box x1
  obtain ⟨k1, _⟩ := k1 ok
  revert q
  generalize hv : view μ1 t = tv at r1 k1 ⊢
  intro q
  cases tv <;> try exact False.elim q
  have r1' := r1
  obtain ⟨p, vs, m, rfl, ea, rl, rfl⟩ := r1
  refine ⟨p, vs, rfl, SqL.of ea, ?_⟩
  obtain ⟨m', rr, pm⟩ := rl.rev
  have out : OutN X.K β H1 true _ m Q := fin_out (i := info C.g (.rev x)) (j := kidI C.g (info C.g x)) s1.box s1 k1 (fun a ha => kid_trk r1' ha) (fun _ h => h) (fun _ h => h) (fun z => ⟨rfl, z⟩) rfl q
  exact out.lst rr (fun a ha => pm.subset ha) fun _ nd => pm.nodup_iff.mpr nd
theorem pe_callBI (bi : BI) {r : List V → Hp → VK → Prop} {p : Pos} {es : List Expr} {t : TA} (hc : CallR X bi.val r) (hg : Gl X bi.name) (hm : X.mg bi.name = none) (ha : PA X (a :: es) t) (hst : nost a = true) (hes : es.all nost = true) : PE X (.Call (.Name bi.name p) (a :: es) [] pos) (tCB r t) := by
  have h1 := star_cons (es := es) (env := X.env) hst
  have h2 := star_any (env := X.env) (pos := pos) hes
  cases bi with
  | int | list | tuple | dict => exact pe_callTy hc hg hm (by rfl) ha (by decide) (by decide) h1 h2
  | _ => exact pe_callB hc hg hm (by rfl) ha (by decide) (by decide) h1 h2
theorem e_bi1 (bi : BI) {p : Pos} (hc : X.calm = true) (hgd : X.A.guards = some []) (hu : X.A.units + 65 < cLine) (hg : Gl X bi.name) (hm : X.mg bi.name = none) (ha : PE X a (tE C X.K W x)) (hst : nost a = true) : PE X (.Call (.Name bi.name p) [a] [] pos) (tE C X.K W (.bi bi [x])) :=
  (pe_callBI bi (crBI hc hgd hu bi) hg hm (pa_cons ha pa_nil (star_cons hst)) hst rfl).weak fun σ H Q h => by
  obtain ⟨ρ, μ, β, ns, bn, S, h⟩ := h
  have h : Sat (((evE C.F ρ x μ).bind fun t μ => (Res.ok [] μ).bind fun r μ => .ok (t :: r) μ).bind _) _ _ := h
  refine use S (Sat_bind (Sat_bind h)) fun t μ1 v H1 bn1 n h s1 x1 => ?_
  have h := Sat_bind h
  obtain ⟨ok, h⟩ := Sat_if h
  obtain ⟨r, e, q⟩ := Sat_opt h
  have ok : kidsOk t (kidsOf (view μ1 t)) = true := by simpa using ok
  obtain ⟨n', r1, _, k1⟩ := view_ok (g := C.g) s1.box x1
  obtain ⟨k1, _⟩ := k1 ok
  refine ⟨β, [view μ1 t], r, n', RdsL.one.mpr ⟨v, rfl, r1⟩, e, ?_⟩
  have big : ∀ i : Inf, (∀ l ∈ (kidI C.g (info C.g x)).dp, l ∈ i.dp) → (∀ l ∈ (kidI C.g (info C.g x)).dc, l ∈ i.dc) → (i.lin = true → (kidI C.g (info C.g x)).lin = true) → i.self = none → info C.g (.bi bi [x]) = i → OutN X.K β H1 true r (kn1 [view μ1 t] n') Q := fun i h1 h2 h3 h4 h5 => by
    rw [h5] at q
    exact fin_out (j := kidI C.g (info C.g x)) s1.box s1 k1 (fun a ha => kid_trk r1 ha) h1 h2 (fun z => ⟨rfl, h3 z⟩) h4 q
  have small : nodeless r = true → info C.g (.bi bi [x]) = .nil → OutN X.K β H1 true r (kn1 [view μ1 t] n') Q := fun h1 h2 => by
    rw [h2] at q
    exact fin_imm s1.box s1 h1 rfl q
  have nl : (∀ c xs, pBI bi [c] = some (.lst xs) → False) → (∀ c xs, pBI bi [c] = some (.tup xs) → False) → (∀ c ks xs, pBI bi [c] = some (.dk ks xs) → False) → (∀ c ks xs, pBI bi [c] = some (.dt ks xs) → False) → nodeless r = true := fun h1 h2 h3 h4 => by
    cases r with
    | lst xs => exact (h1 _ xs e).elim
    | tup xs => exact (h2 _ xs e).elim
    | dk ks xs => exact (h3 _ ks xs e).elim
    | dt ks xs => exact (h4 _ ks xs e).elim
    | _ => rfl
  cases bi with
  | list => exact big (kidI C.g (info C.g x)).newTop (fun _ h => h) (fun _ h => h) (fun h => h) rfl rfl
  | tuple => exact big (kidI C.g (info C.g x)).newTop (fun _ h => h) (fun _ h => h) (fun h => h) rfl rfl
  | sorted => exact big (kidI C.g (info C.g x)).newTop (fun _ h => h) (fun _ h => h) (fun h => h) rfl rfl
  | dict => exact big (kidI C.g (info C.g x)).newTop (fun _ h => h) (fun _ h => h) (fun h => h) rfl rfl
  | max2 => simp [pBI] at e
  | min2 => simp [pBI] at e
  | repr =>
    refine small (nl ?_ ?_ ?_ ?_) rfl
    all_goals
      intro c
      intros
      rename_i e
      cases c with
      | dk ks vs => cases ks with
        | nil => cases e
        | cons _ _ => simp [pBI, datum] at e
      | _ =>
        simp only [pBI] at e
        split at e
        · split at e
          · split at e <;> cases e
          · cases e
        · cases e
  | _ =>
    refine small (nl ?_ ?_ ?_ ?_) rfl
    all_goals
      intro c
      intros
      rename_i e
      cases c <;> simp only [pBI, reduceCtorEq, Option.some.injEq, Option.map_eq_some_iff, and_false, exists_false] at e
      all_goals
        split at e <;> cases e
end
end MP

/-! C11: ghosts, isinstance, the box read and popped. -/
namespace MP
open PySem L2

theorem nd1 {α : Type} (a : α) : [a].Nodup := List.nodup_cons.mpr ⟨by simp, List.nodup_nil⟩
section
variable {X : Cx} {C : Cf} {W : WX} {a b c : Expr} {x y z : IE} {pos : Pos}
theorem e_imm (ha : PE X a (tE C X.K W x)) : PE X a (tE C X.K W (.imm x)) := ha.weak fun σ H Q h => by
  obtain ⟨ρ, μ, β, ns, bn, S, h⟩ := h
  refine use S (Sat_bind h) fun t μ1 v H1 bn1 n h s1 x1 => ?_
  obtain ⟨ok, h⟩ := Sat_if h
  exact h v H1 bn1 n s1 (Val.imm x1.rd ok rfl)
theorem flat_key {σ : St} {H : Hp} {Q : VK} (h : tE C X.K W (.flat x) σ H Q) : tE C X.K W x σ H Q := by
  obtain ⟨ρ, μ, β, ns, bn, S, h⟩ := h
  refine use S (Sat_bind h) fun t μ1 v H1 bn1 n h s1 x1 => ?_
  cases t <;> try exact False.elim h
  rename_i xs
  obtain ⟨ok, h⟩ := Sat_if h
  obtain ⟨p, vs, m, e1, ea, rl, e2⟩ := x1.rd
  have hm : m = [] := rl.nil _ ok
  subst hm
  refine h v H1 bn1 n s1 ?_
  show Val X.K β bn1 ns H H1 (if (info C.g x).top = true then Inf.nil else ⟨(info C.g x).dp, (info C.g x).dc, (info C.g x).dp.all (fun i => C.g.k i == .D), false, none⟩) (.lst xs) v n
  have nd : n.Nodup := by rw [e2]; exact nd1 _
  split
  · rename_i ht
    obtain ⟨p', m', e3, hp, nm⟩ := x1.ok.top ht rfl
    refine ⟨x1.rd, x1.nb, fun a ha => ?_, fun _ => nd, fun _ _ => ⟨p', m', e3, hp, nm⟩, fun _ z => (by cases z)⟩
    rw [e2] at e3
    cases e3
    rw [e2] at ha
    obtain rfl : a = p := by simpa using ha
    exact .inl hp
  · exact ⟨x1.rd, x1.nb, x1.ok.src, fun _ => nd, fun z => (by cases z), fun _ z => (by cases z)⟩
theorem e_flat (ha : PE X a (tE C X.K W x)) : PE X a (tE C X.K W (.flat x)) := ha.weak fun σ H Q h => flat_key h
theorem e_dnew (tk : Bool) : PE X (.Dict [] [] pos) (tE C X.K W (.dnew tk)) := by
  cases tk with
  | false =>
    refine pe_dnewK.weak fun σ H Q h => ?_
    obtain ⟨ρ, μ, β, ns, bn, S, h⟩ := h
    intro p hp
    have n1 : New1 H (upd H p (.dK [])) := .inr ⟨p, _, hp, rfl⟩
    refine h _ _ bn [p] (Step.new1 S.box n1) ⟨⟨p, [], [], rfl, upd_same, ⟨rfl, List.nodup_nil⟩, ⟨rfl, rfl⟩, rfl⟩, fun a ha => ?_, fun a ha => ?_, fun _ => nd1 _, fun _ _ => ⟨p, [], rfl, hp, by simp⟩, fun _ z => (by cases z)⟩
    · obtain rfl : a = p := by simpa using ha
      exact S.box.fresh _ hp
    · obtain rfl : a = p := by simpa using ha
      exact .inl hp
  | true =>
    refine pe_dnewT.weak fun σ H Q h => ?_
    obtain ⟨ρ, μ, β, ns, bn, S, h⟩ := h
    intro p hp
    have n1 : New1 H (upd H p (.dT [])) := .inr ⟨p, _, hp, rfl⟩
    refine h _ _ bn [p] (Step.new1 S.box n1) ⟨⟨p, [], [], rfl, upd_same, ⟨rfl, List.nodup_nil⟩, ⟨rfl, rfl⟩, rfl⟩, fun a ha => ?_, fun a ha => ?_, fun _ => nd1 _, fun _ _ => ⟨p, [], rfl, hp, by simp⟩, fun _ z => (by cases z)⟩
    · obtain rfl : a = p := by simpa using ha
      exact S.box.fresh _ hp
    · obtain rfl : a = p := by simpa using ha
      exact .inl hp
theorem pIsi (cs : List Ty) (ps : List Pos) (hl : cs.length = ps.length) (hg : ∀ c ∈ cs, Gl X c.nm ∧ X.mg c.nm = none) : PA X ((cs.zip ps).map fun c => .Name c.1.nm c.2) (fun _ H Q => Q (cs.map fun c => V.ty c.nm) H) := by
  induction cs generalizing ps with
  | nil => exact pa_nil
  | cons c cs ih =>
    cases ps with
    | nil => cases hl
    | cons p ps =>
      have h1 := hg c List.mem_cons_self
      have h2 : PE X (.Name c.nm p) (tC (.ty c.nm)) := by
        have := h1.1
        have := h1.2
        cases c <;> exact pe_bltn h1.1 h1.2 (by rfl) (by rfl) (by decide) (by decide)
      exact (pa_cons h2 (ih ps (by simpa using hl) fun c hc => hg c (List.mem_cons_of_mem _ hc)) rfl).weak fun σ H Q h => h
theorem e_isi {cs : List Ty} {c : Ty} {p p2 : Pos} (hg : Gl X "isinstance") (hm : X.mg "isinstance" = none) (hg2 : Gl X c.nm) (hm2 : X.mg c.nm = none) (ha : PE X a (tE C X.K W x)) (hst : nost a = true) :
    PE X (.Call (.Name "isinstance" p) [a, .Name c.nm p2] [] pos) (tE C X.K W (.isi x [c] true)) :=
  (pe_callB call_isi hg hm (by rfl) (pa_cons ha (pIsi [c] [p2] rfl fun d hd => by obtain rfl : d = c := (by simpa using hd); exact ⟨hg2, hm2⟩) (star_cons hst)) (by decide) (by decide) (star_cons hst) (star_any (by rfl))).weak fun σ H Q h => by
  obtain ⟨ρ, μ, β, ns, bn, S, h⟩ := h
  refine use S (Sat_bind h) fun t μ1 v H1 bn1 n h s1 x1 => ?_
  obtain ⟨n', r1, nb, _⟩ := view_ok (g := C.g) s1.box x1
  refine ⟨v, _, _, _, _, rfl, .ty _, ty_of _ r1 nb, kit_of_ty _ nb c, ?_⟩
  have e : ([c].any (kTy (view μ1 t))) = kTy (view μ1 t) c := by simp
  rw [← e]
  exact h _ H1 bn1 [] s1 (Val.imm ⟨rfl, rfl⟩ rfl rfl)
theorem e_isiT {cs : List Ty} {ps : List Pos} {k : Nat} {p p2 : Pos} (hg : Gl X "isinstance") (hm : X.mg "isinstance" = none) (hl : cs.length = ps.length) (h15 : Nat.ble cs.length line = true) (hg2 : ∀ c ∈ cs, Gl X c.nm ∧ X.mg c.nm = none) (ha : PE X a (tE C X.K W x)) (hst : nost a = true) :
    PE X (.Call (.Name "isinstance" p) [a, .Tuple ((cs.zip ps).map fun c => .Name c.1.nm c.2) k p2] [] pos) (tE C X.K W (.isi x cs false)) :=
  (pe_callB call_isiT hg hm (by rfl) (pa_cons ha (pa_cons (pe_tup (pIsi cs ps hl hg2)) pa_nil (star_cons rfl)) (star_cons hst)) (by decide) (by decide) (star_cons hst) (star_any (by rfl))).weak fun σ H Q h => by
  obtain ⟨ρ, μ, β, ns, bn, S, h⟩ := h
  refine use S (Sat_bind h) fun t μ1 v H1 bn1 n h s1 x1 => ?_
  refine ⟨by rw [List.length_map]; exact le_line h15, fun q hq => ?_⟩
  have n1 : New1 H1 (upd H1 q (.tup (cs.map fun c => V.ty c.nm))) := .inr ⟨q, _, hq, rfl⟩
  obtain ⟨n', r1, nb, _⟩ := view_ok (g := C.g) s1.box x1
  refine ⟨v, q, _, _, _, _, rfl, upd_same, cls_all cs, ty_of _ (r1.new n1) nb, kitAny_of _ nb cs, ?_⟩
  exact h _ _ bn1 [] (s1.trans (Step.new1 s1.box n1)) (Val.imm ⟨rfl, rfl⟩ rfl rfl)
/-! ### the box -/
/-- box[i], the index's reading -/
def tBx (C : Cf) (K : PySem.W.Frag) (W : WX) (i : Nat) (y : IE) : TE := fun σ H Q => ∃ ρ μ β ns bn k, ESt K C.g β H ρ σ μ ns bn ∧ getV ρ i = some (.box k) ∧
  Sat (evE C.F ρ y μ) (fun j μ' => ∀ c, μ'[k]? = some c → ∃ r, pSub c j = some r ∧ ∀ v H' bn' n, Step K β bn H H' μ' bn' → Rds K β H' r v n → n.Sublist (kn c (bn' k)) → Q v H') (XW C K β bn H fun c d H' => W c d σ H')
theorem e_bx {i : Nat} {nm : Str} {p1 : Pos} (hu : X.A.units + 65 < cLine) (hN : X.N[i]? = some nm) (hv : Vis X.env.scope nm) (hd : (nm == ("__debug__" : Str)) = false) (hcd : (nm == ("__classdict__" : Str)) = false) (hb : PE X b (tE C X.K W y)) (hs : PlainIx b) : PE X (.Subscript (.Name nm p1) b pos) (tBx C X.K W i y) :=
  (pe_ix (ixSub (by omega)) (pe_var hN hv hd hcd) hb hs).weak fun σ H Q h => by
  obtain ⟨ρ, μ, β, ns, bn, k, S, ek, h⟩ := h
  obtain ⟨v, e1, a, rfl, eβ, _⟩ := S.sl i _ ek
  refine ⟨_, e1, ?_⟩
  refine use S h fun j μ1 w H1 bn1 m h s1 y1 => ?_
  have hk : k < μ1.length := by rw [← s1.box.len]; exact (List.getElem?_eq_some_iff.mp eβ).1
  obtain ⟨a', eβ', r1, _, _⟩ := s1.box.rd k μ1[k] (List.getElem?_eq_getElem hk)
  rw [eβ] at eβ'; cases eβ'
  obtain ⟨r, e, q⟩ := h _ (List.getElem?_eq_getElem hk)
  exact ⟨β, _, _, r, _, _, r1, y1.rd, e, fun v k' rd sb => q v H1 bn1 k' s1 rd sb⟩
theorem neNil_key {i : Nat} {σ : St} {H : Hp} {Q : VK} (h : tE C X.K W (.neNil i y) σ H Q) : tOp (rCmp X.K .ne) (tBx C X.K W i y) (tLst tNil) σ H Q := by
  obtain ⟨ρ, μ, β, ns, bn, S, h⟩ := h
  rw [evE] at h
  split at h
  · rename_i k et
    refine ⟨ρ, μ, β, ns, bn, k, S, et, (Sat_bind h).mono (fun j μ1 h c ec => ?_) fun _ _ _ e => e⟩
    obtain ⟨r, er, h⟩ := Sat_opt (Sat_bind h)
    rw [ec] at er
    refine ⟨r, er, fun v H1 bn1 n s1 rd sb => ⟨Nat.zero_le _, fun p hp => ?_⟩⟩
    cases r <;> try exact False.elim h
    rename_i xs
    obtain ⟨ok, q⟩ := Sat_if h
    have n1 : New1 H1 (upd H1 p (.lst [])) := .inr ⟨p, _, hp, rfl⟩
    have d0 : datum 60 (.lst []) = true := rfl
    refine ⟨β, .lst xs, .lst [], !xs.isEmpty, n, [p], rd.new n1, ⟨p, [], [], rfl, upd_same, ⟨rfl, rfl⟩, rfl⟩, ?_, ?_⟩
    · show (if datum 60 (.lst xs) && datum 60 (.lst []) then some (!eqT (.lst xs) (.lst [])) else none) = _
      rw [ok, d0]
      cases xs <;> rfl
    · exact q _ _ bn1 [] (s1.trans (Step.new1 s1.box n1)) (Val.imm ⟨rfl, rfl⟩ rfl rfl)
  · exact False.elim h
theorem e_neNil {i : Nat} {nm : Str} {p1 p2 p3 : Pos} (hu : X.A.units + 65 < cLine) (hN : X.N[i]? = some nm) (hv : Vis X.env.scope nm) (hd : (nm == ("__debug__" : Str)) = false) (hcd : (nm == ("__classdict__" : Str)) = false) (hb : PE X b (tE C X.K W y)) (hs : PlainIx b) :
    PE X (.Compare (.Subscript (.Name nm p1) b p2) [.NotEq] [.List [] p3] pos) (tE C X.K W (.neNil i y)) := by
  have h1 := pe_cmpR (pos := pos) (opCmp hu .ne) (e_bx (C := C) (W := W) (pos := p2) (p1 := p1) hu hN hv hd hcd hb hs) (pe_lst (pos := p3) pa_nil) rfl
  exact PE.weak h1 fun σ H Q h => neNil_key h
theorem tT_tE {W : WX} {ie : IE} {σ : St} {H : Hp} {Q : Bool → Hp → Prop} (h : tT C X.K W ie σ H Q) : tE C X.K W ie σ H fun x H' => ∃ k, x = .bl k ∧ Q k H' := by
  obtain ⟨ρ, μ, β, ns, bn, S, h⟩ := h
  refine use S h fun t μ1 v H1 bn1 n h s1 x1 => ?_
  obtain ⟨b, rfl, q⟩ := h
  exact ⟨b, x1.rd.1, q H1 bn1 s1⟩
theorem t_neNil {i : Nat} {nm : Str} {p1 p2 p3 : Pos} (hu : X.A.units + 65 < cLine) (hN : X.N[i]? = some nm) (hv : Vis X.env.scope nm) (hd : (nm == ("__debug__" : Str)) = false) (hcd : (nm == ("__classdict__" : Str)) = false) (hb : PE X b (tE C X.K W y)) (hs : PlainIx b) :
    PT X (.Compare (.Subscript (.Name nm p1) b p2) [.NotEq] [.List [] p3] pos) (tT C X.K W (.neNil i y)) := by
  have h1 := pt_cmpR (pos := pos) (opCmp hu .ne) (e_bx (C := C) (W := W) (pos := p2) (p1 := p1) hu hN hv hd hcd hb hs) (pe_lst (pos := p3) pa_nil) rfl
  exact PT.weak h1 fun σ H Q h => neNil_key (tT_tE h)
/-- the i-th of a row is another one -/
theorem _root_.MP.RdsL.setAt {K : PySem.W.Frag} {β : List Addr} {H : Hp} {ts : List T} {vs : List V} {n : List Addr} (h : RdsL K β H ts vs n) {i : Nat} {t : T} (e : ts[i]? = some t) :
    ∃ v n1 m n2, vs[i]? = some v ∧ n = n1 ++ (m ++ n2) ∧ Rds K β H t v m ∧ ∀ (H' : Hp) (u : T) (w : V) (l : List Addr) (B : Addr → Prop), Keeps B H H' → (∀ a ∈ n1, ¬ B a) → (∀ a ∈ n2, ¬ B a) → Rds K β H' u w l → RdsL K β H' (ts.set i u) (vs.set i w) (n1 ++ (l ++ n2)) := by
  obtain ⟨v, n1, m, n2, e1, e2, r, h1, h2⟩ := h.at e
  refine ⟨v, n1, m, n2, e1, e2, r, fun H' u w l B k k1 k2 ru => ?_⟩
  have i1 : i < ts.length := (List.getElem?_eq_some_iff.mp e).1
  have i2 : i < vs.length := (List.getElem?_eq_some_iff.mp e1).1
  rw [List.set_eq_take_append_cons_drop, if_pos i1, List.set_eq_take_append_cons_drop, if_pos i2]
  exact (h1.keep k (fun _ _ e => e) _ k1).append ⟨w, _, l, n2, rfl, ru, h2.keep k (fun _ _ e => e) _ k2, rfl⟩
theorem popB_some {c : T} {i : Int} {y : T} {c' : T} (h : popB c i = some (y, c')) : ∃ cs m ys, c = .lst cs ∧ ixN cs.length i = some m ∧ cs[m]? = some (.lst (y :: ys)) ∧ nodeless y = true ∧ c' = .lst (cs.set m (.lst ys)) ∧ boxless c' = true := by
  unfold popB at h
  split at h
  · rename_i cs
    split at h
    · rename_i m hm
      split at h
      · rename_i y' ys hy
        split at h
        · rename_i hc
          cases h
          rw [Bool.and_eq_true] at hc
          exact ⟨cs, m, ys, rfl, hm, hy, hc.1, rfl, hc.2⟩
        · cases h
      · cases h
    · cases h
  · cases h
/-- a box's inner list gets other items without lists in them -/
theorem box_put {K : PySem.W.Frag} {β : List Addr} {H : Hp} {μ : Mem} {bn : Nat → List Addr} {k m : Nat} {cs ys zs : List T} {p : Addr} {ws : List V} {a : Addr} {vs : List V} {n1 n2 n3 : List Addr} (b : BoxOk K β H μ bn) (ec : μ[k]? = some (.lst cs)) (eβ : β[k]? = some a) (ea : H a = some (.lst vs)) (rl : RdsL K β H cs vs (n1 ++ (p :: n3 ++ n2))) (en : bn k = a :: (n1 ++ (p :: n3 ++ n2)))
    (em : cs[m]? = some (.lst ys)) (hp : vs[m]? = some (.ref p)) (ez : RdsL K β H zs ws n3) {us : List V} (eu : H p = some (.lst us)) (set : ∀ (H' : Hp) (u : T) (w : V) (l : List Addr) (B : Addr → Prop), Keeps B H H' → (∀ a ∈ n1, ¬ B a) → (∀ a ∈ n2, ¬ B a) → Rds K β H' u w l → RdsL K β H' (cs.set m u) (vs.set m w) (n1 ++ (l ++ n2))) (bl : boxless (.lst (cs.set m (.lst zs))) = true) :
    Step K β bn H (upd H p (.lst ws)) (μ.set k (.lst (cs.set m (.lst zs)))) bn := by
  have hk : k < μ.length := (List.getElem?_eq_some_iff.mp ec).1
  have hk' : k < β.length := by rw [b.len]; exact hk
  obtain ⟨_, _, _, _, nd⟩ := b.rd k _ ec
  have hpk : p ∈ bn k := by rw [en]; simp
  have hpB : Bx β bn p := ⟨k, hk', hpk⟩
  have kp : Keeps (Bx β bn) H (upd H p (.lst ws)) := Keeps.write eu hpB rfl
  have kp1 : Keeps (fun x => x = p) H (upd H p (.lst ws)) := Keeps.write eu rfl rfl
  have nd' := nd
  rw [en] at nd'
  have hap : a ≠ p := fun z => by subst z; exact (List.nodup_cons.mp nd').1 (by simp)
  have nd2 := (List.nodup_cons.mp nd').2
  obtain ⟨_, nd4, dj1⟩ := List.nodup_append.mp nd2
  have q1 : ∀ x ∈ n1, x ≠ p := fun x hx z => dj1 x hx p (by simp) z
  obtain ⟨nd5, _, dj2⟩ := List.nodup_append.mp nd4
  have q2 : ∀ x ∈ n2, x ≠ p := fun x hx z => dj2 p (by simp) x hx z.symm
  have q3 : ∀ x ∈ n3, x ≠ p := fun x hx z => (List.nodup_cons.mp nd5).1 (z ▸ hx)
  refine ⟨kp, ⟨by rw [List.length_set]; exact b.len, fun l t e => ?_, b.dj⟩, fun _ z => .inl z⟩
  by_cases hl : l = k
  · subst hl
    rw [List.getElem?_set_self hk] at e
    cases e
    refine ⟨a, eβ, ?_, bl, nd⟩
    rw [en]
    refine ⟨a, vs.set m (.ref p), n1 ++ (p :: n3 ++ n2), rfl, ?_, ?_, rfl⟩
    · rw [upd_ne hap]
      have : vs.set m (.ref p) = vs := by
        obtain ⟨q1, q2⟩ := List.getElem?_eq_some_iff.mp hp
        rw [← q2]
        exact List.set_getElem_self q1
      rw [this]
      exact ea
    · exact set _ _ _ (p :: n3) (fun x => x = p) kp1 q1 q2 ⟨p, ws, n3, rfl, upd_same, ez.keep kp1 (fun _ _ e => e) _ q3, rfl⟩
  · rw [List.getElem?_set_ne (fun z => hl z.symm)] at e
    obtain ⟨a', e1, r, bl', nd'⟩ := b.rd l t e
    have hl' : l < β.length := by rw [b.len]; exact (List.getElem?_eq_some_iff.mp e).1
    exact ⟨a', e1, r.keep kp1 (fun _ _ e => e) _ fun x hx z => b.dj l k hl hl' hk' x hx (z ▸ hpk), bl', nd'⟩
/-- box[i], the very item -/
def tBxL (C : Cf) (K : PySem.W.Frag) (W : WX) (i : Nat) (y : IE) : TE := fun σ H Q => ∃ ρ μ β ns bn k, ESt K C.g β H ρ σ μ ns bn ∧ getV ρ i = some (.box k) ∧
  Sat (evE C.F ρ y μ) (fun j μ' => ∃ ji cs m, j = .int ji ∧ μ'[k]? = some (.lst cs) ∧ ixN cs.length ji = some m ∧ m < cs.length ∧
    ∀ H' bn' a vs n v, Step K β bn H H' μ' bn' → β[k]? = some a → H' a = some (.lst vs) → RdsL K β H' cs vs n → bn' k = a :: n → vs[m]? = some v → Q v H') (XW C K β bn H fun c d H' => W c d σ H')
theorem e_bxL {i : Nat} {nm : Str} {p1 : Pos} (hN : X.N[i]? = some nm) (hv : Vis X.env.scope nm) (hd : (nm == ("__debug__" : Str)) = false) (hcd : (nm == ("__classdict__" : Str)) = false) (hb : PE X b (tE C X.K W y)) (hs : PlainIx b) : PE X (.Subscript (.Name nm p1) b pos) (tBxL C X.K W i y) :=
  (pe_ix ix_list (pe_var hN hv hd hcd) hb hs).weak fun σ H Q h => by
  obtain ⟨ρ, μ, β, ns, bn, k, S, ek, h⟩ := h
  obtain ⟨v, e1, a, rfl, eβ, _⟩ := S.sl i _ ek
  refine ⟨_, e1, ?_⟩
  refine use S h fun j μ1 w H1 bn1 m h s1 y1 => ?_
  obtain ⟨ji, cs, m', rfl, ec, ei, hm, q⟩ := h
  obtain ⟨a', eβ', r1, _, _⟩ := s1.box.rd k _ ec
  rw [eβ] at eβ'; cases eβ'
  obtain ⟨_, vs, n0, e2, ea, rl, en⟩ := r1
  cases e2
  obtain ⟨rfl, _⟩ := y1.rd
  have hl := rl.length
  have hm' : m' < vs.length := by omega
  refine ⟨a, vs, ji, vs[m'], rfl, rfl, SqL.of ea, ?_, q H1 bn1 a vs n0 _ s1 eβ ea rl en (List.getElem?_eq_getElem hm')⟩
  unfold atI
  rw [hl, ei]
  exact List.getElem?_eq_getElem hm'
/-- box[i].pop(0) -/
theorem e_popAt {i k0 : Nat} {nm : Str} {p1 p2 p3 apos : Pos} {x : IE} {a : Expr} (hu : X.A.units + 65 < cLine) (hN : X.N[i]? = some nm) (hv : Vis X.env.scope nm) (hd : (nm == ("__debug__" : Str)) = false) (hcd : (nm == ("__classdict__" : Str)) = false) (ha : PE X a (tE C X.K W x)) (hs : PlainIx a)
    (hline : (apos.endLine == pos.line) = true) : PE X (.Call (.Attribute (.Subscript (.Name nm p1) a p2) "pop" apos) [.Constant (.int 0) k0 p3] [] pos) (tE C X.K W (.popAt i x (.cst (.int 0)))) := by
  have h1 := pe_bm (X := X) (name := "pop") (cpos := pos) (apos := apos) PySem.F.plainAttrs_list PySem.F.slot_list_pop PySem.F.type_list_pop mt_popAt (e_bxL (C := C) (W := W) (pos := p2) (p1 := p1) hN hv hd hcd ha hs) (pa_cons (pe_int (i := 0) (j := k0) (pos := p3)) pa_nil) (by rfl) (by rfl) hline
  refine PE.weak h1 fun σ H Q h => ?_
  obtain ⟨ρ, μ, β, ns, bn, S, h⟩ := h
  rw [evE] at h
  split at h
  · rename_i k et
    obtain ⟨vb, evb, ab, rfl, eβ, _⟩ := S.sl i _ et
    refine ⟨ρ, μ, β, ns, bn, k, S, et, (Sat_bind h).mono (fun j μ1 h => ?_) fun _ _ _ e => e⟩
    have h : Sat (match j, (T.int 0), μ1[k]? with
        | .int i, .int 0, some c => (match popB c i with
          | some r => .ok r.1 (μ1.set k r.2)
          | none => .stuck)
        | _, _, _ => .stuck) _ _ := h
    cases j with
    | int ji =>
      cases ec : μ1[k]? with
      | none => rw [ec] at h; exact False.elim h
      | some c =>
      rw [ec] at h
      have h : Sat (match popB c ji with
          | some r => .ok r.1 (μ1.set k r.2)
          | none => .stuck) _ _ := h
      split at h
      · rename_i r er
        obtain ⟨y0, c'⟩ := r
        obtain ⟨cs, m, ys, rfl, hm, hy, nl, rfl, bl⟩ := popB_some er
        have hml : m < cs.length := (List.getElem?_eq_some_iff.mp hy).1
        refine ⟨ji, cs, m, rfl, rfl, hm, hml, fun H1 bn1 a vs n v s1 eβ' ea rl en ev => ?_⟩
        obtain ⟨v', n1, mm, n2, e2, rfl, r2, set⟩ := RdsL.setAt rl hy
        rw [ev] at e2; cases e2
        obtain ⟨p, us, m', rfl, eu, rlu, rfl⟩ := r2
        obtain ⟨w0, ws, k1, k2, rfl, r0, rly, rfl⟩ := rlu
        have k1e : k1 = [] := r0.nil _ nl
        subst k1e
        refine ⟨.inl ⟨rfl, _, SqL.of eu⟩, p, w0 :: ws, 0, 0, w0, rfl, rfl, eu, by decide, by decide, ?_, rfl, ?_⟩
        · simp [seqIndex?]
        · have st := box_put (zs := ys) (ws := ws) s1.box ec eβ' ea rl en hy ev rly eu set bl
          refine h w0 _ bn1 [] (s1.trans st) ⟨r0.keep st.keep (fun _ _ e => e) _ (fun _ z => by cases z), (fun _ z => by cases z), Good.nil (nodeless_isNode nl) rfl⟩
      · exact False.elim h
    | _ => exact False.elim h
  · exact False.elim h
end
end MP

/-! C12: what is walked; targets. -/
namespace MP
open PySem L2

/-! ### targets -/
section
variable {K : PySem.W.Frag} {g : Sg} {β : List Addr} {H : Hp} {ρ ρ' : Env} {σ : St} {μ : Mem} {ns bn : Nat → List Addr}
theorem getV_set {ρ : Env} {i j : Nat} {t : T} : getV (ρ.set i (some t)) j = if j = i ∧ i < ρ.length then some t else getV ρ j := by
  unfold getV
  by_cases h : j = i
  · subst h
    by_cases hl : j < ρ.length
    · rw [List.getElem?_set_self hl, if_pos ⟨rfl, hl⟩]
    · rw [if_neg (fun z => hl z.2), List.getElem?_eq_none (by simpa using hl), List.getElem?_eq_none (by simpa using hl)]
  · rw [List.getElem?_set_ne (fun z => h z.symm), if_neg (fun z => h z.1)]
theorem getV_none {ρ : Env} {i j : Nat} : getV (ρ.set i none) j = if j = i then none else getV ρ j := by
  unfold getV
  by_cases h : j = i
  · subst h
    rw [if_pos rfl]
    by_cases hl : j < ρ.length
    · rw [List.getElem?_set_self hl]
    · rw [List.getElem?_eq_none (by simpa using hl)]
  · rw [List.getElem?_set_ne (fun z => h z.symm), if_neg h]
/-- a slot (of kind S) gets a value -/
theorem ESt.bind (S : ESt K g β H ρ σ μ ns bn) {i : Nat} {t : T} {v : V} {n : List Addr} (hk : g.k i = .S) (r : Rds K β H t v n) (nb : ∀ a ∈ n, ¬ Bx β bn a) :
    ESt K g β H (ρ.set i (some t)) (σ.set i (some v)) μ (fun j => if j = i then (if i < ρ.length then n else []) else ns j) bn where
  box := S.box
  len := by rw [List.length_set, List.length_set]; exact S.len
  sl := fun j u e => by
    rw [getV_set] at e
    by_cases h : j = i
    · subst h
      by_cases hl : j < ρ.length
      · rw [if_pos ⟨rfl, hl⟩] at e
        cases e
        rw [if_pos rfl, if_pos hl]
        exact ⟨v, List.getElem?_set_self (by rw [← S.len]; exact hl), r⟩
      · rw [if_neg (fun z => hl z.2)] at e
        unfold getV at e
        rw [List.getElem?_eq_none (by simpa using hl)] at e
        cases e
    · rw [if_neg (fun z => h z.1)] at e
      rw [if_neg h, List.getElem?_set_ne (fun z => h z.symm)]
      exact S.sl j u e
  no := fun j e => by
    rw [getV_set] at e
    by_cases h : j = i
    · subst h
      rw [if_pos rfl]
      split
      · rename_i hl
        rw [if_pos ⟨rfl, hl⟩] at e; cases e
      · rfl
    · rw [if_neg (fun z => h z.1)] at e
      rw [if_neg h]
      exact S.no j e
  sb := fun j a ha => by
    by_cases h : j = i
    · rw [if_pos h] at ha
      split at ha
      · exact nb a ha
      · cases ha
    · rw [if_neg h] at ha
      exact S.sb j a ha
  dn := fun j hj => by
    by_cases h : j = i
    · subst h; rw [hk] at hj; cases hj
    · rw [if_neg h]; exact S.dn j hj
  dd := fun j l hne hj hl a ha => by
    have h1 : j ≠ i := fun z => by subst z; rw [hk] at hj; cases hj
    have h2 : l ≠ i := fun z => by subst z; rw [hk] at hl; cases hl
    rw [if_neg h1] at ha
    rw [if_neg h2]
    exact S.dd j l hne hj hl a ha
  pk := fun j u hj e => by
    have h1 : j ≠ i := fun z => by subst z; rw [hk] at hj; cases hj
    rw [getV_set, if_neg (fun z => h1 z.1)] at e
    rw [if_neg h1]
    exact S.pk j u hj e
/-- a slot is forgotten -/
theorem ESt.drop1 (S : ESt K g β H ρ σ μ ns bn) (i : Nat) : ESt K g β H (ρ.set i none) (σ.set i none) μ (fun j => if j = i then [] else ns j) bn where
  box := S.box
  len := by rw [List.length_set, List.length_set]; exact S.len
  sl := fun j u e => by
    rw [getV_none] at e
    by_cases h : j = i
    · rw [if_pos h] at e; cases e
    · rw [if_neg h] at e
      rw [if_neg h, List.getElem?_set_ne (fun z => h z.symm)]
      exact S.sl j u e
  no := fun j e => by
    by_cases h : j = i
    · rw [if_pos h]
    · rw [getV_none, if_neg h] at e
      rw [if_neg h]
      exact S.no j e
  sb := fun j a ha => by
    by_cases h : j = i
    · rw [if_pos h] at ha; cases ha
    · rw [if_neg h] at ha
      exact S.sb j a ha
  dn := fun j hj => by
    by_cases h : j = i
    · rw [if_pos h]; exact List.nodup_nil
    · rw [if_neg h]; exact S.dn j hj
  dd := fun j l hne hj hl a ha => by
    by_cases h1 : j = i
    · rw [if_pos h1] at ha; cases ha
    · rw [if_neg h1] at ha
      by_cases h2 : l = i
      · rw [if_pos h2]; exact fun z => by cases z
      · rw [if_neg h2]; exact S.dd j l hne hj hl a ha
  pk := fun j u hj e => by
    by_cases h : j = i
    · rw [if_pos h]; exact .inr rfl
    · rw [getV_none, if_neg h] at e
      rw [if_neg h]
      exact S.pk j u hj e
theorem ESt.forget (S : ESt K g β H ρ σ μ ns bn) : ∀ is : List Nat, ∃ ns', ESt K g β H (forget ρ is) (wipe σ is) μ ns' bn ∧ (∀ j, (j ∉ is ∧ ns' j = ns j) ∨ ns' j = [])
  | [] => ⟨ns, S, fun _ => .inl ⟨by simp, rfl⟩⟩
  | i :: is => by
    obtain ⟨ns', S', h⟩ := ESt.forget S is
    refine ⟨_, S'.drop1 i, fun j => ?_⟩
    split
    · exact .inr rfl
    · rename_i hj
      rcases h j with ⟨h1, h2⟩ | h2
      · exact .inl ⟨by simp [hj, h1], h2⟩
      · exact .inr h2
end
mutual
def gTg (K : PySem.W.Frag) : Tg → TG
  | .nm i => gName i
  | .tp ts => gTup K ts.length (gTgs K ts)
def gTgs (K : PySem.W.Frag) : List Tg → TGs
  | [] => gNil
  | t :: ts => gCons (gTg K t) (gTgs K ts)
end
theorem wipe_set {σ : St} {v : Option V} : ∀ {vs : List Nat} {i : Nat}, i ∈ vs → wipe (σ.set i v) vs = wipe σ vs
  | [], i, h => by cases h
  | w :: vs, i, h => by
    unfold wipe
    by_cases hi : i ∈ vs
    · rw [wipe_set hi]
    · have hw : i = w := by rcases List.mem_cons.mp h with z | z; exact z; exact absurd z hi
      subst hw
      have key : ∀ (vs : List Nat), i ∉ vs → wipe (σ.set i v) vs = (wipe σ vs).set i v := fun vs => by
        induction vs with
        | nil => intro _; rfl
        | cons u us ih =>
          intro hu
          have h1 : i ≠ u := fun z => hu (by rw [z]; exact List.mem_cons_self)
          have h2 : i ∉ us := fun z => hu (List.mem_cons_of_mem _ z)
          show (wipe (σ.set i v) us).set u none = ((wipe σ us).set u none).set i v
          rw [ih h2, List.set_comm _ _ h1]
      rw [key vs hi, List.set_set]
theorem wipe_wipe (σ : St) : ∀ vs : List Nat, wipe (wipe σ vs) vs = wipe σ vs := by
  intro vs
  have : ∀ us : List Nat, (∀ u ∈ us, u ∈ vs) → wipe (wipe σ us) vs = wipe σ vs := fun us => by
    induction us with
    | nil => intro _; rfl
    | cons u us ih =>
      intro h
      show wipe ((wipe σ us).set u none) vs = _
      rw [wipe_set (h u List.mem_cons_self)]
      exact ih fun x hx => h x (List.mem_cons_of_mem _ hx)
  exact this vs fun _ h => h
section
variable {K : PySem.W.Frag} {g : Sg} {β : List Addr} {H : Hp} {μ : Mem} {bn : Nat → List Addr}
/-- what a store into a target leaves -/
structure Bnd (K : PySem.W.Frag) (g : Sg) (β : List Addr) (H : Hp) (ρ' : Env) (μ : Mem) (bn ns : Nat → List Addr) (σ : St) (is : List Nat) (n : List Addr) (σ' : St) (ns' : Nat → List Addr) : Prop where
  st : ESt K g β H ρ' σ' μ ns' bn
  own : ∀ j, ns' j = ns j ∨ (j ∈ is ∧ ∀ a ∈ ns' j, a ∈ n)
  wp : ∀ vs : List Nat, (∀ i ∈ is, i ∈ vs) → wipe σ' vs = wipe σ vs
mutual
theorem gTg_ok : ∀ (tg : Tg) {t : T} {v : V} {n : List Addr} {ρ ρ' : Env} {σ : St} {ns : Nat → List Addr} {Q : St → Hp → Prop}, ESt K g β H ρ σ μ ns bn → Rds K β H t v n → (∀ a ∈ n, ¬ Bx β bn a) → bindTg tg t ρ = some ρ' → (∀ i ∈ tg.slots, g.k i = .S) →
    (∀ σ' ns', Bnd K g β H ρ' μ bn ns σ tg.slots n σ' ns' → Q σ' H) → gTg K tg v σ H Q
  | .nm i, t, v, n, ρ, ρ', σ, ns, Q, S, r, nb, e, hk, q => by
    have e' : ρ.set i (some t) = ρ' := Option.some.inj e
    subst e'
    refine q _ _ ⟨S.bind (hk i (by simp [Tg.slots])) r nb, fun j => ?_, fun vs h => wipe_set (h i (by simp [Tg.slots]))⟩
    split
    · rename_i h
      refine .inr ⟨by simp [Tg.slots, h], fun a ha => ?_⟩
      split at ha
      · exact ha
      · cases ha
    · exact .inl rfl
  | .tp ts, t, v, n, ρ, ρ', σ, ns, Q, S, r, nb, e, hk, q => by
    cases t <;> simp only [bindTg, reduceCtorEq] at e
    rename_i xs
    obtain ⟨a, vs, rfl, ea, rl⟩ := r
    have hl : vs.length = ts.length := by
      rw [rl.length]
      exact (bindTgs_len ts e).symm
    exact ⟨a, vs, rfl, SqT.of ea, hl, gTgs_ok ts S rl nb e hk q⟩
theorem gTgs_ok : ∀ (ts : List Tg) {xs : List T} {vs : List V} {n : List Addr} {ρ ρ' : Env} {σ : St} {ns : Nat → List Addr} {Q : St → Hp → Prop}, ESt K g β H ρ σ μ ns bn → RdsL K β H xs vs n → (∀ a ∈ n, ¬ Bx β bn a) → bindTgs ts xs ρ = some ρ' → (∀ i ∈ Tg.slotsL ts, g.k i = .S) →
    (∀ σ' ns', Bnd K g β H ρ' μ bn ns σ (Tg.slotsL ts) n σ' ns' → Q σ' H) → gTgs K ts vs σ H Q
  | [], xs, vs, n, ρ, ρ', σ, ns, Q, S, r, nb, e, hk, q => by
    cases xs <;> simp only [bindTgs, reduceCtorEq, Option.some.injEq] at e
    subst e
    obtain ⟨rfl, rfl⟩ := r
    exact ⟨rfl, q σ ns ⟨S, fun _ => .inl rfl, fun _ _ => rfl⟩⟩
  | t :: ts, xs, vs, n, ρ, ρ', σ, ns, Q, S, r, nb, e, hk, q => by
    cases xs with
    | nil => simp [bindTgs] at e
    | cons x xs =>
      obtain ⟨v, ws, m, k, rfl, r1, r2, rfl⟩ := r
      simp only [bindTgs] at e
      split at e
      · rename_i ρ1 e1
        refine ⟨v, ws, rfl, gTg_ok t S r1 (fun a ha => nb a (List.mem_append_left _ ha)) e1 (fun i hi => hk i (List.mem_append_left _ hi)) fun σ1 ns1 B1 => ?_⟩
        refine gTgs_ok ts B1.st r2 (fun a ha => nb a (List.mem_append_right _ ha)) e (fun i hi => hk i (List.mem_append_right _ hi)) fun σ2 ns2 B2 => ?_
        refine q σ2 ns2 ⟨B2.st, fun j => ?_, fun us h => ?_⟩
        · rcases B2.own j with h | ⟨h1, h2⟩
          · rw [h]
            rcases B1.own j with h | ⟨h1, h2⟩
            · exact .inl h
            · exact .inr ⟨List.mem_append_left _ h1, fun a ha => List.mem_append_left _ (h2 a ha)⟩
          · exact .inr ⟨List.mem_append_right _ h1, fun a ha => List.mem_append_right _ (h2 a ha)⟩
        · rw [B2.wp us fun i hi => h i (List.mem_append_right _ hi), B1.wp us fun i hi => h i (List.mem_append_left _ hi)]
      · cases e
theorem bindTgs_len : ∀ (ts : List Tg) {xs : List T} {ρ ρ' : Env}, bindTgs ts xs ρ = some ρ' → ts.length = xs.length
  | [], xs, ρ, ρ', e => by cases xs <;> simp [bindTgs] at e <;> rfl
  | t :: ts, xs, ρ, ρ', e => by
    cases xs with
    | nil => simp [bindTgs] at e
    | cons x xs =>
      simp only [bindTgs] at e
      split at e
      · rw [List.length_cons, List.length_cons, bindTgs_len ts e]
      · cases e
end
end

/-! ### what is walked -/
/-- an iterator over a value: mm: all nodes of it; ts: what it yields -/
structure ItOk (K : PySem.W.Frag) (β : List Addr) (ns bn' : Nat → List Addr) (H H' : Hp) (w k : Inf) (J : It) (ts : List T) (mm : List Addr) (G : Hp → Prop) : Prop where
  nb : ∀ a ∈ mm, ¬ Bx β bn' a
  src : ∀ a ∈ mm, H a = none ∨ (∃ j ∈ w.dp, a ∈ ns j) ∨ (∃ j ∈ w.dc, a ∈ (ns j).drop 1)
  trk : ∀ a ∈ mm, H' a ≠ none
  g0 : G H'
  keep : ∀ (B : Addr → Prop) (H1 H2 : Hp), G H1 → Keeps B H1 H2 → (∀ a ∈ mm, ¬ B a) → G H2
  walk : Walk J ts.length G fun i H1 x H2 => New1 H1 H2 ∧ ∃ t n, ts[i]? = some t ∧ Rds K β H2 t x n ∧ ∀ a ∈ n, a ∈ mm ∧ (H a = none ∨ (∃ j ∈ k.dp, a ∈ ns j) ∨ (∃ j ∈ k.dc, a ∈ (ns j).drop 1))
def tI (C : Cf) (K : PySem.W.Frag) (W : WX) (ii : II) : TI := fun σ H R => ∃ ρ μ β ns bn, ESt K C.g β H ρ σ μ ns bn ∧
  Sat (evI C.F ρ ii μ) (fun ts μ' => ∀ J H' bn' mm G, Step K β bn H H' μ' bn' → ItOk K β ns bn' H H' (infoW C.g ii) (infoI C.g ii) J ts mm G → R J H') (XW C K β bn H fun c d H' => W c d σ H')
section
variable {X : Cx} {C : Cf} {W : WX} {a b c tg : Expr} {x y z : IE} {pos p : Pos}
theorem PI.weak {it : Expr} {w w' : TI} (h : PI X tg it w) (e : ∀ σ H R, w' σ H R → w σ H R) : PI X tg it w' := ⟨fun pins s σ H R I q => h.run pins s σ H R I (e σ H R q)⟩
theorem PI.byCases {it : Expr} {w' : TI} (h : ∀ σ H R, w' σ H R → ∃ w, PI X tg it w ∧ w σ H R) : PI X tg it w' := ⟨fun pins s σ H R I q => by
  obtain ⟨w, hw, q'⟩ := h σ H R q
  exact hw.run pins s σ H R I q'⟩
theorem rngL_len (lo c : Int) : ∀ n, (rngL lo c n).length = n
  | 0 => rfl
  | n + 1 => by show (rngL (lo + c) c n).length + 1 = n + 1; rw [rngL_len]
theorem rngL_get (lo c : Int) : ∀ (n i : Nat), i < n → (rngL lo c n)[i]? = some (.int (lo + (i : Nat) * c))
  | 0, i, h => absurd h (Nat.not_lt_zero _)
  | n + 1, 0, _ => by simp [rngL]
  | n + 1, i + 1, h => by
    show (rngL (lo + c) c n)[i]? = _
    rw [rngL_get _ _ n i (by omega)]
    congr 2
    rw [Int.natCast_add, Int.add_mul]
    omega
theorem enumL_len : ∀ (xs : List T) (k : Int), (enumL k xs).length = xs.length
  | [], _ => rfl
  | x :: xs, k => by show (enumL (k + 1) xs).length + 1 = xs.length + 1; rw [enumL_len]
theorem enumL_get : ∀ (xs : List T) (k : Int) (i : Nat) (x : T), xs[i]? = some x → (enumL k xs)[i]? = some (.tup [.int (k + (i : Nat)), x])
  | [], _, i, x, h => by simp at h
  | y :: xs, k, 0, x, h => by simp at h; subst h; simp [enumL]
  | y :: xs, k, i + 1, x, h => by
    show (enumL (k + 1) xs)[i]? = _
    rw [enumL_get xs (k + 1) i x (by simpa using h)]
    congr 4
    omega
theorem zipL_len : ∀ xs ys : List T, (zipL xs ys).length = min xs.length ys.length
  | [], ys => by simp [zipL]
  | x :: xs, [] => by simp [zipL]
  | x :: xs, y :: ys => by show (zipL xs ys).length + 1 = _; rw [zipL_len]; simp <;> omega
theorem zipL_get : ∀ (xs ys : List T) (i : Nat) (x y : T), xs[i]? = some x → ys[i]? = some y → (zipL xs ys)[i]? = some (.tup [x, y])
  | [], ys, i, x, y, h, _ => by simp at h
  | _ :: _, [], i, x, y, _, h => by simp at h
  | _ :: xs, _ :: ys, 0, x, y, h1, h2 => by simp at h1 h2; subst h1 h2; rfl
  | _ :: xs, _ :: ys, i + 1, x, y, h1, h2 => by
    show (zipL xs ys)[i]? = _
    exact zipL_get xs ys i x y (by simpa using h1) (by simpa using h2)
/-- the i-th of a row's items -/
theorem item_at {K : PySem.W.Frag} {β : List Addr} {H : Hp} {ts : List T} {vs : List V} {m : List Addr} (h : RdsL K β H ts vs m) {i : Nat} {v : V} (e : vs[i]? = some v) : ∃ t n, ts[i]? = some t ∧ Rds K β H t v n ∧ n.Sublist m := by
  obtain ⟨t, et⟩ := h.get e
  obtain ⟨v', n1, l, n2, e1, rfl, r, _, _⟩ := h.at et
  rw [e] at e1; cases e1
  exact ⟨t, l, et, r, (List.sublist_append_left l n2).trans (List.sublist_append_right n1 _)⟩
theorem kid_items {K : PySem.W.Frag} {g : Sg} {β : List Addr} {ns bn1 : Nat → List Addr} {H H1 : Hp} {i : Inf} {t : T} {v : V} {n : List Addr} (x : Val K β bn1 ns H H1 i t v n) :
    ∀ a ∈ kn t n, H a = none ∨ (∃ j ∈ (kidI g i).dp, a ∈ ns j) ∨ (∃ j ∈ (kidI g i).dc, a ∈ (ns j).drop 1) := (x.kid (g := g)).src
def isTup : T → Bool
  | .tup _ => true
  | _ => false
theorem itok_seq {K : PySem.W.Frag} {g : Sg} {β : List Addr} {ns bn1 : Nat → List Addr} {H H1 : Hp} {i : Inf} {t : T} {v : V} {n : List Addr} {ts : List T} (x : Val K β bn1 ns H H1 i t v n) (e : seqOf t = some ts) :
    ∃ a vs, v = .ref a ∧ ((isTup t = true ∧ SqT K H1 a vs ∧ ∃ G, ItOk K β ns bn1 H H1 i (kidI g i) (Itt K a) ts n G) ∨ (isTup t = false ∧ SqL K H1 a vs ∧ ∃ G, ItOk K β ns bn1 H H1 i (kidI g i) (Itl K a) ts n G)) := by
  have trk : ∀ a ∈ n, H1 a ≠ none := fun a ha z => by
    obtain ⟨o, e, _⟩ := x.node ha
    rw [e] at z; cases z
  have ki := kid_items (g := g) x
  have rd := x.rd
  cases t <;> simp only [seqOf, reduceCtorEq, Option.some.injEq] at e
  · subst e
    obtain ⟨a, vs, m, rfl, ea, rl, rfl⟩ := rd
    refine ⟨a, vs, rfl, .inr ⟨rfl, SqL.of ea, fun H => H a = some (.lst vs) ∧ RdsL K β H _ vs m, x.nb, x.ok.src, trk, ⟨ea, rl⟩, fun B H2 H3 ⟨g1, g2⟩ k nb => ⟨k.keep a _ g1 (nb a List.mem_cons_self), g2.keep k (fun _ _ e => e) _ fun b hb => nb b (List.mem_cons_of_mem _ hb)⟩, ?_⟩⟩
    rw [← rl.length]
    refine walk_list.mono (fun H q => SqL.of q.1) fun i H2 y H3 hi q ⟨e1, e2⟩ => ?_
    subst e1
    obtain ⟨t, l, et, r, sb⟩ := item_at q.2 e2
    exact ⟨.inl rfl, t, l, et, r, fun b hb => ⟨List.mem_cons_of_mem _ (sb.subset hb), ki b (sb.subset hb)⟩⟩
  · subst e
    obtain ⟨a, vs, rfl, ea, rl⟩ := rd
    refine ⟨a, vs, rfl, .inl ⟨rfl, SqT.of ea, fun H => H a = some (.tup vs) ∧ RdsL K β H _ vs n, x.nb, x.ok.src, trk, ⟨ea, rl⟩, fun B H2 H3 ⟨g1, g2⟩ k nb => ⟨k.tup a _ g1, g2.keep k (fun _ _ e => e) _ nb⟩, ?_⟩⟩
    rw [← rl.length]
    refine walk_tup.mono (fun H q => SqT.of q.1) fun i H2 y H3 hi q ⟨e1, e2⟩ => ?_
    subst e1
    obtain ⟨t, l, et, r, sb⟩ := item_at q.2 e2
    exact ⟨.inl rfl, t, l, et, r, fun b hb => ⟨sb.subset hb, ki b (sb.subset hb)⟩⟩
  · subst e
    rename_i is
    obtain ⟨a, rfl, rfl, h⟩ := id rd
    have sq : ∀ H, Rds K β H (.scr is) (.ref a) [] → SqL K H a (is.map V.int) := fun H h => by
      obtain ⟨a', e1, _, h⟩ := h
      cases e1
      rcases h with ⟨o, h⟩ | ⟨o, its, m, h1, h2, h3, h4, h5, h6⟩
      · exact .inl (.inr ⟨o, h⟩)
      · exact .inr ⟨o, its, m, h1, h2, h3, h4, h5, h6⟩
    refine ⟨a, _, rfl, .inr ⟨rfl, sq _ rd, fun H => Rds K β H (.scr is) (.ref a) [], x.nb, x.ok.src, trk, rd, fun B H2 H3 g1 k nb => g1.keep k (fun _ _ e => e) _ nb, ?_⟩⟩
    have hl : (is.map T.int).length = (is.map V.int).length := by simp
    rw [hl]
    refine walk_list.mono (fun H q => sq H q) fun i H2 y H3 hi q ⟨e1, e2⟩ => ?_
    subst e1
    obtain ⟨t, l, et, r, sb⟩ := item_at (RdsL.ofInts is) e2
    exact ⟨.inl rfl, t, l, et, r, fun b hb => by cases sb.subset hb⟩
theorem i_seq (ha : PE X a (tE C X.K W x)) : PI X tg a (tI C X.K W (.seq x)) := PI.byCases fun σ H R h => by
  obtain ⟨ρ, μ, β, ns, bn, S, h⟩ := h
  rw [evI] at h
  cases e : evE C.F ρ x μ with
  | stuck => rw [e] at h; exact False.elim h
  | exc c t μ1 =>
    rw [e] at h
    refine ⟨_, pi_list ha, ρ, μ, β, ns, bn, S, ?_⟩
    rw [e]
    exact h
  | ok t μ1 =>
    rw [e] at h
    obtain ⟨ts, et, q⟩ := Sat_opt h
    cases it : isTup t with
    | true =>
      refine ⟨_, pi_tup ha, ρ, μ, β, ns, bn, S, ?_⟩
      rw [e]
      intro v H1 bn1 n s1 x1
      obtain ⟨a, vs, rfl, ⟨_, h1, G, h2⟩ | ⟨h0, _⟩⟩ := itok_seq (g := C.g) x1 et
      · exact ⟨a, rfl, ⟨vs, h1⟩, q _ _ _ _ _ s1 h2⟩
      · rw [it] at h0; cases h0
    | false =>
      refine ⟨_, pi_list ha, ρ, μ, β, ns, bn, S, ?_⟩
      rw [e]
      intro v H1 bn1 n s1 x1
      obtain ⟨a, vs, rfl, ⟨h0, _⟩ | ⟨_, h1, G, h2⟩⟩ := itok_seq (g := C.g) x1 et
      · rw [it] at h0; cases h0
      · exact ⟨a, rfl, ⟨vs, h1⟩, q _ _ _ _ _ s1 h2⟩
theorem itok_nil {K : PySem.W.Frag} {β : List Addr} {ns bn1 : Nat → List Addr} {H H1 : Hp} {w k : Inf} {J : It} {ts : List T} {m : Nat} {Y : Nat → Hp → V → Hp → Prop} (wk : Walk J m (fun _ => True) Y) (hm : ts.length = m) (hy : ∀ i H2 y H3, i < m → Y i H2 y H3 → H3 = H2 ∧ ∃ t, ts[i]? = some t ∧ ∀ H, Rds K β H t y []) :
    ItOk K β ns bn1 H H1 w k J ts [] (fun _ => True) := by
  refine ⟨(fun _ z => by cases z), (fun _ z => by cases z), (fun _ z => by cases z), trivial, (fun _ _ _ _ _ _ => trivial), ?_⟩
  rw [hm]
  refine wk.mono (fun _ _ => trivial) fun i H2 y H3 hi _ q => ?_
  obtain ⟨rfl, t, et, rd⟩ := hy i H2 y H3 hi q
  exact ⟨.inl rfl, t, [], et, rd _, fun _ z => by cases z⟩
theorem smallI_ok {i : Int} (h : smallI i = true) : -(2 ^ 62) ≤ i ∧ i < 2 ^ 62 := by
  simp only [smallI, Bool.and_eq_true, decide_eq_true_eq] at h
  exact h
theorem i_rng1 (hg : Gl X "range") (hm : X.mg "range" = none) (ha : PE X a (tE C X.K W x)) (hst : nost a = true) : PI X tg (.Call (.Name "range" p) [a] [] pos) (tI C X.K W (.rng1 x)) := PI.weak (pi_range1 hg hm (pa_cons ha pa_nil (star_cons hst)) (star_cons hst)) fun σ H R h => by
  obtain ⟨ρ, μ, β, ns, bn, S, h⟩ := h
  refine use S (Sat_bind h) fun t μ1 v H1 bn1 n h s1 x1 => ?_
  cases t <;> try exact False.elim h
  obtain ⟨rfl, _⟩ := x1.rd
  obtain ⟨ok, q⟩ := Sat_if h
  obtain ⟨b1, b2⟩ := smallI_ok ok
  refine ⟨_, rfl, b1, b2, q _ _ _ _ _ s1 (itok_nil walk_range (rngL_len _ _ _) fun i H2 y H3 hi ⟨e1, e2⟩ => ⟨e1, _, rngL_get _ _ _ _ hi, fun H => ⟨?_, rfl⟩⟩)⟩
  rw [e2, Int.mul_one]
theorem i_rng2 (hg : Gl X "range") (hm : X.mg "range" = none) (ha : PE X a (tE C X.K W x)) (hst : nost a = true) (hb : PE X b (tE C X.K W y)) (hst2 : nost b = true) : PI X tg (.Call (.Name "range" p) [a, b] [] pos) (tI C X.K W (.rng2 x y)) :=
  PI.weak (pi_range2 hg hm (pa_cons ha (pa_cons hb pa_nil (star_cons hst2)) (star_cons hst)) (by rw [star_cons hst, star_cons hst2] <;> rfl) (star_cons hst2)) fun σ H R h => by
  obtain ⟨ρ, μ, β, ns, bn, S, h⟩ := h
  refine use S (Sat_bind h) fun t μ1 v H1 bn1 n h s1 x1 => ?_
  refine use (S.step s1) ((Sat_bind h).later s1) fun u μ2 w H2 bn2 m h s2 y1 => ?_
  cases t <;> try exact False.elim h
  cases u <;> try exact False.elim h
  obtain ⟨rfl, _⟩ := x1.rd
  obtain ⟨rfl, _⟩ := y1.rd
  obtain ⟨ok, q⟩ := Sat_if h
  rw [Bool.and_eq_true] at ok
  obtain ⟨b1, b2⟩ := smallI_ok ok.1
  obtain ⟨b3, b4⟩ := smallI_ok ok.2
  refine ⟨_, _, rfl, ⟨b1, b2, b3, b4⟩, q _ _ _ _ _ (s1.trans s2) (itok_nil walk_range (rngL_len _ _ _) fun i H2 y H3 hi ⟨e1, e2⟩ => ⟨e1, _, rngL_get _ _ _ _ hi, fun H => ⟨?_, rfl⟩⟩)⟩
  rw [e2, Int.mul_one]
end
end MP

/-! C13: enumerate, zip; comprehensions. -/
namespace MP
open PySem L2
section
variable {X : Cx} {C : Cf} {W : WX} {a b c tg : Expr} {x y z : IE} {pos p : Pos}
/-- a new pair reads as the pair -/
theorem pair_rds {K : PySem.W.Frag} {β : List Addr} {H : Hp} {q : Addr} {t u : T} {v w : V} {n m : List Addr} (h1 : Rds K β H t v n) (h2 : Rds K β H u w m) (hq : H q = none) : Rds K β (upd H q (.tup [v, w])) (.tup [t, u]) (.ref q) (n ++ m) := by
  have n1 : New1 H (upd H q (.tup [v, w])) := .inr ⟨q, _, hq, rfl⟩
  exact ⟨q, [v, w], rfl, upd_same, v, [w], n, m, rfl, h1.new n1, ⟨w, [], m, [], rfl, h2.new n1, ⟨rfl, rfl⟩, by simp⟩, rfl⟩
theorem i_enum {elts : List Expr} {kk : Nat} {tpos : Pos} (hg : Gl X "enumerate") (hm : X.mg "enumerate" = none) (ha : PE X a (tE C X.K W x)) (hst : nost a = true) : PI X (.Tuple elts kk tpos) (.Call (.Name "enumerate" p) [a] [] pos) (tI C X.K W (.enum x)) :=
  PI.weak (pi_enum hg hm (pa_cons ha pa_nil (star_cons hst)) (star_cons hst)) fun σ H R h => by
  obtain ⟨ρ, μ, β, ns, bn, S, h⟩ := h
  refine use S (Sat_bind h) fun t μ1 v H1 bn1 n q s1 x1 => ?_
  cases t <;> try exact False.elim q
  rename_i xs
  obtain ⟨p, vs, m, rfl, ea, rl, rfl⟩ := id x1.rd
  have ki := kid_items (g := C.g) x1
  refine ⟨p, vs, rfl, SqL.of ea, q _ _ _ (p :: m) (fun H => H p = some (.lst vs) ∧ RdsL X.K β H xs vs m) s1 ⟨x1.nb, x1.ok.src, fun a ha z => ?_, ⟨ea, rl⟩, fun B H2 H3 ⟨g1, g2⟩ k nb => ⟨k.keep p _ g1 (nb p List.mem_cons_self), g2.keep k (fun _ _ e => e) _ fun b hb => nb b (List.mem_cons_of_mem _ hb)⟩, ?_⟩⟩
  · obtain ⟨o, e, _⟩ := x1.node ha
    rw [e] at z; cases z
  · rw [enumL_len, ← rl.length]
    refine walk_enum.mono (fun H q => SqL.of q.1) fun i H2 y H3 hi q ⟨q0, v1, v2, e1, hq, e2, e3, e4⟩ => ?_
    subst e1 e2
    obtain ⟨t, l, et, r, sb⟩ := item_at q.2 e4
    cases e3
    refine ⟨.inr ⟨q0, _, hq, rfl⟩, _, [] ++ l, enumL_get _ _ _ _ et, pair_rds ⟨?_, rfl⟩ r hq, fun b hb => ⟨List.mem_cons_of_mem _ (sb.subset hb), ki b (sb.subset hb)⟩⟩
    rw [Int.zero_add]
theorem i_zip {elts : List Expr} {kk : Nat} {tpos : Pos} (hg : Gl X "zip") (hm : X.mg "zip" = none) (ha : PE X a (tE C X.K W x)) (hst : nost a = true) (hb : PE X b (tE C X.K W y)) (hst2 : nost b = true) : PI X (.Tuple elts kk tpos) (.Call (.Name "zip" p) [a, b] [] pos) (tI C X.K W (.zip x y)) :=
  PI.weak (RZ.pi_zipA hg hm (pa_cons ha (pa_cons hb pa_nil (star_cons hst2)) (star_cons hst)) (star_cons hst) (star_any (by simp [hst2]))) fun σ H R h => by
  obtain ⟨ρ, μ, β, ns, bn, S, h⟩ := h
  refine use S (Sat_bind h) fun t μ1 v H1 bn1 n h s1 x1 => ?_
  refine use (S.step s1) ((Sat_bind h).later s1) fun u μ2 w H2 bn2 m q s2 y1 => ?_
  have s := s1.trans s2
  have x2 := x1.step s2
  have ki := kid_items (g := C.g) x1
  have kj := kid_items (g := C.g) y1
  have src : ∀ a ∈ n ++ m, H a = none ∨ (∃ j ∈ ((info C.g x).mix (info C.g y)).dp, a ∈ ns j) ∨ (∃ j ∈ ((info C.g x).mix (info C.g y)).dc, a ∈ (ns j).drop 1) := fun a ha => by
    rcases List.mem_append.mp ha with ha | ha
    · rcases x1.ok.src a ha with z | ⟨k, k1, k2⟩ | ⟨k, k1, k2⟩
      · exact .inl z
      · exact .inr (.inl ⟨k, List.mem_append_left _ k1, k2⟩)
      · exact .inr (.inr ⟨k, List.mem_append_left _ k1, k2⟩)
    · rcases y1.ok.src a ha with z | ⟨k, k1, k2⟩ | ⟨k, k1, k2⟩
      · exact .inl (s1.keep.more a z)
      · exact .inr (.inl ⟨k, List.mem_append_right _ k1, k2⟩)
      · exact .inr (.inr ⟨k, List.mem_append_right _ k1, k2⟩)
  have kid : ∀ a, (a ∈ kn t n ∨ a ∈ kn u m) → H a = none ∨ (∃ j ∈ ((kidI C.g (info C.g x)).mix (kidI C.g (info C.g y))).dp, a ∈ ns j) ∨ (∃ j ∈ ((kidI C.g (info C.g x)).mix (kidI C.g (info C.g y))).dc, a ∈ (ns j).drop 1) := fun a ha => by
    rcases ha with ha | ha
    · rcases ki a ha with z | ⟨k, k1, k2⟩ | ⟨k, k1, k2⟩
      · exact .inl z
      · exact .inr (.inl ⟨k, List.mem_append_left _ k1, k2⟩)
      · exact .inr (.inr ⟨k, List.mem_append_left _ k1, k2⟩)
    · rcases kj a ha with z | ⟨k, k1, k2⟩ | ⟨k, k1, k2⟩
      · exact .inl (s1.keep.more a z)
      · exact .inr (.inl ⟨k, List.mem_append_right _ k1, k2⟩)
      · exact .inr (.inr ⟨k, List.mem_append_right _ k1, k2⟩)
  have nb : ∀ a ∈ n ++ m, ¬ Bx β bn2 a := fun a ha => by
    rcases List.mem_append.mp ha with ha | ha
    · exact x2.nb a ha
    · exact y1.nb a ha
  have trk : ∀ a ∈ n ++ m, H2 a ≠ none := fun a ha z => by
    rcases List.mem_append.mp ha with ha | ha
    · obtain ⟨o, e, _⟩ := x2.node ha
      rw [e] at z; cases z
    · obtain ⟨o, e, _⟩ := y1.node ha
      rw [e] at z; cases z
  cases t <;> try exact False.elim q
  · cases u <;> try exact False.elim q
    rename_i xs ys
    obtain ⟨p, vs, m1, rfl, ea, rl, rfl⟩ := id x2.rd
    obtain ⟨p', vs', m2, rfl, ea', rl', rfl⟩ := id y1.rd
    refine ⟨p, p', vs, vs', rfl, .inl ⟨SqL.of ea, SqL.of ea', q _ _ _ _ (fun H => (H p = some (.lst vs) ∧ RdsL X.K β H xs vs m1) ∧ (H p' = some (.lst vs') ∧ RdsL X.K β H ys vs' m2)) s ⟨nb, src, trk, ⟨⟨ea, rl⟩, ea', rl'⟩, fun B H2 H3 ⟨⟨g1, g2⟩, g3, g4⟩ k nb => ⟨⟨k.keep p _ g1 (nb p (by simp)), g2.keep k (fun _ _ e => e) _ fun b hb => nb b (by simp [hb])⟩, k.keep p' _ g3 (nb p' (by simp)), g4.keep k (fun _ _ e => e) _ fun b hb => nb b (by simp [hb])⟩, ?_⟩⟩⟩
    rw [zipL_len, ← rl.length, ← rl'.length]
    refine (walk_zip rfl).mono (fun H q => ⟨SqL.of q.1.1, SqL.of q.2.1⟩) fun i H2 y H3 hi q ⟨q0, v1, v2, e1, hq, e2, e3, e4⟩ => ?_
    subst e1 e2
    obtain ⟨t, l, et, r, sb⟩ := item_at q.1.2 e3
    obtain ⟨t', l', et', r', sb'⟩ := item_at q.2.2 e4
    refine ⟨.inr ⟨q0, _, hq, rfl⟩, _, l ++ l', zipL_get _ _ _ _ _ et et', pair_rds r r' hq, fun b hb => ?_⟩
    rcases List.mem_append.mp hb with hb | hb
    · have := sb.subset hb
      exact ⟨by simp [this], kid b (.inl this)⟩
    · have := sb'.subset hb
      exact ⟨by simp [this], kid b (.inr this)⟩
  · cases u <;> try exact False.elim q
    rename_i xs ys
    obtain ⟨p, vs, rfl, ea, rl⟩ := id x2.rd
    obtain ⟨p', vs', rfl, ea', rl'⟩ := id y1.rd
    refine ⟨p, p', vs, vs', rfl, .inr ⟨SqT.of ea, SqT.of ea', q _ _ _ _ (fun H => (H p = some (.tup vs) ∧ RdsL X.K β H xs vs n) ∧ (H p' = some (.tup vs') ∧ RdsL X.K β H ys vs' m)) s ⟨nb, src, trk, ⟨⟨ea, rl⟩, ea', rl'⟩, fun B H2 H3 ⟨⟨g1, g2⟩, g3, g4⟩ k nb => ⟨⟨k.tup p _ g1, g2.keep k (fun _ _ e => e) _ fun b hb => nb b (by simp [hb])⟩, k.tup p' _ g3, g4.keep k (fun _ _ e => e) _ fun b hb => nb b (by simp [hb])⟩, ?_⟩⟩⟩
    rw [zipL_len, ← rl.length, ← rl'.length]
    have wz : Walk (RZ.ItzT X.K p p') (min vs.length vs'.length) (fun H => SqT X.K H p vs ∧ SqT X.K H p' vs') (YPair (fun i => vs[i]?) (fun i => vs'[i]?)) := by
      refine ⟨fun i _ hi q => ?_, fun _ q => ⟨vs, vs', q.1, q.2, by omega⟩, fun i H v H' _ q y => ?_⟩
      · have h1 : i < vs.length := by omega
        have h2 : i < vs'.length := by omega
        exact ⟨vs, vs', vs[i], vs'[i], q.1, q.2, by simp [h1], by simp [h2]⟩
      · obtain ⟨T, x, z, h1, h2, h3, h4, h5⟩ := y
        exact ⟨T, x, z, h1, h2, h3, h4 vs q.1, h5 vs' q.2⟩
    refine wz.mono (fun H q => ⟨SqT.of q.1.1, SqT.of q.2.1⟩) fun i H2 y H3 hi q ⟨q0, v1, v2, e1, hq, e2, e3, e4⟩ => ?_
    subst e1 e2
    obtain ⟨t, l, et, r, sb⟩ := item_at q.1.2 e3
    obtain ⟨t', l', et', r', sb'⟩ := item_at q.2.2 e4
    refine ⟨.inr ⟨q0, _, hq, rfl⟩, _, l ++ l', zipL_get _ _ _ _ _ et et', pair_rds r r' hq, fun b hb => ?_⟩
    rcases List.mem_append.mp hb with hb | hb
    · have := sb.subset hb
      exact ⟨by simp [this], kid b (.inl this)⟩
    · have := sb'.subset hb
      exact ⟨by simp [this], kid b (.inr this)⟩
end

/-! ### comprehensions -/
def W0 : WX := fun _ _ _ _ => False
def tC0 (C : Cf) (K : PySem.W.Frag) : Option IE → TT
  | none => tYes
  | some c => tT C K W0 c
theorem noExc_bind {α β : Type} {r : Res α} {f : α → Mem → Res β} {P : β → Mem → Prop} {E : Nat → T → Mem → Prop} (h : Sat (noExc (r.bind f)) P E) : Sat r (fun a μ => Sat (noExc (f a μ)) P E) fun _ _ _ => False := by cases r <;> exact h
theorem Sat.noX {α : Type} {r : Res α} {P : α → Mem → Prop} {E : Nat → T → Mem → Prop} (h : Sat r P fun _ _ _ => False) : Sat r P E := h.mono (fun _ _ p => p) fun _ _ _ e => e.elim
theorem useC {C : Cf} {K : PySem.W.Frag} {β : List Addr} {H : Hp} {ρ : Env} {σ : St} {μ : Mem} {ns bn : Nat → List Addr} {cnd : Option IE} {Q : Bool → Hp → Prop} {P : Bool → Mem → Prop} (S : ESt K C.g β H ρ σ μ ns bn) (h : Sat (evC C.F ρ cnd μ) P fun _ _ _ => False)
    (k : ∀ b μ' H' bn', P b μ' → Step K β bn H H' μ' bn' → Q b H') : tC0 C K cnd σ H Q := by
  cases cnd with
  | none => exact k true μ H bn h (Step.refl S.box)
  | some c =>
    refine useT S (Sat_bind h).noX (fun t μ1 h => ?_) fun b μ1 H1 bn1 h s1 => k b μ1 H1 bn1 h s1
    cases t <;> first | exact False.elim h | exact ⟨_, rfl⟩
theorem Step.put {K : PySem.W.Frag} {β : List Addr} {bn bn4 : Nat → List Addr} {H1 H4 : Hp} {μ : Mem} {D : Addr} {vs ws : List V} (s : Step K β bn H1 H4 μ bn4) (hD : H1 D = none) (hD4 : H4 D = some (.lst vs)) (nbD : ¬ Bx β bn4 D) : Step K β bn H1 (upd H4 D (.lst ws)) μ bn4 where
  keep := ⟨fun a o e nb => by rw [upd_ne (fun z => by rw [z, hD] at e; cases e)]; exact s.keep.keep a o e nb, fun a xs e => by rw [upd_ne (fun z => by rw [z, hD] at e; cases e)]; exact s.keep.tup a xs e,
    fun a o u e => by rw [upd_ne (fun z => by rw [z, hD] at e; cases e)]; exact s.keep.frz a o u e, fun a e => by
      by_cases z : a = D
      · rw [z, upd_same] at e; cases e
      · rw [upd_ne z] at e; exact s.keep.more a e⟩
  box := ⟨s.box.len, fun k t e => by
    obtain ⟨a, e1, r, bl, nd⟩ := s.box.rd k t e
    have hk : k < β.length := by rw [s.box.len]; exact (List.getElem?_eq_some_iff.mp e).1
    exact ⟨a, e1, r.keep (B := fun x => x = D) (Keeps.write hD4 rfl rfl) (fun _ _ e => e) t fun b hb z => nbD ⟨k, hk, z ▸ hb⟩, bl, nd⟩, s.box.dj⟩
  sub := s.sub
/-- what is tracked at a step's start is no box's behind it, if it was none's -/
theorem Step.nb {K : PySem.W.Frag} {β : List Addr} {bn bn' : Nat → List Addr} {H H' : Hp} {μ : Mem} (s : Step K β bn H H' μ bn') {a : Addr} (h : H a ≠ none) (nb : ¬ Bx β bn a) : ¬ Bx β bn' a := fun z => by
  rcases s.sub a z with z | z
  · exact nb z
  · exact h z
section
variable {X : Cx} {C : Cf} {W : WX}
theorem lc_key {own : List (Str × Nat)} {el : IE} {t : Tg} {it : II} {cnd : Option IE} {σ : St} {H : Hp} {Q : VK} (hown : own.map (·.2) = t.slots) (hk : ∀ i ∈ t.slots, C.g.k i = .S) (h : tE C X.K W (.lc el t it cnd) σ H Q) :
    tLc (tI C X.K W it) (gTg X.K t) (tC0 C X.K cnd) (tE C X.K W0 el) (own.map (·.2)) σ H Q := by
  obtain ⟨ρ, μ, β, ns, bn, S, h⟩ := h
  rw [hown]
  refine ⟨ρ, μ, β, ns, bn, S, (Sat_bind h).mono (fun ts μ1 q J H1 bn1 mm G s1 io D hD => ?_) fun _ _ _ e => e⟩
  have q := Sat_bind q
  have nbD : ¬ Bx β bn1 D := s1.box.fresh D hD
  generalize hf : (fun x μ => match bindTg t x (MP.forget ρ t.slots) with
      | some ρ' => (evC C.F ρ' cnd μ).bind fun b μ => (match b with | true => (evE C.F ρ' el μ).bind fun y μ => .ok (some y) μ | false => .ok none μ)
      | none => .stuck) = f at q
  let I := info C.g (.lc el t it cnd)
  let Pv : Nat → Hp → Prop := fun i Hi => G Hi ∧ ∃ μi bni acc vs n, Step X.K β bn1 H1 Hi μi bni ∧ ¬ Bx β bni D ∧ Hi D = some (.lst vs) ∧ RdsL X.K β Hi acc vs n ∧ (∀ a ∈ n, ¬ Bx β bni a) ∧ D ∉ n ∧
    (∀ a ∈ n, H a = none ∨ (∃ j ∈ I.dp, a ∈ ns j) ∨ (∃ j ∈ I.dc, a ∈ (ns j).drop 1)) ∧ (I.lin = true → n.Nodup) ∧
    Sat (noExc (lcGo f (ts.drop i) acc.length μi)) (fun r μ' => ∀ v H' bn' n, Step X.K β bn H H' μ' bn' → Val X.K β bn' ns H H' I (.lst (acc ++ r)) v n → Q v H') fun _ _ _ => False
  have nD : New1 H1 (upd H1 D (.lst [])) := .inr ⟨D, _, hD, rfl⟩
  refine lc_it io.walk Pv ?_ (fun i Hi _ p => p.1) ?_ ?_
  · refine ⟨io.keep (fun _ => False) _ _ io.g0 (keepsN nD) (fun _ _ z => z), μ1, bn1, [], [], [], Step.new1 s1.box nD, nbD, upd_same, ⟨rfl, rfl⟩, (fun _ z => by cases z), (by simp), (fun _ z => by cases z), fun _ => List.nodup_nil, ?_⟩
    have q' : Sat (noExc (lcGo f ts 0 μ1)) (fun r μ' => ∀ v H' bn' n, Step X.K β bn H H' μ' bn' → Val X.K β bn' ns H H' I (.lst r) v n → Q v H') fun _ _ _ => False := by
      cases hz : lcGo f ts 0 μ1 with
      | ok r μ' => rw [hz] at q; exact q
      | exc c t μ' => rw [hz] at q; exact False.elim q
      | stuck => rw [hz] at q; exact False.elim q
    exact q'
  · intro i x Hi H' hi' ⟨g, μi, bni, acc, vs, n, si, nbi, eD, rl, nn, hDn, src, lin, q⟩ ⟨n1, tx, nx, etx, rx, hx⟩
    have hdr : ts.drop i = tx :: ts.drop (i + 1) := by
      obtain ⟨h1, h2⟩ := List.getElem?_eq_some_iff.mp etx
      rw [← h2]
      exact List.drop_eq_getElem_cons h1
    rw [hdr] at q
    have q := noExc_bind q
    have sN : Step X.K β bni Hi H' μi bni := Step.new1 si.box n1
    have s' := s1.trans (si.trans sN)
    obtain ⟨ns', S', hns⟩ := (S.step s').forget t.slots
    rw [← hf] at q
    have mmT : ∀ a ∈ mm, ¬ Bx β bni a := fun a ha => si.nb (io.trk a ha) (io.nb a ha)
    cases hb : bindTg t tx (MP.forget ρ t.slots) with
    | none => dsimp only at q; rw [hb] at q; exact False.elim q
    | some ρ' =>
    dsimp only at q
    rw [hb] at q
    refine gTg_ok t S' rx (fun a ha => mmT a (hx a ha).1) hb hk fun σ2 ns2 B => ⟨?_, ?_⟩
    · rw [B.wp t.slots fun _ h => h, wipe_wipe]
    refine useC B.st (Sat_bind q) fun b μ3 H3 bn3 q s3 => ?_
    have g3 : G H3 := io.keep _ _ _ (io.keep (fun _ => False) _ _ g (keepsN n1) fun _ _ z => z) s3.keep mmT
    have nb3 : ¬ Bx β bn3 D := s3.nb (by rw [(keepsN n1).keep D _ eD (fun z => z)]; simp) nbi
    have eD3 : H3 D = some (.lst vs) := s3.keep.keep D _ ((keepsN n1).keep D _ eD fun z => z) nbi
    have trkn : ∀ a ∈ n, Hi a ≠ none := fun a ha z => by
      obtain ⟨o, e, _⟩ := rl.node _ a ha
      rw [e] at z; cases z
    have nn3 : ∀ a ∈ n, ¬ Bx β bn3 a := fun a ha => (sN.trans s3).nb (trkn a ha) (nn a ha)
    have rl3 : RdsL X.K β H3 acc vs n := (rl.new n1).keep s3.keep (fun _ _ e => e) _ nn
    cases b with
    | false =>
      rw [if_neg (by decide)]
      refine ⟨g3, μ3, bn3, acc, vs, n, si.trans (sN.trans s3), nb3, eD3, rl3, nn3, hDn, src, lin, ?_⟩
      rw [← hf]
      exact q
    | true =>
      rw [if_pos rfl]
      refine use (B.st.step s3) (Sat.noX (Sat_bind q)) fun y μ4 v H4 bn4 m4 q s4 v4 => ?_
      have q : Sat (noExc (if Nat.blt acc.length line = true then (lcGo f (ts.drop (i + 1)) (acc.length + 1) μ4).bind fun r μ => .ok (y :: r) μ else .stuck)) (fun r μ' => ∀ v H' bn' n, Step X.K β bn H H' μ' bn' → Val X.K β bn' ns H H' I (.lst (acc ++ r)) v n → Q v H') fun _ _ _ => False := by
        rw [← hf]; exact q
      cases hl : Nat.blt acc.length line with
      | false => rw [hl] at q; exact False.elim q
      | true =>
      rw [hl, if_pos rfl] at q
      have eD4 : H4 D = some (.lst vs) := s4.keep.keep D _ eD3 nb3
      have nb4 : ¬ Bx β bn4 D := s4.nb (by rw [eD3]; simp) nb3
      have hD4 : ∀ j, D ∉ ns j := fun j z => by
        obtain ⟨o, e, _⟩ := S.node z
        rw [s1.keep.more D hD] at e
        cases e
      have hD3 : H D = none ∧ (∀ j, D ∉ ns j) ∧ D ∉ mm := ⟨s1.keep.more D hD, hD4, fun z => io.trk D z hD⟩
      have own : ∀ j a, a ∈ ns2 j → (j ∉ t.slots ∧ a ∈ ns j) ∨ (j ∈ t.slots ∧ a ∈ nx) := fun j a ha => by
        rcases B.own j with e | ⟨e1, e2⟩
        · rw [e] at ha
          rcases hns j with ⟨h1, h2⟩ | h2
          · rw [h2] at ha; exact .inl ⟨h1, ha⟩
          · rw [h2] at ha; cases ha
        · exact .inr ⟨e1, e2 a ha⟩
      have own' : ∀ j a, a ∈ (ns2 j).drop 1 → (j ∉ t.slots ∧ a ∈ (ns j).drop 1) ∨ (j ∈ t.slots ∧ a ∈ nx) := fun j a ha => by
        rcases B.own j with e | ⟨e1, e2⟩
        · rw [e] at ha
          rcases hns j with ⟨h1, h2⟩ | h2
          · rw [h2] at ha; exact .inl ⟨h1, ha⟩
          · rw [h2] at ha; cases ha
        · exact .inr ⟨e1, e2 a (List.mem_of_mem_drop ha)⟩
      have hDm : D ∉ m4 := fun z => by
        rcases v4.ok.src D z with h | ⟨j, _, h⟩ | ⟨j, _, h⟩
        · rw [eD3] at h; cases h
        · rcases own j D h with ⟨_, h⟩ | ⟨_, h⟩
          · exact hD3.2.1 j h
          · exact hD3.2.2 (hx D h).1
        · rcases own j D (List.mem_of_mem_drop h) with ⟨_, h⟩ | ⟨_, h⟩
          · exact hD3.2.1 j h
          · exact hD3.2.2 (hx D h).1
      have kw : Keeps (fun x => x = D) H4 (upd H4 D (.lst (vs ++ [v]))) := Keeps.write eD4 rfl rfl
      have rl4 : RdsL X.K β H4 acc vs n := rl3.keep s4.keep (fun _ _ e => e) _ nn3
      refine ⟨vs, eD4, ?_, io.keep _ _ _ (io.keep _ _ _ g3 s4.keep fun a ha => (sN.trans s3).nb (fun z => io.trk a ha (si.keep.more a z)) (mmT a ha)) kw (fun a ha z => hD3.2.2 (z ▸ ha)), μ4, bn4, acc ++ [y], vs ++ [v], n ++ m4, ((si.trans sN).trans (s3.trans s4)).put hD eD4 nb4, nb4, upd_same,
        (rl4.keep kw (fun _ _ e => e) _ fun a ha z => hDn (z ▸ ha)).append (RdsL.one.mpr ⟨v, rfl, v4.rd.keep kw (fun _ _ e => e) _ fun a ha z => hDm (z ▸ ha)⟩), ?_, ?_, ?_, ?_, ?_⟩
      · rw [rl.length]; exact lt_line hl
      · intro a ha
        rcases List.mem_append.mp ha with ha | ha
        · exact s4.nb (fun z => trkn a ha ((sN.trans s3).keep.more a z)) (nn3 a ha)
        · exact v4.nb a ha
      · intro z
        rcases List.mem_append.mp z with z | z
        · exact hDn z
        · exact hDm z
      · intro a ha
        rcases List.mem_append.mp ha with ha | ha
        · exact src a ha
        · have ui : ∀ j, (j ∈ (info C.g el).dp ∨ j ∈ (info C.g el).dc) → j ∈ t.slots → ((info C.g el).dp.any (fun i => t.slots.contains i) || (info C.g el).dc.any (fun i => t.slots.contains i)) = true := fun j h1 h2 => by
            rw [Bool.or_eq_true]
            rcases h1 with h1 | h1
            · exact .inl (List.any_eq_true.mpr ⟨j, h1, by simpa using h2⟩)
            · exact .inr (List.any_eq_true.mpr ⟨j, h1, by simpa using h2⟩)
          have itm : ∀ j, (j ∈ (info C.g el).dp ∨ j ∈ (info C.g el).dc) → j ∈ t.slots → a ∈ nx → H a = none ∨ (∃ j ∈ I.dp, a ∈ ns j) ∨ (∃ j ∈ I.dc, a ∈ (ns j).drop 1) := fun j h1 h2 h3 => by
            have u := ui j h1 h2
            show H a = none ∨ (∃ j ∈ (lcInf t.slots (info C.g el) (infoI C.g it)).dp, a ∈ ns j) ∨ (∃ j ∈ (lcInf t.slots (info C.g el) (infoI C.g it)).dc, a ∈ (ns j).drop 1)
            unfold lcInf
            dsimp only
            rw [u, if_pos rfl, if_pos rfl]
            rcases (hx a h3).2 with z | ⟨k, k1, k2⟩ | ⟨k, k1, k2⟩
            · exact .inl z
            · exact .inr (.inl ⟨k, List.mem_append_right _ k1, k2⟩)
            · exact .inr (.inr ⟨k, List.mem_append_right _ k1, k2⟩)
          have fp : ∀ j, j ∈ (info C.g el).dp → j ∉ t.slots → j ∈ I.dp := fun j h1 h2 => by
            show j ∈ (lcInf t.slots (info C.g el) (infoI C.g it)).dp
            unfold lcInf
            dsimp only
            have : j ∈ (info C.g el).dp.filter fun i => !t.slots.contains i := List.mem_filter.mpr ⟨h1, by simpa using h2⟩
            split
            · exact List.mem_append_left _ this
            · exact this
          have fc : ∀ j, j ∈ (info C.g el).dc → j ∉ t.slots → j ∈ I.dc := fun j h1 h2 => by
            show j ∈ (lcInf t.slots (info C.g el) (infoI C.g it)).dc
            unfold lcInf
            dsimp only
            have : j ∈ (info C.g el).dc.filter fun i => !t.slots.contains i := List.mem_filter.mpr ⟨h1, by simpa using h2⟩
            split
            · exact List.mem_append_left _ this
            · exact this
          rcases v4.ok.src a ha with z | ⟨j, j1, j2⟩ | ⟨j, j1, j2⟩
          · exact .inl (s1.keep.more a (si.keep.more a (sN.keep.more a (s3.keep.more a z))))
          · rcases own j a j2 with ⟨h1, h2⟩ | ⟨h1, h2⟩
            · exact .inr (.inl ⟨j, fp j j1 h1, h2⟩)
            · exact itm j (.inl j1) h1 h2
          · rcases own' j a j2 with ⟨h1, h2⟩ | ⟨h1, h2⟩
            · exact .inr (.inr ⟨j, fc j j1 h1, h2⟩)
            · exact itm j (.inr j1) h1 h2
      · intro hlin
        have hl0 : (lcInf t.slots (info C.g el) (infoI C.g it)).lin = true := hlin
        unfold lcInf at hl0
        dsimp only at hl0
        simp only [Bool.and_eq_true, Bool.not_eq_true', Bool.or_eq_false_iff] at hl0
        obtain ⟨⟨⟨l1, l2⟩, l3⟩, l4, l5⟩ := hl0
        have d0 : ∀ j, j ∉ (info C.g el).dp := fun j hj => by
          by_cases h : j ∈ t.slots
          · have := List.any_eq_false.mp l4 j hj
            simp [h] at this
          · have : j ∈ (info C.g el).dp.filter fun i => !t.slots.contains i := List.mem_filter.mpr ⟨hj, by simpa using h⟩
            rw [List.isEmpty_iff.mp l2] at this; cases this
        have c0 : ∀ j, j ∉ (info C.g el).dc := fun j hj => by
          by_cases h : j ∈ t.slots
          · have := List.any_eq_false.mp l5 j hj
            simp [h] at this
          · have : j ∈ (info C.g el).dc.filter fun i => !t.slots.contains i := List.mem_filter.mpr ⟨hj, by simpa using h⟩
            rw [List.isEmpty_iff.mp l3] at this; cases this
        refine List.nodup_append.mpr ⟨lin hlin, v4.ok.lin l1, fun a ha b hb z => ?_⟩
        subst z
        rcases v4.ok.src a hb with z | ⟨j, j1, _⟩ | ⟨j, j1, _⟩
        · exact trkn a ha ((sN.trans s3).keep.more a z)
        · exact d0 j j1
        · exact c0 j j1
      · have e1 : (acc ++ [y]).length = acc.length + 1 := by simp
        rw [e1]
        have q := noExc_bind q
        have q' : Sat (noExc (lcGo f (ts.drop (i + 1)) (acc.length + 1) μ4)) (fun r μ5 => ∀ v H' bn' n, Step X.K β bn H H' μ5 bn' → Val X.K β bn' ns H H' I (.lst (acc ++ y :: r)) v n → Q v H') fun _ _ _ => False := by
          cases hz : lcGo f (ts.drop (i + 1)) (acc.length + 1) μ4 with
          | ok r μ' => rw [hz] at q; exact q
          | exc c t μ' => rw [hz] at q; exact False.elim q
          | stuck => rw [hz] at q; exact False.elim q
        refine q'.mono (fun r μ5 q => ?_) fun _ _ _ e => e
        rw [List.append_assoc]
        exact q
  · intro Hi ⟨g, μi, bni, acc, vs, n, si, nbi, eD, rl, nn, hDn, src, lin, q⟩
    rw [List.drop_length] at q
    have q : ∀ v H' bn' n, Step X.K β bn H H' μi bn' → Val X.K β bn' ns H H' I (.lst (acc ++ [])) v n → Q v H' := q
    rw [List.append_nil] at q
    refine q _ _ bni (D :: n) (s1.trans si) ⟨⟨D, vs, n, rfl, eD, rl, rfl⟩, fun a ha => ?_, fun a ha => ?_, fun h => List.nodup_cons.mpr ⟨hDn, lin h⟩, fun _ _ => ⟨D, n, rfl, s1.keep.more D hD, hDn⟩, fun _ z => by cases z⟩
    · rcases List.mem_cons.mp ha with rfl | ha
      · exact nbi
      · exact nn a ha
    · rcases List.mem_cons.mp ha with rfl | ha
      · exact .inl (s1.keep.more _ hD)
      · exact src a ha
theorem e_lc {elt tg iter : Expr} {ifs : List Expr} {scope : Scope} {own : List (Str × Nat)} {pos : Pos} {el : IE} {t : Tg} {it : II} {cnd : Option IE} (hc : X.calm = true) (hN : X.N.Nodup) (hi : PI X tg iter (tI C X.K W it)) (ok : BlkOk X.N X.env.scope scope own)
    (hg : ∀ (s : Shared) (H : Hp) (C : Addr) (cl : List (Str × Addr)) (fp : List Addr), PG (X.blk s H scope (compEnvC scope cl C X.env) fp) tg (gTg X.K t)) (ht : ∀ (s : Shared) (H : Hp) (C' : Addr) (cl : List (Str × Addr)) (fp : List Addr), PTs (X.blk s H scope (compEnvC scope cl C' X.env) fp) ifs (tC0 C X.K cnd))
    (he : ∀ (s : Shared) (H : Hp) (C' : Addr) (cl : List (Str × Addr)) (fp : List Addr), PE (X.blk s H scope (compEnvC scope cl C' X.env) fp) elt (tE C X.K W0 el)) (hs : ∀ x, foldedSetIterable iter X.env x = pure x) (hown : own.map (·.2) = t.slots) (hk : ∀ i ∈ t.slots, C.g.k i = .S) :
    PE X (.ListComp elt [⟨tg, iter, ifs, 0⟩] scope pos) (tE C X.K W (.lc el t it cnd)) := (pe_lc hc hN hi ok hg ht he hs).weak fun σ H Q h => lc_key hown hk h
end
end MP

/-! C14: calls of defs; list(range). -/
namespace MP
open PySem L2

/-- what is told of a def's result; n: the arguments' nodes -/
structure RVal (K : PySem.W.Frag) (β : List Addr) (bn' : Nat → List Addr) (H H' : Hp) (rk : RK) (n : List Addr) (t : T) (v : V) (m : List Addr) : Prop where
  rd : Rds K β H' t v m
  nb : ∀ a ∈ m, ¬ Bx β bn' a
  src : ∀ a ∈ m, H a = none ∨ a ∈ n
  imm : rk = .I → m = []
  fr : rk = .D → ∀ a ∈ m, H a = none
  lin : rk = .D → m.Nodup
  top : rk = .D ∨ rk = .P → isNode t = true → ∃ p l, m = p :: l ∧ H p = none ∧ p ∉ l
/-- the promise of a def -/
def spF (K : PySem.W.Frag) (C : Cf) (f : Nat) : Sp := fun vs H Q E => ∃ as μ β bn n, BoxOk K β H μ bn ∧ RdsL K β H as vs n ∧ (∀ a ∈ n, ¬ Bx β bn a) ∧
  Sat (C.F f as μ) (fun t μ' => ∀ v H' bn' m, Step K β bn H H' μ' bn' → RVal K β bn' H H' ((C.g.rk[f]?).getD .S) n t v m → Q v H') (XW C K β bn H E)
/-- the keywords' values in the parameters' order -/
def kwP {α : Type} (n : Nat) (is : List Nat) (zs : List α) : List α := (List.range is.length).filterMap fun d => (is.zip zs).lookup (n + d)
/-- the defs: names, parameters, where they stand -/
structure Fi where
  nm : Str
  ps : List Str
  sh : List (Nat × List Nat)
def kwN (ps : List Str) (is : List Nat) : List Str := is.map fun i => (ps[i]?).getD ""
/-- calls of defs hold their promise here -/
def CallOk (X : Cx) (C : Cf) (W : WX) (fs : List Fi) (fa : Nat → Addr) : Prop :=
  ∀ (f : Nat) (fi : Fi) (is : List Nat), fs[f]? = some fi → X.mg fi.nm = some (.ref (fa f)) ∧ PySem.W.keepIn X.K (.ref (fa f)) = true ∧
    ∀ (pins : List (Addr × Obj)) (s : Shared) (σ : St) (H : Hp) (us ws : List Value) (vs zs : List V) (Q : VK), (vs.length, is) ∈ fi.sh → Inv X pins σ H s → Vals vs us → Vals zs ws → zs.length = is.length → spF X.K C f (vs ++ kwP vs.length is zs) H Q (fun c d H' => W c d σ H') →
      wpAny (model X.prog X.w) X.A (call (.ref (fa f)) us ((kwN fi.ps is).zip ws)) (EP X pins σ Q) X.xe s
section
variable {K : PySem.W.Frag} {β : List Addr} {H : Hp}
theorem zip_look : ∀ {is : List Nat} {ts : List T} {vs : List V} {n : List Addr} (j : Nat), RdsL K β H ts vs n → ((is.zip ts).lookup j = none ∧ (is.zip vs).lookup j = none) ∨ ∃ t v m, (is.zip ts).lookup j = some t ∧ (is.zip vs).lookup j = some v ∧ Rds K β H t v m ∧ ∀ a ∈ m, a ∈ n
  | [], ts, vs, n, j, h => .inl ⟨by simp, by simp⟩
  | i :: is, [], vs, n, j, h => by obtain ⟨rfl, _⟩ := h; exact .inl ⟨by simp, by simp⟩
  | i :: is, t :: ts, vs, n, j, h => by
    obtain ⟨v, ws, m, k, rfl, r1, r2, rfl⟩ := h
    simp only [List.zip_cons_cons, List.lookup_cons]
    cases hj : j == i with
    | true => exact .inr ⟨t, v, m, rfl, rfl, r1, fun a ha => List.mem_append_left _ ha⟩
    | false =>
      rcases zip_look (is := is) j r2 with h | ⟨t', v', m', h1, h2, h3, h4⟩
      · exact .inl h
      · exact .inr ⟨t', v', m', h1, h2, h3, fun a ha => List.mem_append_right _ (h4 a ha)⟩
theorem kwP_rds {is : List Nat} {ts : List T} {vs : List V} {n : List Addr} (k : Nat) (h : RdsL K β H ts vs n) : ∃ m, RdsL K β H (kwP k is ts) (kwP k is vs) m ∧ ∀ a ∈ m, a ∈ n := by
  unfold kwP
  generalize List.range is.length = ds
  induction ds with
  | nil => exact ⟨[], ⟨rfl, rfl⟩, fun _ z => by cases z⟩
  | cons d ds ih =>
    obtain ⟨m, r, sb⟩ := ih
    rcases zip_look (is := is) (k + d) h with ⟨h1, h2⟩ | ⟨t, v, l, h1, h2, h3, h4⟩
    · simp only [List.filterMap_cons, h1, h2]
      exact ⟨m, r, sb⟩
    · simp only [List.filterMap_cons, h1, h2]
      refine ⟨l ++ m, ⟨v, _, l, m, rfl, h3, r, rfl⟩, fun a ha => ?_⟩
      rcases List.mem_append.mp ha with z | z
      · exact h4 a z
      · exact sb a z
end
theorem kw_all {kws : List Keyword} {env : PySem.Env} {pos : Pos} : ∀ {ks : List Str}, kws.map (·.1) = ks.map some → (backToKw pos (keywordEach kws env)).all (·.1.isSome) = true ∧ (backToKw pos (keywordEach kws env)).filterMap (·.1) = ks ∧ (backToKw pos (keywordEach kws env)).any (·.1.isNone) = false := by
  induction kws with
  | nil =>
    intro ks h
    have : ks = [] := by cases ks <;> simp at h <;> rfl
    subst this
    exact ⟨rfl, rfl, rfl⟩
  | cons kw kws ih =>
    intro ks h
    obtain ⟨nm, e, p⟩ := kw
    cases ks with
    | nil => simp at h
    | cons k ks =>
      simp only [List.map_cons, List.cons.injEq] at h
      obtain ⟨h0, h⟩ := h
      have h0 : nm = some k := h0
      subst h0
      obtain ⟨h1, h2, h3⟩ := ih h
      refine ⟨?_, ?_, ?_⟩
      · show (true && _) = true
        exact h1
      · show k :: _ = _
        exact congrArg (k :: ·) h2
      · show (false || _) = false
        exact h3
section
variable {X : Cx} {C : Cf} {W : WX} {a b c tg : Expr} {x y z : IE} {pos p : Pos}
theorem PK.weak {kws : List Keyword} {t t' : TA} (h : PK X kws t) (w : ∀ σ H Q, t' σ H Q → t σ H Q) : PK X kws t' := ⟨fun pos pins s σ H Q I q => h.run pos pins s σ H Q I (w σ H Q q)⟩
theorem k_nil {ev : Env → Mem → Res (List T)} {i : Inf} (he : ∀ ρ μ, ev ρ μ = .ok [] μ) : PK X [] (tLs C X.K W ev i) := PK.weak pk_nil fun σ H Q h => by
  obtain ⟨ρ, μ, β, ns, bn, S, h⟩ := h
  rw [he] at h
  exact h [] H bn [] (Step.refl S.box) Vls.nil
theorem k_cons {nm : Option Str} {kws : List Keyword} {ev ev' : Env → Mem → Res (List T)} {i : Inf} (ha : PE X a (tE C X.K W x)) (hr : PK X kws (tLs C X.K W ev i)) (he : ∀ ρ μ, ev' ρ μ = (evE C.F ρ x μ).bind fun t μ => (ev ρ μ).bind fun r μ => .ok (t :: r) μ) : PK X (⟨nm, a, p⟩ :: kws) (tLs C X.K W ev' ((info C.g x).join C.g i)) :=
  PK.weak (pk_cons ha hr) fun σ H Q h => by
  obtain ⟨ρ, μ, β, ns, bn, S, h⟩ := h
  rw [he] at h
  refine use S (Sat_bind h) fun t μ1 v H1 bn1 n h s1 x1 => ?_
  refine useL (S.step s1) ((Sat_bind h).later s1) fun us μ2 ws H2 bn2 m h s2 y1 => ?_
  have x2 : Vls X.K β bn1 ns H H1 (info C.g x) [t] [v] n := ⟨RdsL.one.mpr ⟨v, rfl, x1.rd⟩, x1.nb, x1.ok.src, x1.ok.lin⟩
  exact h (v :: ws) H2 bn2 (n ++ m) (s1.trans s2) (x2.append S s1 y1 s2)
/-- a def of the module, called with positions and keywords -/
theorem pe_callF {f : Addr} {r : List V → List V → St → Hp → VK → Prop} {ks : List Str} {e : Expr} {es : List Expr} {kws : List Keyword} {x : Str} {t tk : TA} (hg : Gl X x) (hm : X.mg x = some (.ref f)) (hk : PySem.W.keepIn X.K (.ref f) = true)
    (hc : ∀ (pins : List (Addr × Obj)) (s : Shared) (σ : St) (H : Hp) (us ws : List Value) (vs zs : List V) (Q : VK), Inv X pins σ H s → Vals vs us → Vals zs ws → r vs zs σ H Q → wpAny (model X.prog X.w) X.A (call (.ref f) us (ks.zip ws)) (EP X pins σ Q) X.xe s)
    (ha : PA X (e :: es) t) (hkw : PK X kws tk) (hks : kws.map (·.1) = ks.map some) (hst : (e :: es).all nost = true) (hdb : (x == ("__debug__" : Str)) = false) : PE X (.Call (.Name x p) (e :: es) kws pos) (fun σ H Q => t σ H fun vs H1 => tk σ H1 fun zs H2 => r vs zs σ H2 Q) := by
  obtain ⟨k1, k2, k3⟩ := kw_all (env := X.env) (pos := pos) hks
  have hst' := hst
  rw [List.all_cons, Bool.and_eq_true] at hst'
  refine ⟨fun pins s σ H Q I h => ?_⟩
  refine wpAny_Call_Name_kw (ld_glob I hg hm ?_ hdb)
  refine PySem.W.callWith_KW (h₀ := X.base) I.ok.mod.kin hk k1 (thn (ha.run pos pins s σ H _ I h) fun us s1 ⟨vs, H1, I1, r1, q⟩ => ?_) (by rw [k3, star_any hst] <;> rfl) (star_cons hst'.1)
  refine thn (hkw.run pos pins s1 σ H1 _ I1 q) fun ws s2 ⟨zs, H2, I2, r2, q2⟩ => ⟨I2.kIn, ?_⟩
  rw [k2]
  exact hc pins s2 σ H2 us ws vs zs Q I2 r1 r2 q2
theorem pe_callF0 {f : Addr} {r : List V → List V → St → Hp → VK → Prop} {ks : List Str} {kws : List Keyword} {x : Str} {tk : TA} (hg : Gl X x) (hm : X.mg x = some (.ref f)) (hk : PySem.W.keepIn X.K (.ref f) = true)
    (hc : ∀ (pins : List (Addr × Obj)) (s : Shared) (σ : St) (H : Hp) (us ws : List Value) (vs zs : List V) (Q : VK), Inv X pins σ H s → Vals vs us → Vals zs ws → r vs zs σ H Q → wpAny (model X.prog X.w) X.A (call (.ref f) us (ks.zip ws)) (EP X pins σ Q) X.xe s)
    (hkw : PK X kws tk) (hks : kws.map (·.1) = ks.map some) (hdb : (x == ("__debug__" : Str)) = false) : PE X (.Call (.Name x p) [] kws pos) (fun σ H Q => tk σ H fun zs H2 => r [] zs σ H2 Q) := by
  obtain ⟨k1, k2, k3⟩ := kw_all (env := X.env) (pos := pos) hks
  refine ⟨fun pins s σ H Q I h => ?_⟩
  refine wpAny_Call_Name_kw (ld_glob I hg hm ?_ hdb)
  refine PySem.W.callWith_KW0 (h₀ := X.base) I.ok.mod.kin hk k1 (thn (hkw.run pos pins s σ H _ I h) fun ws s2 ⟨zs, H2, I2, r2, q2⟩ => ⟨I2.kIn, ?_⟩) (by rw [k3] <;> rfl)
  rw [k2]
  exact hc pins s2 σ H2 [] ws [] zs Q I2 .nil r2 q2
theorem evL_len {F : Fns} {ρ : Env} : ∀ (as : List IE) (μ : Mem) {P : List T → Mem → Prop} {E : Nat → T → Mem → Prop}, Sat (evL F ρ as μ) P E → Sat (evL F ρ as μ) (fun ts μ => ts.length = as.length ∧ P ts μ) E
  | [], μ, P, E, h => ⟨rfl, h⟩
  | a :: as, μ, P, E, h => by
    have h : Sat ((evE F ρ a μ).bind fun x μ => (evL F ρ as μ).bind fun r μ => .ok (x :: r) μ) P E := h
    show Sat ((evE F ρ a μ).bind fun x μ => (evL F ρ as μ).bind fun r μ => .ok (x :: r) μ) _ E
    cases e : evE F ρ a μ with
    | stuck => rw [e] at h; exact h
    | exc c t μ1 => rw [e] at h; exact h
    | ok t μ1 =>
      rw [e] at h
      have h := evL_len as μ1 (Sat_bind h)
      show Sat ((evL F ρ as μ1).bind fun r μ => .ok (t :: r) μ) _ E
      cases e2 : evL F ρ as μ1 with
      | stuck => rw [e2] at h; exact h
      | exc c t μ1 => rw [e2] at h; exact h
      | ok ts μ2 => rw [e2] at h; exact ⟨congrArg (· + 1) h.1, h.2⟩
theorem evK_len {F : Fns} {ρ : Env} : ∀ (as : List (Nat × IE)) (μ : Mem) {P : List T → Mem → Prop} {E : Nat → T → Mem → Prop}, Sat (evK F ρ as μ) P E → Sat (evK F ρ as μ) (fun ts μ => ts.length = as.length ∧ P ts μ) E
  | [], μ, P, E, h => ⟨rfl, h⟩
  | (i, a) :: as, μ, P, E, h => by
    have h : Sat ((evE F ρ a μ).bind fun x μ => (evK F ρ as μ).bind fun r μ => .ok (x :: r) μ) P E := h
    show Sat ((evE F ρ a μ).bind fun x μ => (evK F ρ as μ).bind fun r μ => .ok (x :: r) μ) _ E
    cases e : evE F ρ a μ with
    | stuck => rw [e] at h; exact h
    | exc c t μ1 => rw [e] at h; exact h
    | ok t μ1 =>
      rw [e] at h
      have h := evK_len as μ1 (Sat_bind h)
      show Sat ((evK F ρ as μ1).bind fun r μ => .ok (t :: r) μ) _ E
      cases e2 : evK F ρ as μ1 with
      | stuck => rw [e2] at h; exact h
      | exc c t μ1 => rw [e2] at h; exact h
      | ok ts μ2 => rw [e2] at h; exact ⟨congrArg (· + 1) h.1, h.2⟩
theorem node_ne {K : PySem.W.Frag} {β : List Addr} {H : Hp} {t : T} {v : V} (r : Rds K β H t v []) (h : isNode t = true) : False := by
  cases t with
  | lst xs => obtain ⟨_, _, _, _, _, _, z⟩ := r; cases z
  | dk ks xs => obtain ⟨_, _, _, _, _, _, _, z⟩ := r; cases z
  | dt ks xs => obtain ⟨_, _, _, _, _, _, _, z⟩ := r; cases z
  | _ => cases h
/-- the call, from its reading -/
theorem call_end {f : Nat} {as : List IE} {kw : List (Nat × IE)} {σ : St} {H : Hp} {Q : VK} (h : tE C X.K W (.call f as kw) σ H Q) :
    tLs C X.K W (fun ρ => evL C.F ρ as) (infoL C.g as) σ H fun vs H1 => tLs C X.K W (fun ρ => evK C.F ρ kw) (infoK C.g kw) σ H1 fun zs H2 => vs.length = as.length ∧ zs.length = kw.length ∧ spF X.K C f (vs ++ kwP vs.length (kw.map (·.1)) zs) H2 Q (fun c d H' => W c d σ H') := by
  obtain ⟨ρ, μ, β, ns, bn, S, h⟩ := h
  refine useL S (evL_len as μ (Sat_bind h)) fun ts μ1 vs H1 bn1 n ⟨l1, h⟩ s1 x1 => ?_
  refine useL (S.step s1) ((evK_len kw μ1 (Sat_bind h)).later s1) fun us μ2 zs H2 bn2 m ⟨l2, h⟩ s2 y1 => ?_
  have s := s1.trans s2
  have x2 := x1.step s2
  refine ⟨by rw [x1.rd.length, l1], by rw [y1.rd.length, l2], ?_⟩
  obtain ⟨m', r', sb⟩ := kwP_rds (is := kw.map (·.1)) vs.length y1.rd
  have hl : vs.length = ts.length := x1.rd.length
  refine ⟨ts ++ kwP vs.length (kw.map (·.1)) us, μ2, β, bn2, n ++ m', s2.box, x2.rd.append r', fun a ha => ?_, ?_⟩
  · rcases List.mem_append.mp ha with z | z
    · exact x2.nb a z
    · exact y1.nb a (sb a z)
  · rw [hl]
    refine (Sat.later s h).mono (fun t μ3 q v H3 bn3 l s3 R => q v H3 bn3 l (s.trans s3) ⟨R.rd, R.nb, ?_⟩) fun _ _ _ e => e
    have src : ∀ a ∈ n ++ m', H a = none ∨ (∃ j ∈ ((infoL C.g as).mix (infoK C.g kw)).dp, a ∈ ns j) ∨ (∃ j ∈ ((infoL C.g as).mix (infoK C.g kw)).dc, a ∈ (ns j).drop 1) := fun a ha => by
      rcases List.mem_append.mp ha with ha | ha
      · rcases x1.src a ha with z | ⟨k, k1, k2⟩ | ⟨k, k1, k2⟩
        · exact .inl z
        · exact .inr (.inl ⟨k, List.mem_append_left _ k1, k2⟩)
        · exact .inr (.inr ⟨k, List.mem_append_left _ k1, k2⟩)
      · rcases y1.src a (sb a ha) with z | ⟨k, k1, k2⟩ | ⟨k, k1, k2⟩
        · exact .inl (s1.keep.more a z)
        · exact .inr (.inl ⟨k, List.mem_append_right _ k1, k2⟩)
        · exact .inr (.inr ⟨k, List.mem_append_right _ k1, k2⟩)
    have rs : ∀ a ∈ l, H a = none ∨ (∃ j ∈ ((infoL C.g as).mix (infoK C.g kw)).dp, a ∈ ns j) ∨ (∃ j ∈ ((infoL C.g as).mix (infoK C.g kw)).dc, a ∈ (ns j).drop 1) := fun a ha => by
      rcases R.src a ha with z | z
      · exact .inl (s.keep.more a z)
      · exact src a z
    show Good ns H (rkInf ((C.g.rk[f]?).getD .S) ((infoL C.g as).mix (infoK C.g kw))) t l
    generalize (C.g.rk[f]?).getD .S = rk at R ⊢
    cases rk with
    | I =>
      have := R.imm rfl
      subst this
      exact ⟨(fun _ z => by cases z), (fun _ => List.nodup_nil), (fun _ z => (node_ne R.rd z).elim), fun _ z => by cases z⟩
    | D => exact ⟨fun a ha => .inl (s.keep.more a (R.fr rfl a ha)), fun _ => R.lin rfl, fun _ z => (let ⟨p, l, e, h, nm⟩ := R.top (.inl rfl) z; ⟨p, l, e, s.keep.more p h, nm⟩), fun _ z => by cases z⟩
    | P => exact ⟨rs, (fun z => by cases z), fun _ z => (let ⟨p, l, e, h, nm⟩ := R.top (.inr rfl) z; ⟨p, l, e, s.keep.more p h, nm⟩), fun _ z => by cases z⟩
    | S => exact ⟨rs, (fun z => by cases z), (fun z => by cases z), fun _ z => by cases z⟩
theorem e_call {fs : List Fi} {fa : Nat → Addr} {f : Nat} {fi : Fi} {as : List IE} {kw : List (Nat × IE)} {es : List Expr} {kws : List Keyword} (hC : CallOk X C W fs fa) (hf : fs[f]? = some fi) (hg : Gl X fi.nm) (hdb : (fi.nm == ("__debug__" : Str)) = false)
    (hok : (as.length, kw.map (·.1)) ∈ fi.sh) (hst : es.all nost = true) (hks : kws.map (·.1) = (kwN fi.ps (kw.map (·.1))).map some) (ha : PA X es (tLs C X.K W (fun ρ => evL C.F ρ as) (infoL C.g as))) (hkw : PK X kws (tLs C X.K W (fun ρ => evK C.F ρ kw) (infoK C.g kw))) (hl : as.length = es.length) :
    PE X (.Call (.Name fi.nm p) es kws pos) (tE C X.K W (.call f as kw)) := by
  obtain ⟨hm, hk, hc⟩ := hC f fi (kw.map (·.1)) hf
  have hc' : ∀ (pins : List (Addr × Obj)) (s : Shared) (σ : St) (H : Hp) (us ws : List Value) (vs zs : List V) (Q : VK), Inv X pins σ H s → Vals vs us → Vals zs ws →
      (vs.length = as.length ∧ zs.length = kw.length ∧ spF X.K C f (vs ++ kwP vs.length (kw.map (·.1)) zs) H Q (fun c d H' => W c d σ H')) → wpAny (model X.prog X.w) X.A (call (.ref (fa f)) us ((kwN fi.ps (kw.map (·.1))).zip ws)) (EP X pins σ Q) X.xe s := fun pins s σ H us ws vs zs Q I r1 r2 ⟨l1, l2, q⟩ =>
    hc pins s σ H us ws vs zs Q (by rw [l1]; exact hok) I r1 r2 (by rw [l2, List.length_map]) q
  cases es with
  | nil =>
    have hn : as = [] := List.length_eq_zero_iff.mp hl
    subst hn
    refine (pe_callF0 (r := fun vs zs σ H Q => vs.length = 0 ∧ zs.length = kw.length ∧ spF X.K C f (vs ++ kwP vs.length (kw.map (·.1)) zs) H Q (fun c d H' => W c d σ H')) hg hm hk hc' hkw hks hdb).weak fun σ H Q h => ?_
    obtain ⟨ρ, μ, β, ns, bn, S, h⟩ := call_end h
    exact h [] H bn [] (Step.refl S.box) Vls.nil
  | cons e es => exact (pe_callF (r := fun vs zs σ H Q => vs.length = as.length ∧ zs.length = kw.length ∧ spF X.K C f (vs ++ kwP vs.length (kw.map (·.1)) zs) H Q (fun c d H' => W c d σ H')) hg hm hk hc' ha hkw hks hst hdb).weak fun σ H Q h => call_end h
end
end MP

/-! C15: list(range), max and min of two, range with a step. -/
namespace MP
open PySem L2
theorem rngL_rg {K : PySem.W.Frag} {β : List Addr} {H : Hp} (lo : Int) (n : Nat) : RdsL K β H (rngL lo 1 n) ((List.range n).map fun i => V.int (lo + (i : Nat))) [] := by
  have e : (rngL lo 1 n) = ((List.range n).map fun i => lo + ((i : Nat) : Int)).map T.int := by
    apply List.ext_getElem?
    intro i
    by_cases h : i < n
    · rw [rngL_get lo 1 n i h]
      simp [h]
    · rw [List.getElem?_eq_none (by rw [rngL_len]; omega), List.getElem?_eq_none (by simp; omega)]
  have e2 : ((List.range n).map fun i => V.int (lo + (i : Nat))) = ((List.range n).map fun i => lo + ((i : Nat) : Int)).map V.int := by simp
  rw [e, e2]
  exact RdsL.ofInts _
section
variable {X : Cx} {C : Cf} {W : WX} {a b c tg : Expr} {x y z : IE} {pos p p2 : Pos}
theorem lof_end {tp : Bool} {it : II} {K : PySem.W.Frag} {β : List Addr} {H H1 : Hp} {μ1 : Mem} {ns bn bn1 : Nat → List Addr} {ts : List T} {vs : List V} {Q : VK} (s1 : Step K β bn H H1 μ1 bn1) (rl : RdsL K β H1 ts vs [])
    (q : ∀ v H' bn' n, Step K β bn H H' μ1 bn' → Val K β bn' ns H H' (info C.g (.lof tp it)) (match tp with | true => .tup ts | false => .lst ts) v n → Q v H') : ∀ p, H1 p = none → Q (.ref p) (upd H1 p (match tp with | true => .tup vs | false => .lst vs)) := fun p hp => by
  cases tp with
  | true =>
    have n1 : New1 H1 (upd H1 p (.tup vs)) := .inr ⟨p, _, hp, rfl⟩
    exact q _ _ bn1 [] (s1.trans (Step.new1 s1.box n1)) ⟨⟨p, vs, rfl, upd_same, rl.new n1⟩, (fun _ z => by cases z), Good.nil rfl rfl⟩
  | false =>
    have n1 : New1 H1 (upd H1 p (.lst vs)) := .inr ⟨p, _, hp, rfl⟩
    refine q _ _ bn1 [p] (s1.trans (Step.new1 s1.box n1)) ⟨⟨p, vs, [], rfl, upd_same, rl.new n1, rfl⟩, fun a ha => ?_, fun a ha => ?_, fun _ => nd1 _, fun _ _ => ⟨p, [], rfl, s1.keep.more p hp, by simp⟩, fun _ z => by cases z⟩
    · obtain rfl : a = p := by simpa using ha
      exact s1.box.fresh _ hp
    · obtain rfl : a = p := by simpa using ha
      exact .inl (s1.keep.more _ hp)
theorem rgOk {m n : Int} (h1 : smallI m = true) (h2 : smallI n = true) (h : Nat.ble (rngL m 1 (n - m).toNat).length line = true) : RgOk m n := by
  obtain ⟨b1, b2⟩ := smallI_ok h1
  obtain ⟨b3, b4⟩ := smallI_ok h2
  rw [rngL_len] at h
  have := Nat.le_of_ble_eq_true h
  exact ⟨b1, b2, b3, b4, this⟩
theorem e_lof1 (tp : Bool) (hc : X.calm = true) (hg : Gl X (if tp then "tuple" else "list")) (hm : X.mg (if tp then "tuple" else "list") = none) (hg2 : Gl X "range") (hm2 : X.mg "range" = none) (ha : PE X a (tE C X.K W x)) (hst : nost a = true) {pos' : Pos} :
    PE X (.Call (.Name (if tp then "tuple" else "list") p) [.Call (.Name "range" p2) [a] [] pos'] [] pos) (tE C X.K W (.lof tp (.rng1 x))) := by
  have h1 := prg_1 (p := p2) (pos := pos') hg2 hm2 ha (star_cons hst)
  have key : ∀ σ H Q, tE C X.K W (.lof tp (.rng1 x)) σ H Q → tRg1 (tE C X.K W x) σ H fun a b H1 => RgOk a b ∧ ∀ q, H1 q = none → Q (.ref q) (upd H1 q (match tp with | true => .tup (rgV a b) | false => .lst (rgV a b))) := fun σ H Q h => by
    obtain ⟨ρ, μ, β, ns, bn, S, h⟩ := h
    rw [evE, evI] at h
    refine use S (Sat_bind (Sat_bind h)) fun t μ1 v H1 bn1 n h s1 x1 => ?_
    cases t <;> try exact False.elim h
    rename_i j
    obtain ⟨rfl, _⟩ := x1.rd
    obtain ⟨ok, h⟩ := Sat_if h
    obtain ⟨hz, q⟩ := Sat_if h
    refine ⟨j, rfl, rgOk (by decide) ok (by rw [Int.sub_zero]; exact hz), ?_⟩
    have rl : RdsL X.K β H1 (rngL 0 1 j.toNat) (rgV 0 j) [] := by
      have := rngL_rg (K := X.K) (β := β) (H := H1) 0 j.toNat
      unfold rgV
      rw [Int.sub_zero]
      exact this
    have := lof_end (it := .rng1 x) s1 rl q
    cases tp <;> exact this
  cases tp with
  | true => exact (pe_tupRg hc hg hm h1 (star_cons rfl)).weak key
  | false => exact (pe_listRg hc hg hm h1 (star_cons rfl)).weak key
theorem e_lof2 (tp : Bool) (hc : X.calm = true) (hg : Gl X (if tp then "tuple" else "list")) (hm : X.mg (if tp then "tuple" else "list") = none) (hg2 : Gl X "range") (hm2 : X.mg "range" = none) (ha : PE X a (tE C X.K W x)) (hst : nost a = true) (hb : PE X b (tE C X.K W y)) (hst2 : nost b = true) {pos' : Pos} :
    PE X (.Call (.Name (if tp then "tuple" else "list") p) [.Call (.Name "range" p2) [a, b] [] pos'] [] pos) (tE C X.K W (.lof tp (.rng2 x y))) := by
  have h1 := prg_2 (p := p2) (pos := pos') hg2 hm2 ha hb (star_cons hst) (star_cons hst2) (star_any (by simp [hst2]))
  have key : ∀ σ H Q, tE C X.K W (.lof tp (.rng2 x y)) σ H Q → tRg2 (tE C X.K W x) (tE C X.K W y) σ H fun a b H1 => RgOk a b ∧ ∀ q, H1 q = none → Q (.ref q) (upd H1 q (match tp with | true => .tup (rgV a b) | false => .lst (rgV a b))) := fun σ H Q h => by
    obtain ⟨ρ, μ, β, ns, bn, S, h⟩ := h
    rw [evE, evI] at h
    refine use S (Sat_bind (Sat_bind h)) fun t μ1 v H1 bn1 n h s1 x1 => ?_
    refine use (S.step s1) ((Sat_bind h).later s1) fun u μ2 w H2 bn2 m h s2 y1 => ?_
    cases t with
    | int i => cases u with
      | int j =>
        obtain ⟨rfl, _⟩ := x1.rd
        obtain ⟨rfl, _⟩ := y1.rd
        obtain ⟨ok, h⟩ := Sat_if h
        obtain ⟨hz, q⟩ := Sat_if h
        rw [Bool.and_eq_true] at ok
        refine ⟨i, j, rfl, rfl, rgOk ok.1 ok.2 hz, ?_⟩
        have := lof_end (it := .rng2 x y) (s1.trans s2) (rngL_rg i (j - i).toNat) q
        cases tp <;> exact this
      | _ => exact False.elim h
    | _ => exact False.elim h
  cases tp with
  | true => exact (pe_tupRg hc hg hm h1 (star_cons rfl)).weak key
  | false => exact (pe_listRg hc hg hm h1 (star_cons rfl)).weak key
end
end MP

/-! C16: does the small text stand for the given expression. -/
namespace MP
open PySem L2

structure Ck where
  N : List Str
  fs : List Fi
  g : Sg
  blt : List Str
def visB (sc : Scope) (nm : Str) : Bool := match sc.names.lookup nm with
  | some .local => true
  | some .cell => true
  | some .free => true
  | _ => false
def okN (nm : Str) : Bool := !(nm == ("__debug__" : Str)) && !(nm == ("__classdict__" : Str))
def glB (sc : Scope) (nm : Str) : Bool := match sc.names.lookup nm with
  | some .globalImplicit => true
  | _ => false
def blB (ck : Ck) (sc : Scope) (nm : Str) : Bool := glB sc nm && ck.blt.contains nm
def plainT : Expr → Bool
  | .UnaryOp op _ _ => (match op with | .Not => false | _ => true)
  | .BoolOp _ _ _ => false
  | .IfExp _ _ _ _ => false
  | .Compare _ _ _ _ => false
  | _ => true
def plainIx : Expr → Bool
  | .Slice _ _ _ _ => false
  | _ => true
def notSet : Expr → Bool
  | .Set _ _ _ => false
  | _ => true
def chkC : T → Expr → Bool
  | .int i, .Constant (.int j) _ _ => decide (i = j)
  | .bl b, .Constant (.bool c) _ _ => b == c
  | .non, .Constant .none _ _ => true
  | .str x, .Constant (.str y) _ _ => decide (x = y)
  | _, _ => false
def chkTys (ck : Ck) (sc : Scope) : List Ty → List Expr → Bool
  | [], [] => true
  | c :: cs, .Name nm _ :: es => decide (nm = c.nm) && blB ck sc nm && chkTys ck sc cs es
  | _, _ => false
def chkV (ck : Ck) (sc : Scope) (i : Nat) : Expr → Bool
  | .Name nm _ => decide (ck.N[i]? = some nm) && visB sc nm && okN nm
  | _ => false
mutual
def chkTg (ck : Ck) (raw sc : Scope) : Tg → Expr → Bool
  | .nm i, e => (match e with
    | .Name nm _ => decide (ck.N[i]? = some nm) && (match sc.names.lookup nm with | some .local => true | some .cell => (match raw.names.lookup nm with | some .cell => true | _ => false) | _ => false)
    | _ => false)
  | .tp ts, e => (match e with
    | .Tuple es _ _ => chkTgs ck raw sc ts es
    | _ => false)
def chkTgs (ck : Ck) (raw sc : Scope) : List Tg → List Expr → Bool
  | [], es => (match es with | [] => true | _ => false)
  | t :: ts, es => (match es with | e :: es => nost e && chkTg ck raw sc t e && chkTgs ck raw sc ts es | _ => false)
end
def ownOf (ck : Ck) (t : Tg) : List (Str × Nat) := t.slots.map fun i => ((ck.N[i]?).getD "", i)
mutual
def chkE (ck : Ck) (sc : Scope) (tst : Bool) : IE → Expr → Bool
  | .var i, e => chkV ck sc i e
  | .cst t, e => chkC t e
  | .un a, e => (match e with | .UnaryOp .USub x _ => chkE ck sc false a x | _ => false)
  | .bin op a b, e => (match e with | .BinOp x o y _ => decide (o = op.py) && chkE ck sc false a x && chkE ck sc false b y | _ => false)
  | .cmp op a b, e => (match e with | .Compare x [o] [y] _ => decide (o = op.py) && chkE ck sc false a x && chkE ck sc false b y && !(behindInMarks o y) | _ => false)
  | .chn op op' a b c, e => (match e with | .Compare x [o, o'] [y, z] _ => decide (o = op.py) && decide (o' = op'.py) && chkE ck sc false a x && chkE ck sc false b y && chkE ck sc false c z && !(lastMarks [o, o'] [y, z]) | _ => false)
  | .bop k as, e => (match e with | .BoolOp o es _ => decide (o = if k then .And else .Or) && chkB ck sc tst as es | _ => false)
  | .nt a, e => (match e with | .UnaryOp .Not x _ => chkE ck sc tst a x | _ => false)
  | .ite c a b, e => !tst && (match e with | .IfExp z x y _ => chkE ck sc true c z && chkE ck sc false a x && chkE ck sc false b y | _ => false)
  | .lst as, e => (match e with | .List es _ => chkS ck sc as es | _ => false)
  | .tup as, e => (match e with | .Tuple es _ _ => chkL ck sc as es | _ => false)
  | .sub a b, e => (match e with | .Subscript x y _ => plainIx y && chkE ck sc false a x && chkE ck sc false b y | _ => false)
  | .slc a lo hi, e => (match e with | .Subscript x (.Slice l h none _) _ => chkE ck sc false a x && chkO ck sc lo l && chkO ck sc hi h | _ => false)
  | .rev a, e => (match e with | .Subscript x (.Slice none none (some (.UnaryOp .USub (.Constant (.int 1) _ _) _)) _) _ => chkE ck sc false a x | _ => false)
  | .call f as kw, e => (match e with
    | .Call (.Name nm _) es kws _ => (match ck.fs[f]? with
      | some fi => decide (fi.nm = nm) && glB sc nm && okN nm && decide ((as.length, kw.map (·.1)) ∈ fi.sh) && decide (kws.map (·.1) = (kwN fi.ps (kw.map (·.1))).map some) && chkL ck sc as es && chkK ck sc kw kws
      | none => false)
    | _ => false)
  | .bi b as, e => (match as with
    | [a] => (match e with | .Call (.Name nm _) [x] [] _ => decide (nm = b.name) && blB ck sc nm && nost x && chkE ck sc false a x | _ => false)
    | [a, a2] => (match e with | .Call (.Name nm _) [x, x2] [] _ => (match b with | .max2 => true | .min2 => true | _ => false) && decide (nm = b.name) && blB ck sc nm && nost x && nost x2 && chkE ck sc false a x && chkE ck sc false a2 x2 | _ => false)
    | _ => false)
  | .isi a cs one, e => (match e with
    | .Call (.Name nm _) [x, y] [] _ => decide (nm = ("isinstance" : Str)) && blB ck sc nm && nost x && chkE ck sc false a x && (match one, cs, y with
      | true, [c], .Name tn _ => decide (tn = c.nm) && blB ck sc tn
      | false, cs, .Tuple es _ _ => Nat.ble cs.length line && chkTys ck sc cs es
      | _, _, _ => false)
    | _ => false)
  | .meth _ _ _, _ => false
  | .lc el t it cnd, e => (match e with
    | .ListComp elt [⟨tg, iter, ifs, 0⟩] scope _ => blkC ck.N sc scope (ownOf ck t) && t.slots.all (fun i => ck.g.k i == .S) && notSet iter && chkI ck sc it tg iter && chkTg ck scope (relS scope sc) t tg && chkE ck (relS scope sc) false el elt && chkCn ck (relS scope sc) cnd ifs
    | _ => false)
  | .imm a, e => chkE ck sc tst a e
  | .flat a, e => !tst && chkE ck sc false a e
  | .dnew _, e => (match e with | .Dict [] [] _ => true | _ => false)
  | .neNil i a, e => (match e with | .Compare (.Subscript x y _) [.NotEq] [.List [] _] _ => chkV ck sc i x && plainIx y && chkE ck sc false a y | _ => false)
  | .popAt i a b, e => (match e with
    | .Call (.Attribute (.Subscript x y _) at_ apos) [.Constant (.int 0) _ _] [] pos => (match b with | .cst (.int 0) => true | _ => false) && decide (at_ = ("pop" : Str)) && (apos.endLine == pos.line) && chkV ck sc i x && plainIx y && chkE ck sc false a y
    | _ => false)
  | .lof tp it, e => (match e with
    | .Call (.Name nm _) [.Call (.Name rn _) es [] _] [] _ => decide (nm = if tp then ("tuple" : Str) else ("list" : Str)) && blB ck sc nm && decide (rn = ("range" : Str)) && blB ck sc rn && chkR ck sc it es
    | _ => false)
  | .never, _ => true
def chkB (ck : Ck) (sc : Scope) (tst : Bool) : List IE → List Expr → Bool
  | [], _ => false
  | [a], es => (match es with | [x] => chkE ck sc tst a x | _ => false)
  | a :: as, es => (match es with | x :: xs => chkE ck sc tst a x && chkB ck sc tst as xs | _ => false)
def chkS (ck : Ck) (sc : Scope) : List (Bool × IE) → List Expr → Bool
  | [], es => (match es with | [] => true | _ => false)
  | (st, a) :: as, es => (match es with
    | x :: xs => (match st with
      | true => (match x with | .Starred y _ => chkE ck sc false a y | _ => false)
      | false => nost x && chkE ck sc false a x) && chkS ck sc as xs
    | _ => false)
def chkL (ck : Ck) (sc : Scope) : List IE → List Expr → Bool
  | [], es => (match es with | [] => true | _ => false)
  | a :: as, es => (match es with | x :: xs => nost x && chkE ck sc false a x && chkL ck sc as xs | _ => false)
def chkK (ck : Ck) (sc : Scope) : List (Nat × IE) → List Keyword → Bool
  | [], es => (match es with | [] => true | _ => false)
  | (_, a) :: as, es => (match es with | ⟨_, x, _⟩ :: xs => chkE ck sc false a x && chkK ck sc as xs | _ => false)
def chkO (ck : Ck) (sc : Scope) : Option IE → Option Expr → Bool
  | none, o => (match o with | none => true | _ => false)
  | some a, o => (match o with | some x => chkE ck sc false a x | _ => false)
def chkCn (ck : Ck) (sc : Scope) : Option IE → List Expr → Bool
  | none, o => (match o with | [] => true | _ => false)
  | some a, o => (match o with | [x] => chkE ck sc true a x | _ => false)
def chkR (ck : Ck) (sc : Scope) : II → List Expr → Bool
  | .rng1 a, es => (match es with | [x] => nost x && chkE ck sc false a x | _ => false)
  | .rng2 a b, es => (match es with | [x, y] => nost x && nost y && chkE ck sc false a x && chkE ck sc false b y | _ => false)
  | _, _ => false
def chkI (ck : Ck) (sc : Scope) : II → Expr → Expr → Bool
  | .seq a, _, e => chkE ck sc false a e
  | .rng1 a, _, e => (match e with | .Call (.Name nm _) [x] [] _ => decide (nm = ("range" : Str)) && blB ck sc nm && nost x && chkE ck sc false a x | _ => false)
  | .rng2 a b, _, e => (match e with | .Call (.Name nm _) [x, y] [] _ => decide (nm = ("range" : Str)) && blB ck sc nm && nost x && nost y && chkE ck sc false a x && chkE ck sc false b y | _ => false)
  | .enum a, tg, e => (match tg with
    | .Tuple _ _ _ => (match e with | .Call (.Name nm _) [x] [] _ => decide (nm = ("enumerate" : Str)) && blB ck sc nm && nost x && chkE ck sc false a x | _ => false)
    | _ => false)
  | .zip a b, tg, e => (match tg with
    | .Tuple _ _ _ => (match e with | .Call (.Name nm _) [x, y] [] _ => decide (nm = ("zip" : Str)) && blB ck sc nm && nost x && nost y && chkE ck sc false a x && chkE ck sc false b y | _ => false)
    | _ => false)
  | _, _, _ => false
end
end MP

/-! C17: what is checked holds: expressions. -/
namespace MP
open PySem L2

/-- in every context that shares X's ground, calls of defs hold their promise -/
def CallAll (X : Cx) (C : Cf) (fs : List Fi) (fa : Nat → Addr) : Prop := ∀ (X' : Cx) (W' : WX), X'.prog = X.prog → X'.w = X.w → X'.K = X.K → X'.mg = X.mg → X'.base = X.base → X'.A = X.A → Takes X' W' → CallOk X' C W' fs fa
structure EK (X : Cx) (C : Cf) (W : WX) (ck : Ck) (fa : Nat → Addr) (sc : Scope) : Prop where
  N : X.N = ck.N
  nd : ck.N.Nodup
  calm : X.calm = true
  guards : X.A.guards = some []
  units : X.A.units + 65 < cLine
  sc : X.env.scope = sc
  bl : ∀ nm ∈ ck.blt, X.mg nm = none
  call : CallAll X C ck.fs fa
  g : C.g = ck.g
  tk : Takes X W
theorem W0_takes {X : Cx} : Takes X W0 := fun u s' ⟨_, _, _, _, _, _, _, _, _, _, _, _, _, _, _, _, w⟩ => w.elim
section
variable {X : Cx} {C : Cf} {W : WX} {ck : Ck} {fa : Nat → Addr} {sc : Scope} {pos : Pos}
theorem EK.blk (E : EK X C W ck fa sc) (s : Shared) (H : Hp) (scope : Scope) (C' : Addr) (cl : List (Str × Addr)) (fp : List Addr) : EK (X.blk s H scope (compEnvC scope cl C' X.env) fp) C W0 ck fa (relS scope sc) where
  N := E.N
  nd := E.nd
  calm := E.calm
  guards := E.guards
  units := E.units
  sc := by rw [← E.sc] <;> rfl
  bl := E.bl
  call := fun X' W' h1 h2 h3 h4 h5 h6 => E.call X' W' h1 h2 h3 h4 h5 h6
  g := E.g
  tk := W0_takes
theorem vis_of {nm : Str} (h : visB sc nm = true) : Vis sc nm := by
  unfold visB at h
  split at h
  · rename_i e; exact .inl e
  · rename_i e; exact .inr (.inl e)
  · rename_i e; exact .inr (.inr e)
  · cases h
theorem EK.gl (E : EK X C W ck fa sc) {nm : Str} (h : glB sc nm = true) : Gl X nm := by
  unfold glB at h
  split at h
  · rename_i e
    show X.env.scope.names.lookup nm = _
    rw [E.sc]
    exact e
  · cases h
theorem EK.blt (E : EK X C W ck fa sc) {nm : Str} (h : blB ck sc nm = true) : Gl X nm ∧ X.mg nm = none := by
  unfold blB at h
  rw [Bool.and_eq_true] at h
  exact ⟨E.gl h.1, E.bl nm (by simpa using h.2)⟩
theorem EK.var (E : EK X C W ck fa sc) {i : Nat} {nm : Str} {p : Pos} (h : chkV ck sc i (.Name nm p) = true) : X.N[i]? = some nm ∧ Vis X.env.scope nm ∧ (nm == ("__debug__" : Str)) = false ∧ (nm == ("__classdict__" : Str)) = false := by
  simp only [chkV, okN, Bool.and_eq_true, decide_eq_true_eq, Bool.not_eq_true'] at h
  obtain ⟨⟨h1, h2⟩, h3, h4⟩ := h
  refine ⟨by rw [E.N]; exact h1, ?_, h3, h4⟩
  rw [E.sc]
  exact vis_of h2
theorem chkV_name {i : Nat} {e : Expr} (h : chkV ck sc i e = true) : ∃ nm p, e = .Name nm p := by
  cases e <;> first | exact ⟨_, _, rfl⟩ | cases h
theorem plain_tru {e : Expr} {env : PySem.Env} (h : plainT e = true) : ∀ whole, isTrue e env whole = (do let v ← whole; standAt e.pos; holding [v] (truthy v)) := by
  cases e with
  | UnaryOp op x p => cases op <;> first | (intro _; rfl) | cases h
  | BoolOp _ _ _ => cases h
  | IfExp _ _ _ _ => cases h
  | Compare _ _ _ _ => cases h
  | _ => intro _; rfl
theorem plain_ix {b : Expr} (h : plainIx b = true) : PlainIx b := by
  cases b with
  | Slice _ _ _ _ => cases h
  | _ => intro _ _; rfl
theorem not_set {it : Expr} {env : PySem.Env} (h : notSet it = true) : ∀ x, foldedSetIterable it env x = pure x := by
  cases it with
  | Set _ _ _ => cases h
  | _ => intro _; rfl
def Both (X : Cx) (C : Cf) (W : WX) (tst : Bool) (ie : IE) (e : Expr) : Prop := (tst = false → PE X e (tE C X.K W ie)) ∧ (tst = true → PT X e (tT C X.K W ie))
theorem both {tst : Bool} {ie : IE} {e : Expr} (h : PE X e (tE C X.K W ie)) (hp : plainT e = true) : Both X C W tst ie e := ⟨fun _ => h, fun _ => t_val h (plain_tru hp)⟩
theorem both0 {tst : Bool} {ie : IE} {e : Expr} (h : PE X e (tE C X.K W ie)) (ht : (!tst) = true) : Both X C W tst ie e := ⟨fun _ => h, fun z => by subst z; cases ht⟩
theorem never_pe {e : Expr} : PE X e (tE C X.K W .never) := ⟨fun _ _ _ _ _ _ h => by obtain ⟨_, _, _, _, _, _, h⟩ := h; exact h.elim⟩
theorem never_pt {e : Expr} : PT X e (tT C X.K W .never) := ⟨fun _ _ _ _ _ _ h => by obtain ⟨_, _, _, _, _, _, h⟩ := h; exact h.elim⟩
theorem t_imm {e : Expr} {x : IE} (h : PT X e (tT C X.K W x)) : PT X e (tT C X.K W (.imm x)) := h.weak fun σ H Q h => by
  obtain ⟨ρ, μ, β, ns, bn, S, h⟩ := h
  refine ⟨ρ, μ, β, ns, bn, S, (Sat_bind h).mono (fun t μ1 h => ?_) fun _ _ _ e => e⟩
  obtain ⟨ok, h⟩ := Sat_if h
  exact h
theorem chkTys_ok (E : EK X C W ck fa sc) : ∀ {cs : List Ty} {es : List Expr}, chkTys ck sc cs es = true → ∃ ps : List Pos, cs.length = ps.length ∧ es = ((cs.zip ps).map fun c => .Name c.1.nm c.2) ∧ ∀ c ∈ cs, Gl X c.nm ∧ X.mg c.nm = none
  | [], [], _ => ⟨[], rfl, rfl, fun _ z => by cases z⟩
  | [], _ :: _, h => by simp [chkTys] at h
  | c :: cs, [], h => by simp [chkTys] at h
  | c :: cs, e :: es, h => by
    cases e with
    | Name nm p =>
      simp only [chkTys, Bool.and_eq_true, decide_eq_true_eq] at h
      obtain ⟨⟨rfl, h1⟩, h2⟩ := h
      obtain ⟨ps, l, rfl, hg⟩ := chkTys_ok E h2
      refine ⟨p :: ps, by simp [l], rfl, fun d hd => ?_⟩
      rcases List.mem_cons.mp hd with rfl | hd
      · exact E.blt h1
      · exact hg d hd
    | _ => simp [chkTys] at h
mutual
theorem chkTg_ok (hN : X.N = ck.N) (nd : ck.N.Nodup) (hc : X.calm = true) (hs : X.env.scope = sc) {raw : Scope} (hf : ∀ x, raw.names.lookup x = some .cell → X.fn x = true) : ∀ (t : Tg) {e : Expr}, chkTg ck raw sc t e = true → PG X e (gTg X.K t)
  | .nm i, e, h => by
    cases e with
    | Name nm p =>
      simp only [chkTg, Bool.and_eq_true, decide_eq_true_eq] at h
      obtain ⟨h1, h2⟩ := h
      subst hs
      have hi : X.N[i]? = some nm := by rw [hN]; exact h1
      have nd' : X.N.Nodup := by rw [hN]; exact nd
      split at h2
      · rename_i e; exact pg_name nd' hi (.inl e) (.inr e)
      · rename_i e
        split at h2
        · rename_i e'; exact pg_name nd' hi (.inr e) (.inl (hf nm e'))
        · cases h2
      · cases h2
    | _ => simp [chkTg] at h
  | .tp ts, e, h => by
    cases e with
    | Tuple es k p =>
      simp only [chkTg] at h
      obtain ⟨h1, h2, h3⟩ := chkTgs_ok hN nd hc hs hf ts h
      exact pg_tup hc h1 h2 h3
    | _ => simp [chkTg] at h
theorem chkTgs_ok (hN : X.N = ck.N) (nd : ck.N.Nodup) (hc : X.calm = true) (hs : X.env.scope = sc) {raw : Scope} (hf : ∀ x, raw.names.lookup x = some .cell → X.fn x = true) : ∀ (ts : List Tg) {es : List Expr}, chkTgs ck raw sc ts es = true → PGs X es (gTgs X.K ts) ∧ (assignEach es X.env).length = ts.length ∧ (assignEach es X.env).findIdx? (·.1) = none
  | [], es, h => by
    cases es with
    | nil => exact ⟨pgs_nil, rfl, rfl⟩
    | cons _ _ => simp [chkTgs] at h
  | t :: ts, es, h => by
    cases es with
    | nil => simp [chkTgs] at h
    | cons e es =>
      simp only [chkTgs, Bool.and_eq_true] at h
      obtain ⟨⟨h1, h2⟩, h3⟩ := h
      have g1 := chkTg_ok hN nd hc hs hf t h2
      obtain ⟨g2, g3, g4⟩ := chkTgs_ok hN nd hc hs hf ts h3
      have ea : assignEach (e :: es) X.env = (false, assign e X.env) :: assignEach es X.env := by cases e <;> first | rfl | cases h1
      refine ⟨pgs_cons g1 g2 (by rw [ea] <;> rfl), by rw [ea, List.length_cons, List.length_cons, g3], ?_⟩
      rw [ea, List.findIdx?_cons, if_neg (by simp), g4] <;> rfl
end
end
end MP

/-! C18: what is checked holds: all expressions. -/
namespace MP
open PySem L2
section
variable {C : Cf} {ck : Ck} {fa : Nat → Addr}
/-- max, min of two -/
theorem e_bi2 {X : Cx} {W : WX} {a b : Expr} {x y : IE} {pos : Pos} (bi : BI) {p : Pos} (h2 : bi = .max2 ∨ bi = .min2) (hc : X.calm = true) (hgd : X.A.guards = some []) (hu : X.A.units + 65 < cLine) (hg : Gl X bi.name) (hm : X.mg bi.name = none) (ha : PE X a (tE C X.K W x)) (hst : nost a = true) (hb : PE X b (tE C X.K W y)) (hst2 : nost b = true) :
    PE X (.Call (.Name bi.name p) [a, b] [] pos) (tE C X.K W (.bi bi [x, y])) :=
  (pe_callBI bi (crBI hc hgd hu bi) hg hm (pa_cons ha (pa_cons hb pa_nil (star_cons hst2)) (star_cons hst)) hst (by simp [hst2])).weak fun σ H Q h => by
  obtain ⟨ρ, μ, β, ns, bn, S, h⟩ := h
  have h : Sat (((evE C.F ρ x μ).bind fun t μ => (((evE C.F ρ y μ).bind fun u μ => (Res.ok [] μ).bind fun r μ => .ok (u :: r) μ)).bind fun r μ => .ok (t :: r) μ).bind _) _ _ := h
  refine use S (Sat_bind (Sat_bind h)) fun t μ1 v H1 bn1 n h s1 x1 => ?_
  refine use (S.step s1) ((Sat_bind (Sat_bind h)).later s1) fun u μ2 w H2 bn2 m h s2 y1 => ?_
  obtain ⟨ok, h⟩ := Sat_if (b := [t, u].all fun t => kidsOk t (kidsOf (view μ2 t))) (r := opt (pBI bi [view μ2 t, view μ2 u]) μ2) h
  obtain ⟨r, e, q⟩ := Sat_opt h
  have s := s1.trans s2
  obtain ⟨n', r1, _, _⟩ := view_ok (g := C.g) s2.box (x1.step s2)
  obtain ⟨m', r2, _, _⟩ := view_ok (g := C.g) s2.box y1
  refine ⟨β, [view μ2 t, view μ2 u], r, n' ++ m', ⟨v, [w], n', m', rfl, r1, RdsL.one.mpr ⟨w, rfl, r2⟩, rfl⟩, e, ?_⟩
  have e : pBI bi [view μ2 t, view μ2 u] = some r := e
  have nl : nodeless r = true := by
    rcases h2 with rfl | rfl
    all_goals
      revert e
      cases view μ2 t <;> cases view μ2 u <;> simp only [pBI, reduceCtorEq, false_implies, Option.some.injEq]
      intro e
      subst e
      rfl
  have hi : info C.g (.bi bi [x, y]) = .nil := by rcases h2 with rfl | rfl <;> rfl
  rw [hi] at q
  exact fin_imm s2.box s nl rfl q
mutual
theorem chkE_ok : ∀ (ie : IE) {X : Cx} {W : WX} {sc : Scope} {tst : Bool} {e : Expr}, EK X C W ck fa sc → chkE ck sc tst ie e = true → Both X C W tst ie e
  | .var i, X, W, sc, tst, e, E, h => by
    simp only [chkE] at h
    obtain ⟨nm, p, rfl⟩ := chkV_name h
    obtain ⟨h1, h2, h3, h4⟩ := E.var h
    exact both (e_var h1 h2 h3 h4) rfl
  | .cst t, X, W, sc, tst, e, E, h => by
    simp only [chkE] at h
    cases e with
    | Constant c j p =>
      cases t <;> cases c <;> simp only [chkC, reduceCtorEq, decide_eq_true_eq, beq_iff_eq] at h
      · exact both (e_cst pe_non (fun _ _ => ⟨rfl, rfl⟩) rfl) rfl
      · subst h; exact both (e_cst pe_bl (fun _ _ => ⟨rfl, rfl⟩) rfl) rfl
      · subst h; exact both (e_cst pe_int (fun _ _ => ⟨rfl, rfl⟩) rfl) rfl
      · subst h; exact both (e_cst pe_str (fun _ _ => ⟨rfl, rfl⟩) rfl) rfl
    | _ => cases t <;> simp [chkC] at h
  | .un a, X, W, sc, tst, e, E, h => by
    simp only [chkE] at h
    split at h
    · exact both (e_un ((chkE_ok a E h).1 rfl)) rfl
    · cases h
  | .bin op a b, X, W, sc, tst, e, E, h => by
    simp only [chkE] at h
    split at h
    · simp only [Bool.and_eq_true, decide_eq_true_eq] at h
      obtain ⟨⟨rfl, h1⟩, h2⟩ := h
      exact both (e_bin op ((chkE_ok a E h1).1 rfl) ((chkE_ok b E h2).1 rfl)) rfl
    · cases h
  | .cmp op a b, X, W, sc, tst, e, E, h => by
    simp only [chkE] at h
    split at h
    · simp only [Bool.and_eq_true, decide_eq_true_eq, Bool.not_eq_true'] at h
      obtain ⟨⟨⟨rfl, h1⟩, h2⟩, h3⟩ := h
      have ha := (chkE_ok a E h1).1 rfl
      have hb := (chkE_ok b E h2).1 rfl
      exact ⟨fun _ => e_cmp op E.units ha hb h3, fun _ => t_cmp op E.units ha hb h3⟩
    · cases h
  | .chn op op' a b c, X, W, sc, tst, e, E, h => by
    simp only [chkE] at h
    split at h
    · simp only [Bool.and_eq_true, decide_eq_true_eq, Bool.not_eq_true'] at h
      obtain ⟨⟨⟨⟨⟨rfl, rfl⟩, h1⟩, h2⟩, h3⟩, h4⟩ := h
      have ha := (chkE_ok a E h1).1 rfl
      have hb := (chkE_ok b E h2).1 rfl
      have hc := (chkE_ok c E h3).1 rfl
      exact ⟨fun _ => e_chn op op' E.units ha hb hc h4, fun _ => t_chn op op' E.units ha hb hc h4⟩
    · cases h
  | .bop k as, X, W, sc, tst, e, E, h => by
    simp only [chkE] at h
    split at h
    · simp only [Bool.and_eq_true, decide_eq_true_eq] at h
      obtain ⟨rfl, h1⟩ := h
      obtain ⟨h2, h3⟩ := chkB_ok as E h1
      exact ⟨fun z => (h2 z _ _).weak fun σ H Q h => h, fun z => ((h3 z _ _).pt).weak fun σ H Q h => h⟩
    · cases h
  | .nt a, X, W, sc, tst, e, E, h => by
    simp only [chkE] at h
    split at h
    · obtain ⟨h1, h2⟩ := chkE_ok a E h
      exact ⟨fun z => e_nt (h1 z), fun z => t_nt (h2 z)⟩
    · cases h
  | .ite c a b, X, W, sc, tst, e, E, h => by
    simp only [chkE, Bool.and_eq_true] at h
    obtain ⟨ht, h⟩ := h
    split at h
    · simp only [Bool.and_eq_true] at h
      obtain ⟨⟨h1, h2⟩, h3⟩ := h
      exact both0 (e_ite ((chkE_ok c E h1).2 rfl) ((chkE_ok a E h2).1 rfl) ((chkE_ok b E h3).1 rfl)) ht
    · cases h
  | .lst as, X, W, sc, tst, e, E, h => by
    simp only [chkE] at h
    split at h
    · exact both (e_lst (chkS_ok as E h)) rfl
    · cases h
  | .tup as, X, W, sc, tst, e, E, h => by
    simp only [chkE] at h
    split at h
    · exact both (e_tup (chkL_ok as E h).1) rfl
    · cases h
  | .sub a b, X, W, sc, tst, e, E, h => by
    simp only [chkE] at h
    split at h
    · simp only [Bool.and_eq_true] at h
      obtain ⟨⟨h1, h2⟩, h3⟩ := h
      exact both (e_sub E.units ((chkE_ok a E h2).1 rfl) ((chkE_ok b E h3).1 rfl) (plain_ix h1)) rfl
    · cases h
  | .slc a lo hi, X, W, sc, tst, e, E, h => by
    simp only [chkE] at h
    split at h
    · simp only [Bool.and_eq_true] at h
      obtain ⟨⟨h1, h2⟩, h3⟩ := h
      exact both (e_slc ((chkE_ok a E h1).1 rfl) (chkO_ok lo E h2) (chkO_ok hi E h3)) rfl
    · cases h
  | .rev a, X, W, sc, tst, e, E, h => by
    simp only [chkE] at h
    split at h
    · exact both (e_rev ((chkE_ok a E h).1 rfl)) rfl
    · cases h
  | .call f as kw, X, W, sc, tst, e, E, h => by
    simp only [chkE] at h
    split at h
    · split at h
      · rename_i fi hf
        simp only [Bool.and_eq_true, decide_eq_true_eq] at h
        obtain ⟨⟨⟨⟨⟨⟨rfl, h1⟩, h2⟩, h3⟩, h4⟩, h5⟩, h6⟩ := h
        obtain ⟨l1, l2, l3⟩ := chkL_ok as E h5
        simp only [okN, Bool.and_eq_true, Bool.not_eq_true'] at h2
        exact both (e_call (E.call X W rfl rfl rfl rfl rfl rfl E.tk) hf (E.gl h1) h2.1 h3 l3 h4 l1 (chkK_ok kw E h6) l2) rfl
      · cases h
    · cases h
  | .bi b [], X, W, sc, tst, e, E, h => by simp [chkE] at h
  | .bi b [a], X, W, sc, tst, e, E, h => by
    simp only [chkE] at h
    split at h
    · simp only [Bool.and_eq_true, decide_eq_true_eq] at h
      obtain ⟨⟨⟨rfl, h1⟩, h2⟩, h3⟩ := h
      obtain ⟨g1, g2⟩ := E.blt h1
      exact both (e_bi1 b E.calm E.guards E.units g1 g2 ((chkE_ok a E h3).1 rfl) h2) rfl
    · cases h
  | .bi b [a, a2], X, W, sc, tst, e, E, h => by
    simp only [chkE] at h
    split at h
    · simp only [Bool.and_eq_true, decide_eq_true_eq] at h
      obtain ⟨⟨⟨⟨⟨⟨h0, rfl⟩, h1⟩, h2⟩, h3⟩, h4⟩, h5⟩ := h
      obtain ⟨g1, g2⟩ := E.blt h1
      have hb : b = .max2 ∨ b = .min2 := by cases b <;> first | exact .inl rfl | exact .inr rfl | cases h0
      exact both (e_bi2 b hb E.calm E.guards E.units g1 g2 ((chkE_ok a E h4).1 rfl) h2 ((chkE_ok a2 E h5).1 rfl) h3) rfl
    · cases h
  | .bi b (_ :: _ :: _ :: _), X, W, sc, tst, e, E, h => by simp [chkE] at h
  | .isi a cs one, X, W, sc, tst, e, E, h => by
    simp only [chkE] at h
    split at h
    · simp only [Bool.and_eq_true, decide_eq_true_eq] at h
      obtain ⟨⟨⟨⟨rfl, h1⟩, h2⟩, h3⟩, h4⟩ := h
      obtain ⟨g1, g2⟩ := E.blt h1
      have ha := (chkE_ok a E h3).1 rfl
      split at h4
      · simp only [Bool.and_eq_true, decide_eq_true_eq] at h4
        obtain ⟨rfl, h5⟩ := h4
        obtain ⟨g3, g4⟩ := E.blt h5
        exact both (e_isi (cs := []) g1 g2 g3 g4 ha h2) rfl
      · simp only [Bool.and_eq_true] at h4
        obtain ⟨ps, l, rfl, hg⟩ := chkTys_ok E h4.2
        exact both (e_isiT g1 g2 l h4.1 hg ha h2) rfl
      · cases h4
    · cases h
  | .meth _ _ _, X, W, sc, tst, e, E, h => by simp [chkE] at h
  | .lc el t it cnd, X, W, sc, tst, e, E, h => by
    simp only [chkE] at h
    split at h
    · rename_i elt tg iter ifs scope p
      simp only [Bool.and_eq_true, List.all_eq_true] at h
      obtain ⟨⟨⟨⟨⟨⟨h1, h2⟩, h3⟩, h4⟩, h5⟩, h6⟩, h7⟩ := h
      have nd : X.N.Nodup := by rw [E.N]; exact E.nd
      have bl : BlkOk X.N X.env.scope scope (ownOf ck t) := by rw [E.N, E.sc]; exact blkOk_by h1
      refine both (e_lc E.calm nd (chkI_ok it E h4) bl (fun s H C' cl fp => ?_) (fun s H C' cl fp => chkCn_ok cnd (E.blk s H scope C' cl fp) h7) (fun s H C' cl fp => (chkE_ok el (E.blk s H scope C' cl fp) h6).1 rfl) (not_set h3) (by unfold ownOf; rw [List.map_map]; exact List.map_id _) fun i hi => ?_) rfl
      · exact chkTg_ok (X := X.blk s H scope (compEnvC scope cl C' X.env) fp) E.N E.nd E.calm (E.blk s H scope C' cl fp).sc (fun x hx => by show (scope.names.lookup x == some .cell) = true; rw [hx] <;> rfl) t h5
      · have := h2 i hi
        rw [E.g]
        simpa using this
    · cases h
  | .imm a, X, W, sc, tst, e, E, h => by
    simp only [chkE] at h
    obtain ⟨h1, h2⟩ := chkE_ok a E h
    exact ⟨fun z => e_imm (h1 z), fun z => t_imm (h2 z)⟩
  | .flat a, X, W, sc, tst, e, E, h => by
    simp only [chkE, Bool.and_eq_true] at h
    exact both0 (e_flat ((chkE_ok a E h.2).1 rfl)) h.1
  | .dnew tk, X, W, sc, tst, e, E, h => by
    simp only [chkE] at h
    split at h
    · exact both (e_dnew tk) rfl
    · cases h
  | .neNil i a, X, W, sc, tst, e, E, h => by
    simp only [chkE] at h
    split at h
    · simp only [Bool.and_eq_true] at h
      obtain ⟨⟨h1, h2⟩, h3⟩ := h
      obtain ⟨nm, p, rfl⟩ := chkV_name h1
      obtain ⟨v1, v2, v3, v4⟩ := E.var h1
      exact ⟨fun _ => e_neNil E.units v1 v2 v3 v4 ((chkE_ok a E h3).1 rfl) (plain_ix h2), fun _ => t_neNil E.units v1 v2 v3 v4 ((chkE_ok a E h3).1 rfl) (plain_ix h2)⟩
    · cases h
  | .popAt i a b, X, W, sc, tst, e, E, h => by
    simp only [chkE] at h
    split at h
    · simp only [Bool.and_eq_true, decide_eq_true_eq] at h
      obtain ⟨⟨⟨⟨⟨h0, rfl⟩, hl⟩, h1⟩, h2⟩, h3⟩ := h
      obtain ⟨nm, p, rfl⟩ := chkV_name h1
      obtain ⟨v1, v2, v3, v4⟩ := E.var h1
      split at h0
      · exact both (e_popAt E.units v1 v2 v3 v4 ((chkE_ok a E h3).1 rfl) (plain_ix h2) hl) rfl
      · cases h0
    · cases h
  | .lof tp it, X, W, sc, tst, e, E, h => by
    simp only [chkE] at h
    split at h
    · simp only [Bool.and_eq_true, decide_eq_true_eq] at h
      obtain ⟨⟨⟨⟨rfl, h1⟩, rfl⟩, h3⟩, h4⟩ := h
      obtain ⟨g1, g2⟩ := E.blt h1
      obtain ⟨g3, g4⟩ := E.blt h3
      cases it with
      | rng1 a =>
        simp only [chkR] at h4
        split at h4
        · rw [Bool.and_eq_true] at h4
          exact both (e_lof1 tp E.calm g1 g2 g3 g4 ((chkE_ok a E h4.2).1 rfl) h4.1) rfl
        · cases h4
      | rng2 a b =>
        simp only [chkR] at h4
        split at h4
        · simp only [Bool.and_eq_true] at h4
          obtain ⟨⟨⟨k1, k2⟩, k3⟩, k4⟩ := h4
          exact both (e_lof2 tp E.calm g1 g2 g3 g4 ((chkE_ok a E k3).1 rfl) k1 ((chkE_ok b E k4).1 rfl) k2) rfl
        · cases h4
      | _ => simp [chkR] at h4
    · cases h
  | .never, X, W, sc, tst, e, E, h => ⟨fun _ => never_pe, fun _ => never_pt⟩
theorem chkB_ok : ∀ (as : List IE) {X : Cx} {W : WX} {sc : Scope} {tst : Bool} {es : List Expr}, EK X C W ck fa sc → chkB ck sc tst as es = true → (tst = false → ∀ (k : Bool) (pos : Pos), PE X (.BoolOp (if k then .And else .Or) es pos) (tEB C X.K W k as)) ∧ (tst = true → ∀ (k : Bool) (pos : Pos), PW X (.BoolOp (if k then .And else .Or) es pos) (tTB C X.K W k as))
  | [], X, W, sc, tst, es, E, h => by simp [chkB] at h
  | [a], X, W, sc, tst, es, E, h => by
    simp only [chkB] at h
    split at h
    · obtain ⟨h1, h2⟩ := chkE_ok a E h
      exact ⟨fun z k pos => e_b1 (h1 z), fun z k pos => t_b1 (h2 z)⟩
    · cases h
  | a :: b :: as, X, W, sc, tst, es, E, h => by
    simp only [chkB] at h
    split at h
    · rename_i x xs
      rw [Bool.and_eq_true] at h
      obtain ⟨h1, h2⟩ := chkE_ok a E h.1
      obtain ⟨h3, h4⟩ := chkB_ok (b :: as) E h.2
      cases xs with
      | nil => exact absurd h.2 (by cases as <;> simp [chkB])
      | cons y ys => exact ⟨fun z k pos => e_b2 (h1 z) (h3 z k pos), fun z k pos => t_b2 (h2 z) (h4 z k pos)⟩
    · cases h
theorem chkS_ok : ∀ (as : List (Bool × IE)) {X : Cx} {W : WX} {sc : Scope} {es : List Expr}, EK X C W ck fa sc → chkS ck sc as es = true → PA X es (tLs C X.K W (fun ρ => evS C.F ρ as) (infoS C.g as))
  | [], X, W, sc, es, E, h => by
    simp only [chkS] at h
    split at h
    · exact l_nil fun ρ μ => rfl
    · cases h
  | (st, a) :: as, X, W, sc, es, E, h => by
    simp only [chkS] at h
    split at h
    · rename_i x xs
      rw [Bool.and_eq_true] at h
      obtain ⟨h1, h2⟩ := h
      have hr := chkS_ok as E h2
      cases st with
      | true =>
        dsimp only at h1
        split at h1
        · exact l_star ((chkE_ok a E h1).1 rfl) hr fun ρ μ => rfl
        · cases h1
      | false =>
        dsimp only at h1
        rw [Bool.and_eq_true] at h1
        exact l_cons ((chkE_ok a E h1.2).1 rfl) hr (fun ρ μ => rfl) (star_cons h1.1)
    · cases h
theorem chkL_ok : ∀ (as : List IE) {X : Cx} {W : WX} {sc : Scope} {es : List Expr}, EK X C W ck fa sc → chkL ck sc as es = true → PA X es (tLs C X.K W (fun ρ => evL C.F ρ as) (infoL C.g as)) ∧ as.length = es.length ∧ es.all nost = true
  | [], X, W, sc, es, E, h => by
    simp only [chkL] at h
    split at h
    · exact ⟨l_nil fun ρ μ => rfl, rfl, rfl⟩
    · cases h
  | a :: as, X, W, sc, es, E, h => by
    simp only [chkL] at h
    split at h
    · rename_i x xs
      simp only [Bool.and_eq_true] at h
      obtain ⟨⟨h1, h2⟩, h3⟩ := h
      obtain ⟨r1, r2, r3⟩ := chkL_ok as E h3
      exact ⟨l_cons ((chkE_ok a E h2).1 rfl) r1 (fun ρ μ => rfl) (star_cons h1), by simp [r2], by simp [h1]; simpa using r3⟩
    · cases h
theorem chkK_ok : ∀ (as : List (Nat × IE)) {X : Cx} {W : WX} {sc : Scope} {kws : List Keyword}, EK X C W ck fa sc → chkK ck sc as kws = true → PK X kws (tLs C X.K W (fun ρ => evK C.F ρ as) (infoK C.g as))
  | [], X, W, sc, kws, E, h => by
    simp only [chkK] at h
    split at h
    · exact k_nil fun ρ μ => rfl
    · cases h
  | (_, a) :: as, X, W, sc, kws, E, h => by
    simp only [chkK] at h
    split at h
    · rw [Bool.and_eq_true] at h
      exact k_cons ((chkE_ok a E h.1).1 rfl) (chkK_ok as E h.2) fun ρ μ => rfl
    · cases h
theorem chkO_ok : ∀ (o : Option IE) {X : Cx} {W : WX} {sc : Scope} {eo : Option Expr}, EK X C W ck fa sc → chkO ck sc o eo = true → PO X eo (tO C X.K W o)
  | none, X, W, sc, eo, E, h => by
    simp only [chkO] at h
    split at h
    · exact o_none
    · cases h
  | some a, X, W, sc, eo, E, h => by
    simp only [chkO] at h
    split at h
    · exact o_some ((chkE_ok a E h).1 rfl)
    · cases h
theorem chkCn_ok : ∀ (o : Option IE) {X : Cx} {sc : Scope} {es : List Expr}, EK X C W0 ck fa sc → chkCn ck sc o es = true → PTs X es (tC0 C X.K o)
  | none, X, sc, es, E, h => by
    simp only [chkCn] at h
    split at h
    · exact pts_nil
    · cases h
  | some a, X, sc, es, E, h => by
    simp only [chkCn] at h
    split at h
    · exact pts_one ((chkE_ok a E h).2 rfl)
    · cases h
theorem chkI_ok : ∀ (ii : II) {X : Cx} {W : WX} {sc : Scope} {tg e : Expr}, EK X C W ck fa sc → chkI ck sc ii tg e = true → PI X tg e (tI C X.K W ii)
  | .seq a, X, W, sc, tg, e, E, h => by
    simp only [chkI] at h
    exact i_seq ((chkE_ok a E h).1 rfl)
  | .rng1 a, X, W, sc, tg, e, E, h => by
    simp only [chkI] at h
    split at h
    · simp only [Bool.and_eq_true, decide_eq_true_eq] at h
      obtain ⟨⟨⟨rfl, h1⟩, h2⟩, h3⟩ := h
      obtain ⟨g1, g2⟩ := E.blt h1
      exact i_rng1 g1 g2 ((chkE_ok a E h3).1 rfl) h2
    · cases h
  | .rng2 a b, X, W, sc, tg, e, E, h => by
    simp only [chkI] at h
    split at h
    · simp only [Bool.and_eq_true, decide_eq_true_eq] at h
      obtain ⟨⟨⟨⟨⟨rfl, h1⟩, h2⟩, h3⟩, h4⟩, h5⟩ := h
      obtain ⟨g1, g2⟩ := E.blt h1
      exact i_rng2 g1 g2 ((chkE_ok a E h4).1 rfl) h2 ((chkE_ok b E h5).1 rfl) h3
    · cases h
  | .enum a, X, W, sc, tg, e, E, h => by
    simp only [chkI] at h
    split at h
    · split at h
      · simp only [Bool.and_eq_true, decide_eq_true_eq] at h
        obtain ⟨⟨⟨rfl, h1⟩, h2⟩, h3⟩ := h
        obtain ⟨g1, g2⟩ := E.blt h1
        exact i_enum g1 g2 ((chkE_ok a E h3).1 rfl) h2
      · cases h
    · cases h
  | .zip a b, X, W, sc, tg, e, E, h => by
    simp only [chkI] at h
    split at h
    · split at h
      · simp only [Bool.and_eq_true, decide_eq_true_eq] at h
        obtain ⟨⟨⟨⟨⟨rfl, h1⟩, h2⟩, h3⟩, h4⟩, h5⟩ := h
        obtain ⟨g1, g2⟩ := E.blt h1
        exact i_zip g1 g2 ((chkE_ok a E h4).1 rfl) h2 ((chkE_ok b E h5).1 rfl) h3
      · cases h
    · cases h
  | .rng3 _ _ _, X, W, sc, tg, e, E, h => by simp [chkI] at h
  | .keys _, X, W, sc, tg, e, E, h => by simp [chkI] at h
  | .items _, X, W, sc, tg, e, E, h => by simp [chkI] at h
end
end
end MP

/-! C19: the state of a statement. -/
namespace MP
open PySem L2

/-- what is fixed through a def's body: the boxes, the heap and the arguments' nodes at the entry -/
structure Fx where
  β : List Addr
  bn : Nat → List Addr
  H : Hp
  A : List Addr
/-- what is walked just now: its nodes, what is to stay true of them -/
structure Tmp where
  b : List Addr
  m : List Addr
  G : Hp → Prop
structure TmpOk (g : Sg) (fx : Fx) (β : List Addr) (bn ns : Nat → List Addr) (H : Hp) (q : Tmp) : Prop where
  nb : ∀ a ∈ q.m, ¬ Bx β bn a
  d : ∀ i, g.k i = .D → ∀ a ∈ ns i, a ∉ q.m
  p : ∀ i, g.k i = .P → ∀ a ∈ (ns i).take 1, a ∉ q.m
  trk : ∀ a ∈ q.m, H a ≠ none
  keep : ∀ (B : Addr → Prop) (H1 H2 : Hp), q.G H1 → Keeps B H1 H2 → (∀ a ∈ q.m, ¬ B a) → q.G H2
  holds : q.G H
  ln : ∀ a ∈ q.m, fx.H a = none ∨ a ∈ fx.A
  pre : ∃ r, β = q.b ++ r
structure SSt (K : PySem.W.Frag) (g : Sg) (fx : Fx) (ts : List Tmp) (β : List Addr) (H : Hp) (ρ : Env) (σ : St) (μ : Mem) (ns bn : Nat → List Addr) : Prop where
  e : ESt K g β H ρ σ μ ns bn
  dd : ∀ i j, i ≠ j → g.k i = .D → ∀ a ∈ ns i, a ∉ ns j
  pn : ∀ i, g.k i = .P → ∀ a ∈ (ns i).take 1, a ∉ (ns i).drop 1
  dp : ∀ i j, i ≠ j → g.k i = .P → ∀ a ∈ (ns i).take 1, a ∉ ns j
  frd : ∀ i, g.k i = .D → ∀ a ∈ ns i, fx.H a = none
  frp : ∀ i, g.k i = .P → ∀ a ∈ (ns i).take 1, fx.H a = none
  keep : Keeps (Bx fx.β fx.bn) fx.H H
  sub : ∀ a, Bx β bn a → Bx fx.β fx.bn a ∨ fx.H a = none
  pre : ∃ r, β = fx.β ++ r
  ln : ∀ i, ∀ a ∈ ns i, fx.H a = none ∨ a ∈ fx.A
  tm : ∀ q ∈ ts, TmpOk g fx β bn ns H q
section
variable {K : PySem.W.Frag} {g : Sg} {fx : Fx} {ts : List Tmp} {β : List Addr} {H H' H1 : Hp} {ρ : Env} {σ : St} {μ μ' : Mem} {ns bn bn' : Nat → List Addr} {i : Inf} {t : T} {v : V} {n : List Addr} {x : Nat}
theorem SSt.step (S : SSt K g fx ts β H ρ σ μ ns bn) (s : Step K β bn H H' μ' bn') : SSt K g fx ts β H' ρ σ μ' ns bn' where
  e := S.e.step s
  dd := S.dd
  pn := S.pn
  dp := S.dp
  frd := S.frd
  frp := S.frp
  keep := S.keep.trans s.keep S.sub
  sub := fun a h => by
    rcases s.sub a h with z | z
    · exact S.sub a z
    · exact .inr (S.keep.more a z)
  pre := S.pre
  ln := S.ln
  tm := fun q hq => by
    have T := S.tm q hq
    exact ⟨fun a ha => s.nb (T.trk a ha) (T.nb a ha), T.d, T.p, fun a ha z => T.trk a ha (s.keep.more a z), T.keep, T.keep _ _ _ T.holds s.keep T.nb, T.ln, T.pre⟩
theorem getV_kill {ρ : Env} : ∀ {is : List Nat} {j : Nat}, getV (kill ρ is) j = if j ∈ is then none else getV ρ j
  | [], j => by simp [kill]
  | i :: is, j => by
    show getV ((kill ρ is).set i none) j = _
    rw [getV_none, getV_kill]
    by_cases h : j = i
    · simp [h]
    · by_cases h2 : j ∈ is <;> simp [h, h2]
theorem kill_len {ρ : Env} : ∀ {is : List Nat}, (kill ρ is).length = ρ.length
  | [] => rfl
  | i :: is => by show ((kill ρ is).set i none).length = _; rw [List.length_set, kill_len]
/-- slots are given away -/
def nsK (ns : Nat → List Addr) (is : List Nat) : Nat → List Addr := fun j => if j ∈ is then [] else ns j
theorem nsK_sub {is : List Nat} {j : Nat} {a : Addr} (h : a ∈ nsK ns is j) : j ∉ is ∧ a ∈ ns j := by
  unfold nsK at h
  split at h
  · cases h
  · rename_i q; exact ⟨q, h⟩
theorem nsK_take {is : List Nat} {j : Nat} {a : Addr} (h : a ∈ (nsK ns is j).take 1) : j ∉ is ∧ a ∈ (ns j).take 1 := by
  unfold nsK at h
  split at h
  · cases h
  · rename_i q; exact ⟨q, h⟩
theorem SSt.kill (S : SSt K g fx ts β H ρ σ μ ns bn) (is : List Nat) : SSt K g fx ts β H (kill ρ is) σ μ (nsK ns is) bn where
  e := {
    box := S.e.box
    len := by rw [kill_len]; exact S.e.len
    sl := fun j u e => by
      rw [getV_kill] at e
      unfold nsK
      split at e
      · cases e
      · rename_i q
        rw [if_neg q]
        exact S.e.sl j u e
    no := fun j e => by
      rw [getV_kill] at e
      unfold nsK
      split
      · rfl
      · rename_i q
        rw [if_neg q] at e
        exact S.e.no j e
    sb := fun j a h => S.e.sb j a (nsK_sub h).2
    dn := fun j hj => by
      unfold nsK
      split
      · exact List.nodup_nil
      · exact S.e.dn j hj
    dd := fun j l hne h1 h2 a ha z => S.e.dd j l hne h1 h2 a (nsK_sub ha).2 (nsK_sub z).2
    pk := fun j u hj e => by
      rw [getV_kill] at e
      unfold nsK
      split
      · exact .inr rfl
      · rename_i q
        rw [if_neg q] at e
        exact S.e.pk j u hj e }
  dd := fun j l hne h1 a ha z => S.dd j l hne h1 a (nsK_sub ha).2 (nsK_sub z).2
  pn := fun j hj a ha z => by
    obtain ⟨q, h⟩ := nsK_take ha
    unfold nsK at z
    rw [if_neg q] at z
    exact S.pn j hj a h z
  dp := fun j l hne hj a ha z => S.dp j l hne hj a (nsK_take ha).2 (nsK_sub z).2
  frd := fun j hj a ha => S.frd j hj a (nsK_sub ha).2
  frp := fun j hj a ha => S.frp j hj a (nsK_take ha).2
  keep := S.keep
  sub := S.sub
  pre := S.pre
  ln := fun j a ha => S.ln j a (nsK_sub ha).2
  tm := fun q hq => by
    have T := S.tm q hq
    exact ⟨T.nb, fun j hj a ha => T.d j hj a (nsK_sub ha).2, fun j hj a ha => T.p j hj a (nsK_take ha).2, T.trk, T.keep, T.holds, T.ln, T.pre⟩
/-- may the value go into slot x -/
structure Fits (g : Sg) (fx : Fx) (ts : List Tmp) (ns : Nat → List Addr) (x : Nat) (t : T) (n : List Addr) : Prop where
  d : ∀ j, j ≠ x → g.k j = .D → ∀ a ∈ ns j, a ∉ n
  p : ∀ j, j ≠ x → g.k j = .P → ∀ a ∈ (ns j).take 1, a ∉ n
  ln : ∀ a ∈ n, fx.H a = none ∨ a ∈ fx.A
  ifD : g.k x = .D → n.Nodup ∧ (∀ j, j ≠ x → ∀ a ∈ n, a ∉ ns j) ∧ (∀ a ∈ n, fx.H a = none) ∧ ∀ q ∈ ts, ∀ a ∈ n, a ∉ q.m
  ifP : g.k x = .P → (isNode t = true ∨ n = []) ∧ (∀ a ∈ n.take 1, a ∉ n.drop 1) ∧ (∀ j, j ≠ x → ∀ a ∈ n.take 1, a ∉ ns j) ∧ (∀ a ∈ n.take 1, fx.H a = none) ∧ ∀ q ∈ ts, ∀ a ∈ n.take 1, a ∉ q.m
def nsP (ns : Nat → List Addr) (x : Nat) (b : Bool) (n : List Addr) : Nat → List Addr := fun j => if j = x then (if b then n else []) else ns j
theorem nsP_self {b : Bool} {a : Addr} (h : a ∈ nsP ns x b n x) : a ∈ n := by
  unfold nsP at h
  rw [if_pos rfl] at h
  split at h
  · exact h
  · cases h
theorem nsP_selfT {b : Bool} {a : Addr} (h : a ∈ (nsP ns x b n x).take 1) : a ∈ n.take 1 := by
  unfold nsP at h
  rw [if_pos rfl] at h
  split at h
  · exact h
  · cases h
theorem nsP_ne {b : Bool} {j : Nat} (h : j ≠ x) : nsP ns x b n j = ns j := if_neg h
theorem SSt.put (S : SSt K g fx ts β H ρ σ μ ns bn) (r : Rds K β H t v n) (nb : ∀ a ∈ n, ¬ Bx β bn a) (F : Fits g fx ts ns x t n) : SSt K g fx ts β H (ρ.set x (some t)) (σ.set x (some v)) μ (nsP ns x (decide (x < ρ.length)) n) bn where
  e := {
    box := S.e.box
    len := by rw [List.length_set, List.length_set]; exact S.e.len
    sl := fun j u e => by
      rw [getV_set] at e
      by_cases h : j = x
      · subst h
        by_cases hl : j < ρ.length
        · rw [if_pos ⟨rfl, hl⟩] at e
          cases e
          refine ⟨v, List.getElem?_set_self (by rw [← S.e.len]; exact hl), ?_⟩
          unfold nsP
          rw [if_pos rfl, if_pos (by simpa using hl)]
          exact r
        · rw [if_neg (fun z => hl z.2)] at e
          unfold getV at e
          rw [List.getElem?_eq_none (by simpa using hl)] at e
          cases e
      · rw [if_neg (fun z => h z.1)] at e
        rw [nsP_ne h, List.getElem?_set_ne (fun z => h z.symm)]
        exact S.e.sl j u e
    no := fun j e => by
      rw [getV_set] at e
      by_cases h : j = x
      · subst h
        unfold nsP
        rw [if_pos rfl]
        split
        · rename_i hl
          rw [if_pos ⟨rfl, by simpa using hl⟩] at e; cases e
        · rfl
      · rw [if_neg (fun z => h z.1)] at e
        rw [nsP_ne h]
        exact S.e.no j e
    sb := fun j a ha => by
      by_cases h : j = x
      · subst h; exact nb a (nsP_self ha)
      · rw [nsP_ne h] at ha
        exact S.e.sb j a ha
    dn := fun j hj => by
      by_cases h : j = x
      · subst h
        unfold nsP
        rw [if_pos rfl]
        split
        · exact (F.ifD hj).1
        · exact List.nodup_nil
      · rw [nsP_ne h]; exact S.e.dn j hj
    dd := fun j l hne h1 h2 a ha z => by
      by_cases h : j = x
      · subst h
        rw [nsP_ne (fun z => hne z.symm)] at z
        exact (F.ifD h1).2.1 l (fun z => hne z.symm) a (nsP_self ha) z
      · rw [nsP_ne h] at ha
        by_cases h' : l = x
        · subst h'; exact F.d j h h1 a ha (nsP_self z)
        · rw [nsP_ne h'] at z
          exact S.e.dd j l hne h1 h2 a ha z
    pk := fun j u hj e => by
      rw [getV_set] at e
      by_cases h : j = x
      · subst h
        by_cases hl : j < ρ.length
        · rw [if_pos ⟨rfl, hl⟩] at e
          cases e
          rcases (F.ifP hj).1 with q | q
          · exact .inl q
          · refine .inr ?_
            unfold nsP
            rw [if_pos rfl, if_pos (by simpa using hl), q]
        · rw [if_neg (fun z => hl z.2)] at e
          unfold getV at e
          rw [List.getElem?_eq_none (by simpa using hl)] at e
          cases e
      · rw [if_neg (fun z => h z.1)] at e
        rw [nsP_ne h]
        exact S.e.pk j u hj e }
  dd := fun j l hne h1 a ha z => by
    by_cases h : j = x
    · subst h
      rw [nsP_ne (fun z => hne z.symm)] at z
      exact (F.ifD h1).2.1 l (fun z => hne z.symm) a (nsP_self ha) z
    · rw [nsP_ne h] at ha
      by_cases h' : l = x
      · subst h'; exact F.d j h h1 a ha (nsP_self z)
      · rw [nsP_ne h'] at z
        exact S.dd j l hne h1 a ha z
  pn := fun j hj a ha z => by
    by_cases h : j = x
    · subst h
      have h1 := nsP_selfT ha
      unfold nsP at z
      rw [if_pos rfl] at z
      split at z
      · exact (F.ifP hj).2.1 a h1 z
      · cases z
    · rw [nsP_ne h] at ha z
      exact S.pn j hj a ha z
  dp := fun j l hne hj a ha z => by
    by_cases h : j = x
    · subst h
      rw [nsP_ne (fun z => hne z.symm)] at z
      exact (F.ifP hj).2.2.1 l (fun z => hne z.symm) a (nsP_selfT ha) z
    · rw [nsP_ne h] at ha
      by_cases h' : l = x
      · subst h'; exact F.p j h hj a ha (nsP_self z)
      · rw [nsP_ne h'] at z
        exact S.dp j l hne hj a ha z
  frd := fun j hj a ha => by
    by_cases h : j = x
    · subst h; exact (F.ifD hj).2.2.1 a (nsP_self ha)
    · rw [nsP_ne h] at ha; exact S.frd j hj a ha
  frp := fun j hj a ha => by
    by_cases h : j = x
    · subst h; exact (F.ifP hj).2.2.2.1 a (nsP_selfT ha)
    · rw [nsP_ne h] at ha; exact S.frp j hj a ha
  keep := S.keep
  sub := S.sub
  pre := S.pre
  ln := fun j a ha => by
    by_cases h : j = x
    · subst h; exact F.ln a (nsP_self ha)
    · rw [nsP_ne h] at ha; exact S.ln j a ha
  tm := fun q hq => by
    have T := S.tm q hq
    refine ⟨T.nb, fun j hj a ha => ?_, fun j hj a ha => ?_, T.trk, T.keep, T.holds, T.ln, T.pre⟩
    · by_cases h : j = x
      · subst h; exact (F.ifD hj).2.2.2 q hq a (nsP_self ha)
      · rw [nsP_ne h] at ha; exact T.d j hj a ha
    · by_cases h : j = x
      · subst h; exact (F.ifP hj).2.2.2.2 q hq a (nsP_selfT ha)
      · rw [nsP_ne h] at ha; exact T.p j hj a ha
/-- by the text: may the value go into slot x, when ks are given away -/
def fitsB (g : Sg) (i : Inf) (ks : List Nat) (x : Nat) (nd : Bool) : Bool := match g.k x with
  | .S => i.dp.all (fun j => g.k j == .S || ks.contains j || j == x) && i.dc.all fun j => g.k j != .D || ks.contains j || j == x
  | .D => i.lin && i.dc.isEmpty && i.dp.all fun j => g.k j == .D && (ks.contains j || j == x)
  | .P => i.top && nd && i.dp.all (fun j => g.k j == .S || ks.contains j || j == x) && i.dc.all fun j => g.k j != .D || ks.contains j || j == x
theorem fits_ok {ks : List Nat} {nd : Bool} (S : SSt K g fx ts β H ρ σ μ ns bn) (s : Step K β bn H H1 μ' bn') (V : Val K β bn' ns H H1 i t v n) (h : fitsB g i ks x nd = true) (hn : nd = true → isNode t = true) : Fits g fx ts (nsK ns ks) x t n := by
  have trk : ∀ j a, a ∈ ns j → H a ≠ none := fun j a ha z => by
    obtain ⟨o, e, _⟩ := S.e.node ha
    rw [e] at z; cases z
  have ln : ∀ a ∈ n, fx.H a = none ∨ a ∈ fx.A := fun a ha => by
    rcases V.ok.src a ha with z | ⟨j, _, z⟩ | ⟨j, _, z⟩
    · exact .inl (S.keep.more a z)
    · exact S.ln j a z
    · exact S.ln j a (List.mem_of_mem_drop z)
  -- where the nodes lie, by the weaker conditions
  have weak : (i.dp.all (fun j => g.k j == .S || ks.contains j || j == x) && i.dc.all fun j => g.k j != .D || ks.contains j || j == x) = true →
      (∀ j, j ≠ x → g.k j = .D → ∀ a ∈ nsK ns ks j, a ∉ n) ∧ ∀ j, j ≠ x → g.k j = .P → ∀ a ∈ (nsK ns ks j).take 1, a ∉ n := fun w => by
    rw [Bool.and_eq_true] at w
    have w1 : ∀ l ∈ i.dp, g.k l = .S ∨ l ∈ ks ∨ l = x := fun l hl => by
      have := List.all_eq_true.mp w.1 l hl
      simpa [or_assoc] using this
    have w2 : ∀ l ∈ i.dc, g.k l ≠ .D ∨ l ∈ ks ∨ l = x := fun l hl => by
      have := List.all_eq_true.mp w.2 l hl
      simpa [or_assoc] using this
    refine ⟨fun j hj hk a ha z => ?_, fun j hj hk a ha z => ?_⟩
    · obtain ⟨q, ha⟩ := nsK_sub ha
      rcases V.ok.src a z with e | ⟨l, l1, l2⟩ | ⟨l, l1, l2⟩
      · exact trk j a ha e
      · by_cases hl : l = j
        · subst hl
          rcases w1 l l1 with e | e | e
          · rw [hk] at e; cases e
          · exact q e
          · exact hj e
        · exact S.dd j l (fun z => hl z.symm) hk a ha l2
      · by_cases hl : l = j
        · subst hl
          rcases w2 l l1 with e | e | e
          · exact e hk
          · exact q e
          · exact hj e
        · exact S.dd j l (fun z => hl z.symm) hk a ha (List.mem_of_mem_drop l2)
    · obtain ⟨q, ha⟩ := nsK_take ha
      rcases V.ok.src a z with e | ⟨l, l1, l2⟩ | ⟨l, l1, l2⟩
      · exact trk j a (List.mem_of_mem_take ha) e
      · by_cases hl : l = j
        · subst hl
          rcases w1 l l1 with e | e | e
          · rw [hk] at e; cases e
          · exact q e
          · exact hj e
        · exact S.dp j l (fun z => hl z.symm) hk a ha l2
      · by_cases hl : l = j
        · subst hl; exact S.pn l hk a ha l2
        · exact S.dp j l (fun z => hl z.symm) hk a ha (List.mem_of_mem_drop l2)
  unfold fitsB at h
  cases hk : g.k x with
  | S =>
    rw [hk] at h
    obtain ⟨h1, h2⟩ := weak h
    exact ⟨h1, h2, ln, (fun z => by rw [hk] at z; cases z), fun z => by rw [hk] at z; cases z⟩
  | D =>
    rw [hk] at h
    simp only [Bool.and_eq_true, List.all_eq_true, beq_iff_eq, Bool.or_eq_true] at h
    obtain ⟨⟨h1, h2⟩, h3⟩ := h
    have hc : ∀ l, l ∉ i.dc := fun l hl => by rw [List.isEmpty_iff.mp h2] at hl; cases hl
    have w : ∀ l ∈ i.dp, g.k l = .D ∧ (l ∈ ks ∨ l = x) := fun l hl => by
      have := h3 l hl
      simpa using this
    have src : ∀ a ∈ n, H a = none ∨ ∃ l, l ∈ i.dp ∧ a ∈ ns l := fun a ha => by
      rcases V.ok.src a ha with e | ⟨l, l1, l2⟩ | ⟨l, l1, _⟩
      · exact .inl e
      · exact .inr ⟨l, l1, l2⟩
      · exact (hc l l1).elim
    have away : ∀ j, j ≠ x → ∀ a ∈ n, a ∉ nsK ns ks j := fun j hj a ha z => by
      obtain ⟨q, z⟩ := nsK_sub z
      rcases src a ha with e | ⟨l, l1, l2⟩
      · exact trk j a z e
      · by_cases hl : l = j
        · subst hl
          rcases (w l l1).2 with e | e
          · exact q e
          · exact hj e
        · exact S.dd l j hl (w l l1).1 a l2 z
    refine ⟨fun j hj _ a ha z => away j hj a z ha, fun j hj _ a ha z => away j hj a z (List.mem_of_mem_take ha), ln, fun _ => ⟨V.ok.lin h1, away, fun a ha => ?_, fun q hq a ha z => ?_⟩, fun z => by rw [hk] at z; cases z⟩
    · rcases src a ha with e | ⟨l, l1, l2⟩
      · exact S.keep.more a e
      · exact S.frd l (w l l1).1 a l2
    · have T := S.tm q hq
      rcases src a ha with e | ⟨l, l1, l2⟩
      · exact T.trk a z e
      · exact T.d l (w l l1).1 a l2 z
  | P =>
    rw [hk] at h
    have h : (i.top && nd && i.dp.all (fun j => g.k j == .S || ks.contains j || j == x) && i.dc.all fun j => g.k j != .D || ks.contains j || j == x) = true := h
    rw [Bool.and_eq_true, Bool.and_eq_true, Bool.and_eq_true] at h
    obtain ⟨⟨⟨h0, h0'⟩, w1⟩, w2⟩ := h
    obtain ⟨h1, h2⟩ := weak (by rw [Bool.and_eq_true]; exact ⟨w1, w2⟩)
    obtain ⟨p, m, rfl, hp, hm⟩ := V.ok.top h0 (hn h0')
    refine ⟨h1, h2, ln, (fun z => by rw [hk] at z; cases z), fun _ => ⟨.inl (hn h0'), fun a ha z => ?_, fun j hj a ha z => ?_, fun a ha => ?_, fun q hq a ha z => ?_⟩⟩
    · obtain rfl : a = p := by simpa using ha
      exact hm z
    · obtain rfl : a = p := by simpa using ha
      exact trk j a (nsK_sub z).2 hp
    · obtain rfl : a = p := by simpa using ha
      exact S.keep.more a hp
    · obtain rfl : a = p := by simpa using ha
      exact (S.tm q hq).trk a z hp
end
end MP

/-! C20: a slot's own list changes in place. -/
namespace MP
open PySem L2
section
variable {K : PySem.W.Frag} {g : Sg} {fx : Fx} {ts : List Tmp} {β : List Addr} {H H' H1 : Hp} {ρ : Env} {σ : St} {μ μ' : Mem} {ns bn bn' : Nat → List Addr} {i : Inf} {t c : T} {v : V} {n : List Addr} {x : Nat}
theorem Keeps.put {B : Addr → Prop} {H0 H : Hp} {a : Addr} {o : HO} (k : Keeps B H0 H) (h : H0 a = none) : Keeps B H0 (upd H a o) where
  keep := fun b u e nb => by rw [upd_ne (fun z => by rw [z, h] at e; cases e)]; exact k.keep b u e nb
  tup := fun b u e => by rw [upd_ne (fun z => by rw [z, h] at e; cases e)]; exact k.tup b u e
  frz := fun b u w e => by rw [upd_ne (fun z => by rw [z, h] at e; cases e)]; exact k.frz b u w e
  more := fun b e => by
    by_cases z : b = a
    · rw [z]; exact h
    · rw [upd_ne z] at e; exact k.more b e
/-- a thing that nobody reads is written -/
theorem SSt.wr (S : SSt K g fx ts β H ρ σ μ ns bn) {a : Addr} {o u : HO} (ho : H a = some u) (hm : isMut u = true) (free : ∀ j, a ∉ ns j) (nb : ¬ Bx β bn a) (h0 : fx.H a = none) (tm : ∀ q ∈ ts, a ∉ q.m) : SSt K g fx ts β (upd H a o) ρ σ μ ns bn := by
  have kp : Keeps (fun y => y = a) H (upd H a o) := Keeps.write ho rfl hm
  have s : Step K β bn H H μ bn := Step.refl S.e.box
  have bx : BoxOk K β (upd H a o) μ bn := ⟨S.e.box.len, fun k t e => by
    obtain ⟨p, e1, r, bl, nd⟩ := S.e.box.rd k t e
    have hk : k < β.length := by rw [S.e.box.len]; exact (List.getElem?_eq_some_iff.mp e).1
    exact ⟨p, e1, r.keep kp (fun _ _ e => e) t fun b hb z => nb ⟨k, hk, z ▸ hb⟩, bl, nd⟩, S.e.box.dj⟩
  refine ⟨⟨bx, S.e.len, fun i t e => ?_, S.e.no, S.e.sb, S.e.dn, S.e.dd, S.e.pk⟩, S.dd, S.pn, S.dp, S.frd, S.frp, S.keep.put h0, S.sub, S.pre, S.ln, fun q hq => ?_⟩
  · obtain ⟨v, e1, r⟩ := S.e.sl i t e
    exact ⟨v, e1, r.keep kp (fun _ _ e => e) t fun b hb z => free i (z ▸ hb)⟩
  · have T := S.tm q hq
    refine ⟨T.nb, T.d, T.p, fun b hb z => ?_, T.keep, T.keep _ _ _ T.holds kp (fun b hb z => tm q hq (z ▸ hb)), T.ln, T.pre⟩
    by_cases hb' : b = a
    · rw [hb', upd_same] at z; cases z
    · rw [upd_ne hb'] at z; exact T.trk b hb z
/-- by the text: may the value's nodes go into slot x's thing -/
def chB (g : Sg) (i : Inf) (ks : List Nat) (x : Nat) : Bool := match g.k x with
  | .S => false
  | .D => i.lin && i.dc.isEmpty && i.dp.all fun j => g.k j == .D && ks.contains j && !(j == x)
  | .P => (i.dp.all fun j => (g.k j == .S || ks.contains j) && !(j == x)) && i.dc.all fun j => g.k j != .D || ks.contains j
theorem SSt.change {ks : List Nat} (S : SSt K g fx ts β H ρ σ μ ns bn) (s : Step K β bn H H1 μ' bn') (V : Val K β bn' ns H H1 i t v n) (h : chB g i ks x = true) (hx : getV ρ x = some c) (hks : x ∉ ks) (hc : isNode c = true) :
    ∃ a m o, σ[x]? = some (some (.ref a)) ∧ ns x = a :: m ∧ H1 a = some o ∧ isMut o = true ∧ Rds K β H1 c (.ref a) (a :: m) ∧ a ∉ m ∧ a ∉ n ∧
      ∀ o' c' m', (∀ b ∈ m', b ∈ m ∨ b ∈ n) → ((∀ b ∈ m, b ∉ n) → m.Nodup → n.Nodup → m'.Nodup) → Rds K β (upd H1 a o') c' (.ref a) (a :: m') → isNode c' = true →
        ∃ ns', SSt K g fx ts β (upd H1 a o') ((MP.kill ρ ks).set x (some c')) σ μ' ns' bn' := by
  have S1 := S.step s
  obtain ⟨v0, ev, r0⟩ := S1.e.sl x c hx
  obtain ⟨a, m, rfl, en⟩ : ∃ a m, v0 = .ref a ∧ ns x = a :: m := by
    cases c <;> try (cases hc; done)
    · obtain ⟨a, _, m, e1, _, _, e2⟩ := r0; exact ⟨a, m, e1, e2⟩
    · obtain ⟨a, _, m, e1, _, _, _, e2⟩ := r0; exact ⟨a, m, e1, e2⟩
    · obtain ⟨a, _, m, e1, _, _, _, e2⟩ := r0; exact ⟨a, m, e1, e2⟩
  have r0' := r0
  rw [en] at r0'
  obtain ⟨o, ho, hm⟩ := r0'.node _ a List.mem_cons_self
  have trk : ∀ j b, b ∈ ns j → H b ≠ none := fun j b hb z => by
    obtain ⟨o, e, _⟩ := S.e.node hb
    rw [e] at z; cases z
  have tk1 : a ∈ (ns x).take 1 := by rw [en]; simp
  have mx : a ∈ ns x := by rw [en]; simp
  have dr : ∀ b ∈ m, b ∈ (ns x).drop 1 := fun b hb => by rw [en]; simpa using hb
  have hkS : g.k x ≠ .S := fun z => by unfold chB at h; rw [z] at h; cases h
  -- a alone
  have ham : a ∉ m := fun z => by
    cases hk : g.k x with
    | S => exact hkS hk
    | D =>
      have := S.e.dn x hk
      rw [en] at this
      exact (List.nodup_cons.mp this).1 z
    | P => exact S.pn x hk a tk1 (dr a z)
  have haj : ∀ j, j ≠ x → a ∉ ns j := fun j hj z => by
    cases hk : g.k x with
    | S => exact hkS hk
    | D => exact S.dd x j (fun z => hj z.symm) hk a mx z
    | P => exact S.dp x j (fun z => hj z.symm) hk a tk1 z
  have ha0 : fx.H a = none := by
    cases hk : g.k x with
    | S => exact absurd hk hkS
    | D => exact S.frd x hk a mx
    | P => exact S.frp x hk a tk1
  have haT : ∀ q ∈ ts, a ∉ q.m := fun q hq => by
    cases hk : g.k x with
    | S => exact absurd hk hkS
    | D => exact (S.tm q hq).d x hk a mx
    | P => exact (S.tm q hq).p x hk a tk1
  have dpx : ∀ l ∈ i.dp, l ≠ x := fun l hl z => by
    unfold chB at h
    cases hk : g.k x with
    | S => exact hkS hk
    | D =>
      rw [hk] at h
      simp only [Bool.and_eq_true, List.all_eq_true] at h
      have := h.2 l hl
      simp [z] at this
    | P =>
      rw [hk] at h
      simp only [Bool.and_eq_true, List.all_eq_true] at h
      have := h.1 l hl
      simp [z] at this
  have han : a ∉ n := fun z => by
    rcases V.ok.src a z with e | ⟨l, l1, l2⟩ | ⟨l, l1, l2⟩
    · exact trk x a mx e
    · exact haj l (dpx l l1) l2
    · by_cases hl : l = x
      · subst hl
        rw [en] at l2
        exact ham (by simpa using l2)
      · exact haj l hl (List.mem_of_mem_drop l2)
  have ln : ∀ b ∈ n, fx.H b = none ∨ b ∈ fx.A := fun b hb => by
    rcases V.ok.src b hb with z | ⟨j, _, z⟩ | ⟨j, _, z⟩
    · exact .inl (S.keep.more b z)
    · exact S.ln j b z
    · exact S.ln j b (List.mem_of_mem_drop z)
  refine ⟨a, m, o, ev, en, ho, hm, r0', ham, han, fun o' c' m' hsub hnd rd hn' => ?_⟩
  have S2 := S1.kill (x :: ks)
  have nK : ∀ j b, b ∈ nsK ns (x :: ks) j → j ≠ x ∧ j ∉ ks ∧ b ∈ ns j := fun j b hb => by
    obtain ⟨q, z⟩ := nsK_sub hb
    exact ⟨fun e => q (by simp [e]), fun e => q (by simp [e]), z⟩
  have nT : ∀ j b, b ∈ (nsK ns (x :: ks) j).take 1 → j ≠ x ∧ j ∉ ks ∧ b ∈ (ns j).take 1 := fun j b hb => by
    obtain ⟨q, z⟩ := nsK_take hb
    exact ⟨fun e => q (by simp [e]), fun e => q (by simp [e]), z⟩
  have S3 := S2.wr (o := o') ho hm (fun j z => by
    obtain ⟨h1, _, h3⟩ := nK j a z
    exact haj j h1 h3) (S1.e.sb x a mx) ha0 haT
  have inx : ∀ b ∈ a :: m', b ∈ ns x ∨ b ∈ n := fun b hb => by
    rcases List.mem_cons.mp hb with rfl | hb
    · exact .inl mx
    · rcases hsub b hb with z | z
      · exact .inl (by rw [en]; simp [z])
      · exact .inr z
  have nb' : ∀ b ∈ a :: m', ¬ Bx β bn' b := fun b hb => by
    rcases inx b hb with z | z
    · exact S1.e.sb x b z
    · exact V.nb b z
  have F : Fits g fx ts (nsK ns (x :: ks)) x c' (a :: m') := by
    cases hk : g.k x with
    | S => exact absurd hk hkS
    | D =>
      unfold chB at h
      rw [hk] at h
      simp only [Bool.and_eq_true, List.all_eq_true] at h
      obtain ⟨⟨h1, h2⟩, h3⟩ := h
      have hc' : ∀ l, l ∉ i.dc := fun l hl => by rw [List.isEmpty_iff.mp h2] at hl; cases hl
      have w : ∀ l ∈ i.dp, g.k l = .D ∧ l ∈ ks ∧ l ≠ x := fun l hl => by
        have := h3 l hl
        simpa [and_assoc] using this
      have src : ∀ b ∈ n, H b = none ∨ ∃ l, l ∈ i.dp ∧ b ∈ ns l := fun b hb => by
        rcases V.ok.src b hb with e | ⟨l, l1, l2⟩ | ⟨l, l1, _⟩
        · exact .inl e
        · exact .inr ⟨l, l1, l2⟩
        · exact (hc' l l1).elim
      have away : ∀ j, j ∉ ks → ∀ b ∈ n, b ∉ ns j := fun j hj b hb z => by
        rcases src b hb with e | ⟨l, l1, l2⟩
        · exact trk j b z e
        · exact S.dd l j (fun e => hj (e ▸ (w l l1).2.1)) (w l l1).1 b l2 z
      have away' : ∀ j, j ≠ x → j ∉ ks → ∀ b ∈ a :: m', b ∉ ns j := fun j h1 h2 b hb z => by
        rcases inx b hb with q | q
        · exact S.dd x j (fun e => h1 e.symm) hk b q z
        · exact away j h2 b q z
      refine ⟨fun j hj _ b hb z => ?_, fun j hj _ b hb z => ?_, fun b hb => ?_, fun _ => ⟨?_, fun j hj b hb z => ?_, fun b hb => ?_, fun q hq b hb z => ?_⟩, fun z => by rw [hk] at z; cases z⟩
      · obtain ⟨h1, h2, h3⟩ := nK j b hb
        exact away' j h1 h2 b z h3
      · obtain ⟨h1, h2, h3⟩ := nT j b hb
        exact away' j h1 h2 b z (List.mem_of_mem_take h3)
      · rcases inx b hb with q | q
        · exact S.ln x b q
        · exact ln b q
      · have nx := S.e.dn x hk
        rw [en] at nx
        refine List.nodup_cons.mpr ⟨fun z => ?_, hnd (fun b hb z => away x hks b z (by rw [en]; simp [hb])) (List.nodup_cons.mp nx).2 (V.ok.lin h1)⟩
        rcases hsub a z with z | z
        · exact ham z
        · exact han z
      · obtain ⟨h1, h2, h3⟩ := nK j b z
        exact away' j h1 h2 b hb h3
      · rcases inx b hb with q | q
        · exact S.frd x hk b q
        · rcases src b q with e | ⟨l, l1, l2⟩
          · exact S.keep.more b e
          · exact S.frd l (w l l1).1 b l2
      · have T := S.tm q hq
        rcases inx b hb with q' | q'
        · exact T.d x hk b q' z
        · rcases src b q' with e | ⟨l, l1, l2⟩
          · exact T.trk b z e
          · exact T.d l (w l l1).1 b l2 z
    | P =>
      unfold chB at h
      rw [hk] at h
      simp only [Bool.and_eq_true, List.all_eq_true] at h
      obtain ⟨h1, h2⟩ := h
      have w1 : ∀ l ∈ i.dp, g.k l = .S ∨ l ∈ ks := fun l hl => by
        have := (h1 l hl).1
        simpa using this
      have w2 : ∀ l ∈ i.dc, g.k l ≠ .D ∨ l ∈ ks := fun l hl => by
        have := h2 l hl
        simpa using this
      refine ⟨fun j hj hD b hb z => ?_, fun j hj hP b hb z => ?_, fun b hb => ?_, (fun z => by rw [hk] at z; cases z), fun _ => ⟨.inl hn', fun b hb z => ?_, fun j hj b hb z => ?_, fun b hb => ?_, fun q hq b hb z => ?_⟩⟩
      · obtain ⟨q1, q2, q3⟩ := nK j b hb
        rcases inx b z with q | q
        · exact S.dd j x q1 hD b q3 q
        · rcases V.ok.src b q with e | ⟨l, l1, l2⟩ | ⟨l, l1, l2⟩
          · exact trk j b q3 e
          · by_cases hl : l = j
            · subst hl
              rcases w1 l l1 with e | e
              · rw [hD] at e; cases e
              · exact q2 e
            · exact S.dd j l (fun z => hl z.symm) hD b q3 l2
          · by_cases hl : l = j
            · subst hl
              rcases w2 l l1 with e | e
              · exact e hD
              · exact q2 e
            · exact S.dd j l (fun z => hl z.symm) hD b q3 (List.mem_of_mem_drop l2)
      · obtain ⟨q1, q2, q3⟩ := nT j b hb
        rcases inx b z with q | q
        · exact S.dp j x q1 hP b q3 q
        · rcases V.ok.src b q with e | ⟨l, l1, l2⟩ | ⟨l, l1, l2⟩
          · exact trk j b (List.mem_of_mem_take q3) e
          · by_cases hl : l = j
            · subst hl
              rcases w1 l l1 with e | e
              · rw [hP] at e; cases e
              · exact q2 e
            · exact S.dp j l (fun z => hl z.symm) hP b q3 l2
          · by_cases hl : l = j
            · subst hl; exact S.pn l hP b q3 l2
            · exact S.dp j l (fun z => hl z.symm) hP b q3 (List.mem_of_mem_drop l2)
      · rcases inx b hb with q | q
        · exact S.ln x b q
        · exact ln b q
      · obtain rfl : b = a := by simpa using hb
        have z : b ∈ m' := by simpa using z
        rcases hsub b z with z | z
        · exact ham z
        · exact han z
      · obtain rfl : b = a := by simpa using hb
        obtain ⟨q1, _, q3⟩ := nK j b z
        exact haj j q1 q3
      · obtain rfl : b = a := by simpa using hb
        exact ha0
      · obtain rfl : b = a := by simpa using hb
        exact haT q hq z
  have S4 := S3.put rd nb' F
  have e1 : (MP.kill ρ (x :: ks)).set x (some c') = (MP.kill ρ ks).set x (some c') := by
    show ((MP.kill ρ ks).set x none).set x (some c') = _
    rw [List.set_set]
  have e2 : σ.set x (some (.ref a)) = σ := by
    obtain ⟨q1, q2⟩ := List.getElem?_eq_some_iff.mp ev
    rw [← q2]
    exact List.set_getElem_self q1
  rw [e1, e2] at S4
  exact ⟨_, S4⟩
end
end MP

/-! C21: the rules for statements. -/
namespace MP
open PySem L2
/-- a wish without slots -/
abbrev WE0 (E : XK) : WX := fun c d _ H => E c d H
/-- what is wanted of an exception that leaves a def -/
def XS (C : Cf) (K : PySem.W.Frag) (fx : Fx) (E : XK) : Nat → T → Mem → Prop := fun c t μ' => ∀ d v H' β' bn' n, H' d = some (.xd [(C.at_ c, v)]) → fx.H d = none → Keeps (Bx fx.β fx.bn) fx.H H' →
  (∀ a, Bx β' bn' a → Bx fx.β fx.bn a ∨ fx.H a = none) → BoxOk K β' H' μ' bn' → (∃ r, β' = fx.β ++ r) → Rds K β' H' t v n → (∀ a ∈ n, ¬ Bx β' bn' a) → E (.ref (C.cl c)) (some d) H'
/-- what is told of a value that is given back -/
structure RtOk (K : PySem.W.Frag) (fx : Fx) (rk : RK) (β' : List Addr) (μ' : Mem) (bn' : Nat → List Addr) (H' : Hp) (t : T) (v : V) (n : List Addr) : Prop where
  box : BoxOk K β' H' μ' bn'
  keep : Keeps (Bx fx.β fx.bn) fx.H H'
  sub : ∀ a, Bx β' bn' a → Bx fx.β fx.bn a ∨ fx.H a = none
  pre : ∃ r, β' = fx.β ++ r
  rd : Rds K β' H' t v n
  nb : ∀ a ∈ n, ¬ Bx β' bn' a
  src : ∀ a ∈ n, fx.H a = none ∨ a ∈ fx.A
  dl : rk = .D → n.Nodup ∧ ∀ a ∈ n, fx.H a = none
  tp : rk = .D ∨ rk = .P → isNode t = true → ∃ p l, n = p :: l ∧ fx.H p = none ∧ p ∉ l
/-- what is wanted behind a statement -/
def PostS (C : Cf) (K : PySem.W.Frag) (fx : Fx) (rk : RK) (ts : List Tmp) (D : Ends) : Fl × Env → Mem → Prop := fun r μ' => match r.1 with
  | .nx => ∀ β' ns' bn' σ' H', SSt K C.g fx ts β' H' r.2 σ' μ' ns' bn' → D.nx σ' H'
  | .bk => ∀ β' ns' bn' σ' H', SSt K C.g fx ts β' H' r.2 σ' μ' ns' bn' → D.bk σ' H'
  | .rt t => ∀ β' bn' v H' n, RtOk K fx rk β' μ' bn' H' t v n → D.rt v H'
def tS (C : Cf) (K : PySem.W.Frag) (fx : Fx) (rk : RK) (E : XK) (ts : List Tmp) (r : Env → Mem → Res (Fl × Env)) : TS := fun D σ H => ∃ ρ μ β ns bn, SSt K C.g fx ts β H ρ σ μ ns bn ∧ Sat (r ρ μ) (PostS C K fx rk ts D) (XS C K fx E)
section
variable {X : Cx} {C : Cf} {fx : Fx} {rk : RK} {E : XK} {ts : List Tmp} {Wf : Nat} {a b c e : Expr} {x y z ie : IE} {pos : Pos} {D : Ends} {σ : St} {H : Hp} {ρ : Env} {μ : Mem} {β : List Addr} {ns bn : Nat → List Addr}
theorem XS.xw (S : SSt X.K C.g fx ts β H ρ σ μ ns bn) {c : Nat} {t : T} {μ' : Mem} (h : XS C X.K fx E c t μ') : XW C X.K β bn H (fun c d H' => E c d H') c t μ' := fun d v H' bn' n h0 h1 s r nb =>
  h d v H' β bn' n h1 (S.keep.more d h0) (S.keep.trans s.keep S.sub) (fun a z => by
    rcases s.sub a z with z | z
    · exact S.sub a z
    · exact .inr (S.keep.more a z)) s.box S.pre r nb
theorem Sat.xw {α : Type} {r : Res α} {P : α → Mem → Prop} (S : SSt X.K C.g fx ts β H ρ σ μ ns bn) (h : Sat r P (XS C X.K fx E)) : Sat r P (XW C X.K β bn H (fun c d H' => WE0 E c d σ H')) := h.mono (fun _ _ p => p) fun _ _ _ e => XS.xw S e
theorem use1 {Q : VK} {P : T → Mem → Prop} (S : SSt X.K C.g fx ts β H ρ σ μ ns bn) (h : Sat (evE C.F ρ ie μ) P (XS C X.K fx E))
    (k : ∀ t μ' v H' bn' n, P t μ' → Step X.K β bn H H' μ' bn' → Val X.K β bn' ns H H' (info C.g ie) t v n → Q v H') : tE C X.K (WE0 E) ie σ H Q := use S.e (Sat.xw S h) k
theorem use1T {Q : Bool → Hp → Prop} {P : T → Mem → Prop} (S : SSt X.K C.g fx ts β H ρ σ μ ns bn) (h : Sat (evE C.F ρ ie μ) P (XS C X.K fx E)) (kb : ∀ t μ', P t μ' → ∃ b, t = .bl b)
    (k : ∀ b μ' H' bn', P (.bl b) μ' → Step X.K β bn H H' μ' bn' → Q b H') : tT C X.K (WE0 E) ie σ H Q := useT S.e (Sat.xw S h) kb k
abbrev TS1 (X : Cx) (C : Cf) (fx : Fx) (rk : RK) (E : XK) (ts : List Tmp) (Wf : Nat) (st : IS) : TS := tS C X.K fx rk E ts (evI1 C.F Wf st)
abbrev TSS (X : Cx) (C : Cf) (fx : Fx) (rk : RK) (E : XK) (ts : List Tmp) (Wf : Nat) (sts : List IS) : TS := tS C X.K fx rk E ts (evIs C.F Wf sts)
theorem s_never {st : Stmt} : PS X st (TS1 X C fx rk E ts Wf .never) := ps_never.weak fun D σ H h => by obtain ⟨_, _, _, _, _, _, h⟩ := h; exact h.elim
theorem s_pass : PS X (.Pass pos) (TS1 X C fx rk E ts Wf .pass) := ps_pass.weak fun D σ H h => by
  obtain ⟨ρ, μ, β, ns, bn, S, h⟩ := h
  exact h _ _ _ _ _ S
theorem s_brk : PS X (.Break pos) (TS1 X C fx rk E ts Wf .brk) := ps_break.weak fun D σ H h => by
  obtain ⟨ρ, μ, β, ns, bn, S, h⟩ := h
  exact h _ _ _ _ _ S
theorem s_ex (ha : PE X e (tE C X.K (WE0 E) x)) (hs : swapsWith e none pos.line X.env = pure false) : PS X (.Expr e pos) (TS1 X C fx rk E ts Wf (.ex x)) := (ps_expr ha hs).weak fun D σ H h => by
  obtain ⟨ρ, μ, β, ns, bn, S, h⟩ := h
  exact use1 S (Sat_bind h) fun t μ1 v H1 bn1 n q s1 x1 => q _ _ _ _ _ (S.step s1)
/-- surely a list or a dict -/
def ndE : IE → Bool
  | .lst _ => true
  | .lc _ _ _ _ => true
  | .dnew _ => true
  | .bi .list [_] => true
  | .bi .sorted [_] => true
  | .bi .dict [_] => true
  | .flat _ => true
  | .lof false _ => true
  | .rev _ => true
  | _ => false
theorem bind_inv {α β : Type} {r : Res α} {f : α → Mem → Res β} {b : β} {μ' : Mem} (h : r.bind f = .ok b μ') : ∃ a μ1, r = .ok a μ1 ∧ f a μ1 = .ok b μ' := by
  cases r with
  | ok a μ1 => exact ⟨a, μ1, rfl, h⟩
  | exc _ _ _ => cases h
  | stuck => cases h
theorem ite_inv {α : Type} {c : Bool} {r : Res α} {b : α} {μ' : Mem} (h : (if c = true then r else .stuck) = .ok b μ') : c = true ∧ r = .ok b μ' := by
  cases c with
  | true => exact ⟨rfl, h⟩
  | false => cases h
theorem opt_inv {α : Type} {o : Option α} {μ μ' : Mem} {b : α} (h : opt o μ = .ok b μ') : o = some b ∧ μ' = μ := by
  cases o with
  | some a => cases h; exact ⟨rfl, rfl⟩
  | none => cases h
theorem dictGo_node : ∀ {xs : List T} {ks : List Key} {vs : List T} {r : T}, dictGo xs ks vs = some r → isNode r = true
  | [], ks, vs, r, h => by cases h; rfl
  | x :: xs, ks, vs, r, h => by
    obtain ⟨_, _, _, _, _, h⟩ := dictGo_inv h
    exact dictGo_node h
theorem bi_node {b : BI} {c r : T} (hb : b = .list ∨ b = .sorted ∨ b = .dict) (h : pBI b [c] = some r) : isNode r = true := by
  rcases hb with rfl | rfl | rfl
  all_goals
    revert h
    cases c <;> simp only [pBI, reduceCtorEq, false_implies, Option.some.injEq, Option.map_eq_some_iff, dictOf]
    all_goals first
      | (intro h; subst h; rfl)
      | (rintro ⟨_, _, rfl⟩; rfl)
      | (intro h; exact dictGo_node h)
theorem ndE_ok {F : Fns} {ρ : Env} {μ μ' : Mem} {t : T} : ∀ {ie : IE}, ndE ie = true → evE F ρ ie μ = .ok t μ' → isNode t = true := by
  intro ie hn h
  cases ie with
  | lst as =>
    obtain ⟨_, _, _, h⟩ := bind_inv h
    obtain ⟨_, h⟩ := ite_inv h
    cases h; rfl
  | lc el tg it cnd =>
    obtain ⟨_, _, _, h⟩ := bind_inv h
    obtain ⟨_, _, _, h⟩ := bind_inv h
    cases h; rfl
  | dnew tk => cases h; cases tk <;> rfl
  | flat a =>
    obtain ⟨x, _, _, h⟩ := bind_inv h
    cases x <;> try (cases h; done)
    obtain ⟨_, h⟩ := ite_inv h
    cases h; rfl
  | rev a =>
    obtain ⟨x, _, _, h⟩ := bind_inv h
    obtain ⟨_, h⟩ := ite_inv h
    revert h
    split
    · intro h; cases h; rfl
    · intro h; cases h
  | lof tp it =>
    cases tp with
    | true => cases hn
    | false =>
      obtain ⟨_, _, _, h⟩ := bind_inv h
      obtain ⟨_, h⟩ := ite_inv h
      cases h; rfl
  | bi b as =>
    obtain ⟨ts, _, e1, h⟩ := bind_inv h
    obtain ⟨_, h⟩ := ite_inv h
    obtain ⟨h, _⟩ := opt_inv h
    cases b <;> first | (cases hn; done) | skip
    all_goals
      cases as with
      | nil => cases hn
      | cons a as => cases as with
        | cons _ _ => cases hn
        | nil =>
          obtain ⟨x, _, _, e1⟩ := bind_inv e1
          cases e1
          first | exact bi_node (.inl rfl) h | exact bi_node (.inr (.inl rfl)) h | exact bi_node (.inr (.inr rfl)) h
  | _ => cases hn
theorem Sat.nd {F : Fns} {ρ : Env} {P : T → Mem → Prop} {E : Nat → T → Mem → Prop} (h : Sat (evE F ρ ie μ) P E) : Sat (evE F ρ ie μ) (fun t μ => P t μ ∧ (ndE ie = true → isNode t = true)) E := by
  cases e : evE F ρ ie μ with
  | ok t μ' => rw [e] at h; exact ⟨h, fun hn => ndE_ok hn e⟩
  | exc c t μ' => rw [e] at h; exact h
  | stuck => rw [e] at h; exact h
/-- name = value -/
theorem s_asg {i : Nat} {ks : List Nat} {st : Stmt} (ha : PS X st (tAsg (tE C X.K (WE0 E) x) (gName i))) (hf : fitsB C.g (info C.g x) ks i (ndE x) = true) : PS X st (TS1 X C fx rk E ts Wf (.asg i x ks)) := ha.weak fun D σ H h => by
  obtain ⟨ρ, μ, β, ns, bn, S, h⟩ := h
  refine use1 S (Sat.nd (Sat_bind h)) fun t μ1 v H1 bn1 n ⟨q, hn⟩ s1 x1 => ?_
  exact q _ _ _ _ _ (((S.step s1).kill ks).put x1.rd x1.nb (fits_ok S s1 x1 hf hn))
/-- a slot read -/
theorem tVar_of (S : SSt X.K C.g fx ts β H ρ σ μ ns bn) {i : Nat} {t : T} {Q : VK} (e : getV ρ i = some t) (k : ∀ v, σ[i]? = some (some v) → Rds X.K β H t v (ns i) → Q v H) : tVar i σ H Q := by
  obtain ⟨v, e1, r⟩ := S.e.sl i t e
  exact ⟨v, e1, k v e1 r⟩
theorem getV_kill2 {ks : List Nat} {i : Nat} {t : T} (h : getV (kill ρ ks) i = some t) : i ∉ ks ∧ getV ρ i = some t := by
  rw [getV_kill] at h
  split at h
  · cases h
  · rename_i q; exact ⟨q, h⟩
theorem getL_some {ρ : Env} {x : Nat} {xs : List T} (h : getL ρ x = some xs) : getV ρ x = some (.lst xs) := by
  unfold getL at h
  split at h
  · rename_i e; cases h; exact e
  · cases h
theorem ns_eq {K : PySem.W.Frag} {t : T} {v : V} {n m : List Addr} (h1 : Rds K β H t v n) (h2 : Rds K β H t v m) : n = m := h1.uniq _ h2
/-- x.append(e) -/
theorem s_app {i : Nat} {nm : Str} {ks : List Nat} {p1 apos cpos : Pos} (hN : X.N[i]? = some nm) (hv : Vis X.env.scope nm) (hd : (nm == ("__debug__" : Str)) = false) (hcd : (nm == ("__classdict__" : Str)) = false) (ha : PE X a (tE C X.K (WE0 E) x)) (hst : nost a = true) (hline : (apos.endLine == cpos.line) = true) (hf : chB C.g (info C.g x) ks i = true) :
    PS X (.Expr (.Call (.Attribute (.Name nm p1) "append" apos) [a] [] cpos) pos) (TS1 X C fx rk E ts Wf (.app i x ks)) := by
  have h1 := pe_bm (X := X) (name := "append") (cpos := cpos) (apos := apos) PySem.F.plainAttrs_list PySem.F.slot_list_append PySem.F.type_list_append mt_append (pe_var (pos := p1) hN hv hd hcd) (pa_cons ha pa_nil (star_cons hst)) (by rfl) (by rw [star_cons hst] <;> rfl) hline (star_cons hst) (star_any (by rfl))
  refine (ps_expr h1 (by rfl)).weak fun D σ H h => ?_
  obtain ⟨ρ, μ, β, ns, bn, S, h⟩ := h
  obtain ⟨xs, ec, h⟩ := Sat_opt (Sat_bind h)
  obtain ⟨hks, ec⟩ := getV_kill2 (getL_some ec)
  have h := Sat_bind h
  show tVar i σ H fun y H1 => tyV X.K "list" y H1 ∧ tCons (tE C X.K (WE0 E) x) tNil σ H1 fun vs H2 => rAppend y vs H2 fun _ H3 => D.nx σ H3
  refine tVar_of S ec fun v ev r => ?_
  obtain ⟨p, vs, m, rfl, ep, rl, en⟩ := r
  refine ⟨.inl ⟨rfl, _, SqL.of ep⟩, ?_⟩
  refine use1 S h fun t μ1 w H1 bn1 n q s1 x1 => ?_
  obtain ⟨hz, q⟩ := Sat_if q
  obtain ⟨p', m', o, ev', en', ho, hm, rc, ham, han, fin⟩ := S.change s1 x1 hf ec hks rfl
  rw [ev] at ev'; cases ev'
  obtain ⟨_, vs', m2, e1, ep', rl', e2⟩ := rc
  cases e1
  obtain rfl : m' = m2 := (List.cons.inj e2).2
  refine ⟨p, vs', w, rfl, rfl, ep', by rw [rl'.length]; exact lt_line hz, ?_⟩
  have kw : Keeps (fun z => z = p) H1 (upd H1 p (.lst (vs' ++ [w]))) := Keeps.write ho rfl hm
  obtain ⟨ns', S'⟩ := fin (.lst (vs' ++ [w])) (.lst (xs ++ [t])) (m' ++ n) (fun b hb => List.mem_append.mp hb) (fun d n1 n2 => List.nodup_append.mpr ⟨n1, n2, fun b hb c hc z => d b hb (z ▸ hc)⟩)
    ⟨p, _, m' ++ n, rfl, upd_same, (rl'.keep kw (fun _ _ e => e) _ fun b hb z => ham (z ▸ hb)).append (RdsL.one.mpr ⟨w, rfl, x1.rd.keep kw (fun _ _ e => e) _ fun b hb z => han (z ▸ hb)⟩), rfl⟩ rfl
  exact q _ _ _ _ _ S'
end
end MP

/-! C22: x[i] = e. -/
namespace MP
open PySem L2
def rSet (K : PySem.W.Frag) : TSet := fun o i v H Q => ∃ β c j u c' a m n l o0, o = .ref a ∧ Rds K β H c (.ref a) (a :: m) ∧ Rds K β H j i n ∧ Rds K β H u v l ∧ pSet c j u = some c' ∧ H a = some o0 ∧ isMut o0 = true ∧ a ∉ m ∧ a ∉ l ∧
  ∀ o' m', (∀ b ∈ m', b ∈ m ∨ b ∈ l) → ((∀ b ∈ m, b ∉ l) → m.Nodup → l.Nodup → m'.Nodup) → isMut o' = true → Rds K β (upd H a o') c' (.ref a) (a :: m') → isNode c' = true → Q (upd H a o')
section
variable {X : Cx}
theorem PSet.byCases {t : TSet} (h : ∀ o i v H Q, t o i v H Q → ∃ t', PSet X t' ∧ t' o i v H Q) : PSet X t := fun pins s σ H o i v ov iv u Q I r1 r2 r3 q => by
  obtain ⟨t', h', q'⟩ := h o i v H Q q
  exact h' pins s σ H o i v ov iv u Q I r1 r2 r3 q'
theorem dict_rds {K : PySem.W.Frag} {β : List Addr} {H : Hp} {κ : Type} [DecidableEq κ] {k : κ} {u : T} {v : V} {l : List Addr} {ks : List κ} {ts : List T} {ws : List V} {m : List Addr} {B : Addr → Prop} {H' : Hp} (hu : Rds K β H u v l) (hl : ks.length = ws.length) (nd : ks.Nodup) (r : RdsL K β H ts ws m) (kw : Keeps B H H') (b1 : ∀ a ∈ m, ¬ B a) (b2 : ∀ a ∈ l, ¬ B a) :
    ∃ m', RdsL K β H' (MP.putK k u ks ts).2 (MP.putK k v ks ws).2 m' ∧ (∀ b ∈ m', b ∈ m ∨ b ∈ l) ∧ ((∀ b ∈ m, b ∉ l) → m.Nodup → l.Nodup → m'.Nodup) := by
  obtain ⟨m', r', h1, h2⟩ := putK_rds k hu hl r
  exact ⟨m', r'.keep kw (fun _ _ e => e) _ fun a ha => (h1 a ha).elim (b1 a) (b2 a), h1, h2⟩
theorem set_ok (hu : X.A.units + 65 < cLine) : PSet X (rSet X.K) := PSet.byCases fun o i v H Q h => by
  obtain ⟨β, c, j, u, c', a, m, n, l, o0, rfl, rc, rj, ru, e, ho, hm, ham, hal, q⟩ := h
  cases c with
  | lst xs =>
    obtain ⟨_, vs, m1, e1, ea, rl, e2⟩ := rc
    cases e1
    obtain rfl : m = m1 := (List.cons.inj e2).2
    cases j <;> simp only [pSet, reduceCtorEq] at e
    rename_i k
    split at e
    · rename_i jj hj
      cases e
      obtain ⟨rfl, _⟩ := rj
      obtain ⟨x0, hx0⟩ : ∃ x0, xs[jj]? = some x0 := by
        obtain ⟨_, h2, _, _⟩ := ixN_seq hj
        exact ⟨xs[jj], List.getElem?_eq_getElem h2⟩
      obtain ⟨v0, n1, mm, n2, e3, e4, r0, set⟩ := RdsL.setAt rl hx0
      refine ⟨_, set_list, a, vs, k, jj, rfl, rfl, ea, by rw [rl.length]; exact hj, ?_⟩
      have kw : Keeps (fun z => z = a) H (upd H a (.lst (vs.set jj v))) := Keeps.write ho rfl hm
      have i1 : ∀ b ∈ n1, b ∈ m := fun b hb => by rw [e4]; simp [hb]
      have i2 : ∀ b ∈ n2, b ∈ m := fun b hb => by rw [e4]; simp [hb]
      refine q (.lst (vs.set jj v)) (n1 ++ (l ++ n2)) (fun b hb => ?_) (fun d nm nl => ?_) rfl ⟨a, _, _, rfl, upd_same, set _ u v l _ kw (fun b hb z => ham (z ▸ i1 b hb)) (fun b hb z => ham (z ▸ i2 b hb)) (ru.keep kw (fun _ _ e => e) _ fun b hb z => hal (z ▸ hb)), rfl⟩ rfl
      · rcases List.mem_append.mp hb with z | z
        · exact .inl (i1 b z)
        · rcases List.mem_append.mp z with z | z
          · exact .inr z
          · exact .inl (i2 b z)
      · rw [e4] at nm
        obtain ⟨a1, a2, a3⟩ := List.nodup_append.mp nm
        obtain ⟨a4, a5, a6⟩ := List.nodup_append.mp a2
        refine List.nodup_append.mpr ⟨a1, List.nodup_append.mpr ⟨nl, a5, fun b hb c hc z => d c (i2 c hc) (z ▸ hb)⟩, fun b hb c hc z => ?_⟩
        rcases List.mem_append.mp hc with w | w
        · exact d b (i1 b hb) (z ▸ w)
        · exact a3 b hb c (List.mem_append_right _ w) z
    · cases e
  | dk ks xs =>
    obtain ⟨_, vs, m1, e1, ea, ⟨lz, nd⟩, rl, e2⟩ := rc
    cases e1
    obtain rfl : m = m1 := (List.cons.inj e2).2
    simp only [pSet] at e
    split at e
    · rename_i k hk
      split at e
      · rename_i hz
        cases e
        have hi := key_v rj hk
        subst hi
        have kw : Keeps (fun z => z = a) H (upd H a (.dK (L2.putK (ks.zip vs) k v))) := Keeps.write ho rfl hm
        obtain ⟨m', r', s1, s2⟩ := dict_rds (k := k) ru lz nd rl kw (fun b hb z => ham (z ▸ hb)) fun b hb z => hal (z ▸ hb)
        refine ⟨_, set_dict (by omega), a, _, rfl, DPut.k ea ?_, q (.dK (L2.putK (ks.zip vs) k v)) m' s1 s2 rfl ⟨a, _, m', rfl, ?_, ⟨?_, ?_⟩, r', rfl⟩ rfl⟩
        · rw [List.length_zip, ← lz, Nat.min_self]; exact lt_line hz
        · rw [upd_same, putK_zip k v lz nd, putK_keys k v u lz (by rw [lz]; exact rl.length)]
        · rw [← putK_keys k v u lz (by rw [lz]; exact rl.length)]
          exact putK_len k v lz
        · rw [← putK_keys k v u lz (by rw [lz]; exact rl.length)]
          exact putK_nodup k v lz nd
      · cases e
    · cases e
  | dt ks xs =>
    obtain ⟨_, vs, m1, e1, ea, ⟨lz, nd⟩, rl, e2⟩ := rc
    cases e1
    obtain rfl : m = m1 := (List.cons.inj e2).2
    cases j <;> simp only [pSet, reduceCtorEq] at e
    rename_i tsj
    split at e
    · rename_i k hk
      split at e
      · rename_i hz
        cases e
        obtain ⟨b0, wsj, rfl, eb, rj⟩ := rj
        have hi := keys_v rj hk
        subst hi
        have kw : Keeps (fun z => z = a) H (upd H a (.dT (L2.putK (ks.zip vs) k v))) := Keeps.write ho rfl hm
        obtain ⟨m', r', s1, s2⟩ := dict_rds (k := k) ru lz nd rl kw (fun b hb z => ham (z ▸ hb)) fun b hb z => hal (z ▸ hb)
        refine ⟨_, set_dict (by omega), a, _, rfl, DPut.t ea eb ?_, q (.dT (L2.putK (ks.zip vs) k v)) m' s1 s2 rfl ⟨a, _, m', rfl, ?_, ⟨?_, ?_⟩, r', rfl⟩ rfl⟩
        · rw [List.length_zip, ← lz, Nat.min_self]; exact lt_line hz
        · rw [upd_same, putK_zip k v lz nd, putK_keys k v u lz (by rw [lz]; exact rl.length)]
        · rw [← putK_keys k v u lz (by rw [lz]; exact rl.length)]
          exact putK_len k v lz
        · rw [← putK_keys k v u lz (by rw [lz]; exact rl.length)]
          exact putK_nodup k v lz nd
      · cases e
    · cases e
  | _ => simp [pSet] at e
end
section
variable {X : Cx} {C : Cf} {fx : Fx} {rk : RK} {E : XK} {ts : List Tmp} {Wf : Nat} {a b c e : Expr} {x y z ie : IE} {pos : Pos} {D : Ends} {σ : St} {H : Hp} {ρ : Env} {μ : Mem} {β : List Addr} {ns bn : Nat → List Addr}
theorem getN_some {ρ : Env} {x : Nat} {t : T} (h : getN ρ x = some t) : getV ρ x = some t ∧ isNode t = true := by
  unfold getN at h
  split at h <;> first | (rename_i e; cases h; exact ⟨e, rfl⟩) | cases h
theorem getB_some {ρ : Env} {x : Nat} {k : Nat} (h : getB ρ x = some k) : getV ρ x = some (.box k) := by
  unfold getB at h
  split at h
  · rename_i e; cases h; exact e
  · cases h
theorem sub_assign {X : Cx} {o i : Expr} {pos : Pos} (hp : plainIx i = true) : ∀ v, assign (.Subscript o i pos) X.env v = (do
      let ov ← holding [v] (eval o X.env)
      let iv ← holding [v, ov] (eval i X.env)
      standAt pos
      holding [v, ov, iv] (setItem ov iv v)
      release [v, ov, iv] []) := by
  cases i with
  | Slice _ _ _ _ => cases hp
  | _ => intro _; rfl
theorem sub_swaps {X : Cx} {o i e : Expr} {pos : Pos} {ln : Nat} : swapsWithSole [.Subscript o i pos] e ln X.env = pure false := by cases e <;> rfl
/-- x[i] = e, x's own thing -/
theorem s_set {i : Nat} {nm : Str} {ks : List Nat} {p1 p2 : Pos} (hu : X.A.units + 65 < cLine) (hN : X.N[i]? = some nm) (hv : Vis X.env.scope nm) (hd : (nm == ("__debug__" : Str)) = false) (hcd : (nm == ("__classdict__" : Str)) = false) (ha : PE X a (tE C X.K (WE0 E) x)) (hb : PE X b (tE C X.K (WE0 E) y)) (hp : plainIx b = true) (hf : chB C.g (info C.g x) ks i = true) :
    PS X (.Assign [.Subscript (.Name nm p1) b p2] a pos) (TS1 X C fx rk E ts Wf (.set i y x ks)) := (ps_asg ha (pg_sub (pe_var hN hv hd hcd) hb (set_ok hu) (sub_assign hp)) sub_swaps).weak fun D σ H h => by
  obtain ⟨ρ, μ, β, ns, bn, S, h⟩ := h
  refine use1 S (Sat_bind h) fun t μ1 v H1 bn1 n h s1 x1 => ?_
  have S1 := S.step s1
  obtain ⟨c, ec, h⟩ := Sat_opt (Sat_bind h)
  obtain ⟨ec, hc⟩ := getN_some ec
  obtain ⟨hks, ec⟩ := getV_kill2 ec
  show tVar i σ H1 fun o H2 => tE C X.K (WE0 E) y σ H2 fun j H3 => rSet X.K o j v H3 fun H4 => D.nx σ H4
  refine tVar_of S1 ec fun ov ev _ => ?_
  refine use1 S1 (Sat_bind h) fun j μ2 w H2 bn2 m h s2 y1 => ?_
  obtain ⟨c', e', q⟩ := Sat_opt (Sat_bind h)
  have x2 := x1.step s2
  obtain ⟨p, m0, o, ev', en, ho, hm, rc, ham, han, fin⟩ := S.change (s1.trans s2) x2 hf ec hks hc
  rw [ev] at ev'; cases ev'
  refine ⟨β, c, j, t, c', p, m0, m, n, o, rfl, rc, y1.rd, x2.rd, e', ho, hm, ham, han, fun o' m' h1 h2 _ rd hn => ?_⟩
  obtain ⟨ns', S'⟩ := fin o' c' m' h1 h2 rd hn
  exact q _ _ _ _ _ S'
/-- the boxes behind a store into one -/
theorem box_set {K : PySem.W.Frag} {μ : Mem} {k : Nat} {c : T} {a0 : Addr} {m' : List Addr} {o o' : HO} {c' : T} (b : BoxOk K β H μ bn) (ec : μ[k]? = some c) (eβ : β[k]? = some a0) {m : List Addr} (en : bn k = a0 :: m) (ho : H a0 = some o) (hm : isMut o = true) (hsub : ∀ b ∈ m', b ∈ m) (hnd : m.Nodup → m'.Nodup)
    (rd : Rds K β (upd H a0 o') c' (.ref a0) (a0 :: m')) (bl : boxless c' = true) : ∃ bn', Step K β bn H (upd H a0 o') (μ.set k c') bn' := by
  have hk : k < μ.length := (List.getElem?_eq_some_iff.mp ec).1
  have hk' : k < β.length := by rw [b.len]; exact hk
  obtain ⟨_, _, _, _, nd⟩ := b.rd k _ ec
  rw [en] at nd
  have hB : Bx β bn a0 := ⟨k, hk', by rw [en]; simp⟩
  have kp : Keeps (Bx β bn) H (upd H a0 o') := Keeps.write ho hB hm
  have kp1 : Keeps (fun x => x = a0) H (upd H a0 o') := Keeps.write ho rfl hm
  let bn' : Nat → List Addr := fun j => if j = k then a0 :: m' else bn j
  have sb : ∀ j b, b ∈ bn' j → b ∈ bn j := fun j b hb => by
    by_cases hj : j = k
    · subst hj
      have : b ∈ a0 :: m' := by simpa [bn'] using hb
      rw [en]
      rcases List.mem_cons.mp this with rfl | z
      · simp
      · simp [hsub b z]
    · simpa [bn', hj] using hb
  refine ⟨bn', kp, ⟨by rw [List.length_set]; exact b.len, fun l t e => ?_, fun j l hne h1 h2 b' hb z => b.dj j l hne h1 h2 b' (sb j b' hb) (sb l b' z)⟩, fun y ⟨j, hj, z⟩ => .inl ⟨j, hj, sb j y z⟩⟩
  by_cases hl : l = k
  · subst hl
    rw [List.getElem?_set_self hk] at e
    cases e
    refine ⟨a0, eβ, ?_, bl, ?_⟩
    · show Rds K β _ _ _ (if l = l then a0 :: m' else bn l)
      rw [if_pos rfl]
      exact rd
    · show (if l = l then a0 :: m' else bn l).Nodup
      rw [if_pos rfl]
      exact List.nodup_cons.mpr ⟨fun z => (List.nodup_cons.mp nd).1 (hsub a0 z), hnd (List.nodup_cons.mp nd).2⟩
  · rw [List.getElem?_set_ne (fun z => hl z.symm)] at e
    obtain ⟨a', e1, r, bl', nd'⟩ := b.rd l t e
    have hl' : l < β.length := by rw [b.len]; exact (List.getElem?_eq_some_iff.mp e).1
    refine ⟨a', e1, ?_, bl', ?_⟩
    · show Rds K β _ _ _ (if l = k then a0 :: m' else bn l)
      rw [if_neg hl]
      exact r.keep kp1 (fun _ _ e => e) _ fun x hx z => b.dj l k hl hl' hk' x hx (by rw [z, en]; simp)
    · show (if l = k then a0 :: m' else bn l).Nodup
      rw [if_neg hl]
      exact nd'
/-- x[i] = e, x a box: what is stored has no list in it -/
theorem s_bset {i : Nat} {nm : Str} {p1 p2 : Pos} (hu : X.A.units + 65 < cLine) (hN : X.N[i]? = some nm) (hv : Vis X.env.scope nm) (hd : (nm == ("__debug__" : Str)) = false) (hcd : (nm == ("__classdict__" : Str)) = false) (ha : PE X a (tE C X.K (WE0 E) x)) (hb : PE X b (tE C X.K (WE0 E) y)) (hp : plainIx b = true) :
    PS X (.Assign [.Subscript (.Name nm p1) b p2] a pos) (TS1 X C fx rk E ts Wf (.bset i y x)) := (ps_asg ha (pg_sub (pe_var hN hv hd hcd) hb (set_ok hu) (sub_assign hp)) sub_swaps).weak fun D σ H h => by
  obtain ⟨ρ, μ, β, ns, bn, S, h⟩ := h
  refine use1 S (Sat_bind h) fun t μ1 v H1 bn1 n h s1 x1 => ?_
  have S1 := S.step s1
  obtain ⟨k, ec, h⟩ := Sat_opt (Sat_bind h)
  have ec := getB_some ec
  show tVar i σ H1 fun o H2 => tE C X.K (WE0 E) y σ H2 fun j H3 => rSet X.K o j v H3 fun H4 => D.nx σ H4
  refine tVar_of S1 ec fun ov ev rb => ?_
  refine use1 S1 (Sat_bind h) fun j μ2 w H2 bn2 m h s2 y1 => ?_
  obtain ⟨c', e', h⟩ := Sat_opt (Sat_bind h)
  obtain ⟨ok, q⟩ := Sat_if h
  rw [Bool.and_eq_true] at ok
  have x2 := x1.step s2
  obtain ⟨a0, rfl, eβ, _⟩ := rb
  cases eb : μ2[k]? with
  | none => rw [eb] at e'; cases e'
  | some c =>
  rw [eb] at e'
  have e' : pSet c j t = some c' := e'
  obtain ⟨a', eβ', rc, _, nd⟩ := s2.box.rd k c eb
  rw [eβ] at eβ'; cases eβ'
  have hn : isNode c = true := by cases c <;> first | rfl | simp [pSet] at e'
  obtain ⟨m0, en⟩ : ∃ m0, bn2 k = a0 :: m0 := by
    cases c <;> try (cases hn; done)
    · obtain ⟨a, _, m, e1, _, _, e2⟩ := rc; cases e1; exact ⟨m, e2⟩
    · obtain ⟨a, _, m, e1, _, _, _, e2⟩ := rc; cases e1; exact ⟨m, e2⟩
    · obtain ⟨a, _, m, e1, _, _, _, e2⟩ := rc; cases e1; exact ⟨m, e2⟩
  rw [en] at rc nd
  obtain ⟨o, ho, hm⟩ := rc.node _ a0 List.mem_cons_self
  have hn0 : n = [] := x2.rd.nil _ ok.1
  subst hn0
  refine ⟨β, c, j, t, c', a0, m0, m, [], o, rfl, rc, y1.rd, x2.rd, e', ho, hm, (List.nodup_cons.mp nd).1, by simp, fun o' m' h1 h2 _ rd hn' => ?_⟩
  obtain ⟨bn3, st⟩ := box_set s2.box eb eβ en ho hm (fun b hb => (h1 b hb).elim id fun z => by cases z) (fun hz => h2 (fun _ _ z => by cases z) hz List.nodup_nil) rd ok.2
  exact q _ _ _ _ _ ((S1.step s2).step st)
end
end MP

/-! C23: if, while, for, return, boxes made. -/
namespace MP
open PySem L2
section
variable {X : Cx} {C : Cf} {fx : Fx} {rk : RK} {E : XK} {ts : List Tmp} {Wf : Nat} {a b c e tg iter : Expr} {x y z ie : IE} {pos : Pos} {D : Ends} {σ : St} {H : Hp} {ρ : Env} {μ : Mem} {β : List Addr} {ns bn : Nat → List Addr}
theorem Sat.post {r : Res (Fl × Env)} {P P' : Fl × Env → Mem → Prop} {E' : Nat → T → Mem → Prop} (h : Sat r P E') (k : ∀ q μ', P q μ' → P' q μ') : Sat r P' E' := h.mono k fun _ _ _ e => e
/-- what is wanted, with another end for 'next' -/
theorem PostS.nx {D : Ends} {r : Fl × Env} {μ' : Mem} {n' : St → Hp → Prop} (h : PostS C X.K fx rk ts D r μ') (hn : r.1 = .nx → (∀ β' ns' bn' σ' H', SSt X.K C.g fx ts β' H' r.2 σ' μ' ns' bn' → n' σ' H')) : PostS C X.K fx rk ts { D with nx := n' } r μ' := by
  obtain ⟨f, ρ'⟩ := r
  cases f with
  | nx => exact hn rfl
  | bk => exact h
  | rt t => exact h
/-! ### rows of statements -/
theorem ss_nil : PSs X [] (TSS X C fx rk E ts Wf []) := pss_nil.weak fun D σ H h => by
  obtain ⟨ρ, μ, β, ns, bn, S, h⟩ := h
  exact h _ _ _ _ _ S
theorem ss_cons {st : Stmt} {sts : List Stmt} {i : IS} {is : List IS} (h1 : PS X st (TS1 X C fx rk E ts Wf i)) (h2 : PSs X sts (TSS X C fx rk E ts Wf is)) : PSs X (st :: sts) (TSS X C fx rk E ts Wf (i :: is)) := (pss_cons h1 h2).weak fun D σ H h => by
  obtain ⟨ρ, μ, β, ns, bn, S, h⟩ := h
  refine ⟨ρ, μ, β, ns, bn, S, (Sat_bind h).post fun q μ1 h => ?_⟩
  obtain ⟨f, ρ1⟩ := q
  cases f with
  | nx => exact fun β' ns' bn' σ' H' S' => ⟨ρ1, μ1, β', ns', bn', S', h⟩
  | bk => exact h
  | rt t => exact h
/-- a ghost statement -/
theorem ss_ghost {sts : List Stmt} {i : IS} {is : List IS} (h2 : PSs X sts (TSS X C fx rk E ts Wf is)) (g : ∀ D σ H, TSS X C fx rk E ts Wf (i :: is) D σ H → TSS X C fx rk E ts Wf is D σ H) : PSs X sts (TSS X C fx rk E ts Wf (i :: is)) := h2.weak g
/-! ### if -/
theorem s_iff {p q : List Stmt} {ip iq : List IS} (hc : PT X c (tT C X.K (WE0 E) x)) (hp : PSs X p (TSS X C fx rk E ts Wf ip)) (hq : PSs X q (TSS X C fx rk E ts Wf iq)) : PS X (.If c p q pos) (TS1 X C fx rk E ts Wf (.iff x ip iq)) := (ps_if hc hp hq).weak fun D σ H h => by
  obtain ⟨ρ, μ, β, ns, bn, S, h⟩ := h
  refine use1T S (Sat_bind h) (fun t μ1 h => ?_) fun d μ1 H1 bn1 h s1 => ?_
  · cases t <;> first | exact False.elim h | exact ⟨_, rfl⟩
  · cases d with
    | true => rw [if_pos rfl]; exact ⟨ρ, μ1, β, ns, bn1, S.step s1, h⟩
    | false => rw [if_neg (by decide)]; exact ⟨ρ, μ1, β, ns, bn1, S.step s1, h⟩
/-! ### while -/
theorem s_wh {p : List Stmt} {ip : List IS} (hpo : PassesOwn (model X.prog X.w) X.A X.env X.xe) (hc : PT X c (tT C X.K (WE0 E) x)) (hp : PSs X p (TSS X C fx rk E ts Wf ip)) : PS X (.While c p [] pos) (TS1 X C fx rk E ts Wf (.wh x ip)) := (ps_while hpo hc hp).weak fun D σ H h => by
  obtain ⟨ρ, μ, β, ns, bn, S, h⟩ := h
  refine ⟨fun m σ H => ∃ ρ μ β ns bn, SSt X.K C.g fx ts β H ρ σ μ ns bn ∧ Sat (whLoop (fun ρ μ => evE C.F ρ x μ) (fun ρ μ => evIs C.F Wf ip ρ μ) m ρ μ) (PostS C X.K fx rk ts D) (XS C X.K fx E), ⟨Wf, ρ, μ, β, ns, bn, S, h⟩, ?_⟩
  rintro m σ H ⟨ρ, μ, β, ns, bn, S, h⟩
  cases m with
  | zero => exact h.elim
  | succ m =>
    refine use1T S (Sat_bind h) (fun t μ1 h => ?_) fun d μ1 H1 bn1 h s1 => ?_
    · cases t <;> first | exact False.elim h | exact ⟨_, rfl⟩
    · have S1 := S.step s1
      cases d with
      | false =>
        rw [if_neg (by decide)]
        exact h _ _ _ _ _ S1
      | true =>
        rw [if_pos rfl]
        refine ⟨fun σ H => ∃ ρ μ β ns bn, SSt X.K C.g fx ts β H ρ σ μ ns bn ∧ Sat (whLoop (fun ρ μ => evE C.F ρ x μ) (fun ρ μ => evIs C.F Wf ip ρ μ) m ρ μ) (PostS C X.K fx rk ts D) (XS C X.K fx E), fun σ' H' h' => ⟨m, Nat.lt_succ_self m, h'⟩, ?_⟩
        refine ⟨ρ, μ1, β, ns, bn1, S1, (Sat_bind h).post fun q μ2 h => ?_⟩
        obtain ⟨f, ρ2⟩ := q
        cases f with
        | nx => exact fun β' ns' bn' σ' H' S' => ⟨ρ2, μ2, β', ns', bn', S', h⟩
        | bk => exact h
        | rt t => exact h
/-! ### return -/
/-- by the text: may it be given back -/
def retB (g : Sg) (rk : RK) (i : Inf) : Bool := match rk with
  | .S => true
  | .I => true
  | .D => i.lin && i.dc.isEmpty && i.top && i.dp.all fun j => g.k j == .D
  | .P => i.top
/-- a slot's own thing is given back -/
def retVar (g : Sg) (rk : RK) : IE → Bool
  | .var i => (match rk with
    | .D => g.k i == .D
    | .P => g.k i != .S
    | _ => true)
  | _ => false
theorem s_ret (ha : PE X a (tE C X.K (WE0 E) x)) (hr : (retB C.g rk (info C.g x) || retVar C.g rk x) = true) : PS X (.Return (some a) pos) (TS1 X C fx rk E ts Wf (.ret (some x))) := (ps_ret ha).weak fun D σ H h => by
  obtain ⟨ρ, μ, β, ns, bn, S, h⟩ := h
  refine use1 S (Sat_bind h) fun t μ1 v H1 bn1 n q s1 x1 => ?_
  have S1 := S.step s1
  have src : ∀ b ∈ n, fx.H b = none ∨ b ∈ fx.A := fun b hb => by
    rcases x1.ok.src b hb with z | ⟨j, _, z⟩ | ⟨j, _, z⟩
    · exact .inl (S.keep.more b z)
    · exact S.ln j b z
    · exact S.ln j b (List.mem_of_mem_drop z)
  refine q β bn1 v H1 n ⟨S1.e.box, S1.keep, S1.sub, S1.pre, x1.rd, x1.nb, src, fun hk => ?_, fun hk hn => ?_⟩
  · subst hk
    rw [Bool.or_eq_true] at hr
    rcases hr with hr | hr
    · simp only [retB, Bool.and_eq_true, List.all_eq_true] at hr
      obtain ⟨⟨⟨h1, h2⟩, _⟩, h3⟩ := hr
      refine ⟨x1.ok.lin h1, fun b hb => ?_⟩
      rcases x1.ok.src b hb with z | ⟨j, j1, z⟩ | ⟨j, j1, _⟩
      · exact S.keep.more b z
      · exact S.frd j (by simpa using h3 j j1) b z
      · rw [List.isEmpty_iff.mp h2] at j1; cases j1
    · cases x <;> simp only [retVar, reduceCtorEq] at hr
      rename_i i
      have hD : C.g.k i = .D := by simpa using hr
      have e1 : (info C.g (.var i)).lin = true := by simp [info, hD]
      refine ⟨x1.ok.lin e1, fun b hb => ?_⟩
      rcases x1.ok.src b hb with z | ⟨j, j1, z⟩ | ⟨j, j1, _⟩
      · exact S.keep.more b z
      · obtain rfl : j = i := by simpa [info] using j1
        exact S.frd j hD b z
      · simp [info] at j1
  · rw [Bool.or_eq_true] at hr
    have top : (info C.g x).top = true → ∃ p l, n = p :: l ∧ fx.H p = none ∧ p ∉ l := fun ht => by
      obtain ⟨p, l, e, hp, nm⟩ := x1.ok.top ht hn
      exact ⟨p, l, e, S.keep.more p hp, nm⟩
    rcases hr with hr | hr
    · rcases hk with hk | hk
      · subst hk
        simp only [retB, Bool.and_eq_true] at hr
        exact top hr.1.2
      · subst hk
        exact top hr
    · cases x <;> simp only [retVar, reduceCtorEq] at hr
      rename_i i
      obtain ⟨p, l, en⟩ : ∃ p l, n = p :: l := by
        cases n with
        | nil => exact (node_ne x1.rd hn).elim
        | cons p l => exact ⟨p, l, rfl⟩
      cases hkk : C.g.k i with
      | S => rcases hk with hk | hk <;> subst hk <;> simp [hkk] at hr
      | D =>
        have e1 : (info C.g (.var i)).lin = true := by simp [info, hkk]
        have nd := x1.ok.lin e1
        rw [en] at nd
        refine ⟨p, l, en, ?_, (List.nodup_cons.mp nd).1⟩
        rcases x1.ok.src p (by rw [en]; simp) with z | ⟨j, j1, z⟩ | ⟨j, j1, _⟩
        · exact S.keep.more p z
        · obtain rfl : j = i := by simpa [info] using j1
          exact S.frd j hkk p z
        · simp [info] at j1
      | P =>
        have e1 : (info C.g (.var i)).self = some i := by simp [info, hkk]
        obtain ⟨e2, _⟩ := x1.ok.self i e1
        have e3 : ns i = p :: l := by rw [← e2, en]
        refine ⟨p, l, en, S.frp i hkk p (by rw [e3]; simp), fun z => S.pn i hkk p (by rw [e3]; simp) (by rw [e3]; simpa using z)⟩
theorem s_retN (hr : rk = .I ∨ rk = .S ∨ rk = .D ∨ rk = .P) : PS X (.Return none pos) (TS1 X C fx rk E ts Wf (.ret none)) := ps_retN.weak fun D σ H h => by
  obtain ⟨ρ, μ, β, ns, bn, S, h⟩ := h
  exact h β bn .non H [] ⟨S.e.box, S.keep, S.sub, S.pre, ⟨rfl, rfl⟩, (fun _ z => by cases z), (fun _ z => by cases z), (fun _ => ⟨List.nodup_nil, fun _ z => by cases z⟩), fun _ z => by cases z⟩
/-! ### for -/
theorem SSt.untmp {q : Tmp} (S : SSt X.K C.g fx (q :: ts) β H ρ σ μ ns bn) : SSt X.K C.g fx ts β H ρ σ μ ns bn := ⟨S.e, S.dd, S.pn, S.dp, S.frd, S.frp, S.keep, S.sub, S.pre, S.ln, fun q hq => S.tm q (List.mem_cons_of_mem _ hq)⟩
theorem SSt.tmp {q : Tmp} (S : SSt X.K C.g fx ts β H ρ σ μ ns bn) (h : TmpOk C.g fx β bn ns H q) : SSt X.K C.g fx (q :: ts) β H ρ σ μ ns bn := ⟨S.e, S.dd, S.pn, S.dp, S.frd, S.frp, S.keep, S.sub, S.pre, S.ln, fun q' hq => by
  rcases List.mem_cons.mp hq with rfl | hq
  · exact h
  · exact S.tm q' hq⟩
/-- a walked item goes into the targets -/
theorem SSt.bound {q : Tmp} {is : List Nat} {ρ' : Env} {σ' : St} {ns' : Nat → List Addr} {n : List Addr} (S : SSt X.K C.g fx (q :: ts) β H ρ σ μ ns bn) (B : Bnd X.K C.g β H ρ' μ bn ns σ is n σ' ns') (hk : ∀ i ∈ is, C.g.k i = .S) (hn : ∀ a ∈ n, a ∈ q.m) : SSt X.K C.g fx (q :: ts) β H ρ' σ' μ ns' bn := by
  have T := S.tm q List.mem_cons_self
  have same : ∀ j, C.g.k j ≠ .S → ns' j = ns j := fun j hj => by
    rcases B.own j with e | ⟨e, _⟩
    · exact e
    · exact absurd (hk j e) hj
  refine ⟨B.st, fun i j hne hD a ha z => ?_, fun i hP a ha z => ?_, fun i j hne hP a ha z => ?_, fun i hD a ha => ?_, fun i hP a ha => ?_, S.keep, S.sub, S.pre, fun i a ha => ?_, fun q' hq' => ?_⟩
  · rw [same i (by rw [hD]; decide)] at ha
    rcases B.own j with e | ⟨_, e⟩
    · rw [e] at z; exact S.dd i j hne hD a ha z
    · exact T.d i hD a ha (hn a (e a z))
  · rw [same i (by rw [hP]; decide)] at ha z
    exact S.pn i hP a ha z
  · rw [same i (by rw [hP]; decide)] at ha
    rcases B.own j with e | ⟨_, e⟩
    · rw [e] at z; exact S.dp i j hne hP a ha z
    · exact T.p i hP a ha (hn a (e a z))
  · rw [same i (by rw [hD]; decide)] at ha
    exact S.frd i hD a ha
  · rw [same i (by rw [hP]; decide)] at ha
    exact S.frp i hP a ha
  · rcases B.own i with e | ⟨_, e⟩
    · rw [e] at ha; exact S.ln i a ha
    · exact T.ln a (hn a (e a ha))
  · have T' := S.tm q' hq'
    exact ⟨T'.nb, fun i hD a ha => by rw [same i (by rw [hD]; decide)] at ha; exact T'.d i hD a ha, fun i hP a ha => by rw [same i (by rw [hP]; decide)] at ha; exact T'.p i hP a ha, T'.trk, T'.keep, T'.holds, T'.ln, T'.pre⟩
/-- by the text: what is walked is given away, where it is ours -/
def walkB (g : Sg) (w : Inf) (ks : List Nat) : Bool := (w.dp.all fun j => g.k j == .S || ks.contains j) && w.dc.all fun j => g.k j == .S || ks.contains j
theorem s_for {p : List Stmt} {ip : List IS} {t : Tg} {it : II} {ks : List Nat} (hpo : PassesOwn (model X.prog X.w) X.A X.env X.xe) (hc : X.calm = true) (hi : PI X tg iter (tI C X.K (WE0 E) it)) (hg : PG X tg (gTg X.K t)) (hk : ∀ i ∈ t.slots, C.g.k i = .S) (hw : walkB C.g (infoW C.g it) ks = true) (hs : ∀ x, foldedSetIterable iter X.env x = pure x)
    (hp : ∀ ts, PSs X p (TSS X C fx rk E ts Wf ip)) : PS X (.For tg iter p [] pos) (TS1 X C fx rk E ts Wf (.for t it ip ks)) := ⟨fun pins s σ H D I h => by
  obtain ⟨ρ, μ, β, ns, bn, S, h⟩ := h
  have S0 := S
  -- the walked thing's nodes are told only when it has come: the body holds for every row of walked things
  have h := Sat_bind h
  refine (PS.run (X := X) (ps_for (tb := fun D σ H => ∃ ts, TSS X C fx rk E ts Wf ip D σ H) hpo hc hi hg ⟨fun pins s σ H D I ⟨ts, q⟩ => (hp ts).run pins s σ H D I q⟩ hs) pins s σ H D I ?_)
  refine ⟨ρ, μ, β, ns, bn, S.e, (Sat.xw S h).mono (fun xs μ1 q J H1 bn1 mm G s1 io => ?_) fun _ _ _ e => e⟩
  have S1 := (S.step s1).kill ks
  have trk : ∀ j b, b ∈ ns j → H b ≠ none := fun j b hb z => by
    obtain ⟨o, e, _⟩ := S.e.node hb
    rw [e] at z; cases z
  simp only [walkB, Bool.and_eq_true, List.all_eq_true] at hw
  have w1 : ∀ l ∈ (infoW C.g it).dp, C.g.k l = .S ∨ l ∈ ks := fun l hl => by simpa using hw.1 l hl
  have w2 : ∀ l ∈ (infoW C.g it).dc, C.g.k l = .S ∨ l ∈ ks := fun l hl => by simpa using hw.2 l hl
  have T1 : TmpOk C.g fx β bn1 (nsK ns ks) H1 ⟨β, mm, G⟩ := by
    refine ⟨io.nb, fun j hD b hb z => ?_, fun j hP b hb z => ?_, io.trk, io.keep, io.g0, fun b hb => ?_, ?_⟩
    · obtain ⟨q1, q2⟩ := nsK_sub hb
      rcases io.src b z with e | ⟨l, l1, l2⟩ | ⟨l, l1, l2⟩
      · exact trk j b q2 e
      · by_cases hl : l = j
        · subst hl
          rcases w1 l l1 with e | e
          · rw [hD] at e; cases e
          · exact q1 e
        · exact S.dd j l (fun z => hl z.symm) hD b q2 l2
      · by_cases hl : l = j
        · subst hl
          rcases w2 l l1 with e | e
          · rw [hD] at e; cases e
          · exact q1 e
        · exact S.dd j l (fun z => hl z.symm) hD b q2 (List.mem_of_mem_drop l2)
    · obtain ⟨q1, q2⟩ := nsK_take hb
      rcases io.src b z with e | ⟨l, l1, l2⟩ | ⟨l, l1, l2⟩
      · exact trk j b (List.mem_of_mem_take q2) e
      · by_cases hl : l = j
        · subst hl
          rcases w1 l l1 with e | e
          · rw [hP] at e; cases e
          · exact q1 e
        · exact S.dp j l (fun z => hl z.symm) hP b q2 l2
      · by_cases hl : l = j
        · subst hl
          rcases w2 l l1 with e | e
          · rw [hP] at e; cases e
          · exact q1 e
        · exact S.dp j l (fun z => hl z.symm) hP b q2 (List.mem_of_mem_drop l2)
    · rcases io.src b hb with z | ⟨l, _, z⟩ | ⟨l, _, z⟩
      · exact .inl (S.keep.more b z)
      · exact S.ln l b z
      · exact S.ln l b (List.mem_of_mem_drop z)
    · exact ⟨[], by simp⟩
  have S2 := S1.tmp T1
  generalize hf : (fun x ρ μ => match bindTg t x ρ with | some ρ' => evIs C.F Wf ip ρ' μ | none => .stuck) = f at q
  let Pv : Nat → St → Hp → Prop := fun i σ H => ∃ ρ μ β' ns bn, SSt X.K C.g fx (⟨β, mm, G⟩ :: ts) β' H ρ σ μ ns bn ∧ Sat (forLoop f (xs.drop i) ρ μ) (PostS C X.K fx rk ts D) (XS C X.K fx E)
  refine for_it (g := gTg X.K t) (tb := fun D σ H => ∃ ts, TSS X C fx rk E ts Wf ip D σ H) (D := D) io.walk Pv ⟨_, μ1, β, _, bn1, S2, q⟩ (fun i σ H _ ⟨_, _, _, _, _, S, _⟩ => (S.tm _ List.mem_cons_self).holds) ?_ ?_
  · intro i x σ3 H3 H4 hi' ⟨ρ3, μ3, β3, ns3, bn3, S3, q⟩ ⟨n1, tx, nx, etx, rx, hx⟩
    obtain ⟨r3, e3⟩ := (S3.tm _ List.mem_cons_self).pre
    have hdr : xs.drop i = tx :: xs.drop (i + 1) := by
      obtain ⟨h1, h2⟩ := List.getElem?_eq_some_iff.mp etx
      rw [← h2]
      exact List.drop_eq_getElem_cons h1
    rw [hdr] at q
    have q := Sat_bind q
    have S4 := S3.step (Step.new1 S3.e.box n1)
    have rx' : Rds X.K β3 H4 tx x nx := rx.keep (B := fun _ => False) (Keeps.refl _ _) (fun k a e => by
      rw [e3, List.getElem?_append_left (List.getElem?_eq_some_iff.mp e).1]
      exact e) _ (fun _ _ z => z)
    rw [← hf] at q
    dsimp only at q
    cases hb : bindTg t tx ρ3 with
    | none => rw [hb] at q; exact False.elim q
    | some ρ4 =>
    rw [hb] at q
    have T4 := S4.tm _ List.mem_cons_self
    refine gTg_ok t S4.e rx' (fun a ha => T4.nb a (hx a ha).1) hb hk fun σ5 ns5 B => ?_
    have S5 := S4.bound B hk fun a ha => (hx a ha).1
    refine ⟨⟨β, mm, G⟩ :: ts, ρ4, μ3, β3, ns5, bn3, S5, q.post fun r μ6 q => ?_⟩
    obtain ⟨fl, ρ6⟩ := r
    cases fl with
    | nx =>
      intro β' ns' bn' σ' H' S'
      exact ⟨ρ6, μ6, β', ns', bn', S', by rw [← hf]; exact q⟩
    | bk => exact fun β' ns' bn' σ' H' S' => q _ _ _ _ _ S'.untmp
    | rt t => exact q
  · intro σ3 H3 ⟨ρ3, μ3, β3, ns3, bn3, S3, q⟩
    rw [List.drop_length] at q
    exact q _ _ _ _ _ S3.untmp⟩
end
end MP

/-! C24: boxes made; does the small text stand for the given statements. -/
namespace MP
open PySem L2
section
variable {X : Cx} {C : Cf} {fx : Fx} {rk : RK} {E : XK} {ts : List Tmp} {Wf : Nat} {a b c e tg iter : Expr} {x y z ie : IE} {pos : Pos} {D : Ends} {σ : St} {H : Hp} {ρ : Env} {μ : Mem} {β : List Addr} {ns bn : Nat → List Addr}
theorem pre_get {β r : List Addr} : ∀ (i : Nat) (a : Addr), β[i]? = some a → (β ++ r)[i]? = some a := fun i a e => by
  rw [List.getElem?_append_left (List.getElem?_eq_some_iff.mp e).1]; exact e
theorem ghost_box {i : Nat} {is : List IS} (hk : C.g.k i = .D) (h : TSS X C fx rk E ts Wf (.mkbox i :: is) D σ H) : TSS X C fx rk E ts Wf is D σ H := by
  obtain ⟨ρ, μ, β, ns, bn, S, h⟩ := h
  have h := Sat_bind h
  rw [evI1] at h
  cases et : getV ρ i with
  | none => rw [et] at h; exact h.elim
  | some t =>
  rw [et] at h
  obtain ⟨ok, h⟩ := Sat_if h
  rw [Bool.and_eq_true] at ok
  obtain ⟨bl, nd⟩ := ok
  have hn : isNode t = true := by cases t <;> first | rfl | cases nd
  obtain ⟨v, ev, r⟩ := S.e.sl i t et
  obtain ⟨a, m, rfl, en⟩ : ∃ a m, v = .ref a ∧ ns i = a :: m := by
    cases t <;> try (cases hn; done)
    · obtain ⟨a, _, m, e1, _, _, e2⟩ := r; exact ⟨a, m, e1, e2⟩
    · obtain ⟨a, _, m, e1, _, _, _, e2⟩ := r; exact ⟨a, m, e1, e2⟩
    · obtain ⟨a, _, m, e1, _, _, _, e2⟩ := r; exact ⟨a, m, e1, e2⟩
  let bn' : Nat → List Addr := fun k => if k = β.length then ns i else bn k
  have bnO : ∀ k, k < β.length → bn' k = bn k := fun k hk => if_neg (Nat.ne_of_lt hk)
  have bnN : bn' β.length = ns i := if_pos rfl
  have up : ∀ {t : T} {v : V} {n : List Addr}, Rds X.K β H t v n → Rds X.K (β ++ [a]) H t v n := fun {t v n} r => r.keep (B := fun _ => False) (Keeps.refl _ _) pre_get t fun _ _ z => z
  have bx' : ∀ y, Bx (β ++ [a]) bn' y → Bx β bn y ∨ y ∈ ns i := fun y ⟨k, hk, z⟩ => by
    by_cases h : k = β.length
    · subst h; rw [bnN] at z; exact .inr z
    · have hk' : k < β.length := by rw [List.length_append, List.length_singleton] at hk; omega
      rw [bnO k hk'] at z
      exact .inl ⟨k, hk', z⟩
  have box : BoxOk X.K (β ++ [a]) H (μ ++ [t]) bn' := by
    refine ⟨by rw [List.length_append, List.length_append, S.e.box.len]; rfl, fun k u e => ?_, fun k l hne h1 h2 y hy z => ?_⟩
    · by_cases hk' : k < μ.length
      · rw [List.getElem?_append_left hk'] at e
        obtain ⟨a', e1, r1, b1, n1⟩ := S.e.box.rd k u e
        have hb : k < β.length := by rw [S.e.box.len]; exact hk'
        refine ⟨a', pre_get _ _ e1, ?_, b1, ?_⟩
        · rw [bnO k hb]; exact up r1
        · rw [bnO k hb]; exact n1
      · have hl : k < (μ ++ [t]).length := (List.getElem?_eq_some_iff.mp e).1
        rw [List.length_append, List.length_singleton] at hl
        have hk2 : k = μ.length := by omega
        subst hk2
        rw [List.getElem?_append_right (Nat.le_refl _), Nat.sub_self] at e
        cases e
        rw [← S.e.box.len]
        refine ⟨a, by rw [List.getElem?_append_right (Nat.le_refl _), Nat.sub_self] <;> rfl, ?_, bl, ?_⟩
        · rw [bnN]; exact up r
        · rw [bnN]; exact S.e.dn i hk
    · rw [List.length_append, List.length_singleton] at h1 h2
      by_cases k1 : k = β.length
      · subst k1
        rw [bnN] at hy
        have l1 : l < β.length := by omega
        rw [bnO l l1] at z
        exact S.e.sb i y hy ⟨l, l1, z⟩
      · have k2 : k < β.length := by omega
        rw [bnO k k2] at hy
        by_cases l1 : l = β.length
        · subst l1; rw [bnN] at z; exact S.e.sb i y z ⟨k, k2, hy⟩
        · have l2 : l < β.length := by omega
          rw [bnO l l2] at z
          exact S.e.box.dj k l hne k2 l2 y hy z
  have hl : i < ρ.length := by
    by_cases q : i < ρ.length
    · exact q
    · unfold getV at et
      rw [List.getElem?_eq_none (by omega)] at et
      cases et
  let ns' : Nat → List Addr := fun j => if j = i then [] else ns j
  have nsN : ∀ j, j ≠ i → ns' j = ns j := fun j hj => if_neg hj
  have ns0 : ns' i = [] := if_pos rfl
  have sub' : ∀ j y, y ∈ ns' j → j ≠ i ∧ y ∈ ns j := fun j y hy => by
    by_cases hj : j = i
    · subst hj; rw [ns0] at hy; cases hy
    · rw [nsN j hj] at hy; exact ⟨hj, hy⟩
  have subT : ∀ j y, y ∈ (ns' j).take 1 → j ≠ i ∧ y ∈ (ns j).take 1 := fun j y hy => by
    by_cases hj : j = i
    · subst hj; rw [ns0] at hy; cases hy
    · rw [nsN j hj] at hy; exact ⟨hj, hy⟩
  have sb : ∀ j y, y ∈ ns' j → ¬ Bx (β ++ [a]) bn' y := fun j y hy z => by
    obtain ⟨hj, hy⟩ := sub' j y hy
    rcases bx' y z with z | z
    · exact S.e.sb j y hy z
    · exact S.dd i j (fun e => hj e.symm) hk y z hy
  have St : SSt X.K C.g fx ts (β ++ [a]) H (ρ.set i (some (.box μ.length))) σ (μ ++ [t]) ns' bn' := by
    refine ⟨⟨box, by rw [List.length_set]; exact S.e.len, fun j u e => ?_, fun j e => ?_, sb, fun j hj => ?_, fun j l hne h1 h2 y hy z => ?_, fun j u hj e => ?_⟩, fun j l hne h1 y hy z => ?_, fun j hj y hy z => ?_, fun j l hne hj y hy z => ?_, fun j hj y hy => ?_, fun j hj y hy => ?_, ?_, fun y z => ?_, ?_, fun j y hy => ?_, fun q hq => ?_⟩
    · rw [getV_set] at e
      by_cases hj : j = i
      · subst hj
        rw [if_pos ⟨rfl, hl⟩] at e
        cases e
        refine ⟨_, ev, ?_⟩
        rw [ns0]
        refine ⟨a, rfl, ?_, rfl⟩
        rw [← S.e.box.len, List.getElem?_append_right (Nat.le_refl _), Nat.sub_self] <;> rfl
      · rw [if_neg (fun z => hj z.1)] at e
        obtain ⟨w, e1, r1⟩ := S.e.sl j u e
        exact ⟨w, e1, by rw [nsN j hj]; exact up r1⟩
    · by_cases hj : j = i
      · subst hj; exact ns0
      · rw [getV_set, if_neg (fun z => hj z.1)] at e
        rw [nsN j hj]
        exact S.e.no j e
    · by_cases h : j = i
      · subst h; rw [ns0]; exact List.nodup_nil
      · rw [nsN j h]; exact S.e.dn j hj
    · exact S.e.dd j l hne h1 h2 y (sub' j y hy).2 (sub' l y z).2
    · have h : j ≠ i := fun z => by subst z; rw [hk] at hj; cases hj
      rw [getV_set, if_neg (fun z => h z.1)] at e
      rw [nsN j h]
      exact S.e.pk j u hj e
    · exact S.dd j l hne h1 y (sub' j y hy).2 (sub' l y z).2
    · have h : j ≠ i := fun z => by subst z; rw [hk] at hj; cases hj
      rw [nsN j h] at hy z
      exact S.pn j hj y hy z
    · exact S.dp j l hne hj y (subT j y hy).2 (sub' l y z).2
    · exact S.frd j hj y (sub' j y hy).2
    · exact S.frp j hj y (subT j y hy).2
    · exact S.keep
    · rcases bx' y z with z | z
      · exact S.sub y z
      · exact .inr (S.frd i hk y z)
    · obtain ⟨r, e⟩ := S.pre
      exact ⟨r ++ [a], by rw [e, List.append_assoc]⟩
    · exact S.ln j y (sub' j y hy).2
    · have T := S.tm q hq
      refine ⟨fun y hy z => ?_, fun j hj y hy => T.d j hj y (sub' j y hy).2, fun j hj y hy => T.p j hj y (subT j y hy).2, T.trk, T.keep, T.holds, T.ln, ?_⟩
      · rcases bx' y z with z | z
        · exact T.nb y hy z
        · exact T.d i hk y z hy
      · obtain ⟨r, e⟩ := T.pre
        exact ⟨r ++ [a], by rw [e, List.append_assoc]⟩
  exact ⟨_, _, _, _, _, St, h⟩
end
end MP

/-! C25: does the small text stand for the given statements. -/
namespace MP
open PySem L2
/-- no comprehension -/
def noComp : Expr → Bool
  | .ListComp _ _ _ _ => false
  | .SetComp _ _ _ _ => false
  | .DictComp _ _ _ _ _ => false
  | _ => true
/-- the comprehension under ghosts -/
def lcOf : IE → Option (IE × Tg × II × Option IE)
  | .lc el t it cnd => some (el, t, it, cnd)
  | .imm (.lc el t it cnd) => some (el, t, it, cnd)
  | .flat (.lc el t it cnd) => some (el, t, it, cnd)
  | _ => none
/-- is it stored at once -/
def swB (sc scope : Scope) (nm : Str) (pl vl : Nat) : Bool := (match sc.names.lookup nm with | some .local => true | _ => false) && (pl == vl) && !(scope.names.any fun (n, k) => n == nm && (k == .local || k == .cell))
def isLocC (sc : Scope) (nm : Str) : Bool := match sc.names.lookup nm with
  | some .local => true
  | some .cell => true
  | _ => false
def chkA (ck : Ck) (sc : Scope) (ie : IE) (nm : Str) (pp : Pos) (e : Expr) : Bool := chkE ck sc false ie e && (match e with
  | .ListComp _ _ scope vp => !(swB sc scope nm pp.line vp.line) || (lcOf ie).isSome
  | e => noComp e)
mutual
def chk1 (ck : Ck) (sc : Scope) (rk : RK) : IS → Stmt → Bool
  | .ex x, st => (match st with | .Expr e _ => noComp e && chkE ck sc false x e | _ => false)
  | .asg i x ks, st => (match st with | .Assign [.Name nm pp] e _ => decide (ck.N[i]? = some nm) && isLocC sc nm && fitsB ck.g (info ck.g x) ks i (ndE x) && chkA ck sc x nm pp e | _ => false)
  | .app i x ks, st => (match st with
    | .Expr (.Call (.Attribute n at_ apos) [a] [] cpos) _ => chkV ck sc i n && decide (at_ = ("append" : Str)) && (apos.endLine == cpos.line) && nost a && chB ck.g (info ck.g x) ks i && chkE ck sc false x a
    | _ => false)
  | .set i y x ks, st => (match st with
    | .Assign [.Subscript n b _] a _ => chkV ck sc i n && plainIx b && chB ck.g (info ck.g x) ks i && chkE ck sc false y b && chkE ck sc false x a
    | _ => false)
  | .bset i y x, st => (match st with
    | .Assign [.Subscript n b _] a _ => chkV ck sc i n && plainIx b && chkE ck sc false y b && chkE ck sc false x a
    | _ => false)
  | .iff x p q, st => (match st with | .If c a b _ => chkE ck sc true x c && chkSs ck sc rk p a && chkSs ck sc rk q b | _ => false)
  | .wh x p, st => (match st with | .While c a [] _ => chkE ck sc true x c && chkSs ck sc rk p a | _ => false)
  | .for t it p ks, st => (match st with | .For tg iter a [] _ => chkI ck sc it tg iter && chkTg ck sc sc t tg && t.slots.all (fun i => ck.g.k i == .S) && walkB ck.g (infoW ck.g it) ks && notSet iter && chkSs ck sc rk p a | _ => false)
  | .ret none, st => (match st with | .Return none _ => true | _ => false)
  | .ret (some x), st => (match st with | .Return (some e) _ => chkE ck sc false x e && (retB ck.g rk (info ck.g x) || retVar ck.g rk x) | _ => false)
  | .pass, st => (match st with | .Pass _ => true | _ => false)
  | .brk, st => (match st with | .Break _ => true | _ => false)
  | .never, _ => true
  | _, _ => false
def chkSs (ck : Ck) (sc : Scope) (rk : RK) : List IS → List Stmt → Bool
  | [], sts => (match sts with | [] => true | _ => false)
  | i :: is, sts => (match i with
    | .mkbox x => ck.g.k x == .D && chkSs ck sc rk is sts
    | _ => (match sts with
      | st :: sts => chk1 ck sc rk i st && chkSs ck sc rk is sts
      | [] => false))
end
structure SX (X : Cx) (C : Cf) (E : XK) (ck : Ck) (fa : Nat → Addr) (sc : Scope) : Prop where
  ek : EK X C (WE0 E) ck fa sc
  hp : PassesOwn (model X.prog X.w) X.A X.env X.xe
  fn : ∀ x, X.fn x = true
  bk : X.env.blockKind = .function
section
variable {X : Cx} {C : Cf} {fx : Fx} {rk : RK} {E : XK} {ts : List Tmp} {Wf : Nat} {ck : Ck} {fa : Nat → Addr} {sc : Scope}
theorem no_swap {e : Expr} {tgt : Option Expr} {ln : Nat} (h : noComp e = true) : swapsWith e tgt ln X.env = pure false := by
  cases e <;> first | rfl | cases h
theorem strip_imm {W : WX} {x : IE} {σ : St} {H : Hp} {Q : VK} (h : tE C X.K W (.imm x) σ H Q) : tE C X.K W x σ H Q := by
  obtain ⟨ρ, μ, β, ns, bn, S, h⟩ := h
  refine use S (Sat_bind h) fun t μ1 v H1 bn1 n h s1 x1 => ?_
  obtain ⟨ok, h⟩ := Sat_if h
  exact h v H1 bn1 n s1 (Val.imm x1.rd ok rfl)
theorem strip_flat {W : WX} {x : IE} {σ : St} {H : Hp} {Q : VK} (h : tE C X.K W (.flat x) σ H Q) : tE C X.K W x σ H Q := flat_key h
theorem strip_key {W : WX} {ie el : IE} {t : Tg} {it : II} {cnd : Option IE} {σ : St} {H : Hp} {Q : VK} (h : lcOf ie = some (el, t, it, cnd)) (q : tE C X.K W ie σ H Q) : tE C X.K W (.lc el t it cnd) σ H Q := by
  unfold lcOf at h
  split at h <;> first | cases h | skip
  · exact q
  · exact strip_imm q
  · exact strip_flat q
theorem strip_chk {ie el : IE} {t : Tg} {it : II} {cnd : Option IE} {e : Expr} (h : lcOf ie = some (el, t, it, cnd)) (q : chkE ck sc false ie e = true) : chkE ck sc false (.lc el t it cnd) e = true := by
  unfold lcOf at h
  split at h <;> first | cases h | skip
  · exact q
  · rw [chkE] at q; exact q
  · rw [chkE, Bool.and_eq_true] at q; exact q.2
/-- name = value -/
theorem chkA_ok (S : SX X C E ck fa sc) {ie : IE} {nm : Str} {pp pos : Pos} {e : Expr} {i : Nat} (hi : ck.N[i]? = some nm) (hl : isLocC sc nm = true) (h : chkA ck sc ie nm pp e = true) : PS X (.Assign [.Name nm pp] e pos) (tAsg (tE C X.K (WE0 E) ie) (gName i)) := by
  have E' := S.ek
  unfold chkA at h
  rw [Bool.and_eq_true] at h
  obtain ⟨h1, h2⟩ := h
  have nd : X.N.Nodup := by rw [E'.N]; exact E'.nd
  have hN : X.N[i]? = some nm := by rw [E'.N]; exact hi
  have hloc : Loc X.env.scope nm := by
    rw [E'.sc]
    unfold isLocC at hl
    split at hl
    · rename_i e; exact .inl e
    · rename_i e; exact .inr e
    · cases hl
  have hpe := (chkE_ok ie E' h1).1 rfl
  have plain : swapsWith e (some (.Name nm pp)) pos.line X.env = pure false → PS X (.Assign [.Name nm pp] e pos) (tAsg (tE C X.K (WE0 E) ie) (gName i)) := fun hs => ps_set nd hN hloc hpe hs (.inl (S.fn nm))
  cases e with
  | ListComp elt gens scope vp =>
    have h2 : (!(swB sc scope nm pp.line vp.line) || (lcOf ie).isSome) = true := h2
    have hsw : swapsWith (.ListComp elt gens scope vp) (some (.Name nm pp)) pos.line X.env = pure (swB sc scope nm pp.line vp.line) := by
      show (pure (X.env.blockKind == .function && X.env.kindOf nm == some .local && pp.line == vp.line && !(scope.names.any fun (n, k) => n == nm && (k == .local || k == .cell))) : Sem Bool) = _
      have e1 : (X.env.kindOf nm == some .local) = (match sc.names.lookup nm with | some .local => true | _ => false) := by
        show (X.env.scope.names.lookup nm == some .local) = _
        rw [E'.sc]
        cases sc.names.lookup nm with
        | none => rfl
        | some k => cases k <;> rfl
      unfold swB
      rw [e1, S.bk] <;> rfl
    cases hb : swB sc scope nm pp.line vp.line with
    | false => exact plain (by rw [hsw, hb])
    | true =>
      rw [hb] at h2
      have h2 : (lcOf ie).isSome = true := h2
      obtain ⟨⟨el, t, it, cnd⟩, hlc⟩ := Option.isSome_iff_exists.mp h2
      have hc := strip_chk hlc h1
      simp only [chkE] at hc
      split at hc
      · rename_i elt' tg iter ifs scope' p' he
        cases he
        simp only [Bool.and_eq_true, List.all_eq_true] at hc
        obtain ⟨⟨⟨⟨⟨⟨c1, c2⟩, c3⟩, c4⟩, c5⟩, c6⟩, c7⟩ := hc
        have bl : BlkOk X.N X.env.scope scope (ownOf ck t) := by rw [E'.N, E'.sc]; exact blkOk_by c1
        have hown : (ownOf ck t).map (·.2) = t.slots := by unfold ownOf; rw [List.map_map]; exact List.map_id _
        have hk : ∀ i ∈ t.slots, C.g.k i = .S := fun i hi => by
          have := c2 i hi
          rw [E'.g]
          simpa using this
        have hlo : X.env.scope.names.lookup nm = some .local := by
          rw [E'.sc]
          unfold swB at hb
          rw [Bool.and_eq_true, Bool.and_eq_true] at hb
          obtain ⟨⟨q, _⟩, _⟩ := hb
          split at q
          · assumption
          · cases q
        refine (ps_setLc (wi := tI C X.K (WE0 E) it) (g := gTg X.K t) (tt := tC0 C X.K cnd) (te := tE C X.K W0 el) E'.calm nd hN hlo (by rw [hsw, hb]) (chkI_ok it E' c4) bl (fun s H C' cl fp => ?_) (fun s H C' cl fp => chkCn_ok cnd (E'.blk s H scope C' cl fp) c7) (fun s H C' cl fp => (chkE_ok el (E'.blk s H scope C' cl fp) c6).1 rfl) (not_set c3)).weak fun D σ H q => ?_
        · exact chkTg_ok (X := X.blk s H scope (compEnvC scope cl C' X.env) fp) E'.N E'.nd E'.calm (E'.blk s H scope C' cl fp).sc (fun x hx => by show (scope.names.lookup x == some .cell) = true; rw [hx] <;> rfl) t c5
        · exact lc_key hown hk (strip_key hlc q)
      · cases hc
  | SetComp _ _ _ _ => cases h2
  | DictComp _ _ _ _ _ => cases h2
  | _ => exact plain (no_swap rfl)
mutual
theorem chk1_ok (S : SX X C E ck fa sc) : ∀ (i : IS) {st : Stmt}, chk1 ck sc rk i st = true → ∀ ts, PS X st (TS1 X C fx rk E ts Wf i)
  | .ex x, st, h, ts => by
    simp only [chk1] at h
    split at h
    · rw [Bool.and_eq_true] at h
      exact s_ex ((chkE_ok x S.ek h.2).1 rfl) (no_swap h.1)
    · cases h
  | .asg i x ks, st, h, ts => by
    simp only [chk1] at h
    split at h
    · simp only [Bool.and_eq_true, decide_eq_true_eq] at h
      obtain ⟨⟨⟨h1, h2⟩, h3⟩, h4⟩ := h
      exact s_asg (chkA_ok S h1 h2 h4) (by rw [S.ek.g]; exact h3)
    · cases h
  | .app i x ks, st, h, ts => by
    simp only [chk1] at h
    split at h
    · simp only [Bool.and_eq_true, decide_eq_true_eq] at h
      obtain ⟨⟨⟨⟨⟨h1, rfl⟩, h2⟩, h3⟩, h4⟩, h5⟩ := h
      obtain ⟨nm, p, rfl⟩ := chkV_name h1
      obtain ⟨v1, v2, v3, v4⟩ := S.ek.var h1
      exact s_app v1 v2 v3 v4 ((chkE_ok x S.ek h5).1 rfl) h3 h2 (by rw [S.ek.g]; exact h4)
    · cases h
  | .set i y x ks, st, h, ts => by
    simp only [chk1] at h
    split at h
    · simp only [Bool.and_eq_true] at h
      obtain ⟨⟨⟨⟨h1, h2⟩, h3⟩, h4⟩, h5⟩ := h
      obtain ⟨nm, p, rfl⟩ := chkV_name h1
      obtain ⟨v1, v2, v3, v4⟩ := S.ek.var h1
      exact s_set S.ek.units v1 v2 v3 v4 ((chkE_ok x S.ek h5).1 rfl) ((chkE_ok y S.ek h4).1 rfl) h2 (by rw [S.ek.g]; exact h3)
    · cases h
  | .bset i y x, st, h, ts => by
    simp only [chk1] at h
    split at h
    · simp only [Bool.and_eq_true] at h
      obtain ⟨⟨⟨h1, h2⟩, h4⟩, h5⟩ := h
      obtain ⟨nm, p, rfl⟩ := chkV_name h1
      obtain ⟨v1, v2, v3, v4⟩ := S.ek.var h1
      exact s_bset S.ek.units v1 v2 v3 v4 ((chkE_ok x S.ek h5).1 rfl) ((chkE_ok y S.ek h4).1 rfl) h2
    · cases h
  | .iff x p q, st, h, ts => by
    simp only [chk1] at h
    split at h
    · simp only [Bool.and_eq_true] at h
      obtain ⟨⟨h1, h2⟩, h3⟩ := h
      exact s_iff ((chkE_ok x S.ek h1).2 rfl) (chkSs_ok S p h2 ts) (chkSs_ok S q h3 ts)
    · cases h
  | .wh x p, st, h, ts => by
    simp only [chk1] at h
    split at h
    · rw [Bool.and_eq_true] at h
      exact s_wh S.hp ((chkE_ok x S.ek h.1).2 rfl) (chkSs_ok S p h.2 ts)
    · cases h
  | .for t it p ks, st, h, ts => by
    simp only [chk1] at h
    split at h
    · simp only [Bool.and_eq_true, List.all_eq_true] at h
      obtain ⟨⟨⟨⟨⟨h1, h2⟩, h3⟩, h4⟩, h5⟩, h6⟩ := h
      refine s_for S.hp S.ek.calm (chkI_ok it S.ek h1) (chkTg_ok S.ek.N S.ek.nd S.ek.calm S.ek.sc (fun x _ => S.fn x) t h2) (fun i hi => ?_) (by rw [S.ek.g]; exact h4) (not_set h5) (chkSs_ok S p h6)
      have := h3 i hi
      rw [S.ek.g]
      simpa using this
    · cases h
  | .ret none, st, h, ts => by
    simp only [chk1] at h
    split at h
    · exact s_retN (by cases rk <;> simp)
    · cases h
  | .ret (some x), st, h, ts => by
    simp only [chk1] at h
    split at h
    · rw [Bool.and_eq_true] at h
      exact s_ret ((chkE_ok x S.ek h.1).1 rfl) (by rw [S.ek.g]; exact h.2)
    · cases h
  | .pass, st, h, ts => by
    simp only [chk1] at h
    split at h
    · exact s_pass
    · cases h
  | .brk, st, h, ts => by
    simp only [chk1] at h
    split at h
    · exact s_brk
    · cases h
  | .never, st, h, ts => s_never
  | .par _ _ _, st, h, ts => by simp [chk1] at h
  | .unp _ _ _, st, h, ts => by simp [chk1] at h
  | .appPop _ _ _, st, h, ts => by simp [chk1] at h
  | .asgPop _ _ _, st, h, ts => by simp [chk1] at h
  | .ext _ _ _, st, h, ts => by simp [chk1] at h
  | .raise _ _, st, h, ts => by simp [chk1] at h
  | .spoil _, st, h, ts => by simp [chk1] at h
  | .mkbox _, st, h, ts => by simp [chk1] at h
theorem chkSs_ok (S : SX X C E ck fa sc) : ∀ (is : List IS) {sts : List Stmt}, chkSs ck sc rk is sts = true → ∀ ts, PSs X sts (TSS X C fx rk E ts Wf is)
  | [], sts, h, ts => by
    simp only [chkSs] at h
    split at h
    · exact ss_nil
    · cases h
  | i :: is, sts, h, ts => by
    simp only [chkSs] at h
    split at h
    · rw [Bool.and_eq_true] at h
      refine ss_ghost (chkSs_ok S is h.2 ts) fun D σ H => ghost_box ?_
      rw [S.ek.g]
      simpa using h.1
    · split at h
      · rw [Bool.and_eq_true] at h
        exact ss_cons (chk1_ok S i h.1 ts) (chkSs_ok S is h.2 ts)
      · cases h
end
end
end MP

/-! C26: defs. -/
namespace MP
open PySem PySem.Spec PyProof.Rows L2
/-- a def's promise where no guard stands -/
structure FnG (P : Program) (w : World) (K : PySem.W.Frag) (mg : Str → Option Value) (base : Heap) (k : Nat) (f : Addr) (fd : FuncData) (ps : List Str) (sp : Sp) : Prop where
  len : ∀ vs H Q E, sp vs H Q E → vs.length = ps.length
  go : ∀ (A : Around) (out : List PySem.Env) (s : Shared) (H : Hp) (args : Args) (us : List Value) (vs : List V) (Q : VK) (E : XK), A.guards = some [] → Room k A → Env0 P w K mg base A out s H →
    BindsTo s fd args (ps.zip us) → Vals vs us → sp vs H Q E → codeAny (model P w) A (.call (.ref f) args) (CR (CX P w) out P w H s Q E) s
theorem fnG_body {P : Program} {w : World} {K : PySem.W.Frag} {mg : Str → Option Value} {base : Heap} {k : Nat} {f : Addr} {nm ql : Str} {prm : Arguments} {body : List Stmt} {sc : Scope} {v1 v2 v3 v4 v5 v6 oc : Value} {o1 o2 : Option Addr}
    {sl : Array (Option Value)} {N ps : List Str} {sp : Sp} (look : K.lookup f = some ⟨oc, o2, .func (PySem.W.fnOf nm ql prm body sc v1 v2 v3 v4 o1 v5 v6), sl⟩) (code : PySem.W.codeIn K v5 ql = true) (Sc : FnScope N ps sc)
    (len : ∀ vs H Q E, sp vs H Q E → vs.length = ps.length)
    (hb : ∀ (A : Around) (out : List PySem.Env) (s : Shared) (H : Hp) (vs : List V) (Q : VK) (E : XK), A.guards = some [] → Room k (A.deeper (envOfC ql sc s.heap.objs.size f v5)) → sp vs H Q E →
      ∃ t, PSs (cxOf (CX P w) P w K mg base N ql sc f v5 A out s H E) body t ∧ t { nx := fun _ H' => Q .non H', rt := Q } (start N vs) H) :
    FnG P w K mg base (k + 1) f (PySem.W.fnOf nm ql prm body sc v1 v2 v3 v4 o1 v5 v6) ps sp where
  len := len
  go := fun A out s H args us vs Q E hgd room en bt rel prom => by
    have lenv := len _ _ _ _ prom
    have kin : K.In s.heap := en.mod.kin.keeps fun b o e => (en.bs b o e).1
    have nolim : s.heap.NoLimit := en.mod.nolimit.keeps fun b o e => (en.bs b o e).1
    have kinds : ∀ q ∈ ps.zip us, sc.names.lookup q.1 = some .local ∨ (sc.names.lookup q.1 = some .cell ∧ ((cellsFrom (s.heap.objs.size + 1) sc.names []).lookup q.1).isSome = true) := by
      intro ⟨x, y⟩ hq
      rcases Sc.par x (List.of_mem_zip hq).1 with z | z
      · exact .inl z
      · exact .inr ⟨z, PySem.W.cellsFrom_some _ _ _ (.inl z)⟩
    refine codeAny_call_function room.depth (kin _ _ look) rfl Sc.co Sc.gen rfl (PySem.W.codeRec_of kin code) (bt _ _ _ _ (wpAny_newFunctionEnv_cells Sc.kind kinds ?_))
    intro env henv s1 inC
    subst henv
    refine ⟨nolim.keeps inC.toInCall.keep, codeAny_func ?_⟩
    obtain ⟨t, ht, q⟩ := hb A out s H vs Q E hgd (room.deeper _) prom
    have inv : Inv (cxOf (CX P w) P w K mg base N ql sc f v5 A out s H E) [] (start N vs) H s1 := inv_start Sc room.hd en lenv rel inC
    have done : ∀ {σ : L2.St} {H' : Hp} {v : V} {u : Value} {s' : Shared}, Inv (cxOf (CX P w) P w K mg base N ql sc f v5 A out s H E) [] σ H' s' → RelV v u → Q v H' → CE out P w H s Q u s' := fun J r q => ⟨_, _, J.os, J.bare, J.base, J.hok, r, q⟩
    refine wpAny_mono (ht.run [] s1 _ H _ inv q) (fun fl s2 z => ?_) (fun _ _ z => z)
    match fl, z with
    | .ret u, ⟨v, σ2, H2, J, r, q⟩ => exact done J r q
    | .next, ⟨σ2, H2, J, q⟩ => exact done (v := V.non) (u := Value.none) J rfl q
    | .brk, ⟨_, _, _, q⟩ => exact q.elim
    | .cont, ⟨_, _, _, q⟩ => exact q.elim
/-- .. of a def of the text -/
theorem fnG_def {P : Program} {w : World} {K : PySem.W.Frag} {mg : Str → Option Value} {base : Heap} {k : Nat} {f : Addr} {nm ql : Str} {prm : Arguments} {body : List Stmt} {sc : Scope} {fd : FuncData} {N ps : List Str} {sp : Sp} (F : FunD K nm ql prm body sc [] [] f fd) (Sc : FnScope N ps sc)
    (len : ∀ vs H Q E, sp vs H Q E → vs.length = ps.length)
    (hb : ∀ (cdv : Value) (A : Around) (out : List PySem.Env) (s : Shared) (H : Hp) (vs : List V) (Q : VK) (E : XK), A.guards = some [] → Room k (A.deeper (envOfC ql sc s.heap.objs.size f cdv)) → sp vs H Q E →
      ∃ t, PSs (cxOf (CX P w) P w K mg base N ql sc f cdv A out s H E) body t ∧ t { nx := fun _ H' => Q .non H', rt := Q } (start N vs) H) : FnG P w K mg base (k + 1) f fd ps sp := by
  obtain ⟨oc, od, dV, kV, doc, pm, an, cdv, ct, osl, rfl, lk, hcd, _, _⟩ := F.ex
  exact fnG_body lk hcd Sc len fun A out s H vs Q E h1 h2 h3 => hb cdv A out s H vs Q E h1 h2 h3
end MP

/-! C27: all defs keep their promises. -/
namespace MP
open PySem PySem.Spec PyProof.Rows L2
theorem boxless_below (n : Nat) : ∀ t : T, boxless t = true → boxBelow n t = true := by
  intro t
  refine T.rec (motive_1 := fun t => boxless t = true → boxBelow n t = true) (motive_2 := fun ts => boxlessL ts = true → boxBelowL n ts = true) ?_ ?_ ?_ ?_ ?_ ?_ ?_ ?_ ?_ ?_ ?_ ?_ t
  · intro _; rfl
  · intro _ _; rfl
  · intro _ _; rfl
  · intro _ _; rfl
  · intro xs ih h; exact ih h
  · intro xs ih h; exact ih h
  · intro ks xs ih h; exact ih h
  · intro ks xs ih h; exact ih h
  · intro _ _; rfl
  · intro _ h; cases h
  · intro _; rfl
  · intro x xs h1 h2 h
    simp only [boxlessL, boxBelowL, Bool.and_eq_true] at h ⊢
    exact ⟨h1 h.1, h2 h.2⟩
section
variable {K : PySem.W.Frag} {β r : List Addr} {H : Hp}
mutual
theorem Rds.cut : ∀ (t : T) {v : V} {n : List Addr}, Rds K (β ++ r) H t v n → boxBelow β.length t = true → Rds K β H t v n
  | .non, v, n, h, _ => h
  | .bl _, v, n, h, _ => h
  | .int _, v, n, h, _ => h
  | .str _, v, n, h, _ => h
  | .lst xs, v, n, h, e => by
    obtain ⟨a, vs, m, e1, e2, q, e3⟩ := h
    exact ⟨a, vs, m, e1, e2, RdsL.cut xs q e, e3⟩
  | .tup xs, v, n, h, e => by
    obtain ⟨a, vs, e1, e2, q⟩ := h
    exact ⟨a, vs, e1, e2, RdsL.cut xs q e⟩
  | .dk ks xs, v, n, h, e => by
    obtain ⟨a, vs, m, e1, e2, l, q, e3⟩ := h
    exact ⟨a, vs, m, e1, e2, l, RdsL.cut xs q e, e3⟩
  | .dt ks xs, v, n, h, e => by
    obtain ⟨a, vs, m, e1, e2, l, q, e3⟩ := h
    exact ⟨a, vs, m, e1, e2, l, RdsL.cut xs q e, e3⟩
  | .scr _, v, n, h, _ => h
  | .box k, v, n, h, e => by
    obtain ⟨a, e1, e2, e3⟩ := h
    have hk : k < β.length := Nat.le_of_ble_eq_true e
    rw [List.getElem?_append_left hk] at e2
    exact ⟨a, e1, e2, e3⟩
theorem RdsL.cut : ∀ (ts : List T) {vs : List V} {n : List Addr}, RdsL K (β ++ r) H ts vs n → boxBelowL β.length ts = true → RdsL K β H ts vs n
  | [], vs, n, h, _ => h
  | x :: xs, vs, n, h, e => by
    obtain ⟨v, ws, m, k, e1, q1, q2, e2⟩ := h
    simp only [boxBelowL, Bool.and_eq_true] at e
    exact ⟨v, ws, m, k, e1, Rds.cut x q1 e.1, RdsL.cut xs q2 e.2, e2⟩
end
theorem BoxOk.cut {μ : Mem} {bn : Nat → List Addr} (b : BoxOk K (β ++ r) H μ bn) : BoxOk K β H (μ.take β.length) bn := by
  have hl := b.len
  rw [List.length_append] at hl
  refine ⟨by rw [List.length_take]; omega, fun k t e => ?_, fun k l hne h1 h2 => b.dj k l hne (by rw [List.length_append]; omega) (by rw [List.length_append]; omega)⟩
  have hk : k < (μ.take β.length).length := (List.getElem?_eq_some_iff.mp e).1
  have hk' : k < β.length := by rw [List.length_take] at hk; omega
  rw [List.getElem?_take, if_pos hk'] at e
  obtain ⟨a, e1, q, bl, nd⟩ := b.rd k t e
  rw [List.getElem?_append_left hk'] at e1
  exact ⟨a, e1, q.cut _ (boxless_below _ t bl), bl, nd⟩
theorem Bx.up {bn : Nat → List Addr} {a : Addr} (h : Bx β bn a) : Bx (β ++ r) bn a := let ⟨k, h1, h2⟩ := h; ⟨k, by rw [List.length_append]; omega, h2⟩
/-- the arguments' nodes, one by one -/
theorem RdsL.nodes : ∀ {ts : List T} {vs : List V} {n : List Addr}, RdsL K β H ts vs n → ∃ nf : Nat → List Addr, (∀ (i : Nat) (t : T), ts[i]? = some t → ∃ v, vs[i]? = some v ∧ Rds K β H t v (nf i)) ∧ (∀ i : Nat, ts[i]? = none → nf i = []) ∧ ∀ i, ∀ a ∈ nf i, a ∈ n
  | [], vs, n, h => ⟨fun _ => [], fun i t e => by simp at e, fun _ _ => rfl, fun _ _ z => by cases z⟩
  | x :: xs, vs, n, h => by
    obtain ⟨v, ws, m, k, rfl, r1, r2, rfl⟩ := h
    obtain ⟨nf, h1, h2, h3⟩ := RdsL.nodes r2
    refine ⟨fun i => match i with | 0 => m | i + 1 => nf i, fun i t e => ?_, fun i e => ?_, fun i a ha => ?_⟩
    · cases i with
      | zero => simp at e; subst e; exact ⟨v, by simp, r1⟩
      | succ i =>
        obtain ⟨w, e1, q⟩ := h1 i t (by simpa using e)
        exact ⟨w, by simpa using e1, q⟩
    · cases i with
      | zero => simp at e
      | succ i => exact h2 i (by simpa using e)
    · cases i with
      | zero => exact List.mem_append_left _ ha
      | succ i => exact List.mem_append_right _ (h3 i a ha)
end
/-- one def: its slots, kinds, where its text is -/
structure Df where
  d : Dn
  N : List Str
  prm : Arguments
  body : List Stmt
  sc : Scope
/-- is all as it should be, by the texts -/
def okDf (Δ : List Dn) (fs : List Fi) (blt : List Str) (f : Nat) (D : Df) : Bool := (match fs[f]? with
  | some fi => Nat.beq D.d.nps fi.ps.length && Nat.beq D.d.n D.N.length && (List.range D.d.nps).all (fun i => (D.d.ka[i]?).getD .S == .S) && chkSs ⟨D.N, fs, ⟨D.d.ka, Δ.map (·.rk)⟩, blt⟩ D.sc D.d.rk D.d.body D.body
  | none => false)
section
variable {P : Program} {w : World} {K : PySem.W.Frag} {mg : Str → Option Value} {base : Heap} {Δ : List Dn} {Wf : Nat} {at_ : Nat → Str} {cl : Nat → Addr}
def cfK (Δ : List Dn) (Wf : Nat) (at_ : Nat → Str) (cl : Nat → Addr) (ka : List SK) (k : Nat) : Cf := ⟨⟨ka, Δ.map (·.rk)⟩, callF Δ Wf k, at_, cl⟩
theorem kwP_vals {n : Nat} {is : List Nat} {zs : List V} {ws : List Value} (r : Vals zs ws) : Vals (kwP n is zs) (kwP n is ws) := by
  have look : ∀ (is : List Nat) {zs : List V} {ws : List Value} (j : Nat), Vals zs ws → ((is.zip zs).lookup j = none ∧ (is.zip ws).lookup j = none) ∨ ∃ z u, (is.zip zs).lookup j = some z ∧ (is.zip ws).lookup j = some u ∧ RelV z u := by
    intro is
    induction is with
    | nil => intro zs ws j _; exact .inl ⟨by simp, by simp⟩
    | cons i is ih =>
      intro zs ws j r
      cases r with
      | nil => exact .inl ⟨by simp, by simp⟩
      | cons r1 r2 =>
        simp only [List.zip_cons_cons, List.lookup_cons]
        cases j == i with
        | true => exact .inr ⟨_, _, rfl, rfl, r1⟩
        | false => exact ih j r2
  unfold kwP
  generalize List.range is.length = ds
  induction ds with
  | nil => exact .nil
  | cons d ds ih =>
    rcases look is (n + d) r with ⟨h1, h2⟩ | ⟨z, u, h1, h2, h3⟩
    · simp only [List.filterMap_cons, h1, h2]; exact ih
    · simp only [List.filterMap_cons, h1, h2]; exact .cons h3 ih
/-- from the defs' promises to calls -/
theorem call_all {X : Cx} {C : Cf} {fs : List Fi} {fa : Nat → Addr} {fd : Nat → FuncData} {k : Nat} (hg : X.A.guards = some []) (hr : Room k X.A)
    (F : ∀ (f : Nat) (fi : Fi), fs[f]? = some fi → FnG X.prog X.w X.K X.mg X.base k (fa f) (fd f) fi.ps (spF X.K C f))
    (M : ∀ (f : Nat) (fi : Fi), fs[f]? = some fi → X.mg fi.nm = some (.ref (fa f)) ∧ PySem.W.keepIn X.K (.ref (fa f)) = true)
    (B : ∀ (f : Nat) (fi : Fi), fs[f]? = some fi → ∀ (n : Nat) (is : List Nat), (n, is) ∈ fi.sh → ∀ (s : Shared) (us ws : List Value), us.length = n → ws.length = is.length → BindsTo s (fd f) ⟨us, (kwN fi.ps is).zip ws⟩ (fi.ps.zip (us ++ kwP n is ws))) : CallAll X C fs fa :=
  fun X' W' e1 e2 e3 e4 e5 e6 tk f fi is hf => by
  obtain ⟨m1, m2⟩ := M f fi hf
  refine ⟨by rw [e4]; exact m1, by rw [e3]; exact m2, fun pins s σ H us ws vs zs Q hsh I r1 r2 hl q => ?_⟩
  have hF := F f fi hf
  rw [← e1, ← e2, ← e3, ← e4, ← e5] at hF
  have lu : us.length = vs.length := r1.length.symm
  have lw : ws.length = is.length := by rw [← hl]; exact r2.length.symm
  have bt := B f fi hf _ _ hsh s us ws lu lw
  have rv : Vals (vs ++ kwP vs.length is zs) (us ++ kwP vs.length is ws) := r1.append (kwP_vals r2)
  refine wpAny_call (codeAny_mono (hF.go X'.A X'.stack s H ⟨us, (kwN fi.ps is).zip ws⟩ (us ++ kwP vs.length is ws) (vs ++ kwP vs.length is zs) Q (fun c d H' => W' c d σ H') (by rw [e6]; exact hg) (by rw [e6]; exact hr) I.env0 bt rv q) fun r s' hq => ?_)
  cases r with
  | error e => exact tk e s' (XE.of_call I (fun _ _ _ h => h) hq)
  | ok fl =>
    cases fl with
    | ret u => exact I.after hq
    | next => exact hq.elim
    | brk => exact hq.elim
    | cont => exact hq.elim
/-- an end of a body, seen from the caller -/
theorem out_ok {C : Cf} {fx : Fx} {rk : RK} {β' : List Addr} {μ μ' : Mem} {bn' : Nat → List Addr} {H' : Hp} {t : T} {v : V} {n : List Addr} {Q : VK} {E' : Nat → T → Mem → Prop} (hl : fx.β.length = μ.length) (R : RtOk K fx rk β' μ' bn' H' t v n)
    (h : Sat (outD rk μ.length t μ') (fun t μ' => ∀ v H' bn' m, Step K fx.β fx.bn fx.H H' μ' bn' → RVal K fx.β bn' fx.H H' rk fx.A t v m → Q v H') E') : Q v H' := by
  unfold outD at h
  obtain ⟨hi, h⟩ := Sat_if h
  obtain ⟨r, rfl⟩ := R.pre
  have lb := R.box.len
  rw [List.length_append] at lb
  have fin : ∀ {μ2 : Mem}, BoxOk K fx.β H' μ2 bn' → Rds K fx.β H' t v n → (∀ v H' bn' m, Step K fx.β fx.bn fx.H H' μ2 bn' → RVal K fx.β bn' fx.H H' rk fx.A t v m → Q v H') → Q v H' := fun {μ2} b rd q =>
    q v H' bn' n ⟨R.keep, b, fun a z => R.sub a z.up⟩ ⟨rd, fun a ha z => R.nb a ha z.up, R.src, fun e => by subst e; exact rd.nil _ hi, fun e => (R.dl e).2, fun e => (R.dl e).1, R.tp⟩
  split at h
  · rename_i hz
    have hz' := Nat.le_of_ble_eq_true hz
    have er : r = [] := List.length_eq_zero_iff.mp (by omega)
    subst er
    have b := R.box
    have rd := R.rd
    rw [List.append_nil] at b rd
    exact fin b rd h
  · split at h
    · rename_i hb
      rw [← hl] at hb h
      exact fin R.box.cut (R.rd.cut _ hb) h
    · exact h.elim
theorem out_exc {C : Cf} {fx : Fx} {E : XK} {μ μ' : Mem} {c : Nat} {t : T} {P' : T → Mem → Prop} (hl : fx.β.length = μ.length)
    (h : Sat (if Nat.ble μ'.length μ.length then (Res.exc c t μ' : Res T) else if boxBelow μ.length t then .exc c t (μ'.take μ.length) else .stuck) P' (XW C K fx.β fx.bn fx.H E)) : XS C K fx E c t μ' := by
  intro d v H' β' bn' n h1 h0 kp sb bx ⟨r, er⟩ rd nb
  subst er
  have lb := bx.len
  rw [List.length_append] at lb
  split at h
  · rename_i hz
    have hz' := Nat.le_of_ble_eq_true hz
    have er : r = [] := List.length_eq_zero_iff.mp (by omega)
    subst er
    rw [List.append_nil] at bx rd
    exact h d v H' bn' n h0 h1 ⟨kp, bx, fun a z => sb a (by rw [List.append_nil]; exact z)⟩ rd fun a ha z => nb a ha (by rw [List.append_nil]; exact z)
  · split at h
    · rename_i hb
      rw [← hl] at hb h
      exact h d v H' bn' n h0 h1 ⟨kp, bx.cut, fun a z => sb a z.up⟩ (rd.cut _ hb) fun a ha z => nb a ha z.up
    · exact h.elim
end
end MP

/-! C28: all defs keep their promises, by the levels of calls. -/
namespace MP
open PySem PySem.Spec PyProof.Rows L2
section
variable {P : Program} {w : World} {K : PySem.W.Frag} {mg : Str → Option Value} {base : Heap} {Δ : List Dn} {Wf : Nat} {at_ : Nat → Str} {cl : Nat → Addr} {fs : List Fi} {blt : List Str} {fa : Nat → Addr} {fd : Nat → FuncData}
/-- what the head tells of the defs -/
structure HeadOk (K : PySem.W.Frag) (mg : Str → Option Value) (Δ : List Dn) (fs : List Fi) (blt : List Str) (ds : List Df) (fa : Nat → Addr) (fd : Nat → FuncData) : Prop where
  dΔ : ∀ (f : Nat) (fi : Fi), fs[f]? = some fi → ∃ D, ds[f]? = some D ∧ Δ[f]? = some D.d ∧ okDf Δ fs blt f D = true ∧ FnScope D.N fi.ps D.sc ∧ ∃ nm ql prm, FunD K nm ql prm D.body D.sc [] [] (fa f) (fd f)
  gl : ∀ (f : Nat) (fi : Fi), fs[f]? = some fi → mg fi.nm = some (.ref (fa f))
  bl : ∀ nm ∈ blt, mg nm = none
  bd : ∀ (f : Nat) (fi : Fi), fs[f]? = some fi → ∀ (n : Nat) (is : List Nat), (n, is) ∈ fi.sh → ∀ (s : Shared) (us ws : List Value), us.length = n → ws.length = is.length → BindsTo s (fd f) ⟨us, (kwN fi.ps is).zip ws⟩ (fi.ps.zip (us ++ kwP n is ws))
theorem getV_args {as : List T} {m j : Nat} : getV (as.map some ++ List.replicate m none) j = as[j]? := by
  unfold getV
  by_cases h : j < as.length
  · rw [List.getElem?_append_left (by simpa using h)]
    simp [List.getElem?_eq_getElem h]
  · rw [List.getElem?_append_right (by simpa using h), List.getElem?_eq_none (l := as) (by omega)]
    cases e : (List.replicate m (none : Option T))[j - (as.map some).length]? with
    | none => rfl
    | some o =>
      have := List.eq_of_mem_replicate (List.mem_of_getElem? e)
      subst this
      rfl
theorem start_get {N : List Str} {vs : List V} {j : Nat} {v : V} (h : vs[j]? = some v) : (L2.start N vs)[j]? = some (some v) := by
  unfold L2.start
  have hj : j < vs.length := (List.getElem?_eq_some_iff.mp h).1
  rw [List.getElem?_append_left (by simpa using hj), List.getElem?_map, h] <;> rfl
theorem fns_ok {ds : List Df} (hd : HeadOk K mg Δ fs blt ds fa fd) : ∀ (k f : Nat) (fi : Fi), fs[f]? = some fi → FnG P w K mg base k (fa f) (fd f) fi.ps (spF K (cfK Δ Wf at_ cl [] k) f)
  | 0, f, fi, hf => by
    have no : ∀ vs H Q E, ¬ spF K (cfK Δ Wf at_ cl [] 0) f vs H Q E := fun vs H Q E ⟨_, _, _, _, _, _, _, _, h⟩ => h
    exact ⟨fun vs H Q E h => (no vs H Q E h).elim, fun A out s H args us vs Q E _ _ _ _ _ h => (no vs H Q E h).elim⟩
  | k + 1, f, fi, hf => by
    obtain ⟨D, hD, hΔ, ok, Sc, nm, ql, prm, FD⟩ := hd.dΔ f fi hf
    unfold okDf at ok
    rw [hf] at ok
    simp only [Bool.and_eq_true, List.all_eq_true] at ok
    obtain ⟨⟨⟨o1, o2⟩, o3⟩, o4⟩ := ok
    have o1 := Nat.eq_of_beq_eq_true o1
    have o2 := Nat.eq_of_beq_eq_true o2
    have ih := fns_ok hd k
    have run : ∀ as μ, callF Δ Wf (k + 1) f as μ = runD (callF Δ Wf k) Wf D.d as μ := fun as μ => by
      show (match Δ[f]? with | some d => runD (callF Δ Wf k) Wf d as μ | none => .stuck) = _
      rw [hΔ]
    have rkf : ((Δ.map (·.rk))[f]?).getD .S = D.d.rk := by rw [List.getElem?_map, hΔ] <;> rfl
    have lenOk : ∀ vs H Q E, spF K (cfK Δ Wf at_ cl [] (k + 1)) f vs H Q E → vs.length = fi.ps.length := fun vs H Q E ⟨as, μ, β, bn, n, b, rl, nb, h⟩ => by
      have h : Sat (callF Δ Wf (k + 1) f as μ) _ _ := h
      rw [run, runD] at h
      obtain ⟨hl, _⟩ := Sat_if h
      rw [rl.length, Nat.eq_of_beq_eq_true hl, o1]
    refine fnG_def FD Sc lenOk fun cdv A out s H vs Q E hgd room prom => ?_
    obtain ⟨as, μ, β, bn, n, b, rl, nb, h⟩ := prom
    have h : Sat (callF Δ Wf (k + 1) f as μ) (fun t μ' => ∀ v H' bn' m, Step K β bn H H' μ' bn' → RVal K β bn' H H' (((Δ.map (·.rk))[f]?).getD .S) n t v m → Q v H') (XW (cfK Δ Wf at_ cl [] (k + 1)) K β bn H E) := h
    rw [run, runD] at h
    obtain ⟨hl, h⟩ := Sat_if h
    have hl := Nat.eq_of_beq_eq_true hl
    rw [rkf] at h
    let C : Cf := cfK Δ Wf at_ cl D.d.ka k
    let fx : Fx := ⟨β, bn, H, n⟩
    let X : Cx := cxOf (L2.CX P w) P w K mg base D.N ql D.sc (fa f) cdv A out s H E
    have hb : β.length = μ.length := b.len
    have callsX : CallAll X C fs fa := call_all (X := X) (C := C) (fd := fd) (k := k) hgd room (fun f' fi' hf' => ih f' fi' hf') (fun f' fi' hf' => ⟨hd.gl f' fi' hf', by
      obtain ⟨D', _, _, _, _, _, _, _, FD'⟩ := hd.dΔ f' fi' hf'
      exact FD'.kp⟩) hd.bd
    have tk : Takes X (WE0 E) := takes_of (X := X) rfl rfl rfl (E := E) rfl
    have un := room.un
    have S : SX X C E ⟨D.N, fs, ⟨D.d.ka, Δ.map (·.rk)⟩, blt⟩ fa D.sc := {
      ek := { N := rfl, nd := Sc.nd, calm := rfl, guards := hgd, units := (by show (A.deeper _).units + 65 < cLine; omega), sc := rfl, bl := hd.bl, call := callsX, g := rfl, tk := tk }
      hp := passes_of (X := X) rfl
      fn := fun _ => rfl
      bk := by
        show (if D.sc.kind.isAnnotationScope then ScopeKind.function else D.sc.kind) = _
        rw [Sc.kind] <;> rfl }
    refine ⟨TSS X C fx D.d.rk E [] Wf D.d.body, chkSs_ok S D.d.body o4 [], ?_⟩
    obtain ⟨nf, n1, n2, n3⟩ := rl.nodes
    have par : ∀ i, C.g.k i ≠ .S → nf i = [] := fun i hi => by
      refine n2 i (List.getElem?_eq_none ?_)
      by_cases hlt : i < D.d.nps
      · have := o3 i (List.mem_range.mpr hlt)
        have e : C.g.k i = .S := by
          show (D.d.ka[i]?).getD .S = .S
          simpa using this
        exact absurd e hi
      · omega
    have hps : fi.ps.length ≤ D.N.length := by
      have := congrArg List.length Sc.pre
      rw [List.length_take] at this
      omega
    refine ⟨as.map some ++ List.replicate (D.d.n - as.length) none, μ, β, nf, bn, ?_, ?_⟩
    · have trivD : ∀ i, C.g.k i = .D → nf i = [] := fun i hi => par i (by rw [hi]; decide)
      have trivP : ∀ i, C.g.k i = .P → nf i = [] := fun i hi => par i (by rw [hi]; decide)
      have noD : ∀ {i a}, C.g.k i = .D → a ∈ nf i → False := fun hi ha => by rw [trivD _ hi] at ha; cases ha
      have noP : ∀ {i a}, C.g.k i = .P → a ∈ (nf i).take 1 → False := fun hi ha => by rw [trivP _ hi] at ha; cases ha
      refine ⟨⟨b, ?_, fun i t e => ?_, fun i e => ?_, fun i a ha => nb a (n3 i a ha), fun i hi => by rw [trivD i hi]; exact List.nodup_nil, fun i j _ hi _ a ha => (noD hi ha).elim, fun i t hi _ => .inr (trivP i hi)⟩,
        fun i j _ hi a ha => (noD hi ha).elim, fun i hi a ha => (noP hi ha).elim, fun i j _ hi a ha => (noP hi ha).elim, fun i hi a ha => (noD hi ha).elim, fun i hi a ha => (noP hi ha).elim, Keeps.refl _ _, fun a z => .inl z, ⟨[], by simp [fx]⟩, fun i a ha => .inr (n3 i a ha), fun _ z => by cases z⟩
      · have lv := rl.length
        unfold L2.start
        rw [List.length_append, List.length_append, List.length_map, List.length_map, List.length_replicate, List.length_replicate]
        omega
      · rw [getV_args] at e
        obtain ⟨v, e1, r⟩ := n1 i t e
        exact ⟨v, start_get e1, r⟩
      · rw [getV_args] at e
        exact n2 i e
    · cases e : evIs (callF Δ Wf k) Wf D.d.body (as.map some ++ List.replicate (D.d.n - as.length) none) μ with
      | stuck => rw [e] at h; exact h.elim
      | exc c t μ' =>
        rw [e] at h
        show Sat (evIs (callF Δ Wf k) Wf D.d.body _ μ) _ _
        rw [e]
        exact out_exc (fx := fx) hb h
      | ok q μ' =>
        show Sat (evIs (callF Δ Wf k) Wf D.d.body _ μ) _ _
        rw [e]
        rw [e] at h
        obtain ⟨fl, ρ'⟩ := q
        cases fl with
        | bk => exact h.elim
        | nx => exact fun β' ns' bn' σ' H' S' => out_ok (fx := fx) (t := .non) (n := []) (C := C) hb ⟨S'.e.box, S'.keep, S'.sub, S'.pre, ⟨rfl, rfl⟩, (fun _ z => by cases z), (fun _ z => by cases z), (fun _ => ⟨List.nodup_nil, fun _ z => by cases z⟩), fun _ z => by cases z⟩ h
        | rt t => exact fun β' bn' v H' m R => out_ok (fx := fx) (C := C) hb R h
end
end MP

/-! C29: the law's call, from its def's promise (no guard stands at the caller's). -/
namespace MP
open PySem PySem.Spec PyProof.Rows L2
section
variable {P : Program} {w : World} {K : PySem.W.Frag} {mg mb : Str → Option Value} {k : Nat} {fa a : Addr} {fd : FuncData} {x : Str} {sp : Sp} {s1 : Shared} {vs : List Value} {ns : List Int}
/-- what is asked of the call of a law -/
def Good1 (s1 : Shared) (r : Result) (s' : Shared) : Prop := r = .ok (.ret (.bool true)) ∧ OldK s1.heap s'.heap ∧ s'.os = s1.os ∧ AllBare s'.gens
/-- the abstract heap H tracks nothing but the script -/
structure Start1 (K : PySem.W.Frag) (P : Program) (w : World) (s1 : Shared) (a : Addr) (ns : List Int) (H : Hp) : Prop where
  only : Only H
  sq : SqL K H a (ns.map V.int)
  hok : HOk P w H s1.heap
  at_ : ∀ b, H b ≠ none → b = a
  off : H a ≠ none → K.lookup a = none
theorem run1 {H : Hp} (st : Start1 K P w s1 a ns H) (KX : K.In s1.heap) (G1 : s1.heap.Ns mainGlobals mg) (G2 : s1.heap.Ns builtinsNs mb) (G3 : ∀ x : Str, x ≠ "__name__" → mb x = bootBuiltins x) (G4 : s1.heap.NoLimit) (G5 : s1.gens = #[])
    (obj : s1.heap.get? a = some { cls := .type "list", data := .seq vs.toArray }) (room : Room k callerA) (F : ∀ base : Heap, K.In base → base.Ns mainGlobals mg → FnG P w K mg base k fa fd [x] sp) (bind : ∀ (s : Shared) (u : Value), BindsTo s fd ⟨[u], []⟩ [(x, u)])
    (prom : sp [.ref a] H (fun v _ => v = .bl true) fun _ _ _ => False) : codeAny (model P w) callerA (.call (.ref fa) ⟨[.ref a], []⟩) (Good1 s1) s1 := by
  let B := hidT s1.heap H
  -- what is no list stands in the base
  have inB : ∀ {b : Addr} {o : Obj}, s1.heap.get? b = some o → (b = a → H a = none) → B.get? b = some o := fun {b o} e h => hidT_get e (by
    cases hb : H b with
    | none => rfl
    | some u =>
      have e2 : b = a := st.at_ b (by simp [hb])
      have e3 := h e2
      rw [← e2, hb] at e3
      exact e3)
  have dictB : ∀ {b : Addr} {m : Str → Option Value}, s1.heap.Ns b m → B.Ns b m := fun {b m} hn => by
    obtain ⟨o, es, ep, e1, e2, e3⟩ := hn
    refine ⟨o, es, ep, inB e1 fun e => ?_, e2, e3⟩
    subst e
    rw [obj] at e1
    cases e1
    cases e2
  have kinB : K.In B := fun b o e => inB (KX b o e) fun eb => by
    cases ha : H a with
    | none => rfl
    | some u =>
      have := st.off (by simp [ha])
      rw [← eb, e] at this
      cases this
  have limB : B.NoLimit := by
    obtain ⟨mc, q1, q2⟩ := G4
    exact ⟨mc, dictB q1, q2⟩
  have env : Env0 P w K mg B callerA [] s1 H := {
    frames := rfl
    mod := { kin := kinB, glob := dictB G1, blt := ⟨mb, dictB G2, G3⟩, nolimit := limB }
    bs := fun b o e => of_hidT e
    bsz := by rw [hidT_size] <;> exact Nat.le_refl _
    funs := trivial
    frf := fun b hb => by cases (show b ∈ ([] : List Addr) from hb)
    hok := st.hok
    bare := AllBare.of_eq G5 }
  have rel : Vals [V.ref a] [Value.ref a] := .cons rfl .nil
  refine codeAny_mono ((F B kinB (dictB G1)).go callerA [] s1 H ⟨[.ref a], []⟩ [.ref a] [.ref a] _ _ rfl room env (bind s1 _) rel prom) ?_
  intro r s2 hr
  match r, hr with
  | .error e, ⟨_, _, _, _, _, _, _, _, _, _, _, _, z⟩ => exact z.elim
  | .ok (.ret u), ⟨v, H2, e1, e2, un, hok2, rv, ev⟩ =>
    have ev : v = V.bl true := ev
    subst ev
    have eu : u = Value.bool true := rv
    subst eu
    refine ⟨rfl, OldK.of_keep fun b o eo => ?_, e1, e2⟩
    cases hb : H b with
    | none => exact un.keep b o eo hb (fun z => by cases (show b ∈ ([] : List Addr) from z)) (fun z => by cases z)
    | some u =>
      obtain z | ⟨ob, xs, z⟩ := st.only b
      · rw [z] at hb; cases hb
      · obtain ⟨g1, _⟩ := st.hok b _ z
        obtain ⟨g2, _⟩ := hok2 b _ (un.frzs b ob _ z)
        rw [g1] at eo
        cases eo
        exact g2
/-- the law's call ends in True -/
theorem law1 (KX : K.In s1.heap) (G1 : s1.heap.Ns mainGlobals mg) (G2 : s1.heap.Ns builtinsNs mb) (G3 : ∀ x : Str, x ≠ "__name__" → mb x = bootBuiltins x) (G4 : s1.heap.NoLimit) (G5 : s1.gens = #[])
    (obj : s1.heap.get? a = some { cls := .type "list", data := .seq vs.toArray }) (intsA : IntsAre vs ns) (hl : ns.length ≤ sizeLine) (room : Room k callerA) (F : ∀ base : Heap, K.In base → base.Ns mainGlobals mg → FnG P w K mg base k fa fd [x] sp)
    (bind : ∀ (s : Shared) (u : Value), BindsTo s fd ⟨[u], []⟩ [(x, u)]) (prom : ∀ H : Hp, Only H → SqL K H a (ns.map V.int) → sp [.ref a] H (fun v _ => v = .bl true) fun _ _ _ => False) : codeAny (model P w) callerA (.call (.ref fa) ⟨[.ref a], []⟩) (Good1 s1) s1 := by
  have lv : vs.length = ns.length := intsA.length
  have rel := vals_ints intsA
  cases look : K.lookup a with
  | some o =>
    have eo := KX a o look
    rw [obj] at eo
    cases eo
    have st : Start1 K P w s1 a ns (fun _ => none) := ⟨fun _ => .inl rfl, .inr ⟨_, vs.toArray, _, look, rfl, rfl, rfl, by rw [List.size_toArray, lv]; exact hl, rel⟩, (fun b u z => nomatch (show (none : Option HO) = some u from z)), (fun b z => (z rfl).elim), fun z => (z rfl).elim⟩
    exact run1 st KX G1 G2 G3 G4 G5 obj room F bind (prom _ st.only st.sq)
  | none =>
    let o : Obj := { cls := .type "list", data := .seq vs.toArray }
    let H : Hp := fun b => if b = a then some (.frz o (.lst (ns.map V.int))) else none
    have Ha : H a = some (.frz o (.lst (ns.map V.int))) := if_pos rfl
    have Hn : ∀ b, b ≠ a → H b = none := fun b hb => if_neg hb
    have st : Start1 K P w s1 a ns H := by
      refine ⟨fun b => ?_, .inl (.inr ⟨o, Ha⟩), fun b u hu => ?_, fun b hb => ?_, fun _ => look⟩
      · by_cases e : b = a
        · subst e; exact .inr ⟨_, _, Ha⟩
        · exact .inl (Hn b e)
      · by_cases e : b = a
        · subst e
          rw [Ha] at hu
          cases hu
          exact ⟨obj, by rw [List.length_map]; exact hl, vs, _, rel, obj⟩
        · rw [Hn b e] at hu; cases hu
      · by_cases e : b = a
        · exact e
        · exact (hb (Hn b e)).elim
    exact run1 st KX G1 G2 G3 G4 G5 obj room F bind (prom _ st.only st.sq)
end
/-- what k_head leaves, from the promise of the law's def -/
theorem walk1 {l : PySem.W.OpenLaw} {n k : Nat} {q : Program} {loose : List Str} {XP : (Str → Option Value) → Heap → Prop} {YP : World → Heap → Prop} {d : DefRec} {x : Str} (hn : l.most = some n) (hz : n ≤ sizeLine) (hd : d.params.defaults = []) (room : Room k callerA)
    (F : ∀ (w : World) (mg : Str → Option Value) (fa : Addr) (h : Heap), YP w h → h.Ns mainGlobals mg → mg d.name = some (.ref fa) → ∃ (K : PySem.W.Frag) (fd : FuncData) (sp : Sp), K.In h ∧ (∀ (s : Shared) (u : Value), BindsTo s fd ⟨[u], []⟩ [(x, u)]) ∧
      (∀ (H : Hp) (a : Addr) (ns : List Int), ns.length ≤ n → Only H → SqL K H a (ns.map V.int) → sp [.ref a] H (fun v _ => v = .bl true) fun _ _ _ => False) ∧ ∀ base : Heap, K.In base → base.Ns mainGlobals mg → FnG l.prog w K mg base k fa fd [x] sp) :
    PySem.W.WalkO q loose XP YP l.row.toRowW d [] (fun f vs => PySem.call f vs) := by
  refine Att.attach_call hn hd ?_
  intro w s0 s1 mg mb fa o pm cd doc a vs ns G Y _ _ _ hmg obj intsA hlen gens
  obtain ⟨K, fd, sp, KX, bind, prom, hF⟩ := F w mg fa _ Y G.T.g hmg
  exact law1 KX G.T.g G.T.b G.T.builtins G.T.nolimit gens obj intsA (Nat.le_trans hlen hz) room hF bind fun H h1 h2 => prom H a ns hlen h1 h2
/-- the promise of the law's def, from the evaluator's answer -/
theorem prom1 {K : PySem.W.Frag} {Δ : List Dn} {Wf k f : Nat} {at_ : Nat → Str} {cl : Nat → Addr} {H : Hp} {a : Addr} {ns : List Int} {μ' : Mem} (ho : Only H) (hs : SqL K H a (ns.map V.int)) (h : callF Δ Wf k f [.scr ns] [] = .ok (.bl true) μ') :
    spF K (cfK Δ Wf at_ cl [] k) f [.ref a] H (fun v _ => v = .bl true) fun _ _ _ => False := by
  have rd : Rds K [] H (.scr ns) (.ref a) [] := by
    refine ⟨a, rfl, rfl, ?_⟩
    rcases hs with (z | ⟨o, z⟩) | ⟨o, its, m, h1, h2, h3, h4, h5, h6⟩
    · rcases ho a with e | ⟨o, xs, e⟩
      · rw [z] at e; cases e
      · rw [z] at e; cases e
    · exact .inl ⟨o, z⟩
    · exact .inr ⟨o, its, m, h1, h2, h3, h4, h5, h6⟩
  have bx : BoxOk K [] H [] (fun _ => []) := ⟨rfl, fun k t e => by simp at e, fun k l _ h1 => by simp at h1⟩
  refine ⟨[.scr ns], [], [], fun _ => [], [], bx, RdsL.one.mpr ⟨_, rfl, rd⟩, (fun _ z => by cases z), ?_⟩
  show Sat (callF Δ Wf k f [.scr ns] []) _ _
  rw [h]
  intro v H' bn' m _ R
  exact R.rd.1
end MP

/-! C30: from the head's facts to the defs' promises; the law's end. -/
namespace MP
open PySem PySem.Spec PyProof.Rows L2
def defsD (fs : List Fi) (ds : List Df) : List He.DefD := List.zipWith (fun fi D => ⟨(fi.nm, none), fi.nm, fi.nm, D.prm, D.body, D.sc, [], []⟩) fs ds
def factsD (fs : List Fi) (blt : List Str) : List He.Fa := fs.map (fun fi => .glo fi.nm) ++ blt.map .free
/-- a def's names -/
def scB (N ps : List Str) (sc : Scope) : Bool := decide (sc.kind = .function) && !sc.isCoroutine && !sc.isGenerator && decide N.Nodup && decide (N.take ps.length = ps) && ps.all (isLocC sc) && sc.names.all fun y => y.2 != .free
theorem scB_ok {N ps : List Str} {sc : Scope} (h : scB N ps sc = true) : FnScope N ps sc := by
  simp only [scB, Bool.and_eq_true, decide_eq_true_eq, Bool.not_eq_true', List.all_eq_true] at h
  obtain ⟨⟨⟨⟨⟨⟨h1, h2⟩, h3⟩, h4⟩, h5⟩, h6⟩, h7⟩ := h
  refine ⟨h1, h2, h3, h4, h5, fun x hx => ?_, fun y hy z => ?_⟩
  · have := h6 x hx
    unfold isLocC at this
    split at this
    · rename_i e; exact .inl e
    · rename_i e; exact .inr e
    · cases this
  · have := h7 y hy
    rw [z] at this
    cases this
/-- all defs by their texts -/
def okAll (fs : List Fi) (blt : List Str) (ds : List Df) : Bool := Nat.beq fs.length ds.length && (List.range fs.length).all fun f => (match fs[f]?, ds[f]? with
  | some fi, some D => okDf (ds.map (·.d)) fs blt f D && scB D.N fi.ps D.sc
  | _, _ => false)
/-- calls bind -/
def Binds1 (fs : List Fi) (ds : List Df) : Prop := ∀ (f : Nat) (fi : Fi) (D : Df), fs[f]? = some fi → ds[f]? = some D → ∀ (n : Nat) (is : List Nat), (n, is) ∈ fi.sh → ∀ (kV doc pm : Value) (an : Option Addr) (cdv ct : Value) (us ws : List Value), us.length = n → ws.length = is.length →
  bindArgs (PySem.W.fnOf fi.nm fi.nm D.prm D.body D.sc .none kV doc pm an cdv ct) ⟨us, (kwN fi.ps is).zip ws⟩ = pure (fi.ps.zip (us ++ kwP n is ws))
section
variable {K : PySem.W.Frag} {h : Heap} {mg : Str → Option Value} {fs : List Fi} {blt : List Str} {ds : List Df}
def faOf (K : PySem.W.Frag) (fs : List Fi) (f : Nat) : Addr := He.ga K (((fs[f]?).map (·.nm)).getD "")
theorem head_ok (c : He.SaysD (factsD fs blt) (defsD fs ds) K) (X : K.In h) (G : h.Ns mainGlobals mg) (ok : okAll fs blt ds = true) (bd : Binds1 fs ds) : ∃ fd : Nat → FuncData, HeadOk K mg (ds.map (·.d)) fs blt ds (faOf K fs) fd := by
  unfold okAll at ok
  rw [Bool.and_eq_true, List.all_eq_true] at ok
  obtain ⟨hl, ok⟩ := ok
  have hl := Nat.eq_of_beq_eq_true hl
  have look : ∀ (f : Nat) (fi : Fi), fs[f]? = some fi → ∃ D, ds[f]? = some D ∧ okDf (ds.map (·.d)) fs blt f D = true ∧ scB D.N fi.ps D.sc = true := fun f fi hf => by
    have hlt : f < fs.length := (List.getElem?_eq_some_iff.mp hf).1
    have q := ok f (List.mem_range.mpr hlt)
    rw [hf] at q
    cases hD : ds[f]? with
    | none => rw [hD] at q; cases q
    | some D =>
      rw [hD] at q
      have q : (okDf (ds.map (·.d)) fs blt f D && scB D.N fi.ps D.sc) = true := q
      rw [Bool.and_eq_true] at q
      exact ⟨D, rfl, q.1, q.2⟩
  have ex : ∀ f : Nat, ∃ fd : FuncData, ∀ fi D, fs[f]? = some fi → ds[f]? = some D → FunD K fi.nm fi.nm D.prm D.body D.sc [] [] (faOf K fs f) fd := fun f => by
    cases hf : fs[f]? with
    | none => exact ⟨PySem.W.fnOf "" "" ⟨[], [], none, [], [], none, []⟩ [] ⟨.function, [], false, false, []⟩ .none .none .none .none none .none .none, fun fi D h => by cases h⟩
    | some fi =>
      obtain ⟨D, hD, _, _⟩ := look f fi hf
      have hd : (defsD fs ds)[f]? = some ⟨(fi.nm, none), fi.nm, fi.nm, D.prm, D.body, D.sc, [], []⟩ := by
        unfold defsD
        rw [List.getElem?_zipWith, hf, hD]
      obtain ⟨fd, F⟩ := c.def_ f hd
      refine ⟨fd, fun fi' D' h1 h2 => ?_⟩
      cases h1
      rw [hD] at h2
      cases h2
      have e : faOf K fs f = He.fAd K (fi.nm, none) := by
        unfold faOf
        rw [hf] <;> rfl
      rw [e]
      exact F
  obtain ⟨fd, hfd⟩ := Classical.axiomOfChoice ex
  refine ⟨fd, fun f fi hf => ?_, fun f fi hf => ?_, fun nm hn => ?_, fun f fi hf n is hs s us ws l1 l2 => ?_⟩
  · obtain ⟨D, hD, o1, o2⟩ := look f fi hf
    exact ⟨D, hD, by rw [List.getElem?_map, hD] <;> rfl, o1, scB_ok o2, _, _, _, hfd f fi D hf hD⟩
  · have hm : He.Fa.glo fi.nm ∈ factsD fs blt := List.mem_append_left _ (List.mem_map.mpr ⟨fi, List.mem_of_getElem? hf, rfl⟩)
    obtain ⟨i, hi, e⟩ := List.mem_iff_getElem.mp hm
    have := He.glo_ok X G (c.fact i (f := .glo fi.nm) (by rw [List.getElem?_eq_getElem hi, e]))
    rw [this]
    unfold faOf
    rw [hf] <;> rfl
  · have hm : He.Fa.free nm ∈ factsD fs blt := List.mem_append_right _ (List.mem_map.mpr ⟨nm, hn, rfl⟩)
    obtain ⟨i, hi, e⟩ := List.mem_iff_getElem.mp hm
    exact He.free_ok X G (c.fact i (f := .free nm) (by rw [List.getElem?_eq_getElem hi, e]))
  · obtain ⟨D, hD, _, _⟩ := look f fi hf
    obtain ⟨oc, od, dV, kV, doc, pm, an, cdv, ct, osl, e, _, _, hdv, _⟩ := (hfd f fi D hf hD).ex
    rw [e]
    rcases hdv with ⟨_, rfl⟩ | ⟨z, _⟩
    · exact .of_eq (bd f fi D hf hD n is hs kV doc pm an cdv ct us ws l1 l2)
    · exact absurd rfl z
/-- the law's def keeps its promise, whatever the base -/
theorem law_F {P : Program} {w : World} {Wf k f : Nat} {fa : Addr} {x nm : Str} {sh : List (Nat × List Nat)} (c : He.SaysD (factsD fs blt) (defsD fs ds) K) (X : K.In h) (G : h.Ns mainGlobals mg) (ok : okAll fs blt ds = true) (bd : Binds1 fs ds) (hf : fs[f]? = some ⟨nm, [x], sh⟩) (hfa : mg nm = some (.ref fa)) (h1 : (1, []) ∈ sh)
    (plain : ∀ ns : List Int, ns.length ≤ 63 → ∃ μ, callF (ds.map (·.d)) Wf k f [.scr ns] [] = .ok (.bl true) μ) :
    ∃ (fd : FuncData) (sp : Sp), (∀ (s : Shared) (u : Value), BindsTo s fd ⟨[u], []⟩ [(x, u)]) ∧ (∀ (H : Hp) (a : Addr) (ns : List Int), ns.length ≤ 63 → Only H → SqL K H a (ns.map V.int) → sp [.ref a] H (fun v _ => v = .bl true) fun _ _ _ => False) ∧
      ∀ base : Heap, K.In base → base.Ns mainGlobals mg → FnG P w K mg base k fa fd [x] sp := by
  obtain ⟨fd, hd⟩ := head_ok c X G ok bd
  have e := hd.gl f _ hf
  have e : mg nm = some (.ref (faOf K fs f)) := e
  rw [hfa] at e
  obtain rfl : fa = faOf K fs f := by cases e; rfl
  refine ⟨fd f, spF K (cfK (ds.map (·.d)) Wf (fun _ => "") (fun _ => 0) [] k) f, fun s u => hd.bd f _ hf 1 [] h1 s [u] [] rfl rfl, fun H a ns hn ho hs => ?_, fun base _ _ => fns_ok hd k f _ hf⟩
  obtain ⟨μ, hμ⟩ := plain ns hn
  exact prom1 ho hs hμ
end
end MP

namespace Q
open PySem PyProof.Rows L2 MP
def top (i : Nat) : Stmt := PySem.Challenge.pw_fallrows_k90_whole_main_signed_counts_an.main.body.getD i (.Pass ⟨0, 0, 0, 0⟩)
def d_is_whole : Dn := ⟨1, 1, [.S], .I, [(.ret (some (.bop true [(.isi (.var 0) [.int] true), (.nt (.isi (.var 0) [.bool] true))])))]⟩
def d_check_number : Dn := ⟨1, 1, [.S], .I, [(.iff (.bop false [(.nt (.call 0 [(.var 0)] [])), (.cmp .lt (.var 0) (.cst (.int 0)))]) [.never] [])]⟩
def d_with_unlike : Dn := ⟨2, 4, [.S, .S, .S, .S], .D, [(.ret (some (.lc (.ite (.cmp .ge (.var 2) (.var 1)) (.bin .sub (.var 3) (.sub (.var 0) (.bin .sub (.var 2) (.var 1)))) (.imm (.var 3))) (.tp [(.nm 2), (.nm 3)]) (.enum (.var 0)) none)))]⟩
def d_with_often : Dn := ⟨3, 5, [.S, .S, .S, .D, .S], .D, [(.asg 3 (.flat (.bi .list [(.var 0)])) []),
  (.for (.nm 4) (.rng2 (.var 1) (.bi .len [(.var 3)])) [(.set 3 (.var 4) (.bin .add (.imm (.sub (.var 3) (.var 4))) (.imm (.bin .mul (.var 2) (.imm (.sub (.var 3) (.bin .sub (.var 4) (.var 1))))))) [])] []),
  (.ret (some (.var 3)))]⟩
def d_cube_count : Dn := ⟨1, 4, [.S, .S, .S, .S], .S, [(.ex (.call 1 [(.var 0)] [])),
  (.asg 1 (.bin .add (.lst [(false, (.cst (.int 1)))]) (.bin .mul (.lst [(false, (.cst (.int 0)))]) (.var 0))) []),
  (.for (.nm 2) (.rng2 (.cst (.int 1)) (.bin .add (.var 0) (.cst (.int 1)))) [(.for (.nm 3) (.rng1 (.cst (.int 3))) [(.asg 1 (.call 2 [(.var 1), (.var 2)] []) [])] [])] []),
  (.ret (some (.sub (.var 1) (.var 0))))]⟩
def d_signed_count : Dn := ⟨1, 3, [.S, .S, .S], .S, [(.ex (.call 1 [(.var 0)] [])),
  (.asg 1 (.bin .add (.lst [(false, (.cst (.int 1)))]) (.bin .mul (.lst [(false, (.cst (.int 0)))]) (.var 0))) []),
  (.for (.nm 2) (.rng2 (.cst (.int 1)) (.bin .add (.var 0) (.cst (.int 1)))) [(.asg 1 (.call 3 [(.call 2 [(.var 1), (.var 2)] []), (.var 2), (.un (.cst (.int 1)))] []) [])] []),
  (.ret (some (.sub (.var 1) (.var 0))))]⟩
def d_half_count : Dn := ⟨1, 3, [.S, .S, .S], .S, [(.ex (.call 1 [(.var 0)] [])),
  (.asg 1 (.bin .add (.lst [(false, (.cst (.int 1)))]) (.bin .mul (.lst [(false, (.cst (.int 0)))]) (.var 0))) []),
  (.for (.nm 2) (.rng2 (.cst (.int 1)) (.bin .add (.var 0) (.cst (.int 1)))) [(.asg 1 (.ite (.cmp .eq (.bin .mod (.var 2) (.cst (.int 2))) (.cst (.int 0))) (.call 2 [(.var 1), (.var 2)] []) (.call 3 [(.var 1), (.var 2), (.cst (.int 1))] [])) [])] []),
  (.ret (some (.sub (.var 1) (.var 0))))]⟩
def d_ways_of_squares : Dn := ⟨2, 7, [.S, .S, .S, .S, .D, .S, .S], .S, [(.asg 2 (.bin .add (.lst [(false, (.cst (.int 1)))]) (.bin .mul (.lst [(false, (.cst (.int 0)))]) (.var 0))) []),
  (.for (.nm 3) (.rng1 (.var 1)) [(.asg 4 (.flat (.bi .list [(.var 2)])) []), (.asg 5 (.cst (.int 1)) []), (.wh (.cmp .le (.bin .mul (.var 5) (.var 5)) (.var 0)) [(.for (.nm 6) (.rng2 (.bin .mul (.var 5) (.var 5)) (.bin .add (.var 0) (.cst (.int 1)))) [(.set 4 (.var 6) (.bin .add (.imm (.sub (.var 4) (.var 6))) (.imm (.bin .mul (.cst (.int 2)) (.sub (.var 2) (.bin .sub (.var 6) (.bin .mul (.var 5) (.var 5))))))) [])] []), (.asg 5 (.bin .add (.var 5) (.cst (.int 1))) [])]), (.asg 2 (.var 4) [4])] []),
  (.ret (some (.sub (.var 2) (.var 0))))]⟩
def d_two_squares : Dn := ⟨1, 1, [.S], .S, [(.ex (.call 1 [(.var 0)] [])),
  (.ret (some (.call 7 [(.var 0), (.cst (.int 2))] [])))]⟩
def d_four_squares : Dn := ⟨1, 1, [.S], .S, [(.ex (.call 1 [(.var 0)] [])),
  (.ret (some (.call 7 [(.var 0), (.cst (.int 4))] [])))]⟩
def d__law_stream : Dn := ⟨1, 1, [.S], .D, [(.ret (some (.lst [(false, (.flat (.bi .list [(.var 0)]))), (false, (.cst (.int 0))), (false, (.cst (.int 0))), (false, (.cst (.int 19)))])))]⟩
def d__law_draw : Dn := ⟨2, 5, [.S, .S, .S, .S, .S], .I, [(.bset 0 (.cst (.int 2)) (.imm (.bin .add (.sub (.var 0) (.cst (.int 2))) (.cst (.int 1))))),
  (.wh (.bop true [(.cmp .eq (.sub (.var 0) (.cst (.int 1))) (.cst (.int 0))), (.neNil 0 (.cst (.int 0)))]) [(.asg 3 (.bi .abs [(.popAt 0 (.cst (.int 0)) (.cst (.int 0)))]) []), (.bset 0 (.cst (.int 3)) (.imm (.bin .mod (.bi .int [(.bin .add (.bin .add (.bin .mul (.sub (.var 0) (.cst (.int 3))) (.cst (.int 6151))) (.var 3)) (.cst (.int 7)))]) (.cst (.int 2147483629))))), (.bset 0 (.cst (.int 1)) (.imm (.ite (.cmp .ge (.var 3) (.bin .pow (.cst (.int 10)) (.cst (.int 18)))) (.imm (.var 3)) (.imm (.cst (.int 0))))))]),
  (.iff (.cmp .gt (.sub (.var 0) (.cst (.int 1))) (.cst (.int 0))) [(.asg 4 (.bin .mod (.bi .int [(.sub (.var 0) (.cst (.int 1)))]) (.var 1)) []), (.bset 0 (.cst (.int 1)) (.imm (.bin .fdiv (.sub (.var 0) (.cst (.int 1))) (.var 1)))), (.ret (some (.var 4)))] []),
  (.asg 2 (.bin .mod (.bi .int [(.bin .pow (.bin .add (.bin .add (.sub (.var 0) (.cst (.int 3))) (.bin .mul (.cst (.int 8191)) (.sub (.var 0) (.cst (.int 2))))) (.cst (.int 50021))) (.cst (.int 5)))]) (.cst (.int 2147483587))) []),
  (.ret (some (.bin .mod (.bin .mod (.bi .int [(.bin .pow (.bin .add (.bin .add (.bin .mul (.var 2) (.cst (.int 40009))) (.bin .mul (.cst (.int 20011)) (.sub (.var 0) (.cst (.int 2))))) (.cst (.int 31))) (.cst (.int 3)))]) (.cst (.int 1000000009))) (.var 1))))]⟩
def d__law_pick : Dn := ⟨2, 2, [.S, .S], .S, [(.ret (some (.sub (.var 1) (.call 11 [(.var 0), (.bi .len [(.var 1)])] []))))]⟩
def d__law_same : Dn := ⟨2, 4, [.S, .S, .S, .S], .I, [(.iff (.isi (.var 1) [.list, .tuple] false) [(.iff (.bop false [(.cmp .ne (.isi (.var 0) [.list] true) (.isi (.var 1) [.list] true)), (.cmp .ne (.isi (.var 0) [.tuple] true) (.isi (.var 1) [.tuple] true))]) [(.ret (some (.cst (.bl false))))] []), (.ret (some (.bop true [(.cmp .eq (.bi .len [(.var 0)]) (.bi .len [(.var 1)])), (.bi .all [(.lc (.call 13 [(.var 2), (.var 3)] []) (.tp [(.nm 2), (.nm 3)]) (.zip (.var 0) (.var 1)) none)])])))] []),
  (.iff (.isi (.var 1) [.dict] true) [.never] []),
  (.iff (.bop false [(.isi (.var 1) [.bool] true), (.isi (.var 0) [.bool] true)]) [(.ret (some (.bop true [(.isi (.var 1) [.bool] true), (.isi (.var 0) [.bool] true), (.cmp .eq (.var 0) (.var 1))])))] []),
  (.iff (.bop false [(.cmp .isN (.var 1) (.cst .non)), (.cmp .isN (.var 0) (.cst .non))]) [(.ret (some (.bop true [(.cmp .isN (.var 1) (.cst .non)), (.cmp .isN (.var 0) (.cst .non))])))] []),
  (.iff (.bop false [(.cmp .ne (.isi (.var 1) [.int] true) (.isi (.var 0) [.int] true)), (.cmp .ne (.isi (.var 1) [.str] true) (.isi (.var 0) [.str] true))]) [(.ret (some (.cst (.bl false))))] []),
  (.ret (some (.bop true [(.nt (.isi (.var 0) [.list, .tuple, .dict] false)), (.cmp .eq (.var 0) (.var 1))])))]⟩
def d__law_counts_of : Dn := ⟨2, 8, [.S, .S, .D, .S, .S, .S, .S, .S], .S, [(.asg 2 (.bin .add (.lst [(false, (.cst (.int 1)))]) (.flat (.bin .mul (.lst [(false, (.cst (.int 0)))]) (.var 0)))) []),
  (.for (.nm 3) (.rng2 (.cst (.int 1)) (.bin .add (.var 0) (.cst (.int 1)))) [(.for (.nm 4) (.rng1 (.ite (.cmp .eq (.var 1) (.cst (.str "cube"))) (.cst (.int 3)) (.cst (.int 1)))) [(.asg 5 (.bop false [(.cmp .ne (.var 1) (.cst (.str "half"))), (.cmp .eq (.bin .mod (.bi .int [(.var 3)]) (.cst (.int 2))) (.cst (.int 0)))]) []), (.iff (.var 5) [(.asg 2 (.lc (.bin .sub (.imm (.sub (.var 2) (.var 7))) (.ite (.cmp .ge (.var 7) (.var 3)) (.imm (.sub (.var 2) (.bin .sub (.var 7) (.var 3)))) (.cst (.int 0)))) (.nm 7) (.rng1 (.bin .add (.var 0) (.cst (.int 1)))) none) [])] []), (.asg 6 (.ite (.cmp .eq (.var 1) (.cst (.str "signed"))) (.un (.cst (.int 1))) (.ite (.bop true [(.cmp .eq (.var 1) (.cst (.str "half"))), (.nt (.var 5))]) (.cst (.int 1)) (.cst (.int 0)))) []), (.for (.nm 7) (.seq (.ite (.cmp .ne (.var 6) (.cst (.int 0))) (.lof false (.rng2 (.var 3) (.bin .add (.var 0) (.cst (.int 1))))) (.lst []))) [(.set 2 (.var 7) (.bin .add (.imm (.sub (.var 2) (.var 7))) (.imm (.bin .mul (.var 6) (.imm (.sub (.var 2) (.bin .sub (.var 7) (.var 3))))))) [])] [])] [])] []),
  (.ret (some (.imm (.sub (.var 2) (.var 0)))))]⟩
def d__law_by_rule : Dn := ⟨1, 3, [.S, .D, .S], .D, [(.asg 1 (.lst [(false, (.cst (.int 0))), (false, (.cst (.int 0))), (false, (.cst (.int 0)))]) []),
  (.for (.nm 2) (.rng1 (.bin .add (.var 0) (.cst (.int 1)))) [(.iff (.cmp .eq (.bin .mul (.var 2) (.bin .add (.var 2) (.cst (.int 1)))) (.bin .mul (.cst (.int 2)) (.var 0))) [(.set 1 (.cst (.int 0)) (.ite (.cmp .eq (.bin .mod (.bi .int [(.var 2)]) (.cst (.int 2))) (.cst (.int 0))) (.imm (.bin .add (.bin .mul (.cst (.int 2)) (.var 2)) (.cst (.int 1)))) (.bin .sub (.bin .sub (.cst (.int 0)) (.bin .mul (.cst (.int 2)) (.var 2))) (.cst (.int 1)))) []), (.set 1 (.cst (.int 2)) (.cst (.int 1)) [])] []), (.iff (.cmp .eq (.bin .mul (.var 2) (.var 2)) (.var 0)) [(.set 1 (.cst (.int 1)) (.ite (.cmp .eq (.var 2) (.cst (.int 0))) (.cst (.int 1)) (.ite (.cmp .eq (.bin .mod (.bi .int [(.var 2)]) (.cst (.int 2))) (.cst (.int 0))) (.cst (.int 2)) (.un (.cst (.int 2))))) [])] [])] []),
  (.ret (some (.var 1)))]⟩
def d__law_ways : Dn := ⟨1, 6, [.S, .D, .S, .S, .S, .S], .D, [(.asg 1 (.flat (.bin .mul (.lst [(false, (.cst (.int 0)))]) (.bin .add (.var 0) (.cst (.int 1))))) []),
  (.for (.nm 2) (.rng2 (.un (.cst (.int 15))) (.cst (.int 16))) [(.iff (.cmp .le (.bin .mul (.var 2) (.var 2)) (.var 0)) [(.set 1 (.bin .mul (.var 2) (.var 2)) (.bin .add (.imm (.sub (.var 1) (.bin .mul (.var 2) (.var 2)))) (.cst (.int 1))) [])] [])] []),
  (.asg 3 (.lc (.bi .sum [(.lc (.bin .mul (.imm (.sub (.var 1) (.var 5))) (.imm (.sub (.var 1) (.bin .sub (.var 4) (.var 5))))) (.nm 5) (.rng1 (.bin .add (.var 4) (.cst (.int 1)))) none)]) (.nm 4) (.rng1 (.bin .add (.var 0) (.cst (.int 1)))) none) []),
  (.ret (some (.lst [(false, (.imm (.sub (.var 3) (.var 0)))), (false, (.bi .sum [(.lc (.bin .mul (.sub (.var 3) (.var 5)) (.sub (.var 3) (.bin .sub (.var 0) (.var 5)))) (.nm 5) (.rng1 (.bin .add (.var 0) (.cst (.int 1)))) none)]))])))]⟩
def d_law : Dn := ⟨1, 12, [.S, .D, .D, .S, .S, .S, .S, .S, .S, .S, .S, .S], .I, [(.asg 1 (.call 10 [(.var 0)] []) []),
  (.mkbox 1),
  (.asg 2 (.lc (.call 11 [(.imm (.var 1)), (.cst (.int 61))] []) (.nm 9) (.rng1 (.cst (.int 4))) none) []),
  (.app 2 (.imm (.call 12 [(.imm (.var 1)), (.lst [(false, (.cst (.int 0))), (false, (.cst (.int 1))), (false, (.cst (.int 3))), (false, (.cst (.int 4))), (false, (.cst (.int 6))), (false, (.cst (.int 9))), (false, (.cst (.int 10))), (false, (.cst (.int 16))), (false, (.cst (.int 21))), (false, (.cst (.int 36))), (false, (.cst (.int 45))), (false, (.cst (.int 55)))])] [])) []),
  (.for (.nm 3) (.seq (.var 2)) [(.asg 4 (.lc (.call 14 [(.var 3), (.var 10)] []) (.nm 10) (.seq (.tup [(.cst (.str "cube")), (.cst (.str "signed")), (.cst (.str "half"))])) none) []), (.iff (.nt (.call 13 [(.var 4), (.call 15 [(.var 3)] [])] [])) [(.ret (some (.cst (.bl false))))] []), (.asg 5 (.lst [(false, (.call 4 [(.var 3)] [])), (false, (.call 5 [(.var 3)] [])), (false, (.call 6 [(.var 3)] []))]) []), (.iff (.nt (.call 13 [(.var 5), (.var 4)] [])) [(.ret (some (.cst (.bl false))))] []), (.asg 5 (.lst [(false, (.call 4 [] [(0, (.var 3))])), (false, (.call 5 [] [(0, (.var 3))])), (false, (.call 6 [] [(0, (.var 3))]))]) []), (.iff (.nt (.call 13 [(.var 5), (.var 4)] [])) [(.ret (some (.cst (.bl false))))] [])] [2]),
  (.for (.nm 3) (.seq (.bin .add (.lc (.call 11 [(.imm (.var 1)), (.cst (.int 201))] []) (.nm 9) (.rng1 (.cst (.int 5))) none) (.lst [(false, (.call 11 [(.imm (.var 1)), (.cst (.int 4))] []))]))) [(.asg 4 (.call 16 [(.var 3)] []) []), (.iff (.nt (.call 13 [(.lst [(false, (.call 8 [(.var 3)] [])), (false, (.call 9 [(.var 3)] []))]), (.var 4)] [])) [(.ret (some (.cst (.bl false))))] []), (.iff (.nt (.call 13 [(.lst [(false, (.call 8 [] [(0, (.var 3))])), (false, (.call 9 [] [(0, (.var 3))]))]), (.var 4)] [])) [(.ret (some (.cst (.bl false))))] []), (.asg 6 (.lc (.var 11) (.nm 11) (.rng2 (.cst (.int 1)) (.bin .add (.var 3) (.cst (.int 1)))) (some (.cmp .eq (.bin .mod (.bi .int [(.var 3)]) (.var 11)) (.cst (.int 0))))) []), (.asg 7 (.bi .sum [(.lc (.sub (.lst [(false, (.cst (.int 0))), (false, (.cst (.int 1))), (false, (.cst (.int 0))), (false, (.un (.cst (.int 1))))]) (.bin .mod (.bi .int [(.var 11)]) (.cst (.int 4)))) (.nm 11) (.seq (.var 6)) none)]) []), (.asg 8 (.bi .sum [(.lc (.var 11) (.nm 11) (.seq (.var 6)) (some (.cmp .ne (.bin .mod (.bi .int [(.var 11)]) (.cst (.int 4))) (.cst (.int 0)))))]) []), (.iff (.bop true [(.cmp .gt (.var 3) (.cst (.int 0))), (.cmp .ne (.var 4) (.lst [(false, (.bin .mul (.cst (.int 4)) (.var 7))), (false, (.bin .mul (.cst (.int 8)) (.var 8)))]))]) [(.ret (some (.cst (.bl false))))] [])] []),
  (.ret (some (.cst (.bl true))))]⟩
def Δ : List Dn := [d_is_whole, d_check_number, d_with_unlike, d_with_often, d_cube_count, d_signed_count, d_half_count, d_ways_of_squares, d_two_squares, d_four_squares, d__law_stream, d__law_draw, d__law_pick, d__law_same, d__law_counts_of, d__law_by_rule, d__law_ways, d_law]
def Ns : List (List Str) := [["thing"], ["number"], ["counts", "part", "total", "many"], ["counts", "part", "sign", "found", "total"], ["number", "counts", "part", "_"], ["number", "counts", "part"], ["number", "counts", "part"], ["number", "many", "counts", "_", "later", "root", "total"], ["number"], ["number"], ["script"], ["stream", "many", "mixed", "cell", "digit"], ["stream", "things"], ["found", "due", "mine", "theirs"], ["number", "sort", "found", "part", "turn", "is_once", "often", "at"], ["number", "found", "step"], ["number", "ones", "one", "twos", "total", "at"], ["script", "stream", "numbers", "number", "due", "found", "divisors", "first", "second", "turn", "sort", "one"]]
def fis : List Fi := [⟨"is_whole", ["thing"], [(1, [])]⟩, ⟨"check_number", ["number"], [(1, [])]⟩, ⟨"with_unlike", ["counts", "part"], [(2, [])]⟩, ⟨"with_often", ["counts", "part", "sign"], [(3, [])]⟩, ⟨"cube_count", ["number"], [(0, [0]), (1, [])]⟩, ⟨"signed_count", ["number"], [(0, [0]), (1, [])]⟩, ⟨"half_count", ["number"], [(0, [0]), (1, [])]⟩, ⟨"ways_of_squares", ["number", "many"], [(2, [])]⟩, ⟨"two_squares", ["number"], [(0, [0]), (1, [])]⟩, ⟨"four_squares", ["number"], [(0, [0]), (1, [])]⟩, ⟨"_law_stream", ["script"], [(1, [])]⟩, ⟨"_law_draw", ["stream", "many"], [(2, [])]⟩, ⟨"_law_pick", ["stream", "things"], [(2, [])]⟩, ⟨"_law_same", ["found", "due"], [(2, [])]⟩, ⟨"_law_counts_of", ["number", "sort"], [(2, [])]⟩, ⟨"_law_by_rule", ["number"], [(1, [])]⟩, ⟨"_law_ways", ["number"], [(1, [])]⟩, ⟨"law", ["script"], [(1, [])]⟩]
def blt : List Str := ["ValueError", "abs", "all", "bool", "dict", "enumerate", "int", "isinstance", "len", "list", "range", "str", "sum", "tuple", "zip"]
def dfs : List Df := [⟨d_is_whole, ["thing"], defArgs (top 1), defBody (top 1), defScope (top 1)⟩, ⟨d_check_number, ["number"], defArgs (top 6), defBody (top 6), defScope (top 6)⟩, ⟨d_with_unlike, ["counts", "part", "total", "many"], defArgs (top 8), defBody (top 8), defScope (top 8)⟩, ⟨d_with_often, ["counts", "part", "sign", "found", "total"], defArgs (top 9), defBody (top 9), defScope (top 9)⟩, ⟨d_cube_count, ["number", "counts", "part", "_"], defArgs (top 10), defBody (top 10), defScope (top 10)⟩, ⟨d_signed_count, ["number", "counts", "part"], defArgs (top 11), defBody (top 11), defScope (top 11)⟩, ⟨d_half_count, ["number", "counts", "part"], defArgs (top 12), defBody (top 12), defScope (top 12)⟩, ⟨d_ways_of_squares, ["number", "many", "counts", "_", "later", "root", "total"], defArgs (top 13), defBody (top 13), defScope (top 13)⟩, ⟨d_two_squares, ["number"], defArgs (top 14), defBody (top 14), defScope (top 14)⟩, ⟨d_four_squares, ["number"], defArgs (top 15), defBody (top 15), defScope (top 15)⟩, ⟨d__law_stream, ["script"], defArgs (top 17), defBody (top 17), defScope (top 17)⟩, ⟨d__law_draw, ["stream", "many", "mixed", "cell", "digit"], defArgs (top 18), defBody (top 18), defScope (top 18)⟩, ⟨d__law_pick, ["stream", "things"], defArgs (top 19), defBody (top 19), defScope (top 19)⟩, ⟨d__law_same, ["found", "due", "mine", "theirs"], defArgs (top 20), defBody (top 20), defScope (top 20)⟩, ⟨d__law_counts_of, ["number", "sort", "found", "part", "turn", "is_once", "often", "at"], defArgs (top 21), defBody (top 21), defScope (top 21)⟩, ⟨d__law_by_rule, ["number", "found", "step"], defArgs (top 22), defBody (top 22), defScope (top 22)⟩, ⟨d__law_ways, ["number", "ones", "one", "twos", "total", "at"], defArgs (top 23), defBody (top 23), defScope (top 23)⟩, ⟨d_law, ["script", "stream", "numbers", "number", "due", "found", "divisors", "first", "second", "turn", "sort", "one"], defArgs (top 24), defBody (top 24), defScope (top 24)⟩]
end Q

/-! D0: the law's draws, in plain Lean. -/
namespace MP
/-- the stream: the script's rest, the number in use, how many draws, the mix -/
def sB (ns : List Int) (a c s : Int) : T := .lst [.lst (ns.map .int), .int a, .int c, .int s]
theorem boxlessL_ints (ns : List Int) : boxlessL (ns.map T.int) = true := by
  induction ns with
  | nil => rfl
  | cons n ns ih => simp [boxlessL, boxless, ih]
theorem datumL_ints (d : Nat) (ns : List Int) : datumL d (ns.map T.int) = true := by
  induction ns with
  | nil => rfl
  | cons n ns ih => simp [datumL, datum, ih]
theorem sB_boxless (ns : List Int) (a c s : Int) : boxless (sB ns a c s) = true := by
  simp [sB, boxless, boxlessL, boxlessL_ints]
variable {F : Fns} {W : Nat} {ρ : Env}
theorem sub0 (ns : List Int) (a c s : Int) : pSub (sB ns a c s) (.int 0) = some (.lst (ns.map .int)) := rfl
theorem sub1 (ns : List Int) (a c s : Int) : pSub (sB ns a c s) (.int 1) = some (.int a) := rfl
theorem sub2 (ns : List Int) (a c s : Int) : pSub (sB ns a c s) (.int 2) = some (.int c) := rfl
theorem sub3 (ns : List Int) (a c s : Int) : pSub (sB ns a c s) (.int 3) = some (.int s) := rfl
theorem set1 (ns : List Int) (a c s v : Int) : pSet (sB ns a c s) (.int 1) (.int v) = some (sB ns v c s) := rfl
theorem set2 (ns : List Int) (a c s v : Int) : pSet (sB ns a c s) (.int 2) (.int v) = some (sB ns a v s) := rfl
theorem set3 (ns : List Int) (a c s v : Int) : pSet (sB ns a c s) (.int 3) (.int v) = some (sB ns a c v) := rfl
theorem pop0 (n : Int) (ns : List Int) (a c s : Int) : popB (sB (n :: ns) a c s) 0 = some (.int n, sB ns a c s) := by
  have : boxless (.lst ([T.lst ((n :: ns).map .int), .int a, .int c, .int s].set 0 (.lst (ns.map .int)))) = true := sB_boxless ns a c s
  show (if nodeless (.int n) && boxless (.lst ([T.lst ((n :: ns).map .int), .int a, .int c, .int s].set 0 (.lst (ns.map .int)))) then some (T.int n, T.lst ([T.lst ((n :: ns).map .int), .int a, .int c, .int s].set 0 (.lst (ns.map .int)))) else none) = _
  rw [this] <;> rfl
/-- box[i] of the stream -/
theorem eSub (hρ : getV ρ 0 = some (.box 0)) {B : T} {i v : Int} (h : pSub B (.int i) = some (.int v)) : evE F ρ (.sub (.var 0) (.cst (.int i))) [B] = .ok (.int v) [B] := by
  rw [evE, evE, hρ]
  show Res.bind (.ok (T.box 0) [B]) _ = _
  rw [Res.bind_ok, evE, Res.bind_ok]
  show Res.bind (opt (pSub B (.int i)) [B]) _ = _
  rw [h] <;> rfl
theorem iBset (hρ : getV ρ 0 = some (.box 0)) {B B' : T} {i v : Int} {e : IE} (he : evE F ρ e [B] = .ok (.int v) [B]) (h : pSet B (.int i) (.int v) = some B') (hb : boxless B' = true) : evI1 F W (.bset 0 (.cst (.int i)) e) ρ [B] = .ok (.nx, ρ) [B'] := by
  rw [evI1, he, Res.bind_ok]
  have : getB ρ 0 = some 0 := by unfold getB; rw [hρ]
  rw [this]
  show Res.bind (.ok 0 [B]) _ = _
  rw [Res.bind_ok, evE, Res.bind_ok]
  show Res.bind (opt (pSet B (.int i) (.int v)) [B]) _ = _
  rw [h]
  show (if nodeless (.int v) && boxless B' then Res.ok (Fl.nx, ρ) [B'] else .stuck) = _
  rw [hb] <;> rfl
theorem eImm {e : IE} {μ μ' : Mem} {v : Int} (h : evE F ρ e μ = .ok (.int v) μ') : evE F ρ (.imm e) μ = .ok (.int v) μ' := by
  rw [evE, h] <;> rfl
theorem eBin {op : BOp} {a b : IE} {μ μ1 μ2 : Mem} {x y r : Int} (ha : evE F ρ a μ = .ok (.int x) μ1) (hb : evE F ρ b μ1 = .ok (.int y) μ2) (h : pBin op (.int x) (.int y) = some (.int r)) : evE F ρ (.bin op a b) μ = .ok (.int r) μ2 := by
  rw [evE, ha, Res.bind_ok, hb, Res.bind_ok]
  show opt (pBin op (.int x) (.int y)) μ2 = _
  rw [h] <;> rfl
theorem eCmp {op : COp} {a b : IE} {μ μ1 μ2 : Mem} {x y : Int} {r : Bool} (ha : evE F ρ a μ = .ok (.int x) μ1) (hb : evE F ρ b μ1 = .ok (.int y) μ2) (h : pCmp op (.int x) (.int y) = some r) : evE F ρ (.cmp op a b) μ = .ok (.bl r) μ2 := by
  rw [evE, ha, Res.bind_ok, hb, Res.bind_ok]
  show Res.bind (opt (pCmp op (.int x) (.int y)) μ2) _ = _
  rw [h] <;> rfl
theorem eInt {e : IE} {μ μ' : Mem} {v : Int} (h : evE F ρ e μ = .ok (.int v) μ') : evE F ρ (.bi .int [e]) μ = .ok (.int v) μ' := by
  rw [evE, evL, h] <;> rfl
theorem eAbs {e : IE} {μ μ' : Mem} {v : Int} (h : evE F ρ e μ = .ok (.int v) μ') : evE F ρ (.bi .abs [e]) μ = .ok (.int (if v < 0 then -v else v)) μ' := by
  rw [evE, evL, h] <;> rfl
theorem eCst {μ : Mem} {v : Int} : evE F ρ (.cst (.int v)) μ = .ok (.int v) μ := rfl
theorem eVar {μ : Mem} {i : Nat} {t : T} (h : getV ρ i = some t) : evE F ρ (.var i) μ = .ok t μ := by rw [evE, h] <;> rfl
theorem pMul_c {i j : Int} (h : inMul j = true) : pBin .mul (.int i) (.int j) = some (.int (i * j)) := by
  show (if inMul i || inMul j || _ then _ else _) = _
  rw [h, Bool.or_true, Bool.true_or] <;> rfl
theorem pMul_l {i j : Int} (h : inMul i = true) : pBin .mul (.int i) (.int j) = some (.int (i * j)) := by
  show (if inMul i || inMul j || _ then _ else _) = _
  rw [h, Bool.true_or, Bool.true_or] <;> rfl
theorem pMod {i j : Int} (h : j ≠ 0) : pBin .mod (.int i) (.int j) = some (.int (i.fmod j)) := by
  show (if decide (j ≠ 0) then _ else _) = _
  rw [decide_eq_true h] <;> rfl
theorem pFdiv {i j : Int} (h : j ≠ 0) (h2 : Nat.blt j.natAbs 1073741824 = true) : pBin .fdiv (.int i) (.int j) = some (.int (i.fdiv j)) := by
  show (if decide (j ≠ 0) && (Nat.blt j.natAbs 1073741824 || _) then _ else _) = _
  rw [decide_eq_true h, h2] <;> rfl
theorem pPow {i : Int} {j : Nat} (h : Nat.blt i.natAbs (2 ^ 64) = true) (hj : j ≤ 1000000) : pBin .pow (.int i) (.int (j : Int)) = some (.int (i ^ j)) := by
  show (if decide (0 ≤ (j : Int)) && decide ((j : Int) ≤ 1000000) && Nat.blt i.natAbs (2 ^ 64) then some (T.int (i ^ (j : Int).toNat)) else none) = _
  rw [h, decide_eq_true (by omega), decide_eq_true (by omega)] <;> rfl
end MP

/-! D1: a draw gives a number below many, and leaves the stream a stream. -/
namespace MP
def wBody : List IS := [(.asg 3 (.bi .abs [(.popAt 0 (.cst (.int 0)) (.cst (.int 0)))]) []), (.bset 0 (.cst (.int 3)) (.imm (.bin .mod (.bi .int [(.bin .add (.bin .add (.bin .mul (.sub (.var 0) (.cst (.int 3))) (.cst (.int 6151))) (.var 3)) (.cst (.int 7)))]) (.cst (.int 2147483629))))), (.bset 0 (.cst (.int 1)) (.imm (.ite (.cmp .ge (.var 3) (.bin .pow (.cst (.int 10)) (.cst (.int 18)))) (.imm (.var 3)) (.imm (.cst (.int 0))))))]
def wTest : IE := .bop true [(.cmp .eq (.sub (.var 0) (.cst (.int 1))) (.cst (.int 0))), (.neNil 0 (.cst (.int 0)))]
def dDraw : Dn := ⟨2, 5, [.S, .S, .S, .S, .S], .I, [(.bset 0 (.cst (.int 2)) (.imm (.bin .add (.sub (.var 0) (.cst (.int 2))) (.cst (.int 1))))),
  (.wh wTest wBody),
  (.iff (.cmp .gt (.sub (.var 0) (.cst (.int 1))) (.cst (.int 0))) [(.asg 4 (.bin .mod (.bi .int [(.sub (.var 0) (.cst (.int 1)))]) (.var 1)) []), (.bset 0 (.cst (.int 1)) (.imm (.bin .fdiv (.sub (.var 0) (.cst (.int 1))) (.var 1)))), (.ret (some (.var 4)))] []),
  (.asg 2 (.bin .mod (.bi .int [(.bin .pow (.bin .add (.bin .add (.sub (.var 0) (.cst (.int 3))) (.bin .mul (.cst (.int 8191)) (.sub (.var 0) (.cst (.int 2))))) (.cst (.int 50021))) (.cst (.int 5)))]) (.cst (.int 2147483587))) []),
  (.ret (some (.bin .mod (.bin .mod (.bi .int [(.bin .pow (.bin .add (.bin .add (.bin .mul (.var 2) (.cst (.int 40009))) (.bin .mul (.cst (.int 20011)) (.sub (.var 0) (.cst (.int 2))))) (.cst (.int 31))) (.cst (.int 3)))]) (.cst (.int 1000000009))) (.var 1))))]⟩
variable {F : Fns} {W : Nat}
/-- a slot set -/
theorem getV_setT {ρ : Env} {i j : Nat} {o : Option T} (h : i < ρ.length) : getV (ρ.set i o) j = if j = i then o else getV ρ j := by
  unfold getV
  by_cases e : j = i
  · subst e
    rw [List.getElem?_set_self h, if_pos rfl]
    cases o <;> rfl
  · rw [List.getElem?_set_ne (fun z => e z.symm), if_neg e]
structure Sl (ρ : Env) (m : Int) : Prop where
  len : ρ.length = 5
  b : getV ρ 0 = some (.box 0)
  m : getV ρ 1 = some (.int m)
theorem Sl.set {ρ : Env} {m : Int} (h : Sl ρ m) {i : Nat} (hi : i ≠ 0 ∧ i ≠ 1) (o : Option T) : Sl (ρ.set i o) m := by
  by_cases hl : i < ρ.length
  · exact ⟨by rw [List.length_set]; exact h.len, by rw [getV_setT hl, if_neg (fun z => hi.1 z.symm)]; exact h.b, by rw [getV_setT hl, if_neg (fun z => hi.2 z.symm)]; exact h.m⟩
  · rw [List.set_eq_of_length_le (by omega)]; exact h
theorem wTest_ok {ρ : Env} {m : Int} (h : Sl ρ m) (ns : List Int) (a c s : Int) : evE F ρ wTest [sB ns a c s] = .ok (.bl (decide (a = 0) && !ns.isEmpty)) [sB ns a c s] := by
  have h1 : evE F ρ (.cmp .eq (.sub (.var 0) (.cst (.int 1))) (.cst (.int 0))) [sB ns a c s] = .ok (.bl (decide (a = 0))) [sB ns a c s] := eCmp (eSub h.b (sub1 ns a c s)) eCst rfl
  have h2 : evE F ρ (.neNil 0 (.cst (.int 0))) [sB ns a c s] = .ok (.bl (!ns.isEmpty)) [sB ns a c s] := by
    rw [evE, h.b]
    show Res.bind (.ok (T.int 0) [sB ns a c s]) _ = _
    rw [Res.bind_ok]
    show (if datum 60 (.lst (ns.map T.int)) then (Res.ok (T.bl (!(ns.map T.int).isEmpty)) [sB ns a c s] : Res T) else .stuck) = _
    have : datum 60 (.lst (ns.map T.int)) = true := datumL_ints 59 ns
    rw [this, if_pos rfl]
    cases ns <;> rfl
  show Res.bind (evE F ρ (.cmp .eq (.sub (.var 0) (.cst (.int 1))) (.cst (.int 0))) [sB ns a c s]) _ = _
  rw [h1, Res.bind_ok]
  cases hd : decide (a = 0) with
  | false => rfl
  | true =>
    show evE F ρ (.neNil 0 (.cst (.int 0))) [sB ns a c s] = _
    rw [h2] <;> rfl
def nAbs (n : Int) : Int := if n < 0 then -n else n
def mix (s n : Int) : Int := (s * 6151 + nAbs n + 7).fmod 2147483629
def useN (n : Int) : Int := if 1000000000000000000 ≤ nAbs n then nAbs n else 0
theorem wBody_ok {ρ : Env} {m : Int} (h : Sl ρ m) (n : Int) (ns : List Int) (a c s : Int) : evIs F W wBody ρ [sB (n :: ns) a c s] = .ok (.nx, ρ.set 3 (some (.int (nAbs n)))) [sB ns (useN n) c (mix s n)] := by
  have h3 : 3 < ρ.length := by rw [h.len]; decide
  have e1 : evE F ρ (.popAt 0 (.cst (.int 0)) (.cst (.int 0))) [sB (n :: ns) a c s] = .ok (.int n) [sB ns a c s] := by
    rw [evE, h.b]
    show (match popB (sB (n :: ns) a c s) 0 with | some r => Res.ok r.1 [r.2] | none => .stuck) = _
    rw [pop0]
  have s1 : evI1 F W (.asg 3 (.bi .abs [(.popAt 0 (.cst (.int 0)) (.cst (.int 0)))]) []) ρ [sB (n :: ns) a c s] = .ok (.nx, ρ.set 3 (some (.int (nAbs n)))) [sB ns a c s] := by
    rw [evI1, eAbs e1] <;> rfl
  have h' := h.set (i := 3) (by decide) (some (.int (nAbs n)))
  have v3 : getV (ρ.set 3 (some (.int (nAbs n)))) 3 = some (.int (nAbs n)) := by rw [getV_setT h3, if_pos rfl]
  generalize ρ.set 3 (some (.int (nAbs n))) = ρ' at s1 h' v3 ⊢
  have s2 : evI1 F W (.bset 0 (.cst (.int 3)) (.imm (.bin .mod (.bi .int [(.bin .add (.bin .add (.bin .mul (.sub (.var 0) (.cst (.int 3))) (.cst (.int 6151))) (.var 3)) (.cst (.int 7)))]) (.cst (.int 2147483629))))) ρ' [sB ns a c s] = .ok (.nx, ρ') [sB ns a c (mix s n)] :=
    iBset h'.b (eImm (eBin (eInt (eBin (eBin (eBin (eSub h'.b (sub3 ns a c s)) eCst (pMul_c (by decide))) (eVar v3) rfl) eCst rfl)) eCst (pMod (by decide)))) (set3 ns a c s _) (sB_boxless _ _ _ _)
  have p10 : pBin .pow (.int 10) (.int 18) = some (.int 1000000000000000000) := by rfl
  have s3 : evI1 F W (.bset 0 (.cst (.int 1)) (.imm (.ite (.cmp .ge (.var 3) (.bin .pow (.cst (.int 10)) (.cst (.int 18)))) (.imm (.var 3)) (.imm (.cst (.int 0)))))) ρ' [sB ns a c (mix s n)] = .ok (.nx, ρ') [sB ns (useN n) c (mix s n)] := by
    refine iBset h'.b (eImm ?_) (set1 ns a c (mix s n) _) (sB_boxless _ _ _ _)
    have hc : evE F ρ' (.cmp .ge (.var 3) (.bin .pow (.cst (.int 10)) (.cst (.int 18)))) [sB ns a c (mix s n)] = .ok (.bl (decide (1000000000000000000 ≤ nAbs n))) [sB ns a c (mix s n)] := eCmp (eVar v3) (eBin eCst eCst p10) rfl
    rw [evE, hc, Res.bind_ok]
    unfold useN
    by_cases hd : 1000000000000000000 ≤ nAbs n
    · rw [decide_eq_true hd, if_pos hd]
      exact eImm (eVar v3)
    · rw [decide_eq_false hd, if_neg hd] <;> rfl
  show evIs F W [_, _, _] ρ [sB (n :: ns) a c s] = _
  rw [evIs, s1, Res.bind_ok]
  show evIs F W [_, _] ρ' [sB ns a c s] = _
  rw [evIs, s2, Res.bind_ok]
  show evIs F W [_] ρ' _ = _
  rw [evIs, s3, Res.bind_ok] <;> rfl
/-- the loop ends: nothing is left, or a great number is in useN -/
theorem wh_ok {m c : Int} : ∀ (ns : List Int) {ρ : Env} (a s : Int) (k : Nat), ns.length < k → Sl ρ m → 0 ≤ a → 0 ≤ s → s < 2147483629 →
    ∃ ns' a' s' ρ', whLoop (fun ρ μ => evE F ρ wTest μ) (fun ρ μ => evIs F W wBody ρ μ) k ρ [sB ns a c s] = .ok (.nx, ρ') [sB ns' a' c s'] ∧ Sl ρ' m ∧ ns'.length ≤ ns.length ∧ 0 ≤ a' ∧ 0 ≤ s' ∧ s' < 2147483629
  | [], ρ, a, s, k + 1, hk, h, ha, h0, h1 => by
    refine ⟨[], a, s, ρ, ?_, h, Nat.le_refl _, ha, h0, h1⟩
    show Res.bind (evE F ρ wTest [sB [] a c s]) _ = _
    rw [wTest_ok h, Res.bind_ok]
    simp
  | n :: ns, ρ, a, s, k + 1, hk, h, ha, h0, h1 => by
    by_cases hz : a = 0
    · have hs : 0 ≤ mix s n ∧ mix s n < 2147483629 := by
        unfold mix
        rw [Int.fmod_eq_emod_of_nonneg _ (by decide)]
        exact ⟨Int.emod_nonneg _ (by decide), Int.emod_lt_of_pos _ (by decide)⟩
      have hu : 0 ≤ useN n := by
        unfold useN
        split
        · omega
        · decide
      obtain ⟨ns', a', s', ρ', e, q1, q2, q3, q4, q5⟩ := wh_ok ns (c := c) (useN n) (mix s n) k (by simp at hk; omega) (h.set (i := 3) (by decide) (some (.int (nAbs n)))) hu hs.1 hs.2
      refine ⟨ns', a', s', ρ', ?_, q1, by simp; omega, q3, q4, q5⟩
      show Res.bind (evE F ρ wTest [sB (n :: ns) a c s]) _ = _
      rw [wTest_ok h, Res.bind_ok, decide_eq_true hz]
      show Res.bind (evIs F W wBody ρ [sB (n :: ns) a c s]) _ = _
      rw [wBody_ok h, Res.bind_ok]
      exact e
    · refine ⟨n :: ns, a, s, ρ, ?_, h, Nat.le_refl _, ha, h0, h1⟩
      show Res.bind (evE F ρ wTest [sB (n :: ns) a c s]) _ = _
      rw [wTest_ok h, Res.bind_ok, decide_eq_false hz] <;> rfl
/-- a stream with c draws made -/
def IsStream (B : T) (c : Nat) : Prop := ∃ (ns : List Int) (a s : Int), B = sB ns a (c : Int) s ∧ ns.length ≤ 63 ∧ 0 ≤ a ∧ 0 ≤ s ∧ s < 2147483629
theorem draw_ok {B : T} {c : Nat} (h : IsStream B c) (hc : c < 1000000) (hW : 64 ≤ W) {m : Int} (hm : 0 < m) (hm2 : m < 1073741824) : ∃ (d : Int) (B' : T), runD F W dDraw [.box 0, .int m] [B] = .ok (.int d) [B'] ∧ 0 ≤ d ∧ d < m ∧ IsStream B' (c + 1) := by
  obtain ⟨ns, a, s, rfl, hl, ha, h0, h1⟩ := h
  let ρ : Env := [some (.box 0), some (.int m), none, none, none]
  have hρ : Sl ρ m := ⟨rfl, rfl, rfl⟩
  have s1 : evI1 F W (.bset 0 (.cst (.int 2)) (.imm (.bin .add (.sub (.var 0) (.cst (.int 2))) (.cst (.int 1))))) ρ [sB ns a c s] = .ok (.nx, ρ) [sB ns a ((c : Int) + 1) s] :=
    iBset hρ.b (eImm (eBin (eSub hρ.b (sub2 ns a c s)) eCst rfl)) (set2 ns a c s _) (sB_boxless _ _ _ _)
  obtain ⟨ns', a', s', ρ', e2, hρ', l', ha', h0', h1'⟩ := wh_ok (F := F) (W := W) (m := m) (c := (c : Int) + 1) ns a s W (by omega) hρ ha h0 h1
  have cc : ((c : Int) + 1) = ((c + 1 : Nat) : Int) := by omega
  rw [cc] at s1 e2
  have st : ∀ a'', 0 ≤ a'' → IsStream (sB ns' a'' ((c + 1 : Nat) : Int) s') (c + 1) := fun a'' q => ⟨ns', a'', s', rfl, by omega, q, h0', h1'⟩
  have len2 : 2 < ρ'.length := by rw [hρ'.len]; decide
  have len4 : 4 < ρ'.length := by rw [hρ'.len]; decide
  have test : evE F ρ' (.cmp .gt (.sub (.var 0) (.cst (.int 1))) (.cst (.int 0))) [sB ns' a' ((c + 1 : Nat) : Int) s'] = .ok (.bl (decide (0 < a'))) [sB ns' a' ((c + 1 : Nat) : Int) s'] := eCmp (eSub hρ'.b (sub1 _ _ _ _)) eCst rfl
  have e3 : evI1 F W (.wh wTest wBody) ρ [sB ns a ((c + 1 : Nat) : Int) s] = .ok (.nx, ρ') [sB ns' a' ((c + 1 : Nat) : Int) s'] := by rw [evI1]; exact e2
  have fin : ∀ {d : Int} {ρ2 : Env} {B' : T}, evIs F W dDraw.body ρ [sB ns a c s] = .ok (.rt (.int d), ρ2) [B'] → runD F W dDraw [.box 0, .int m] [sB ns a c s] = .ok (.int d) [B'] := fun {d ρ2 B'} e => by
    show (match evIs F W dDraw.body ρ [sB ns a c s] with
      | .ok (.nx, _) μ' => outD .I 1 .non μ'
      | .ok (.rt t, _) μ' => outD .I 1 t μ'
      | .ok (.bk, _) _ => .stuck
      | .exc c t μ' => if Nat.ble μ'.length 1 then .exc c t μ' else if boxBelow 1 t then .exc c t (μ'.take 1) else .stuck
      | .stuck => .stuck) = _
    rw [e] <;> rfl
  have first : ∀ (rest : List IS), evIs F W (.bset 0 (.cst (.int 2)) (.imm (.bin .add (.sub (.var 0) (.cst (.int 2))) (.cst (.int 1)))) :: .wh wTest wBody :: rest) ρ [sB ns a c s] = evIs F W rest ρ' [sB ns' a' ((c + 1 : Nat) : Int) s'] := fun rest => by
    rw [evIs, s1, Res.bind_ok]
    show evIs F W (.wh wTest wBody :: rest) ρ _ = _
    rw [evIs, e3, Res.bind_ok]
  have mz : m ≠ 0 := by omega
  by_cases hp : 0 < a'
  · have md : 0 ≤ a'.fmod m ∧ a'.fmod m < m := by
      rw [Int.fmod_eq_emod_of_nonneg _ (by omega)]
      exact ⟨Int.emod_nonneg _ mz, Int.emod_lt_of_pos _ hm⟩
    have fd : 0 ≤ a'.fdiv m := by
      rw [Int.fdiv_eq_ediv_of_nonneg _ (by omega)]
      exact Int.ediv_nonneg ha' (by omega)
    refine ⟨a'.fmod m, _, fin (ρ2 := ρ'.set 4 (some (.int (a'.fmod m)))) (B' := sB ns' (a'.fdiv m) ((c + 1 : Nat) : Int) s') ?_, md.1, md.2, st _ fd⟩
    show evIs F W (_ :: _ :: _) ρ _ = _
    rw [first]
    have b1 : evI1 F W (.asg 4 (.bin .mod (.bi .int [(.sub (.var 0) (.cst (.int 1)))]) (.var 1)) []) ρ' [sB ns' a' ((c + 1 : Nat) : Int) s'] = .ok (.nx, ρ'.set 4 (some (.int (a'.fmod m)))) [sB ns' a' ((c + 1 : Nat) : Int) s'] := by
      rw [evI1, eBin (eInt (eSub hρ'.b (sub1 _ _ _ _))) (eVar hρ'.m) (pMod mz)] <;> rfl
    have h4 := hρ'.set (i := 4) (by decide) (some (.int (a'.fmod m)))
    have v4 : getV (ρ'.set 4 (some (.int (a'.fmod m)))) 4 = some (.int (a'.fmod m)) := by rw [getV_setT len4, if_pos rfl]
    have b2 : evI1 F W (.bset 0 (.cst (.int 1)) (.imm (.bin .fdiv (.sub (.var 0) (.cst (.int 1))) (.var 1)))) (ρ'.set 4 (some (.int (a'.fmod m)))) [sB ns' a' ((c + 1 : Nat) : Int) s'] = .ok (.nx, ρ'.set 4 (some (.int (a'.fmod m)))) [sB ns' (a'.fdiv m) ((c + 1 : Nat) : Int) s'] :=
      iBset h4.b (eImm (eBin (eSub h4.b (sub1 _ _ _ _)) (eVar h4.m) (pFdiv mz (Nat.ble_eq_true_of_le (by omega))))) (set1 _ _ _ _ _) (sB_boxless _ _ _ _)
    have b3 : evI1 F W (.iff (.cmp .gt (.sub (.var 0) (.cst (.int 1))) (.cst (.int 0))) [(.asg 4 (.bin .mod (.bi .int [(.sub (.var 0) (.cst (.int 1)))]) (.var 1)) []), (.bset 0 (.cst (.int 1)) (.imm (.bin .fdiv (.sub (.var 0) (.cst (.int 1))) (.var 1)))), (.ret (some (.var 4)))] []) ρ' [sB ns' a' ((c + 1 : Nat) : Int) s'] =
        .ok (.rt (.int (a'.fmod m)), ρ'.set 4 (some (.int (a'.fmod m)))) [sB ns' (a'.fdiv m) ((c + 1 : Nat) : Int) s'] := by
      rw [evI1, test, Res.bind_ok, decide_eq_true hp]
      show evIs F W [_, _, _] ρ' _ = _
      rw [evIs, b1, Res.bind_ok]
      show evIs F W [_, _] _ _ = _
      rw [evIs, b2, Res.bind_ok]
      show evIs F W [_] _ _ = _
      rw [evIs, evI1, eVar v4] <;> rfl
    rw [evIs, b3, Res.bind_ok]
  · have b3 : evI1 F W (.iff (.cmp .gt (.sub (.var 0) (.cst (.int 1))) (.cst (.int 0))) [(.asg 4 (.bin .mod (.bi .int [(.sub (.var 0) (.cst (.int 1)))]) (.var 1)) []), (.bset 0 (.cst (.int 1)) (.imm (.bin .fdiv (.sub (.var 0) (.cst (.int 1))) (.var 1)))), (.ret (some (.var 4)))] []) ρ' [sB ns' a' ((c + 1 : Nat) : Int) s'] =
        .ok (.nx, ρ') [sB ns' a' ((c + 1 : Nat) : Int) s'] := by
      rw [evI1, test, Res.bind_ok, decide_eq_false hp] <;> rfl
    generalize hx : ((s' + 8191 * ((c + 1 : Nat) : Int) + 50021) ^ 5).fmod 2147483587 = x
    have hx2 : 0 ≤ x ∧ x < 2147483587 := by
      rw [← hx, Int.fmod_eq_emod_of_nonneg _ (by decide)]
      exact ⟨Int.emod_nonneg _ (by decide), Int.emod_lt_of_pos _ (by decide)⟩
    generalize hy : (((x * 40009 + 20011 * ((c + 1 : Nat) : Int) + 31) ^ 3).fmod 1000000009).fmod m = y
    have hy2 : 0 ≤ y ∧ y < m := by
      rw [← hy, Int.fmod_eq_emod_of_nonneg _ (by omega : 0 ≤ m)]
      exact ⟨Int.emod_nonneg _ mz, Int.emod_lt_of_pos _ hm⟩
    refine ⟨y, _, fin (ρ2 := ρ'.set 2 (some (.int x))) (B' := sB ns' a' ((c + 1 : Nat) : Int) s') ?_, hy2.1, hy2.2, st _ ha'⟩
    show evIs F W (_ :: _ :: _) ρ _ = _
    rw [first, evIs, b3, Res.bind_ok]
    have b4 : evI1 F W (.asg 2 (.bin .mod (.bi .int [(.bin .pow (.bin .add (.bin .add (.sub (.var 0) (.cst (.int 3))) (.bin .mul (.cst (.int 8191)) (.sub (.var 0) (.cst (.int 2))))) (.cst (.int 50021))) (.cst (.int 5)))]) (.cst (.int 2147483587))) []) ρ' [sB ns' a' ((c + 1 : Nat) : Int) s'] = .ok (.nx, ρ'.set 2 (some (.int x))) [sB ns' a' ((c + 1 : Nat) : Int) s'] := by
      have hb : Nat.blt (s' + 8191 * ((c + 1 : Nat) : Int) + 50021).natAbs (2 ^ 64) = true := Nat.ble_eq_true_of_le (by omega)
      have e : evE F ρ' (.bin .mod (.bi .int [(.bin .pow (.bin .add (.bin .add (.sub (.var 0) (.cst (.int 3))) (.bin .mul (.cst (.int 8191)) (.sub (.var 0) (.cst (.int 2))))) (.cst (.int 50021))) (.cst (.int 5)))]) (.cst (.int 2147483587))) [sB ns' a' ((c + 1 : Nat) : Int) s'] = .ok (.int x) [sB ns' a' ((c + 1 : Nat) : Int) s'] := by
        rw [← hx]
        exact eBin (eInt (eBin (eBin (eBin (eSub hρ'.b (sub3 _ _ _ _)) (eBin eCst (eSub hρ'.b (sub2 _ _ _ _)) (pMul_l (by decide))) rfl) eCst rfl) eCst (pPow (j := 5) hb (by decide)))) eCst (pMod (by decide))
      rw [evI1, e] <;> rfl
    have h2 := hρ'.set (i := 2) (by decide) (some (.int x))
    have v2 : getV (ρ'.set 2 (some (.int x))) 2 = some (.int x) := by rw [getV_setT len2, if_pos rfl]
    have b5 : evI1 F W (.ret (some (.bin .mod (.bin .mod (.bi .int [(.bin .pow (.bin .add (.bin .add (.bin .mul (.var 2) (.cst (.int 40009))) (.bin .mul (.cst (.int 20011)) (.sub (.var 0) (.cst (.int 2))))) (.cst (.int 31))) (.cst (.int 3)))]) (.cst (.int 1000000009))) (.var 1)))) (ρ'.set 2 (some (.int x))) [sB ns' a' ((c + 1 : Nat) : Int) s'] =
        .ok (.rt (.int y), ρ'.set 2 (some (.int x))) [sB ns' a' ((c + 1 : Nat) : Int) s'] := by
      have hb : Nat.blt (x * 40009 + 20011 * ((c + 1 : Nat) : Int) + 31).natAbs (2 ^ 64) = true := Nat.ble_eq_true_of_le (by omega)
      have e : evE F (ρ'.set 2 (some (.int x))) (.bin .mod (.bin .mod (.bi .int [(.bin .pow (.bin .add (.bin .add (.bin .mul (.var 2) (.cst (.int 40009))) (.bin .mul (.cst (.int 20011)) (.sub (.var 0) (.cst (.int 2))))) (.cst (.int 31))) (.cst (.int 3)))]) (.cst (.int 1000000009))) (.var 1)) [sB ns' a' ((c + 1 : Nat) : Int) s'] = .ok (.int y) [sB ns' a' ((c + 1 : Nat) : Int) s'] := by
        rw [← hy]
        exact eBin (eBin (eInt (eBin (eBin (eBin (eBin (eVar v2) eCst (pMul_c (by decide))) (eBin eCst (eSub h2.b (sub2 _ _ _ _)) (pMul_l (by decide))) rfl) eCst rfl) eCst (pPow (j := 3) hb (by decide)))) eCst (pMod (by decide))) (eVar h2.m) (pMod mz)
      rw [evI1, e] <;> rfl
    show evIs F W [_, _] ρ' _ = _
    rw [evIs, b4, Res.bind_ok]
    show evIs F W [_] _ _ = _
    rw [evIs, b5, Res.bind_ok]
end MP

/-! D2: loops and comprehensions of the evaluator, in plain Lean. -/
namespace MP
theorem lcGo_map {f : T → Mem → Res (Option T)} {g : T → T} {μ : Mem} : ∀ {xs : List T} {n : Nat}, (∀ x ∈ xs, f x μ = .ok (some (g x)) μ) → n + xs.length ≤ line → lcGo f xs n μ = .ok (xs.map g) μ
  | [], n, _, _ => rfl
  | x :: xs, n, h, hl => by
    rw [List.length_cons] at hl
    have h1 := h x List.mem_cons_self
    have h2 := lcGo_map (f := f) (g := g) (μ := μ) (xs := xs) (n := n + 1) (fun y hy => h y (List.mem_cons_of_mem _ hy)) (by omega)
    show Res.bind (f x μ) _ = _
    rw [h1, Res.bind_ok]
    show (if Nat.blt n line = true then (lcGo f xs (n + 1) μ).bind fun r μ => .ok (g x :: r) μ else .stuck) = _
    have hb : Nat.blt n line = true := Nat.ble_eq_true_of_le (by omega)
    rw [hb, if_pos rfl, h2] <;> rfl
/-- with a test -/
theorem lcGo_filter {f : T → Mem → Res (Option T)} {g : T → Option T} {μ : Mem} : ∀ {xs : List T} {n : Nat}, (∀ x ∈ xs, f x μ = .ok (g x) μ) → n + xs.length ≤ line → lcGo f xs n μ = .ok (xs.filterMap g) μ
  | [], n, _, _ => rfl
  | x :: xs, n, h, hl => by
    rw [List.length_cons] at hl
    have h1 := h x List.mem_cons_self
    show Res.bind (f x μ) _ = _
    rw [h1, Res.bind_ok]
    cases hg : g x with
    | none =>
      have h2 := lcGo_filter (f := f) (g := g) (μ := μ) (xs := xs) (n := n) (fun y hy => h y (List.mem_cons_of_mem _ hy)) (by omega)
      rw [List.filterMap_cons_none hg]
      exact h2
    | some y =>
      have h2 := lcGo_filter (f := f) (g := g) (μ := μ) (xs := xs) (n := n + 1) (fun y hy => h y (List.mem_cons_of_mem _ hy)) (by omega)
      rw [List.filterMap_cons_some hg]
      show (if Nat.blt n line = true then (lcGo f xs (n + 1) μ).bind fun r μ => .ok (y :: r) μ else .stuck) = _
      have hb : Nat.blt n line = true := Nat.ble_eq_true_of_le (by omega)
      rw [hb, if_pos rfl, h2] <;> rfl
theorem forLoop_ok {f : T → Env → Mem → Res (Fl × Env)} {μ : Mem} (P : Nat → Env → Prop) : ∀ {xs : List T} {i : Nat} {ρ : Env}, P i ρ → (∀ j x ρ, xs[j]? = some x → P (i + j) ρ → ∃ ρ', f x ρ μ = .ok (.nx, ρ') μ ∧ P (i + j + 1) ρ') → ∃ ρ', forLoop f xs ρ μ = .ok (.nx, ρ') μ ∧ P (i + xs.length) ρ'
  | [], i, ρ, h, _ => ⟨ρ, rfl, h⟩
  | x :: xs, i, ρ, h, st => by
    obtain ⟨ρ1, e1, p1⟩ := st 0 x ρ rfl h
    obtain ⟨ρ2, e2, p2⟩ := forLoop_ok P (xs := xs) (i := i + 1) p1 (fun j y ρ hy p => by
      have e : i + 1 + j = i + (j + 1) := by omega
      rw [e] at p ⊢
      exact st (j + 1) y ρ (by simpa using hy) p)
    refine ⟨ρ2, ?_, by rw [List.length_cons, show i + (xs.length + 1) = i + 1 + xs.length by omega]; exact p2⟩
    show Res.bind (f x ρ μ) _ = _
    rw [e1, Res.bind_ok]
    exact e2
/-- items of a list of ints -/
theorem atT_ints {xs : List Int} {i : Nat} {v : Int} (h : xs[i]? = some v) : atT (xs.map T.int) (i : Int) = some (.int v) := by
  have hi : i < xs.length := (List.getElem?_eq_some_iff.mp h).1
  have e : L2.ixN (xs.map T.int).length (i : Int) = some i := by
    unfold L2.ixN
    rw [List.length_map, if_pos (by omega), if_pos (by omega)] <;> simp
  unfold atT
  rw [e]
  show (xs.map T.int)[i]? = _
  rw [List.getElem?_map, h] <;> rfl
theorem setT_ints {xs : List Int} {i : Nat} {v : Int} (hi : i < xs.length) : pSet (.lst (xs.map T.int)) (.int (i : Int)) (.int v) = some (.lst ((xs.set i v).map T.int)) := by
  have e : L2.ixN (xs.map T.int).length (i : Int) = some i := by
    unfold L2.ixN
    rw [List.length_map, if_pos (by omega), if_pos (by omega)] <;> simp
  show (match L2.ixN (xs.map T.int).length (i : Int) with | some j => some (T.lst ((xs.map T.int).set j (.int v))) | none => none) = _
  rw [e, List.map_set]
theorem intsOf_map : ∀ xs : List Int, intsOf (xs.map T.int) = some xs
  | [] => rfl
  | x :: xs => by show (intsOf (xs.map T.int)).map (x :: ·) = _; rw [intsOf_map xs] <;> rfl
theorem nodelessL_ints : ∀ xs : List Int, nodelessL (xs.map T.int) = true
  | [] => rfl
  | x :: xs => by show (nodeless (.int x) && nodelessL (xs.map T.int)) = true; rw [nodelessL_ints xs] <;> rfl
theorem rngL_map (lo c : Int) : ∀ n, rngL lo c n = (List.range n).map fun i => T.int (lo + (i : Nat) * c)
  | 0 => rfl
  | n + 1 => by
    rw [List.range_succ_eq_map, List.map_cons, List.map_map]
    show T.int lo :: rngL (lo + c) c n = _
    rw [rngL_map]
    congr 1
    · simp
    · apply List.map_congr_left
      intro i _
      show T.int (lo + c + (i : Nat) * c) = T.int (lo + ((i + 1 : Nat) : Int) * c)
      congr 1
      rw [Int.natCast_add, Int.add_mul]
      omega
end MP

/-! P1: k90's defs, what they compute. -/
namespace Q
open MP
abbrev Fn (k : Nat) : Fns := callF Δ 100000 k
theorem fnEq (k f : Nat) (as : List T) (μ : Mem) {d : Dn} (h : Δ[f]? = some d) : Fn (k + 1) f as μ = runD (Fn k) 100000 d as μ := by
  show (match Δ[f]? with | some d => runD (callF Δ 100000 k) 100000 d as μ | none => .stuck) = _
  rw [h]
/-- a def that gives a value back and leaves one box -/
theorem runRt {F : Fns} {W : Nat} {d : Dn} {as : List T} {B B' : T} {t : T} {ρ' : Env} (ha : as.length = d.nps) (h : evIs F W d.body (as.map some ++ List.replicate (d.n - as.length) none) [B] = .ok (.rt t, ρ') [B']) (hi : d.rk ≠ .I ∨ nodeless t = true) : runD F W d as [B] = .ok t [B'] := by
  unfold runD
  have : Nat.beq as.length d.nps = true := by rw [ha]; exact Nat.beq_refl _
  rw [this, if_pos rfl, h]
  show (if (match d.rk with | .I => nodeless t | _ => true) = true then if Nat.ble 1 1 then Res.ok t [B'] else _ else _) = _
  have q : (match d.rk with | .I => nodeless t | _ => true) = true := by
    cases hk : d.rk with
    | I => rcases hi with z | z
           · exact absurd hk z
           · exact z
    | _ => rfl
  rw [q] <;> rfl
theorem is_whole_ok (k : Nat) (n : Int) (B : T) : Fn (k + 1) 0 [.int n] [B] = .ok (.bl true) [B] := rfl
theorem runNx {F : Fns} {W : Nat} {d : Dn} {as : List T} {B B' : T} {ρ' : Env} (ha : as.length = d.nps) (h : evIs F W d.body (as.map some ++ List.replicate (d.n - as.length) none) [B] = .ok (.nx, ρ') [B']) : runD F W d as [B] = .ok .non [B'] := by
  unfold runD
  have : Nat.beq as.length d.nps = true := by rw [ha]; exact Nat.beq_refl _
  rw [this, if_pos rfl, h]
  show (if (match d.rk with | .I => nodeless T.non | _ => true) = true then if Nat.ble 1 1 then Res.ok T.non [B'] else _ else _) = _
  have q : (match d.rk with | .I => nodeless T.non | _ => true) = true := by cases d.rk <;> rfl
  rw [q] <;> rfl
section
variable {F : Fns} {W : Nat} {ρ ρ' : Env} {μ μ1 μ2 : Mem}
/-- statements in a row -/
theorem ssCons {i : IS} {is : List IS} {r : Res (Fl × Env)} (h : evI1 F W i ρ μ = .ok (.nx, ρ') μ1) (h2 : evIs F W is ρ' μ1 = r) : evIs F W (i :: is) ρ μ = r := by rw [evIs, h, Res.bind_ok]; exact h2
theorem ssRet {i : IS} {is : List IS} {t : T} (h : evI1 F W i ρ μ = .ok (.rt t, ρ') μ1) : evIs F W (i :: is) ρ μ = .ok (.rt t, ρ') μ1 := by rw [evIs, h, Res.bind_ok]
theorem sIf {c : IE} {a b : List IS} {v : Bool} {r : Res (Fl × Env)} (h : evE F ρ c μ = .ok (.bl v) μ1) (h2 : evIs F W (if v then a else b) ρ μ1 = r) : evI1 F W (.iff c a b) ρ μ = r := by
  rw [evI1, h, Res.bind_ok]
  cases v <;> exact h2
theorem sRet {e : IE} {t : T} (h : evE F ρ e μ = .ok t μ1) : evI1 F W (.ret (some e)) ρ μ = .ok (.rt t, ρ) μ1 := by rw [evI1, h] <;> rfl
theorem sAsg {i : Nat} {e : IE} {ks : List Nat} {t : T} (h : evE F ρ e μ = .ok t μ1) : evI1 F W (.asg i e ks) ρ μ = .ok (.nx, (kill ρ ks).set i (some t)) μ1 := by rw [evI1, h] <;> rfl
theorem eOr2 {a b : IE} {x y : Bool} (ha : evE F ρ a μ = .ok (.bl x) μ) (hb : evE F ρ b μ = .ok (.bl y) μ) : evE F ρ (.bop false [a, b]) μ = .ok (.bl (x || y)) μ := by
  show Res.bind (evE F ρ a μ) _ = _
  rw [ha, Res.bind_ok]
  cases x with
  | true => rfl
  | false => show evB F ρ false [b] μ = _; rw [evB, hb] <;> rfl
theorem eAnd2 {a b : IE} {x y : Bool} (ha : evE F ρ a μ = .ok (.bl x) μ) (hb : evE F ρ b μ = .ok (.bl y) μ) : evE F ρ (.bop true [a, b]) μ = .ok (.bl (x && y)) μ := by
  show Res.bind (evE F ρ a μ) _ = _
  rw [ha, Res.bind_ok]
  cases x with
  | false => rfl
  | true => show evB F ρ true [b] μ = _; rw [evB, hb] <;> rfl
theorem eIte {c a b : IE} {v : Bool} {r : Res T} (h : evE F ρ c μ = .ok (.bl v) μ1) (h2 : evE F ρ (if v then a else b) μ1 = r) : evE F ρ (.ite c a b) μ = r := by
  rw [evE, h, Res.bind_ok]
  cases v <;> exact h2
theorem eCall1 {f : Nat} {a : IE} {t : T} {r : Res T} (h : evE F ρ a μ = .ok t μ1) (hf : F f [t] μ1 = r) : evE F ρ (.call f [a] []) μ = r := by
  rw [evE, evL, h, Res.bind_ok, evL, Res.bind_ok, Res.bind_ok, evK, Res.bind_ok]
  exact hf
theorem eCallK {f : Nat} {a : IE} {t : T} {r : Res T} (h : evE F ρ a μ = .ok t μ1) (hf : F f [t] μ1 = r) : evE F ρ (.call f [] [(0, a)]) μ = r := by
  rw [evE, evL, Res.bind_ok, evK, h, Res.bind_ok, evK, Res.bind_ok, Res.bind_ok]
  exact hf
theorem eCall2 {f : Nat} {a b : IE} {t u : T} {r : Res T} (h : evE F ρ a μ = .ok t μ1) (h' : evE F ρ b μ1 = .ok u μ2) (hf : F f [t, u] μ2 = r) : evE F ρ (.call f [a, b] []) μ = r := by
  rw [evE, evL, h, Res.bind_ok, evL, h', Res.bind_ok, evL, Res.bind_ok, Res.bind_ok, Res.bind_ok, evK, Res.bind_ok]
  exact hf
end
theorem check_ok (k : Nat) {n : Int} (h : 0 ≤ n) (B : T) : Fn (k + 2) 1 [.int n] [B] = .ok .non [B] := by
  rw [fnEq (k + 1) 1 _ _ rfl]
  have h1 : evE (Fn (k + 1)) [some (.int n)] (.nt (.call 0 [(.var 0)] [])) [B] = .ok (.bl false) [B] := rfl
  have h2 : evE (Fn (k + 1)) [some (.int n)] (.cmp .lt (.var 0) (.cst (.int 0))) [B] = .ok (.bl false) [B] := by
    have hd : pCmp .lt (.int n) (.int 0) = some false := by show some (decide (n < 0)) = _; rw [decide_eq_false (by omega)]
    exact eCmp (eVar rfl) eCst hd
  exact runNx (ρ' := [some (.int n)]) rfl (ssCons (sIf (eOr2 h1 h2) rfl) rfl)
/-- each less the one that stands p ahead -/
def unl (p : Nat) (xs : List Int) : List Int := List.zipWith (fun a b => a - b) xs (List.replicate p 0 ++ xs)
theorem unl_len (p : Nat) (xs : List Int) : (unl p xs).length = xs.length := by
  unfold unl
  rw [List.length_zipWith, List.length_append, List.length_replicate]
  omega
theorem unl_get (p : Nat) (xs : List Int) (i : Nat) {v : Int} (h : xs[i]? = some v) : (unl p xs)[i]? = some (v - if p ≤ i then (xs[i - p]?).getD 0 else 0) := by
  have hi : i < xs.length := (List.getElem?_eq_some_iff.mp h).1
  unfold unl
  rw [List.getElem?_zipWith, h]
  by_cases hp : p ≤ i
  · rw [if_pos hp, List.getElem?_append_right (by simpa using hp), List.length_replicate, List.getElem?_eq_getElem (l := xs) (i := i - p) (by omega)] <;> rfl
  · rw [if_neg hp, List.getElem?_append_left (by simp; omega), List.getElem?_replicate, if_pos (by omega)]
theorem enum_get (xs : List Int) (i : Nat) {v : Int} (h : xs[i]? = some v) : (enumL 0 (xs.map T.int))[i]? = some (.tup [.int (i : Int), .int v]) := by
  have := enumL_get (xs.map T.int) 0 i (.int v) (by rw [List.getElem?_map, h] <;> rfl)
  rw [this, Int.zero_add]
theorem enum_mem {xs : List Int} {x : T} (h : x ∈ enumL 0 (xs.map T.int)) : ∃ (i : Nat) (v : Int), xs[i]? = some v ∧ x = .tup [.int (i : Int), .int v] := by
  obtain ⟨i, hi, e⟩ := List.mem_iff_getElem.mp h
  have hl : i < xs.length := by rw [enumL_len, List.length_map] at hi; exact hi
  refine ⟨i, xs[i], List.getElem?_eq_getElem hl, ?_⟩
  have := enum_get xs i (List.getElem?_eq_getElem hl)
  rw [List.getElem?_eq_getElem hi, e] at this
  exact Option.some.inj this
theorem with_unlike_ok (k : Nat) (xs : List Int) (p : Nat) (hl : xs.length ≤ line) (B : T) : Fn (k + 1) 2 [.lst (xs.map .int), .int (p : Int)] [B] = .ok (.lst ((unl p xs).map .int)) [B] := by
  rw [fnEq k 2 _ _ rfl]
  let g : T → T := fun x => match x with
    | .tup [.int t, .int m] => .int (m - if (p : Int) ≤ t then (xs[(t - p).toNat]?).getD 0 else 0)
    | _ => .non
  have key : evE (Fn k) [some (.lst (xs.map .int)), some (.int (p : Int)), none, none] (.lc (.ite (.cmp .ge (.var 2) (.var 1)) (.bin .sub (.var 3) (.sub (.var 0) (.bin .sub (.var 2) (.var 1)))) (.imm (.var 3))) (.tp [(.nm 2), (.nm 3)]) (.enum (.var 0)) none) [B] = .ok (.lst ((enumL 0 (xs.map T.int)).map g)) [B] := by
    rw [evE]
    show Res.bind (.ok (enumL 0 (xs.map T.int)) [B]) _ = _
    rw [Res.bind_ok]
    show Res.bind (noExc (lcGo _ (enumL 0 (xs.map T.int)) 0 [B])) _ = _
    rw [lcGo_map (g := g) (fun x hx => ?_) (by rw [enumL_len, List.length_map]; omega)]
    · rfl
    · obtain ⟨i, v, hv, rfl⟩ := enum_mem hx
      let ρ : Env := [some (.lst (xs.map .int)), some (.int (p : Int)), some (.int (i : Int)), some (.int v)]
      have hc : evE (Fn k) ρ (.cmp .ge (.var 2) (.var 1)) [B] = .ok (.bl (decide ((p : Int) ≤ i))) [B] := eCmp (eVar rfl) (eVar rfl) rfl
      have he : evE (Fn k) ρ (.ite (.cmp .ge (.var 2) (.var 1)) (.bin .sub (.var 3) (.sub (.var 0) (.bin .sub (.var 2) (.var 1)))) (.imm (.var 3))) [B] = .ok (.int (v - if (p : Int) ≤ i then (xs[((i : Int) - p).toNat]?).getD 0 else 0)) [B] := by
        refine eIte hc ?_
        by_cases hp : (p : Int) ≤ i
        · rw [decide_eq_true hp, if_pos hp]
          have hi : i < xs.length := (List.getElem?_eq_some_iff.mp hv).1
          have e1 : ((i : Int) - p) = ((i - p : Nat) : Int) := by omega
          have hg : xs[i - p]? = some (xs[i - p]'(by omega)) := List.getElem?_eq_getElem (by omega)
          have es : evE (Fn k) ρ (.sub (.var 0) (.bin .sub (.var 2) (.var 1))) [B] = .ok (.int (xs[i - p]'(by omega))) [B] := by
            have e2 : evE (Fn k) ρ (.bin .sub (.var 2) (.var 1)) [B] = .ok (.int ((i - p : Nat) : Int)) [B] := by
              rw [← e1]
              exact eBin (eVar rfl) (eVar rfl) rfl
            rw [evE]
            show Res.bind (.ok (T.lst (xs.map .int)) [B]) _ = _
            rw [Res.bind_ok, e2, Res.bind_ok]
            show Res.bind (opt (atT (xs.map T.int) ((i - p : Nat) : Int)) [B]) _ = _
            rw [atT_ints hg] <;> rfl
          rw [e1, Int.toNat_natCast, hg]
          exact eBin (eVar rfl) es rfl
        · rw [decide_eq_false hp, if_neg hp, Int.sub_zero]
          exact eImm (eVar rfl)
      show Res.bind (.ok true [B]) _ = _
      rw [Res.bind_ok]
      show Res.bind (evE (Fn k) ρ _ [B]) _ = _
      rw [he] <;> rfl
  have fin : (enumL 0 (xs.map T.int)).map g = (unl p xs).map T.int := by
    apply List.ext_getElem?
    intro i
    by_cases hi : i < xs.length
    · have hv := List.getElem?_eq_getElem hi
      rw [List.getElem?_map, enum_get xs i hv, List.getElem?_map, unl_get p xs i hv]
      show some (T.int (xs[i] - if (p : Int) ≤ (i : Int) then (xs[((i : Int) - p).toNat]?).getD 0 else 0)) = some (T.int (xs[i] - if p ≤ i then (xs[i - p]?).getD 0 else 0))
      by_cases hp : p ≤ i
      · rw [if_pos hp, if_pos (by omega), show ((i : Int) - p).toNat = i - p by omega]
      · rw [if_neg hp, if_neg (by omega)]
    · rw [List.getElem?_eq_none (by rw [List.length_map, enumL_len, List.length_map]; omega), List.getElem?_eq_none (by rw [List.length_map, unl_len]; omega)]
  rw [fin] at key
  exact runRt (d := d_with_unlike) rfl (ssRet (sRet key)) (.inl (by decide))
end Q

/-! P2: with_often. -/
namespace Q
open MP
/-- the place p ahead is added in, sg times -/
def stepO (p : Nat) (sg : Int) (ys : List Int) (j : Nat) : List Int := ys.set (p + j) (ys.getD (p + j) 0 + sg * ys.getD j 0)
def ofts (p : Nat) (sg : Int) (xs : List Int) (i : Nat) : List Int := (List.range i).foldl (stepO p sg) xs
def oft (p : Nat) (sg : Int) (xs : List Int) : List Int := ofts p sg xs (xs.length - p)
theorem ofts_succ (p : Nat) (sg : Int) (xs : List Int) (i : Nat) : ofts p sg xs (i + 1) = stepO p sg (ofts p sg xs i) i := by
  unfold ofts
  rw [List.range_succ, List.foldl_append] <;> rfl
theorem ofts_len (p : Nat) (sg : Int) (xs : List Int) : ∀ i, (ofts p sg xs i).length = xs.length
  | 0 => rfl
  | i + 1 => by rw [ofts_succ]; unfold stepO; rw [List.length_set, ofts_len p sg xs i]
theorem getD_some {xs : List Int} {i : Nat} (h : i < xs.length) : xs[i]? = some (xs.getD i 0) := by
  rw [List.getD_eq_getElem?_getD, List.getElem?_eq_getElem h] <;> rfl
section
variable {F : Fns} {W : Nat} {ρ : Env} {μ : Mem}
/-- x[e] of a list of ints -/
theorem eIx {a e : IE} {xs : List Int} {i : Nat} (ha : evE F ρ a μ = .ok (.lst (xs.map .int)) μ) (he : evE F ρ e μ = .ok (.int (i : Int)) μ) (hi : i < xs.length) : evE F ρ (.sub a e) μ = .ok (.int (xs.getD i 0)) μ := by
  rw [evE, ha, Res.bind_ok, he, Res.bind_ok]
  show Res.bind (opt (atT (xs.map T.int) (i : Int)) μ) _ = _
  rw [atT_ints (getD_some hi)] <;> rfl
/-- x[i] = e of the slot's own list of ints -/
theorem sSetI {x : Nat} {ei e : IE} {xs : List Int} {i : Nat} {v : Int} (he : evE F ρ e μ = .ok (.int v) μ) (hx : getV ρ x = some (.lst (xs.map .int))) (hi : evE F ρ ei μ = .ok (.int (i : Int)) μ) (hl : i < xs.length) : evI1 F W (.set x ei e []) ρ μ = .ok (.nx, ρ.set x (some (.lst ((xs.set i v).map .int)))) μ := by
  rw [evI1, he, Res.bind_ok]
  have : getN (kill ρ []) x = some (.lst (xs.map .int)) := by
    show getN ρ x = _
    unfold getN
    rw [hx]
  rw [this]
  show Res.bind (.ok (T.lst (xs.map .int)) μ) _ = _
  rw [Res.bind_ok, hi, Res.bind_ok, setT_ints hl] <;> rfl
end
theorem with_often_ok (k : Nat) (xs : List Int) (p : Nat) (sg : Int) (hs : inMul sg = true) (hl : xs.length ≤ line) (hp : p ≤ line) (B : T) : Fn (k + 1) 3 [.lst (xs.map .int), .int (p : Int), .int sg] [B] = .ok (.lst ((oft p sg xs).map .int)) [B] := by
  rw [fnEq k 3 _ _ rfl]
  let ρ0 : Env := [some (.lst (xs.map .int)), some (.int (p : Int)), some (.int sg), none, none]
  let ρ1 : Env := [some (.lst (xs.map .int)), some (.int (p : Int)), some (.int sg), some (.lst (xs.map .int)), none]
  have s1 : evI1 (Fn k) 100000 (.asg 3 (.flat (.bi .list [(.var 0)])) []) ρ0 [B] = .ok (.nx, ρ1) [B] := by
    have h1 : evE (Fn k) ρ0 (.bi .list [(.var 0)]) [B] = .ok (.lst (xs.map .int)) [B] := rfl
    have h2 : evE (Fn k) ρ0 (.flat (.bi .list [(.var 0)])) [B] = .ok (.lst (xs.map .int)) [B] := by
      rw [evE, h1]
      show (if nodelessL (xs.map T.int) = true then (Res.ok (T.lst (xs.map .int)) [B]) else .stuck) = _
      rw [nodelessL_ints] <;> rfl
    exact sAsg h2
  let P : Nat → Env → Prop := fun i ρ => ∃ o, ρ = [some (.lst (xs.map .int)), some (.int (p : Int)), some (.int sg), some (.lst ((ofts p sg xs i).map .int)), o]
  let body : List IS := [(.set 3 (.var 4) (.bin .add (.imm (.sub (.var 3) (.var 4))) (.imm (.bin .mul (.var 2) (.imm (.sub (.var 3) (.bin .sub (.var 4) (.var 1))))))) [])]
  let n := xs.length - p
  have nn : ((xs.length : Int) - (p : Int)).toNat = n := by omega
  have loop : ∃ ρ', forLoop (fun x ρ μ => match bindTg (.nm 4) x ρ with | some ρ' => evIs (Fn k) 100000 body ρ' μ | none => .stuck) (rngL (p : Int) 1 n) ρ1 [B] = .ok (.nx, ρ') [B] ∧ P (0 + (rngL (p : Int) 1 n).length) ρ' := by
    refine forLoop_ok P ⟨none, rfl⟩ fun j x ρ hx ⟨o, e⟩ => ?_
    rw [Nat.zero_add] at e
    subst e
    have hj : j < n := by
      have := (List.getElem?_eq_some_iff.mp hx).1
      rw [rngL_len] at this
      exact this
    rw [rngL_get _ _ _ _ hj] at hx
    cases hx
    have hpj : ((p : Int) + (j : Nat) * 1) = ((p + j : Nat) : Int) := by omega
    rw [hpj, Nat.zero_add]
    have hlen := ofts_len p sg xs j
    generalize hy : ofts p sg xs j = ys at hlen ⊢
    let ρ2 : Env := [some (.lst (xs.map .int)), some (.int (p : Int)), some (.int sg), some (.lst (ys.map .int)), some (.int ((p + j : Nat) : Int))]
    have a1 : evE (Fn k) ρ2 (.sub (.var 3) (.var 4)) [B] = .ok (.int (ys.getD (p + j) 0)) [B] := eIx (eVar rfl) (eVar rfl) (by omega)
    have a2 : evE (Fn k) ρ2 (.bin .sub (.var 4) (.var 1)) [B] = .ok (.int (j : Int)) [B] := by
      have : (j : Int) = ((p + j : Nat) : Int) - (p : Int) := by omega
      rw [this]
      exact eBin (eVar rfl) (eVar rfl) rfl
    have a3 : evE (Fn k) ρ2 (.sub (.var 3) (.bin .sub (.var 4) (.var 1))) [B] = .ok (.int (ys.getD j 0)) [B] := eIx (eVar rfl) a2 (by omega)
    have a4 : evE (Fn k) ρ2 (.bin .add (.imm (.sub (.var 3) (.var 4))) (.imm (.bin .mul (.var 2) (.imm (.sub (.var 3) (.bin .sub (.var 4) (.var 1))))))) [B] = .ok (.int (ys.getD (p + j) 0 + sg * ys.getD j 0)) [B] :=
      eBin (eImm a1) (eImm (eBin (eVar rfl) (eImm a3) (pMul_l hs))) rfl
    have st := sSetI (F := Fn k) (W := 100000) (ρ := ρ2) (μ := [B]) (x := 3) (ei := .var 4) (i := p + j) a4 rfl (eVar rfl) (by omega)
    refine ⟨_, ssCons (ρ' := ρ2.set 3 _) st rfl, some (.int ((p + j : Nat) : Int)), ?_⟩
    rw [ofts_succ, hy] <;> rfl
  obtain ⟨ρ', e, o, rfl⟩ := loop
  rw [rngL_len, Nat.zero_add] at e
  have s2 : evI1 (Fn k) 100000 (.for (.nm 4) (.rng2 (.var 1) (.bi .len [(.var 3)])) body []) ρ1 [B] = .ok (.nx, [some (.lst (xs.map .int)), some (.int (p : Int)), some (.int sg), some (.lst ((oft p sg xs).map .int)), o]) [B] := by
    have hi : evI (Fn k) ρ1 (.rng2 (.var 1) (.bi .len [(.var 3)])) [B] = .ok (rngL (p : Int) 1 n) [B] := by
      have h1 : evE (Fn k) ρ1 (.bi .len [(.var 3)]) [B] = .ok (.int (xs.length : Int)) [B] := by
        show Res.ok (T.int ((xs.map T.int).length : Int)) [B] = _
        rw [List.length_map]
      rw [evI]
      show Res.bind (.ok (T.int (p : Int)) [B]) _ = _
      rw [Res.bind_ok, h1, Res.bind_ok]
      show (if smallI (p : Int) && smallI (xs.length : Int) then Res.ok (rngL (p : Int) 1 ((xs.length : Int) - p).toNat) [B] else .stuck) = _
      have l1 : line = 16777216 := rfl
      have q1 : smallI (p : Int) = true := by simp only [smallI, Bool.and_eq_true, decide_eq_true_eq]; omega
      have q2 : smallI (xs.length : Int) = true := by simp only [smallI, Bool.and_eq_true, decide_eq_true_eq]; omega
      rw [q1, q2, nn] <;> rfl
    rw [evI1, hi, Res.bind_ok]
    exact e
  exact runRt (d := d_with_often) rfl (ssCons s1 (ssCons s2 (ssRet (sRet (eVar rfl))))) (.inl (by decide))
end Q

/-! P3: cube_count, signed_count, half_count. -/
namespace Q
open MP
def base (n : Nat) : List Int := 1 :: List.replicate n 0
theorem base_len (n : Nat) : (base n).length = n + 1 := by unfold base; simp
theorem oft_len (p : Nat) (sg : Int) (xs : List Int) : (oft p sg xs).length = xs.length := ofts_len _ _ _ _
section
variable {F : Fns} {W : Nat} {ρ ρ' : Env} {μ μ1 : Mem}
theorem rep_flat (n : Nat) : (List.replicate n [T.int 0]).flatten = (List.replicate n (0 : Int)).map T.int := by
  induction n with
  | zero => rfl
  | succ n ih => rw [List.replicate_succ, List.flatten_cons, ih, List.replicate_succ] <;> rfl
theorem zeros (n : Nat) (hn : n ≤ 1000000) : pBin .mul (.lst [.int 0]) (.int (n : Int)) = some (.lst ((List.replicate n (0 : Int)).map .int)) := by
  have hk : (decide (-(2 ^ 63) ≤ (n : Int)) && decide ((n : Int) < 2 ^ 63) && Nat.ble ([T.int 0].length * (n : Int).toNat) line) = true := by
    have l1 : line = 16777216 := rfl
    rw [Bool.and_eq_true, Bool.and_eq_true, decide_eq_true_eq, decide_eq_true_eq]
    exact ⟨⟨by omega, by omega⟩, Nat.ble_eq_true_of_le (by rw [List.length_singleton]; omega)⟩
  simp only [pBin, pMul]
  rw [if_pos hk, Int.toNat_natCast, rep_flat]
theorem one_zeros (n : Nat) (hn : n ≤ 1000000) : pBin .add (.lst [.int 1]) (.lst ((List.replicate n (0 : Int)).map .int)) = some (.lst ((base n).map .int)) := by
  have hk : Nat.ble ([T.int 1].length + ((List.replicate n (0 : Int)).map T.int).length) line = true := by
    have l1 : line = 16777216 := rfl
    rw [List.length_map, List.length_replicate, List.length_singleton]
    exact Nat.ble_eq_true_of_le (by omega)
  simp only [pBin, pAdd]
  rw [if_pos hk] <;> rfl
/-- [1] + [0] * n -/
theorem base_ok {i n : Nat} (h : getV ρ i = some (.int (n : Int))) (hn : n ≤ 1000000) : evE F ρ (.bin .add (.lst [(false, (.cst (.int 1)))]) (.bin .mul (.lst [(false, (.cst (.int 0)))]) (.var i))) μ = .ok (.lst ((base n).map .int)) μ := by
  have h1 : evE F ρ (.bin .mul (.lst [(false, (.cst (.int 0)))]) (.var i)) μ = .ok (.lst ((List.replicate n (0 : Int)).map .int)) μ := by
    rw [evE]
    show Res.bind (.ok (T.lst [.int 0]) μ) _ = _
    rw [Res.bind_ok, eVar h, Res.bind_ok]
    show opt (pBin .mul (.lst [.int 0]) (.int (n : Int))) μ = _
    rw [zeros n hn, opt_some]
  rw [evE]
  show Res.bind (.ok (T.lst [.int 1]) μ) _ = _
  rw [Res.bind_ok, h1, Res.bind_ok]
  show opt (pBin .add (.lst [.int 1]) (.lst ((List.replicate n (0 : Int)).map .int))) μ = _
  rw [one_zeros n hn, opt_some]
/-- range(1, n + 1) -/
theorem rng1n {i n : Nat} (h : getV ρ i = some (.int (n : Int))) (hn : n ≤ 1000000) : evI F ρ (.rng2 (.cst (.int 1)) (.bin .add (.var i) (.cst (.int 1)))) μ = .ok (rngL 1 1 n) μ := by
  rw [evI]
  have h1 : evE F ρ (.bin .add (.var i) (.cst (.int 1))) μ = .ok (.int ((n : Int) + 1)) μ := eBin (eVar h) eCst rfl
  show Res.bind (.ok (T.int 1) μ) _ = _
  rw [Res.bind_ok, h1, Res.bind_ok]
  show (if smallI 1 && smallI ((n : Int) + 1) then Res.ok (rngL 1 1 ((n : Int) + 1 - 1).toNat) μ else .stuck) = _
  have q1 : smallI 1 = true := rfl
  have q2 : smallI ((n : Int) + 1) = true := by simp only [smallI, Bool.and_eq_true, decide_eq_true_eq]; omega
  rw [q1, q2, show ((n : Int) + 1 - 1).toNat = n by omega] <;> rfl
theorem rng_item {n j : Nat} {x : T} (h : (rngL 1 1 n)[j]? = some x) : j < n ∧ x = .int ((j + 1 : Nat) : Int) := by
  have hj : j < n := by
    have := (List.getElem?_eq_some_iff.mp h).1
    rw [rngL_len] at this
    exact this
  rw [rngL_get _ _ _ _ hj] at h
  cases h
  exact ⟨hj, by congr 1; omega⟩
theorem sEx {e : IE} {t : T} (h : evE F ρ e μ = .ok t μ1) : evI1 F W (.ex e) ρ μ = .ok (.nx, ρ) μ1 := by rw [evI1, h] <;> rfl
theorem sFor {tg : Tg} {it : II} {b : List IS} {xs : List T} {r : Res (Fl × Env)} (h : evI F ρ it μ = .ok xs μ1) (h2 : forLoop (fun x ρ μ => match bindTg tg x ρ with | some ρ' => evIs F W b ρ' μ | none => .stuck) xs ρ μ1 = r) : evI1 F W (.for tg it b []) ρ μ = r := by
  rw [evI1, h, Res.bind_ok]
  exact h2
end
def cubeS (n : Nat) : Nat → List Int
  | 0 => base n
  | i + 1 => unl (i + 1) (unl (i + 1) (unl (i + 1) (cubeS n i)))
theorem cubeS_len (n : Nat) : ∀ i, (cubeS n i).length = n + 1
  | 0 => base_len n
  | i + 1 => by show (unl _ _).length = _; rw [unl_len, unl_len, unl_len, cubeS_len n i]
theorem line_eq1 : line = 16777216 := rfl
theorem cube_ok (k n : Nat) (hn : n ≤ 1000000) (B : T) : Fn (k + 3) 4 [.int (n : Int)] [B] = .ok (.int ((cubeS n n).getD n 0)) [B] := by
  rw [fnEq (k + 2) 4 _ _ rfl]
  let ρ0 : Env := [some (.int (n : Int)), none, none, none]
  have s0 : evI1 (Fn (k + 2)) 100000 (.ex (.call 1 [(.var 0)] [])) ρ0 [B] = .ok (.nx, ρ0) [B] := sEx (eCall1 (eVar rfl) (check_ok k (by omega) B))
  let ρ1 : Env := [some (.int (n : Int)), some (.lst ((base n).map .int)), none, none]
  have s1 : evI1 (Fn (k + 2)) 100000 (.asg 1 (.bin .add (.lst [(false, (.cst (.int 1)))]) (.bin .mul (.lst [(false, (.cst (.int 0)))]) (.var 0))) []) ρ0 [B] = .ok (.nx, ρ1) [B] := sAsg (base_ok rfl hn)
  let inner : List IS := [(.asg 1 (.call 2 [(.var 1), (.var 2)] []) [])]
  let body : List IS := [(.for (.nm 3) (.rng1 (.cst (.int 3))) inner [])]
  let P : Nat → Env → Prop := fun i ρ => ∃ o o', ρ = [some (.int (n : Int)), some (.lst ((cubeS n i).map .int)), o, o']
  obtain ⟨ρ', e, o, o', rfl⟩ : ∃ ρ', forLoop (fun x ρ μ => match bindTg (.nm 2) x ρ with | some ρ' => evIs (Fn (k + 2)) 100000 body ρ' μ | none => .stuck) (rngL 1 1 n) ρ1 [B] = .ok (.nx, ρ') [B] ∧ P (0 + (rngL 1 1 n).length) ρ' := by
    refine forLoop_ok P ⟨none, none, rfl⟩ fun j x ρ hx ⟨o, o', e⟩ => ?_
    obtain ⟨hj, rfl⟩ := rng_item hx
    rw [Nat.zero_add] at e ⊢
    subst e
    have hlen := cubeS_len n j
    have l1 := line_eq1
    let Pi : Nat → Env → Prop := fun i ρ => ∃ (ys : List Int) (o' : Option T), ys.length = n + 1 ∧ (i = 0 → ys = cubeS n j) ∧ (i = 1 → ys = unl (j + 1) (cubeS n j)) ∧ (i = 2 → ys = unl (j + 1) (unl (j + 1) (cubeS n j))) ∧ (i = 3 → ys = cubeS n (j + 1)) ∧ ρ = [some (.int (n : Int)), some (.lst (ys.map .int)), some (.int ((j + 1 : Nat) : Int)), o']
    obtain ⟨ρ'', e2, ys, o2, hy, _, _, _, h3, rfl⟩ : ∃ ρ', forLoop (fun x ρ μ => match bindTg (.nm 3) x ρ with | some ρ' => evIs (Fn (k + 2)) 100000 inner ρ' μ | none => .stuck) (rngL 0 1 3) [some (.int (n : Int)), some (.lst ((cubeS n j).map .int)), some (.int ((j + 1 : Nat) : Int)), o'] [B] = .ok (.nx, ρ') [B] ∧ Pi (0 + (rngL 0 1 3).length) ρ' := by
      refine forLoop_ok Pi ⟨_, o', hlen, (fun _ => rfl), (fun z => by cases z), (fun z => by cases z), (fun z => by cases z), rfl⟩ fun i x ρ hx ⟨ys, o2, hy, q0, q1, q2, _, e⟩ => ?_
      rw [Nat.zero_add] at q0 q1 q2 ⊢
      subst e
      have hi : i < 3 := (List.getElem?_eq_some_iff.mp hx).1
      have st : evI1 (Fn (k + 2)) 100000 (.asg 1 (.call 2 [(.var 1), (.var 2)] []) []) [some (.int (n : Int)), some (.lst (ys.map .int)), some (.int ((j + 1 : Nat) : Int)), some x] [B] = .ok (.nx, [some (.int (n : Int)), some (.lst ((unl (j + 1) ys).map .int)), some (.int ((j + 1 : Nat) : Int)), some x]) [B] :=
        sAsg (eCall2 (eVar rfl) (eVar rfl) (with_unlike_ok (k + 1) ys (j + 1) (by omega) B))
      refine ⟨_, ssCons st rfl, unl (j + 1) ys, some x, by rw [unl_len, hy], (fun z => by omega), fun z => ?_, fun z => ?_, fun z => ?_, rfl⟩
      · rw [q0 (by omega)]
      · rw [q1 (by omega)]
      · rw [q2 (by omega)] <;> rfl
    refine ⟨_, ssCons (sFor rfl e2) rfl, some (.int ((j + 1 : Nat) : Int)), o2, ?_⟩
    rw [h3 rfl]
  rw [rngL_len, Nat.zero_add] at *
  exact runRt (d := d_cube_count) rfl (ssCons s0 (ssCons s1 (ssCons (sFor (rng1n rfl hn) e) (ssRet (sRet (eIx (eVar rfl) (eVar rfl) (by rw [cubeS_len]; omega))))))) (.inl (by decide))
end Q

/-! P4: signed_count, half_count. -/
namespace Q
open MP
section
variable {F : Fns} {W : Nat} {ρ ρ' : Env} {μ μ1 μ2 μ3 : Mem}
theorem eCall3 {f : Nat} {a b c : IE} {t u v : T} {r : Res T} (h : evE F ρ a μ = .ok t μ1) (h' : evE F ρ b μ1 = .ok u μ2) (h'' : evE F ρ c μ2 = .ok v μ3) (hf : F f [t, u, v] μ3 = r) : evE F ρ (.call f [a, b, c] []) μ = r := by
  rw [evE, evL, h, Res.bind_ok, evL, h', Res.bind_ok, evL, h'', Res.bind_ok, evL, Res.bind_ok, Res.bind_ok, Res.bind_ok, Res.bind_ok, evK, Res.bind_ok]
  exact hf
end
/-- what a def of the form base, one step a part, the n-th gives -/
theorem parts_ok {d : Dn} {stp : IS} (k n : Nat) (hn : n ≤ 1000000) (B : T) (S : Nat → List Int) (S0 : S 0 = base n) (SL : ∀ i, (S i).length = n + 1)
    (hd : d.body = [(.ex (.call 1 [(.var 0)] [])), (.asg 1 (.bin .add (.lst [(false, (.cst (.int 1)))]) (.bin .mul (.lst [(false, (.cst (.int 0)))]) (.var 0))) []), (.for (.nm 2) (.rng2 (.cst (.int 1)) (.bin .add (.var 0) (.cst (.int 1)))) [stp] []), (.ret (some (.sub (.var 1) (.var 0))))]) (hp : d.nps = 1) (h3 : d.n = 3) (hk : d.rk = .S)
    (st : ∀ j, j < n → evI1 (Fn (k + 2)) 100000 stp [some (.int (n : Int)), some (.lst ((S j).map .int)), some (.int ((j + 1 : Nat) : Int))] [B] = .ok (.nx, [some (.int (n : Int)), some (.lst ((S (j + 1)).map .int)), some (.int ((j + 1 : Nat) : Int))]) [B]) :
    runD (Fn (k + 2)) 100000 d [.int (n : Int)] [B] = .ok (.int ((S n).getD n 0)) [B] := by
  let ρ0 : Env := [some (.int (n : Int)), none, none]
  have s0 : evI1 (Fn (k + 2)) 100000 (.ex (.call 1 [(.var 0)] [])) ρ0 [B] = .ok (.nx, ρ0) [B] := sEx (eCall1 (eVar rfl) (check_ok k (by omega) B))
  let ρ1 : Env := [some (.int (n : Int)), some (.lst ((base n).map .int)), none]
  have s1 : evI1 (Fn (k + 2)) 100000 (.asg 1 (.bin .add (.lst [(false, (.cst (.int 1)))]) (.bin .mul (.lst [(false, (.cst (.int 0)))]) (.var 0))) []) ρ0 [B] = .ok (.nx, ρ1) [B] := sAsg (base_ok rfl hn)
  let P : Nat → Env → Prop := fun i ρ => ∃ o, ρ = [some (.int (n : Int)), some (.lst ((S i).map .int)), o]
  obtain ⟨ρ', e, o, rfl⟩ : ∃ ρ', forLoop (fun x ρ μ => match bindTg (.nm 2) x ρ with | some ρ' => evIs (Fn (k + 2)) 100000 [stp] ρ' μ | none => .stuck) (rngL 1 1 n) ρ1 [B] = .ok (.nx, ρ') [B] ∧ P (0 + (rngL 1 1 n).length) ρ' := by
    refine forLoop_ok P ⟨none, by rw [S0]⟩ fun j x ρ hx ⟨o, e⟩ => ?_
    obtain ⟨hj, rfl⟩ := rng_item hx
    rw [Nat.zero_add] at e ⊢
    subst e
    exact ⟨_, ssCons (st j hj) rfl, some (.int ((j + 1 : Nat) : Int)), rfl⟩
  rw [rngL_len, Nat.zero_add] at *
  refine runRt (ρ' := [some (.int (n : Int)), some (.lst ((S n).map .int)), o]) (by rw [hp] <;> rfl) ?_ (.inl (by rw [hk]; decide))
  rw [hd, h3]
  exact ssCons s0 (ssCons s1 (ssCons (sFor (rng1n rfl hn) e) (ssRet (sRet (eIx (eVar rfl) (eVar rfl) (by rw [SL]; omega))))))
def signS (n : Nat) : Nat → List Int
  | 0 => base n
  | i + 1 => oft (i + 1) (-1) (unl (i + 1) (signS n i))
theorem signS_len (n : Nat) : ∀ i, (signS n i).length = n + 1
  | 0 => base_len n
  | i + 1 => by show (oft _ _ _).length = _; rw [oft_len, unl_len, signS_len n i]
theorem signed_ok (k n : Nat) (hn : n ≤ 1000000) (B : T) : Fn (k + 3) 5 [.int (n : Int)] [B] = .ok (.int ((signS n n).getD n 0)) [B] := by
  rw [fnEq (k + 2) 5 _ _ rfl]
  refine parts_ok k n hn B (signS n) rfl (signS_len n) rfl rfl rfl rfl fun j hj => ?_
  have l1 := line_eq1
  have hl := signS_len n j
  exact sAsg (eCall3 (eCall2 (eVar rfl) (eVar rfl) (with_unlike_ok (k + 1) (signS n j) (j + 1) (by omega) B)) (eVar rfl) rfl (with_often_ok (k + 1) (unl (j + 1) (signS n j)) (j + 1) (-1) rfl (by rw [unl_len]; omega) (by omega) B))
def halfS (n : Nat) : Nat → List Int
  | 0 => base n
  | i + 1 => if (i + 1) % 2 = 0 then unl (i + 1) (halfS n i) else oft (i + 1) 1 (halfS n i)
theorem halfS_len (n : Nat) : ∀ i, (halfS n i).length = n + 1
  | 0 => base_len n
  | i + 1 => by
    show (if (i + 1) % 2 = 0 then unl (i + 1) (halfS n i) else oft (i + 1) 1 (halfS n i)).length = _
    split
    · rw [unl_len, halfS_len n i]
    · rw [oft_len, halfS_len n i]
theorem half_ok (k n : Nat) (hn : n ≤ 1000000) (B : T) : Fn (k + 3) 6 [.int (n : Int)] [B] = .ok (.int ((halfS n n).getD n 0)) [B] := by
  rw [fnEq (k + 2) 6 _ _ rfl]
  refine parts_ok k n hn B (halfS n) rfl (halfS_len n) rfl rfl rfl rfl fun j hj => ?_
  have l1 := line_eq1
  have hl := halfS_len n j
  have hm : pBin .mod (.int ((j + 1 : Nat) : Int)) (.int 2) = some (.int (((j + 1) % 2 : Nat) : Int)) := by
    rw [pMod (by decide), Int.fmod_eq_emod_of_nonneg _ (by decide)] <;> rfl
  refine sAsg (eIte (eCmp (eBin (eVar rfl) eCst hm) eCst rfl) ?_)
  show evE _ _ (if eqT (.int (((j + 1) % 2 : Nat) : Int)) (.int 0) then _ else _) _ = .ok (.lst ((if (j + 1) % 2 = 0 then unl (j + 1) (halfS n j) else oft (j + 1) 1 (halfS n j)).map T.int)) _
  by_cases h : (j + 1) % 2 = 0
  · rw [h]
    exact eCall2 (eVar rfl) (eVar rfl) (with_unlike_ok (k + 1) (halfS n j) (j + 1) (by omega) B)
  · have h1 : (j + 1) % 2 = 1 := by omega
    rw [h1]
    exact eCall3 (eVar rfl) (eVar rfl) eCst (with_often_ok (k + 1) (halfS n j) (j + 1) 1 rfl (by omega) (by omega) B)
end Q

/-! P5: ways_of_squares, two_squares, four_squares. -/
namespace Q
open MP
/-- twice the one that stands p ahead is added -/
def sqAdd (p : Nat) (ls cs : List Int) : List Int := List.zipWith (fun a b => a + 2 * b) ls (List.replicate p 0 ++ cs)
theorem sqAdd_len {p : Nat} {ls cs : List Int} (h : ls.length = cs.length) : (sqAdd p ls cs).length = ls.length := by
  unfold sqAdd
  rw [List.length_zipWith, List.length_append, List.length_replicate]
  omega
/-- place by place -/
def sqStep (p : Nat) (cs : List Int) (ls : List Int) (j : Nat) : List Int := ls.set (p + j) (ls.getD (p + j) 0 + 2 * cs.getD j 0)
def sqSteps (p : Nat) (cs ls : List Int) (i : Nat) : List Int := (List.range i).foldl (sqStep p cs) ls
theorem sqSteps_succ (p : Nat) (cs ls : List Int) (i : Nat) : sqSteps p cs ls (i + 1) = sqStep p cs (sqSteps p cs ls i) i := by
  unfold sqSteps
  rw [List.range_succ, List.foldl_append] <;> rfl
theorem sqSteps_len (p : Nat) (cs ls : List Int) : ∀ i, (sqSteps p cs ls i).length = ls.length
  | 0 => rfl
  | i + 1 => by rw [sqSteps_succ]; unfold sqStep; rw [List.length_set, sqSteps_len p cs ls i]
theorem sqSteps_get (p : Nat) (cs ls : List Int) : ∀ i t, (sqSteps p cs ls i).getD t 0 = ls.getD t 0 + if p ≤ t ∧ t < p + i ∧ t < ls.length then 2 * cs.getD (t - p) 0 else 0
  | 0, t => by rw [if_neg (by omega), Int.add_zero] <;> rfl
  | i + 1, t => by
    have ih := sqSteps_get p cs ls i
    have hl := sqSteps_len p cs ls i
    rw [sqSteps_succ]
    unfold sqStep
    by_cases ht : t = p + i
    · subst ht
      by_cases hlt : p + i < ls.length
      · rw [List.getD_eq_getElem?_getD, List.getElem?_set_self (by omega), if_pos ⟨by omega, by omega, hlt⟩, show p + i - p = i by omega]
        show (sqSteps p cs ls i).getD (p + i) 0 + 2 * cs.getD i 0 = _
        rw [ih, if_neg (by omega), Int.add_zero]
      · rw [List.getD_eq_getElem?_getD, List.getElem?_eq_none (by rw [List.length_set]; omega), if_neg (by omega), Int.add_zero, List.getD_eq_getElem?_getD, List.getElem?_eq_none (by omega)]
    · rw [List.getD_eq_getElem?_getD, List.getElem?_set_ne (fun z => ht z.symm), ← List.getD_eq_getElem?_getD, ih]
      by_cases hc : p ≤ t ∧ t < p + i ∧ t < ls.length
      · rw [if_pos hc, if_pos (by omega)]
      · rw [if_neg hc, if_neg (by omega)]
theorem sqSteps_all (p : Nat) (cs ls : List Int) (h : ls.length = cs.length) : sqSteps p cs ls (ls.length - p) = sqAdd p ls cs := by
  apply List.ext_getElem?
  intro t
  by_cases ht : t < ls.length
  · have h1 := getD_some (xs := sqSteps p cs ls (ls.length - p)) (i := t) (by rw [sqSteps_len]; exact ht)
    rw [h1, sqSteps_get]
    unfold sqAdd
    rw [List.getElem?_zipWith, getD_some ht]
    by_cases hp : p ≤ t
    · rw [if_pos (by omega), List.getElem?_append_right (by simpa using hp), List.length_replicate, getD_some (xs := cs) (i := t - p) (by omega)] <;> rfl
    · rw [if_neg (by omega), List.getElem?_append_left (by simp; omega), List.getElem?_replicate, if_pos (by omega)] <;> rfl
  · rw [List.getElem?_eq_none (by rw [sqSteps_len]; omega), List.getElem?_eq_none (by rw [sqAdd_len h]; omega)]
/-- the roots from 1 to i -/
def sqs (cs : List Int) : Nat → List Int
  | 0 => cs
  | i + 1 => sqAdd ((i + 1) * (i + 1)) (sqs cs i) cs
theorem sqs_len (cs : List Int) : ∀ i, (sqs cs i).length = cs.length
  | 0 => rfl
  | i + 1 => by show (sqAdd _ _ _).length = _; rw [sqAdd_len (sqs_len cs i), sqs_len cs i]
/-- the greatest root up to f -/
def isq (n : Nat) : Nat → Nat
  | 0 => 0
  | f + 1 => if (isq n f + 1) * (isq n f + 1) ≤ n then isq n f + 1 else isq n f
end Q

/-! P6: ways_of_squares. -/
namespace Q
open MP
def wIn : List IS := [(.set 4 (.var 6) (.bin .add (.imm (.sub (.var 4) (.var 6))) (.imm (.bin .mul (.cst (.int 2)) (.sub (.var 2) (.bin .sub (.var 6) (.bin .mul (.var 5) (.var 5))))))) [])]
def wLoop : List IS := [(.for (.nm 6) (.rng2 (.bin .mul (.var 5) (.var 5)) (.bin .add (.var 0) (.cst (.int 1)))) wIn []), (.asg 5 (.bin .add (.var 5) (.cst (.int 1))) [])]
section
variable {F : Fns} {W : Nat} {μ : Mem}
def envW (n m : Nat) (cs ls : List Int) (o3 : Option T) (r : Nat) (o6 : Option T) : Env := [some (.int (n : Int)), some (.int (m : Int)), some (.lst (cs.map .int)), o3, some (.lst (ls.map .int)), some (.int (r : Int)), o6]
theorem sq_eval {n m r : Nat} {cs ls : List Int} {o3 o6 : Option T} (hr : r ≤ 1000) : evE F (envW n m cs ls o3 r o6) (.bin .mul (.var 5) (.var 5)) μ = .ok (.int ((r * r : Nat) : Int)) μ := by
  have h : pBin .mul (.int (r : Int)) (.int (r : Int)) = some (.int ((r : Int) * (r : Int))) := pMul_l (by unfold inMul; rw [Bool.and_eq_true, decide_eq_true_eq, decide_eq_true_eq]; omega)
  have e : ((r * r : Nat) : Int) = (r : Int) * (r : Int) := by rw [Int.natCast_mul]
  rw [e]
  exact eBin (eVar rfl) (eVar rfl) h
theorem wLoop_ok {n m r : Nat} {cs ls : List Int} {o3 o6 : Option T} (hn : n ≤ 1000) (hr : r * r ≤ n) (hc : cs.length = n + 1) (hl : ls.length = n + 1) : ∃ o, evIs F W wLoop (envW n m cs ls o3 r o6) μ = .ok (.nx, envW n m cs (sqAdd (r * r) ls cs) o3 (r + 1) o) μ := by
  have hr1 : r ≤ 1000 := by
    by_cases h : r ≤ 1000
    · exact h
    · have : 1001 * 1001 ≤ r * r := Nat.mul_le_mul (by omega) (by omega)
      omega
  let c := n + 1 - r * r
  let P : Nat → Env → Prop := fun i ρ => ∃ o, ρ = envW n m cs (sqSteps (r * r) cs ls i) o3 r o
  obtain ⟨ρ', e, o, rfl⟩ : ∃ ρ', forLoop (fun x ρ μ => match bindTg (.nm 6) x ρ with | some ρ' => evIs F W wIn ρ' μ | none => .stuck) (rngL ((r * r : Nat) : Int) 1 c) (envW n m cs ls o3 r o6) μ = .ok (.nx, ρ') μ ∧ P (0 + (rngL ((r * r : Nat) : Int) 1 c).length) ρ' := by
    refine forLoop_ok P ⟨o6, rfl⟩ fun j x ρ hx ⟨o, e⟩ => ?_
    have hj : j < c := by
      have := (List.getElem?_eq_some_iff.mp hx).1
      rw [rngL_len] at this
      exact this
    rw [rngL_get _ _ _ _ hj] at hx
    cases hx
    rw [Nat.zero_add] at e ⊢
    subst e
    have hpj : (((r * r : Nat) : Int) + (j : Nat) * 1) = ((r * r + j : Nat) : Int) := by omega
    rw [hpj]
    have hlen := sqSteps_len (r * r) cs ls j
    generalize hy : sqSteps (r * r) cs ls j = ys at hlen ⊢
    have q : evE F (envW n m cs ys o3 r (some (.int ((r * r + j : Nat) : Int)))) (.bin .mul (.var 5) (.var 5)) μ = .ok (.int ((r * r : Nat) : Int)) μ := sq_eval hr1
    have a1 : evE F (envW n m cs ys o3 r (some (.int ((r * r + j : Nat) : Int)))) (.sub (.var 4) (.var 6)) μ = .ok (.int (ys.getD (r * r + j) 0)) μ := eIx (eVar rfl) (eVar rfl) (by omega)
    have a2 : evE F (envW n m cs ys o3 r (some (.int ((r * r + j : Nat) : Int)))) (.bin .sub (.var 6) (.bin .mul (.var 5) (.var 5))) μ = .ok (.int (j : Int)) μ := by
      have : (j : Int) = ((r * r + j : Nat) : Int) - ((r * r : Nat) : Int) := by omega
      rw [this]
      exact eBin (eVar rfl) q rfl
    have a3 : evE F (envW n m cs ys o3 r (some (.int ((r * r + j : Nat) : Int)))) (.sub (.var 2) (.bin .sub (.var 6) (.bin .mul (.var 5) (.var 5)))) μ = .ok (.int (cs.getD j 0)) μ := eIx (eVar rfl) a2 (by omega)
    have a4 : evE F (envW n m cs ys o3 r (some (.int ((r * r + j : Nat) : Int)))) (.bin .add (.imm (.sub (.var 4) (.var 6))) (.imm (.bin .mul (.cst (.int 2)) (.sub (.var 2) (.bin .sub (.var 6) (.bin .mul (.var 5) (.var 5))))))) μ = .ok (.int (ys.getD (r * r + j) 0 + 2 * cs.getD j 0)) μ :=
      eBin (eImm a1) (eImm (eBin eCst a3 (pMul_l rfl))) rfl
    have st := sSetI (F := F) (W := W) (x := 4) (ei := .var 6) (i := r * r + j) a4 rfl (eVar rfl) (by omega)
    refine ⟨_, ssCons st rfl, some (.int ((r * r + j : Nat) : Int)), ?_⟩
    rw [sqSteps_succ, hy] <;> rfl
  rw [rngL_len, Nat.zero_add] at *
  have hcc : c = ls.length - r * r := by omega
  refine ⟨o, ?_⟩
  have hi : evI F (envW n m cs ls o3 r o6) (.rng2 (.bin .mul (.var 5) (.var 5)) (.bin .add (.var 0) (.cst (.int 1)))) μ = .ok (rngL ((r * r : Nat) : Int) 1 c) μ := by
    have h1 : evE F (envW n m cs ls o3 r o6) (.bin .add (.var 0) (.cst (.int 1))) μ = .ok (.int ((n : Int) + 1)) μ := eBin (eVar rfl) eCst rfl
    rw [evI, sq_eval hr1, Res.bind_ok, h1, Res.bind_ok]
    show (if smallI ((r * r : Nat) : Int) && smallI ((n : Int) + 1) then Res.ok (rngL ((r * r : Nat) : Int) 1 ((n : Int) + 1 - ((r * r : Nat) : Int)).toNat) μ else .stuck) = _
    have q1 : smallI ((r * r : Nat) : Int) = true := by simp only [smallI, Bool.and_eq_true, decide_eq_true_eq]; omega
    have q2 : smallI ((n : Int) + 1) = true := by simp only [smallI, Bool.and_eq_true, decide_eq_true_eq]; omega
    rw [q1, q2, show ((n : Int) + 1 - ((r * r : Nat) : Int)).toNat = c by omega] <;> rfl
  have fin : evI1 F W (.for (.nm 6) (.rng2 (.bin .mul (.var 5) (.var 5)) (.bin .add (.var 0) (.cst (.int 1)))) wIn []) (envW n m cs ls o3 r o6) μ = .ok (.nx, envW n m cs (sqSteps (r * r) cs ls c) o3 r o) μ := sFor hi e
  rw [hcc, sqSteps_all _ _ _ (by omega)] at fin
  have a5 : evE F (envW n m cs (sqAdd (r * r) ls cs) o3 r o) (.bin .add (.var 5) (.cst (.int 1))) μ = .ok (.int ((r + 1 : Nat) : Int)) μ := by
    rw [Int.natCast_add]
    exact eBin (eVar rfl) eCst rfl
  exact ssCons fin (ssCons (sAsg a5) rfl)
end
end Q

/-! P7: ways_of_squares, two_squares, four_squares. -/
namespace Q
open MP
def wTst : IE := .cmp .le (.bin .mul (.var 5) (.var 5)) (.var 0)
/-- so many roots -/
def IsRt (n i : Nat) : Prop := i * i ≤ n ∧ n < (i + 1) * (i + 1)
theorem wh_sq {F : Fns} {W : Nat} {μ : Mem} {n m : Nat} {cs : List Int} {o3 : Option T} (hn : n ≤ 1000) (hc : cs.length = n + 1) : ∀ (fuel i : Nat) (o6 : Option T), n < i + fuel → i * i ≤ n → ∃ i' o, IsRt n i' ∧ whLoop (fun ρ μ => evE F ρ wTst μ) (fun ρ μ => evIs F W wLoop ρ μ) fuel (envW n m cs (sqs cs i) o3 (i + 1) o6) μ = .ok (.nx, envW n m cs (sqs cs i') o3 (i' + 1) o) μ
  | 0, i, o6, h, hi => by
    have : i ≤ i * i := Nat.le_mul_self i
    omega
  | fuel + 1, i, o6, h, hi => by
    have hi1 : i ≤ n := Nat.le_trans (Nat.le_mul_self i) hi
    by_cases hi2 : i + 1 ≤ 1000
    · have t : evE F (envW n m cs (sqs cs i) o3 (i + 1) o6) wTst μ = .ok (.bl (decide ((((i + 1) * (i + 1) : Nat) : Int) ≤ (n : Int)))) μ := eCmp (sq_eval hi2) (eVar rfl) rfl
      by_cases hd : (i + 1) * (i + 1) ≤ n
      · obtain ⟨o, e⟩ := wLoop_ok (F := F) (W := W) (μ := μ) (m := m) (cs := cs) (ls := sqs cs i) (o3 := o3) (o6 := o6) hn hd hc (by rw [sqs_len, hc])
        obtain ⟨i', o', q, e2⟩ := wh_sq (F := F) (W := W) (μ := μ) (m := m) (o3 := o3) hn hc fuel (i + 1) o (by omega) hd
        refine ⟨i', o', q, ?_⟩
        show Res.bind (evE F _ wTst μ) _ = _
        rw [t, Res.bind_ok, decide_eq_true (by omega)]
        show Res.bind (evIs F W wLoop _ μ) _ = _
        rw [e, Res.bind_ok]
        exact e2
      · refine ⟨i, o6, ⟨hi, by omega⟩, ?_⟩
        show Res.bind (evE F _ wTst μ) _ = _
        rw [t, Res.bind_ok, decide_eq_false (by omega)]
    · have : 1000 * 1000 ≤ i * i := Nat.mul_le_mul (by omega) (by omega)
      omega
theorem rt_uniq {n i j : Nat} (h1 : IsRt n i) (h2 : IsRt n j) : i = j := by
  obtain ⟨a1, a2⟩ := h1
  obtain ⟨b1, b2⟩ := h2
  rcases Nat.lt_trichotomy i j with h | h | h
  · have : (i + 1) * (i + 1) ≤ j * j := Nat.mul_le_mul (by omega) (by omega)
    omega
  · exact h
  · have : (j + 1) * (j + 1) ≤ i * i := Nat.mul_le_mul (by omega) (by omega)
    omega
/-- the counts behind so many squares, R the roots -/
def wS (n R : Nat) : Nat → List Int
  | 0 => base n
  | i + 1 => sqs (wS n R i) R
theorem wS_len (n R : Nat) : ∀ i, (wS n R i).length = n + 1
  | 0 => base_len n
  | i + 1 => by show (sqs _ _).length = _; rw [sqs_len, wS_len n R i]
end Q

/-! P8: ways_of_squares, two_squares, four_squares as values. -/
namespace Q
open MP
theorem ways_ok (k n m R : Nat) (hn : n ≤ 1000) (hm : m ≤ 1000) (hR : IsRt n R) (B : T) : Fn (k + 1) 7 [.int (n : Int), .int (m : Int)] [B] = .ok (.int ((wS n R m).getD n 0)) [B] := by
  rw [fnEq k 7 _ _ rfl]
  have l1 := line_eq1
  let ρ0 : Env := [some (.int (n : Int)), some (.int (m : Int)), none, none, none, none, none]
  let ρ1 : Env := [some (.int (n : Int)), some (.int (m : Int)), some (.lst ((base n).map .int)), none, none, none, none]
  have s1 : evI1 (Fn k) 100000 (.asg 2 (.bin .add (.lst [(false, (.cst (.int 1)))]) (.bin .mul (.lst [(false, (.cst (.int 0)))]) (.var 0))) []) ρ0 [B] = .ok (.nx, ρ1) [B] := sAsg (base_ok rfl (by omega))
  let body : List IS := [(.asg 4 (.flat (.bi .list [(.var 2)])) []), (.asg 5 (.cst (.int 1)) []), (.wh wTst wLoop), (.asg 2 (.var 4) [4])]
  let P : Nat → Env → Prop := fun i ρ => ∃ o3 o4 o5 o6, ρ = [some (.int (n : Int)), some (.int (m : Int)), some (.lst ((wS n R i).map .int)), o3, o4, o5, o6]
  obtain ⟨ρ', e, o3, o4, o5, o6, rfl⟩ : ∃ ρ', forLoop (fun x ρ μ => match bindTg (.nm 3) x ρ with | some ρ' => evIs (Fn k) 100000 body ρ' μ | none => .stuck) (rngL 0 1 m) ρ1 [B] = .ok (.nx, ρ') [B] ∧ P (0 + (rngL 0 1 m).length) ρ' := by
    refine forLoop_ok P ⟨none, none, none, none, rfl⟩ fun j x ρ hx ⟨o3, o4, o5, o6, e⟩ => ?_
    rw [Nat.zero_add] at e ⊢
    subst e
    have hl := wS_len n R j
    generalize hy : wS n R j = cs at hl
    have b1 : evI1 (Fn k) 100000 (.asg 4 (.flat (.bi .list [(.var 2)])) []) [some (.int (n : Int)), some (.int (m : Int)), some (.lst (cs.map .int)), some x, o4, o5, o6] [B] = .ok (.nx, [some (.int (n : Int)), some (.int (m : Int)), some (.lst (cs.map .int)), some x, some (.lst (cs.map .int)), o5, o6]) [B] := by
      refine sAsg (t := .lst (cs.map .int)) ?_
      rw [evE]
      show (if nodelessL (cs.map T.int) = true then (Res.ok (T.lst (cs.map .int)) [B]) else .stuck) = _
      rw [nodelessL_ints] <;> rfl
    have b2 : evI1 (Fn k) 100000 (.asg 5 (.cst (.int 1)) []) [some (.int (n : Int)), some (.int (m : Int)), some (.lst (cs.map .int)), some x, some (.lst (cs.map .int)), o5, o6] [B] = .ok (.nx, envW n m cs (sqs cs 0) (some x) (0 + 1) o6) [B] := sAsg rfl
    obtain ⟨i', o', q, e3⟩ := wh_sq (F := Fn k) (W := 100000) (μ := [B]) (m := m) (o3 := some x) hn hl 100000 0 o6 (by omega) (by omega)
    obtain rfl := rt_uniq q hR
    have b3 : evI1 (Fn k) 100000 (.wh wTst wLoop) (envW n m cs (sqs cs 0) (some x) (0 + 1) o6) [B] = .ok (.nx, envW n m cs (sqs cs i') (some x) (i' + 1) o') [B] := by rw [evI1]; exact e3
    have b4 : evI1 (Fn k) 100000 (.asg 2 (.var 4) [4]) (envW n m cs (sqs cs i') (some x) (i' + 1) o') [B] = .ok (.nx, [some (.int (n : Int)), some (.int (m : Int)), some (.lst ((sqs cs i').map .int)), some x, none, some (.int ((i' + 1 : Nat) : Int)), o']) [B] := sAsg (eVar rfl)
    refine ⟨_, ssCons b1 (ssCons b2 (ssCons b3 (ssCons b4 rfl))), some x, none, some (.int ((i' + 1 : Nat) : Int)), o', ?_⟩
    have e : wS n i' (j + 1) = sqs cs i' := by rw [← hy] <;> rfl
    rw [e]
  rw [rngL_len, Nat.zero_add] at *
  have hi : evI (Fn k) ρ1 (.rng1 (.var 1)) [B] = .ok (rngL 0 1 m) [B] := by
    have q2 : smallI (m : Int) = true := by simp only [smallI, Bool.and_eq_true, decide_eq_true_eq]; omega
    have q3 : evE (Fn k) ρ1 (.var 1) [B] = .ok (.int (m : Int)) [B] := eVar rfl
    rw [evI, q3, Res.bind_ok]
    dsimp only
    rw [if_pos q2, Int.toNat_natCast]
  have s2 : evI1 (Fn k) 100000 (.for (.nm 3) (.rng1 (.var 1)) body []) ρ1 [B] = .ok (.nx, [some (.int (n : Int)), some (.int (m : Int)), some (.lst ((wS n R m).map .int)), o3, o4, o5, o6]) [B] := sFor hi e
  exact runRt (d := d_ways_of_squares) rfl (ssCons s1 (ssCons s2 (ssRet (sRet (eIx (eVar rfl) (eVar rfl) (by rw [wS_len]; omega)))))) (.inl (by decide))
theorem two_ok (k n R : Nat) (hn : n ≤ 1000) (hR : IsRt n R) (B : T) : Fn (k + 3) 8 [.int (n : Int)] [B] = .ok (.int ((wS n R 2).getD n 0)) [B] := by
  rw [fnEq (k + 2) 8 _ _ rfl]
  exact runRt (d := d_two_squares) (ρ' := [some (.int (n : Int))]) rfl (ssCons (sEx (eCall1 (eVar rfl) (check_ok k (by omega) B))) (ssRet (sRet (eCall2 (eVar rfl) eCst (ways_ok (k + 1) n 2 R hn (by omega) hR B))))) (.inl (by decide))
theorem four_ok (k n R : Nat) (hn : n ≤ 1000) (hR : IsRt n R) (B : T) : Fn (k + 3) 9 [.int (n : Int)] [B] = .ok (.int ((wS n R 4).getD n 0)) [B] := by
  rw [fnEq (k + 2) 9 _ _ rfl]
  exact runRt (d := d_four_squares) (ρ' := [some (.int (n : Int))]) rfl (ssCons (sEx (eCall1 (eVar rfl) (check_ok k (by omega) B))) (ssRet (sRet (eCall2 (eVar rfl) eCst (ways_ok (k + 1) n 4 R hn (by omega) hR B))))) (.inl (by decide))
end Q

/-! P9: the law's own counts. -/
namespace Q
open MP
section
variable {F : Fns} {W : Nat} {μ : Mem}
def envC (n : Nat) (so : T) (xs : List Int) (p : Nat) (o4 o5 o6 o7 : Option T) : Env := [some (.int (n : Int)), some so, some (.lst (xs.map .int)), some (.int (p : Int)), o4, o5, o6, o7]
def unlE : IE := .lc (.bin .sub (.imm (.sub (.var 2) (.var 7))) (.ite (.cmp .ge (.var 7) (.var 3)) (.imm (.sub (.var 2) (.bin .sub (.var 7) (.var 3)))) (.cst (.int 0)))) (.nm 7) (.rng1 (.bin .add (.var 0) (.cst (.int 1)))) none
theorem unlE_ok {n p : Nat} {so : T} {xs : List Int} {o4 o5 o6 o7 : Option T} (hn : n ≤ 1000000) (hl : xs.length = n + 1) : evE F (envC n so xs p o4 o5 o6 o7) unlE μ = .ok (.lst ((unl p xs).map .int)) μ := by
  have l1 := line_eq1
  let g : T → T := fun x => match x with
    | .int t => .int (xs.getD t.toNat 0 - if (p : Int) ≤ t then xs.getD (t - p).toNat 0 else 0)
    | _ => .non
  have hi : evI F (envC n so xs p o4 o5 o6 o7) (.rng1 (.bin .add (.var 0) (.cst (.int 1)))) μ = .ok (rngL 0 1 (n + 1)) μ := by
    have h1 : evE F (envC n so xs p o4 o5 o6 o7) (.bin .add (.var 0) (.cst (.int 1))) μ = .ok (.int ((n : Int) + 1)) μ := eBin (eVar rfl) eCst rfl
    have q2 : smallI ((n : Int) + 1) = true := by simp only [smallI, Bool.and_eq_true, decide_eq_true_eq]; omega
    rw [evI, h1, Res.bind_ok]
    dsimp only
    rw [if_pos q2, show ((n : Int) + 1).toNat = n + 1 by omega]
  have key : evE F (envC n so xs p o4 o5 o6 o7) unlE μ = .ok (.lst ((rngL 0 1 (n + 1)).map g)) μ := by
    unfold unlE
    rw [evE, hi, Res.bind_ok, lcGo_map (g := g) (fun x hx => ?_) (by rw [rngL_len]; omega)]
    · rfl
    · obtain ⟨i, hi', e⟩ := List.mem_iff_getElem.mp hx
      rw [rngL_len] at hi'
      have ex := rngL_get 0 1 (n + 1) i hi'
      rw [List.getElem?_eq_getElem (by rw [rngL_len]; exact hi'), e] at ex
      have ex2 : x = .int (0 + ((i : Nat) : Int) * 1) := Option.some.inj ex
      have ez : (0 + ((i : Nat) : Int) * 1) = (i : Int) := by omega
      rw [ez] at ex2
      clear e ex
      subst ex2
      let ρ := envC n so xs p o4 o5 o6 (some (.int (i : Int)))
      have a1 : evE F ρ (.sub (.var 2) (.var 7)) μ = .ok (.int (xs.getD i 0)) μ := eIx (eVar rfl) (eVar rfl) (by omega)
      have hc : evE F ρ (.cmp .ge (.var 7) (.var 3)) μ = .ok (.bl (decide ((p : Int) ≤ i))) μ := eCmp (eVar rfl) (eVar rfl) rfl
      have a2 : evE F ρ (.ite (.cmp .ge (.var 7) (.var 3)) (.imm (.sub (.var 2) (.bin .sub (.var 7) (.var 3)))) (.cst (.int 0))) μ = .ok (.int (if (p : Int) ≤ i then xs.getD ((i : Int) - p).toNat 0 else 0)) μ := by
        refine eIte hc ?_
        by_cases hp : (p : Int) ≤ i
        · rw [decide_eq_true hp, if_pos hp]
          have e1 : ((i : Int) - p) = ((i - p : Nat) : Int) := by omega
          have e2 : evE F ρ (.bin .sub (.var 7) (.var 3)) μ = .ok (.int ((i - p : Nat) : Int)) μ := by
            rw [← e1]
            exact eBin (eVar rfl) (eVar rfl) rfl
          rw [e1, Int.toNat_natCast]
          exact eImm (eIx (eVar rfl) e2 (by omega))
        · rw [decide_eq_false hp, if_neg hp] <;> rfl
      have a3 : evE F ρ (.bin .sub (.imm (.sub (.var 2) (.var 7))) (.ite (.cmp .ge (.var 7) (.var 3)) (.imm (.sub (.var 2) (.bin .sub (.var 7) (.var 3)))) (.cst (.int 0)))) μ = .ok (g (.int (i : Int))) μ := eBin (eImm a1) a2 rfl
      show Res.bind (.ok true μ) _ = _
      rw [Res.bind_ok]
      show Res.bind (evE F ρ _ μ) _ = _
      rw [a3] <;> rfl
  have fin : (rngL 0 1 (n + 1)).map g = (unl p xs).map T.int := by
    apply List.ext_getElem?
    intro i
    by_cases hi : i < n + 1
    · rw [List.getElem?_map, rngL_get _ _ _ _ hi, List.getElem?_map, unl_get p xs i (getD_some (by omega))]
      show some (T.int (xs.getD (0 + (i : Int) * 1).toNat 0 - if (p : Int) ≤ 0 + (i : Int) * 1 then xs.getD (0 + (i : Int) * 1 - p).toNat 0 else 0)) = some (T.int (xs.getD i 0 - if p ≤ i then (xs[i - p]?).getD 0 else 0))
      rw [show (0 + (i : Int) * 1).toNat = i by omega]
      by_cases hp : p ≤ i
      · rw [if_pos (by omega), if_pos hp, show (0 + (i : Int) * 1 - p).toNat = i - p by omega, List.getD_eq_getElem?_getD (l := xs) (i := i - p)]
      · rw [if_neg (by omega), if_neg hp]
    · rw [List.getElem?_eq_none (by rw [List.length_map, rngL_len]; omega), List.getElem?_eq_none (by rw [List.length_map, unl_len]; omega)]
  rw [key, fin]
end
end Q

/-! P10: one turn of the law's own counts. -/
namespace Q
open MP
section
variable {F : Fns} {W : Nat} {μ : Mem}
def addE : List IS := [(.set 2 (.var 7) (.bin .add (.imm (.sub (.var 2) (.var 7))) (.imm (.bin .mul (.var 6) (.imm (.sub (.var 2) (.bin .sub (.var 7) (.var 3))))))) [])]
def walkE : II := .seq (.ite (.cmp .ne (.var 6) (.cst (.int 0))) (.lof false (.rng2 (.var 3) (.bin .add (.var 0) (.cst (.int 1))))) (.lst []))
theorem walkE_ok {n p : Nat} {so : T} {xs : List Int} {o4 o5 o7 : Option T} {sg : Int} (hn : n ≤ 1000000) (hp : p ≤ n + 1) : evI F (envC n so xs p o4 o5 (some (.int sg)) o7) walkE μ = .ok (if sg ≠ 0 then rngL (p : Int) 1 (n + 1 - p) else []) μ := by
  have l1 := line_eq1
  have hc : evE F (envC n so xs p o4 o5 (some (.int sg)) o7) (.cmp .ne (.var 6) (.cst (.int 0))) μ = .ok (.bl (!decide (sg = 0))) μ := eCmp (eVar rfl) eCst rfl
  have h2 : evE F (envC n so xs p o4 o5 (some (.int sg)) o7) (.lof false (.rng2 (.var 3) (.bin .add (.var 0) (.cst (.int 1))))) μ = .ok (.lst (rngL (p : Int) 1 (n + 1 - p))) μ := by
    have q0 : evE F (envC n so xs p o4 o5 (some (.int sg)) o7) (.var 3) μ = .ok (.int (p : Int)) μ := eVar rfl
    have q : evE F (envC n so xs p o4 o5 (some (.int sg)) o7) (.bin .add (.var 0) (.cst (.int 1))) μ = .ok (.int ((n : Int) + 1)) μ := eBin (eVar rfl) eCst rfl
    have q1 : (smallI (p : Int) && smallI ((n : Int) + 1)) = true := by simp only [smallI, Bool.and_eq_true, decide_eq_true_eq]; omega
    have q3 : evI F (envC n so xs p o4 o5 (some (.int sg)) o7) (.rng2 (.var 3) (.bin .add (.var 0) (.cst (.int 1)))) μ = .ok (rngL (p : Int) 1 (n + 1 - p)) μ := by
      rw [evI, q0, Res.bind_ok, q, Res.bind_ok]
      dsimp only
      rw [if_pos q1, show ((n : Int) + 1 - p).toNat = n + 1 - p by omega]
    rw [evE, q3, Res.bind_ok]
    have q4 : Nat.ble (rngL (p : Int) 1 (n + 1 - p)).length line = true := by
      rw [rngL_len]
      exact Nat.ble_eq_true_of_le (by omega)
    rw [if_pos q4]
  unfold walkE
  rw [evI]
  by_cases hs : sg = 0
  · have : evE F (envC n so xs p o4 o5 (some (.int sg)) o7) (.ite (.cmp .ne (.var 6) (.cst (.int 0))) (.lof false (.rng2 (.var 3) (.bin .add (.var 0) (.cst (.int 1))))) (.lst [])) μ = .ok (.lst []) μ := eIte hc (by rw [hs] <;> rfl)
    rw [this, if_neg (by omega)] <;> rfl
  · have : evE F (envC n so xs p o4 o5 (some (.int sg)) o7) (.ite (.cmp .ne (.var 6) (.cst (.int 0))) (.lof false (.rng2 (.var 3) (.bin .add (.var 0) (.cst (.int 1))))) (.lst [])) μ = .ok (.lst (rngL (p : Int) 1 (n + 1 - p))) μ := eIte hc (by rw [decide_eq_false hs]; exact h2)
    rw [this, if_pos hs] <;> rfl
theorem addE_ok {n p : Nat} {so : T} {xs : List Int} {o4 o5 o7 : Option T} {sg : Int} (hn : n ≤ 1000000) (hp : p ≤ n + 1) (hl : xs.length = n + 1) (hs : inMul sg = true) : ∃ o, evI1 F W (.for (.nm 7) walkE addE []) (envC n so xs p o4 o5 (some (.int sg)) o7) μ = .ok (.nx, envC n so (if sg ≠ 0 then oft p sg xs else xs) p o4 o5 (some (.int sg)) o) μ := by
  by_cases h0 : sg ≠ 0
  · rw [if_pos h0]
    let P : Nat → Env → Prop := fun i ρ => ∃ o, ρ = envC n so (ofts p sg xs i) p o4 o5 (some (.int sg)) o
    obtain ⟨ρ', e, o, rfl⟩ : ∃ ρ', forLoop (fun x ρ μ => match bindTg (.nm 7) x ρ with | some ρ' => evIs F W addE ρ' μ | none => .stuck) (rngL (p : Int) 1 (n + 1 - p)) (envC n so xs p o4 o5 (some (.int sg)) o7) μ = .ok (.nx, ρ') μ ∧ P (0 + (rngL (p : Int) 1 (n + 1 - p)).length) ρ' := by
      refine forLoop_ok P ⟨o7, rfl⟩ fun j x ρ hx ⟨o, e⟩ => ?_
      have hj : j < n + 1 - p := by
        have := (List.getElem?_eq_some_iff.mp hx).1
        rw [rngL_len] at this
        exact this
      rw [rngL_get _ _ _ _ hj] at hx
      have hx : T.int ((p : Int) + (j : Nat) * 1) = x := Option.some.inj hx
      subst hx
      rw [Nat.zero_add] at e ⊢
      subst e
      have hpj : ((p : Int) + (j : Nat) * 1) = ((p + j : Nat) : Int) := by omega
      rw [hpj]
      have hlen := ofts_len p sg xs j
      generalize hy : ofts p sg xs j = ys at hlen ⊢
      have a1 : evE F (envC n so ys p o4 o5 (some (.int sg)) (some (.int ((p + j : Nat) : Int)))) (.sub (.var 2) (.var 7)) μ = .ok (.int (ys.getD (p + j) 0)) μ := eIx (eVar rfl) (eVar rfl) (by omega)
      have a2 : evE F (envC n so ys p o4 o5 (some (.int sg)) (some (.int ((p + j : Nat) : Int)))) (.bin .sub (.var 7) (.var 3)) μ = .ok (.int (j : Int)) μ := by
        have : (j : Int) = ((p + j : Nat) : Int) - (p : Int) := by omega
        rw [this]
        exact eBin (eVar rfl) (eVar rfl) rfl
      have a3 : evE F (envC n so ys p o4 o5 (some (.int sg)) (some (.int ((p + j : Nat) : Int)))) (.sub (.var 2) (.bin .sub (.var 7) (.var 3))) μ = .ok (.int (ys.getD j 0)) μ := eIx (eVar rfl) a2 (by omega)
      have a4 : evE F (envC n so ys p o4 o5 (some (.int sg)) (some (.int ((p + j : Nat) : Int)))) (.bin .add (.imm (.sub (.var 2) (.var 7))) (.imm (.bin .mul (.var 6) (.imm (.sub (.var 2) (.bin .sub (.var 7) (.var 3))))))) μ = .ok (.int (ys.getD (p + j) 0 + sg * ys.getD j 0)) μ :=
        eBin (eImm a1) (eImm (eBin (eVar rfl) (eImm a3) (pMul_l hs))) rfl
      have st := sSetI (F := F) (W := W) (x := 2) (ei := .var 7) (i := p + j) a4 rfl (eVar rfl) (by omega)
      refine ⟨_, ssCons st rfl, some (.int ((p + j : Nat) : Int)), ?_⟩
      rw [ofts_succ, hy] <;> rfl
    rw [rngL_len, Nat.zero_add] at *
    refine ⟨o, sFor (r := .ok (.nx, envC n so (oft p sg xs) p o4 o5 (some (.int sg)) o) μ) (walkE_ok hn hp) ?_⟩
    rw [if_pos h0]
    have : oft p sg xs = ofts p sg xs (n + 1 - p) := by unfold oft; rw [hl]
    rw [this]
    exact e
  · rw [if_neg h0]
    refine ⟨o7, sFor (walkE_ok hn hp) ?_⟩
    rw [if_neg h0] <;> rfl
end
end Q

/-! P11: the law's own counts are the program's. -/
namespace Q
open MP
def onceE : IE := .bop false [(.cmp .ne (.var 1) (.cst (.str "half"))), (.cmp .eq (.bin .mod (.bi .int [(.var 3)]) (.cst (.int 2))) (.cst (.int 0)))]
def oftenE : IE := .ite (.cmp .eq (.var 1) (.cst (.str "signed"))) (.un (.cst (.int 1))) (.ite (.bop true [(.cmp .eq (.var 1) (.cst (.str "half"))), (.nt (.var 5))]) (.cst (.int 1)) (.cst (.int 0)))
def turnE : List IS := [(.asg 5 onceE []), (.iff (.var 5) [(.asg 2 unlE [])] []), (.asg 6 oftenE []), (.for (.nm 7) walkE addE [])]
section
variable {F : Fns} {W : Nat} {μ : Mem}
theorem turn_ok2 {n p : Nat} {so : T} {xs : List Int} {o4 o5 o6 o7 : Option T} {once : Bool} {sg : Int} (hn : n ≤ 1000000) (hp : p ≤ n + 1) (hl : xs.length = n + 1) (hs : inMul sg = true)
    (h5 : ∀ xs o4 o5 o6 o7, evE F (envC n so xs p o4 o5 o6 o7) onceE μ = .ok (.bl once) μ) (h6 : ∀ xs o4 o6 o7, evE F (envC n so xs p o4 (some (.bl once)) o6 o7) oftenE μ = .ok (.int sg) μ) :
    ∃ ys p5 p6 p7, ys = (if sg ≠ 0 then oft p sg (if once then unl p xs else xs) else if once then unl p xs else xs) ∧ evIs F W turnE (envC n so xs p o4 o5 o6 o7) μ = .ok (.nx, envC n so ys p o4 p5 p6 p7) μ := by
  have s1 : evI1 F W (.asg 5 onceE []) (envC n so xs p o4 o5 o6 o7) μ = .ok (.nx, envC n so xs p o4 (some (.bl once)) o6 o7) μ := sAsg (h5 _ _ _ _ _)
  have s2 : evI1 F W (.iff (.var 5) [(.asg 2 unlE [])] []) (envC n so xs p o4 (some (.bl once)) o6 o7) μ = .ok (.nx, envC n so (if once then unl p xs else xs) p o4 (some (.bl once)) o6 o7) μ := by
    refine sIf (v := once) (eVar rfl) ?_
    cases once with
    | true => exact ssCons (sAsg (unlE_ok hn hl)) rfl
    | false => rfl
  have s3 : evI1 F W (.asg 6 oftenE []) (envC n so (if once then unl p xs else xs) p o4 (some (.bl once)) o6 o7) μ = .ok (.nx, envC n so (if once then unl p xs else xs) p o4 (some (.bl once)) (some (.int sg)) o7) μ := sAsg (h6 _ _ _ _)
  have hl2 : (if once then unl p xs else xs).length = n + 1 := by
    cases once with
    | true => rw [if_pos rfl, unl_len, hl]
    | false => exact hl
  obtain ⟨o, s4⟩ := addE_ok (F := F) (W := W) (μ := μ) (so := so) (o4 := o4) (o5 := some (.bl once)) (o7 := o7) hn hp hl2 hs
  exact ⟨_, _, _, o, rfl, ssCons s1 (ssCons s2 (ssCons s3 (ssCons s4 rfl)))⟩
end
end Q

/-! P12: the law's own counts are the program's. -/
namespace Q
open MP
def innE : IS := .for (.nm 4) (.rng1 (.ite (.cmp .eq (.var 1) (.cst (.str "cube"))) (.cst (.int 3)) (.cst (.int 1)))) turnE []
/-- one part, m turns -/
theorem inn_ok {F : Fns} {W : Nat} {μ : Mem} {n p m : Nat} {so : T} {xs : List Int} {o4 o5 o6 o7 : Option T} {once : Bool} {sg : Int} {stp : List Int → List Int} (hn : n ≤ 1000000) (hp : p ≤ n + 1) (hl : xs.length = n + 1) (hs : inMul sg = true) (hm : m = 1 ∨ m = 3)
    (h4 : ∀ xs p o4 o5 o6 o7, evE F (envC n so xs p o4 o5 o6 o7) (.ite (.cmp .eq (.var 1) (.cst (.str "cube"))) (.cst (.int 3)) (.cst (.int 1))) μ = .ok (.int (m : Int)) μ)
    (h5 : ∀ xs o4 o5 o6 o7, evE F (envC n so xs p o4 o5 o6 o7) onceE μ = .ok (.bl once) μ) (h6 : ∀ xs o4 o6 o7, evE F (envC n so xs p o4 (some (.bl once)) o6 o7) oftenE μ = .ok (.int sg) μ)
    (hst : ∀ xs, stp xs = if sg ≠ 0 then oft p sg (if once then unl p xs else xs) else if once then unl p xs else xs) (hsl : ∀ xs, (stp xs).length = xs.length) :
    ∃ p4 p5 p6 p7, evI1 F W innE (envC n so xs p o4 o5 o6 o7) μ = .ok (.nx, envC n so (if m = 3 then stp (stp (stp xs)) else stp xs) p p4 p5 p6 p7) μ := by
  let S : Nat → List Int := fun i => match i with | 0 => xs | 1 => stp xs | 2 => stp (stp xs) | _ => stp (stp (stp xs))
  have SL : ∀ i, (S i).length = n + 1 := fun i => by
    match i with
    | 0 => exact hl
    | 1 => exact (hsl _).trans hl
    | 2 => exact (hsl _).trans ((hsl _).trans hl)
    | i + 3 => exact (hsl _).trans ((hsl _).trans ((hsl _).trans hl))
  have SS : ∀ i, i < 3 → S (i + 1) = stp (S i) := fun i hi => by
    match i with
    | 0 => rfl
    | 1 => rfl
    | 2 => rfl
    | i + 3 => omega
  let P : Nat → Env → Prop := fun i ρ => ∃ p4 p5 p6 p7, ρ = envC n so (S i) p p4 p5 p6 p7
  obtain ⟨ρ', e, p4, p5, p6, p7, rfl⟩ : ∃ ρ', forLoop (fun x ρ μ => match bindTg (.nm 4) x ρ with | some ρ' => evIs F W turnE ρ' μ | none => .stuck) (rngL 0 1 m) (envC n so xs p o4 o5 o6 o7) μ = .ok (.nx, ρ') μ ∧ P (0 + (rngL 0 1 m).length) ρ' := by
    refine forLoop_ok P ⟨o4, o5, o6, o7, rfl⟩ fun j x ρ hx ⟨q4, q5, q6, q7, e⟩ => ?_
    have hj : j < m := by
      have := (List.getElem?_eq_some_iff.mp hx).1
      rw [rngL_len] at this
      exact this
    rw [Nat.zero_add] at e ⊢
    subst e
    obtain ⟨ys, r5, r6, r7, hy, e2⟩ := turn_ok2 (F := F) (W := W) (μ := μ) (xs := S j) (o4 := some x) (o5 := q5) (o6 := q6) (o7 := q7) hn hp (SL j) hs h5 h6
    refine ⟨_, e2, some x, r5, r6, r7, ?_⟩
    rw [SS j (by omega), hst, ← hy]
  rw [rngL_len, Nat.zero_add] at *
  have hi : evI F (envC n so xs p o4 o5 o6 o7) (.rng1 (.ite (.cmp .eq (.var 1) (.cst (.str "cube"))) (.cst (.int 3)) (.cst (.int 1)))) μ = .ok (rngL 0 1 m) μ := by
    have q2 : smallI (m : Int) = true := by simp only [smallI, Bool.and_eq_true, decide_eq_true_eq]; omega
    rw [evI, h4, Res.bind_ok]
    dsimp only
    rw [if_pos q2, Int.toNat_natCast]
  refine ⟨p4, p5, p6, p7, sFor hi ?_⟩
  rcases hm with rfl | rfl
  · exact e
  · exact e
end Q

/-! P13: the law's own counts, all three sorts. -/
namespace Q
open MP
theorem c_ch : pCmp .ne (.str "cube") (.str "half") = some true := by decide +kernel
theorem c_cs : pCmp .eq (.str "cube") (.str "signed") = some false := by decide +kernel
theorem c_ceh : pCmp .eq (.str "cube") (.str "half") = some false := by decide +kernel
theorem c_cc : pCmp .eq (.str "cube") (.str "cube") = some true := by decide +kernel
theorem c_ss : pCmp .eq (.str "signed") (.str "signed") = some true := by decide +kernel
theorem c_sh : pCmp .ne (.str "signed") (.str "half") = some true := by decide +kernel
theorem c_sc : pCmp .eq (.str "signed") (.str "cube") = some false := by decide +kernel
theorem c_hh : pCmp .ne (.str "half") (.str "half") = some false := by decide +kernel
theorem c_heh : pCmp .eq (.str "half") (.str "half") = some true := by decide +kernel
theorem c_hs : pCmp .eq (.str "half") (.str "signed") = some false := by decide +kernel
theorem c_hc : pCmp .eq (.str "half") (.str "cube") = some false := by decide +kernel
section
variable {F : Fns} {ρ : Env} {μ : Mem}
theorem eStr {i : Nat} {a b : PySem.Str} {op : COp} {v : Bool} (h : getV ρ i = some (.str a)) (hc : pCmp op (.str a) (.str b) = some v) : evE F ρ (.cmp op (.var i) (.cst (.str b))) μ = .ok (.bl v) μ := by
  rw [evE, eVar h, Res.bind_ok]
  show Res.bind (.ok (T.str b) μ) _ = _
  rw [Res.bind_ok]
  show Res.bind (opt (pCmp op (.str a) (.str b)) μ) _ = _
  rw [hc] <;> rfl
theorem eOrT {a b : IE} (ha : evE F ρ a μ = .ok (.bl true) μ) : evE F ρ (.bop false [a, b]) μ = .ok (.bl true) μ := by
  show Res.bind (evE F ρ a μ) _ = _
  rw [ha, Res.bind_ok] <;> rfl
theorem eAndF {a b : IE} (ha : evE F ρ a μ = .ok (.bl false) μ) : evE F ρ (.bop true [a, b]) μ = .ok (.bl false) μ := by
  show Res.bind (evE F ρ a μ) _ = _
  rw [ha, Res.bind_ok] <;> rfl
theorem eNot {a : IE} {v : Bool} (h : evE F ρ a μ = .ok (.bl v) μ) : evE F ρ (.nt a) μ = .ok (.bl (!v)) μ := by rw [evE, h] <;> rfl
end
theorem cnt_len {n i : Nat} {f : Nat → List Int → List Int} {S : Nat → List Int} (S0 : S 0 = base n) (Ss : ∀ i, S (i + 1) = f (i + 1) (S i)) (fl : ∀ p xs, (f p xs).length = xs.length) : (S i).length = n + 1 := by
  induction i with
  | zero => rw [S0, base_len]
  | succ i ih => rw [Ss, fl, ih]
theorem base_ok2 {F : Fns} {ρ : Env} {μ : Mem} {i n : Nat} (h : getV ρ i = some (.int (n : Int))) (hn : n ≤ 1000000) : evE F ρ (.bin .add (.lst [(false, (.cst (.int 1)))]) (.flat (.bin .mul (.lst [(false, (.cst (.int 0)))]) (.var i)))) μ = .ok (.lst ((base n).map .int)) μ := by
  have h1 : evE F ρ (.flat (.bin .mul (.lst [(false, (.cst (.int 0)))]) (.var i))) μ = .ok (.lst ((List.replicate n (0 : Int)).map .int)) μ := by
    have h0 : evE F ρ (.bin .mul (.lst [(false, (.cst (.int 0)))]) (.var i)) μ = .ok (.lst ((List.replicate n (0 : Int)).map .int)) μ := by
      rw [evE]
      show Res.bind (.ok (T.lst [.int 0]) μ) _ = _
      rw [Res.bind_ok, eVar h, Res.bind_ok]
      show opt (pBin .mul (.lst [.int 0]) (.int (n : Int))) μ = _
      rw [zeros n hn, opt_some]
    rw [evE, h0, Res.bind_ok]
    dsimp only
    rw [if_pos (nodelessL_ints _)]
  rw [evE]
  show Res.bind (.ok (T.lst [.int 1]) μ) _ = _
  rw [Res.bind_ok, h1, Res.bind_ok]
  show opt (pBin .add (.lst [.int 1]) (.lst ((List.replicate n (0 : Int)).map .int))) μ = _
  rw [one_zeros n hn, opt_some]
theorem counts_ok (k n : Nat) (hn : n ≤ 1000000) (B : T) {so : T} {S : Nat → List Int} (S0 : S 0 = base n) (SL : ∀ i, (S i).length = n + 1)
    (st : ∀ j, j < n → ∀ o4 o5 o6 o7, ∃ p4 p5 p6 p7, evI1 (Fn k) 100000 innE (envC n so (S j) (j + 1) o4 o5 o6 o7) [B] = .ok (.nx, envC n so (S (j + 1)) (j + 1) p4 p5 p6 p7) [B]) : Fn (k + 1) 14 [.int (n : Int), so] [B] = .ok (.int ((S n).getD n 0)) [B] := by
  rw [fnEq k 14 _ _ rfl]
  let ρ0 : Env := [some (.int (n : Int)), some so, none, none, none, none, none, none]
  let ρ1 : Env := [some (.int (n : Int)), some so, some (.lst ((base n).map .int)), none, none, none, none, none]
  have s1 : evI1 (Fn k) 100000 (.asg 2 (.bin .add (.lst [(false, (.cst (.int 1)))]) (.flat (.bin .mul (.lst [(false, (.cst (.int 0)))]) (.var 0)))) []) ρ0 [B] = .ok (.nx, ρ1) [B] := sAsg (base_ok2 rfl hn)
  let P : Nat → Env → Prop := fun i ρ => ∃ o3 o4 o5 o6 o7, ρ = [some (.int (n : Int)), some so, some (.lst ((S i).map .int)), o3, o4, o5, o6, o7]
  obtain ⟨ρ', e, o3, o4, o5, o6, o7, rfl⟩ : ∃ ρ', forLoop (fun x ρ μ => match bindTg (.nm 3) x ρ with | some ρ' => evIs (Fn k) 100000 [innE] ρ' μ | none => .stuck) (rngL 1 1 n) ρ1 [B] = .ok (.nx, ρ') [B] ∧ P (0 + (rngL 1 1 n).length) ρ' := by
    refine forLoop_ok P ⟨none, none, none, none, none, by rw [S0]⟩ fun j x ρ hx ⟨o3, o4, o5, o6, o7, e⟩ => ?_
    obtain ⟨hj, rfl⟩ := rng_item hx
    rw [Nat.zero_add] at e ⊢
    subst e
    obtain ⟨p4, p5, p6, p7, e⟩ := st j hj o4 o5 o6 o7
    exact ⟨_, ssCons e rfl, some (.int ((j + 1 : Nat) : Int)), p4, p5, p6, p7, rfl⟩
  rw [rngL_len, Nat.zero_add] at *
  have hx : evE (Fn k) [some (.int (n : Int)), some so, some (.lst ((S n).map .int)), o3, o4, o5, o6, o7] (.imm (.sub (.var 2) (.var 0))) [B] = .ok (.int ((S n).getD n 0)) [B] := eImm (eIx (eVar rfl) (eVar rfl) (by rw [SL]; omega))
  exact runRt (d := d__law_counts_of) rfl (ssCons s1 (ssCons (sFor (rng1n rfl hn) e) (ssRet (sRet hx)))) (.inl (by decide))
theorem counts_cube (k n : Nat) (hn : n ≤ 1000000) (B : T) : Fn (k + 1) 14 [.int (n : Int), .str "cube"] [B] = .ok (.int ((cubeS n n).getD n 0)) [B] := by
  refine counts_ok k n hn B rfl (cubeS_len n) fun j hj o4 o5 o6 o7 => ?_
  have h := inn_ok (F := Fn k) (W := 100000) (μ := [B]) (n := n) (p := j + 1) (m := 3) (so := .str "cube") (xs := cubeS n j) (o4 := o4) (o5 := o5) (o6 := o6) (o7 := o7) (once := true) (sg := 0) (stp := unl (j + 1)) hn (by omega) (cubeS_len n j) rfl (.inr rfl) (fun _ _ _ _ _ _ => eIte (eStr rfl c_cc) rfl) (fun _ _ _ _ _ => eOrT (eStr rfl c_ch)) (fun _ _ _ _ => eIte (eStr rfl c_cs) (eIte (eAnd2 (eStr rfl c_ceh) (eNot (v := true) (eVar rfl))) rfl)) (fun _ => rfl) (fun _ => unl_len _ _)
  exact h
theorem counts_signed (k n : Nat) (hn : n ≤ 1000000) (B : T) : Fn (k + 1) 14 [.int (n : Int), .str "signed"] [B] = .ok (.int ((signS n n).getD n 0)) [B] := by
  refine counts_ok k n hn B rfl (signS_len n) fun j hj o4 o5 o6 o7 => ?_
  have h := inn_ok (F := Fn k) (W := 100000) (μ := [B]) (n := n) (p := j + 1) (m := 1) (so := .str "signed") (xs := signS n j) (o4 := o4) (o5 := o5) (o6 := o6) (o7 := o7) (once := true) (sg := -1) (stp := fun xs => oft (j + 1) (-1) (unl (j + 1) xs)) hn (by omega) (signS_len n j) rfl (.inl rfl) (fun _ _ _ _ _ _ => eIte (eStr rfl c_sc) rfl) (fun _ _ _ _ _ => eOrT (eStr rfl c_sh)) (fun _ _ _ _ => eIte (eStr rfl c_ss) rfl) (fun _ => rfl) (fun _ => by rw [oft_len, unl_len])
  exact h
theorem counts_half (k n : Nat) (hn : n ≤ 1000000) (B : T) : Fn (k + 1) 14 [.int (n : Int), .str "half"] [B] = .ok (.int ((halfS n n).getD n 0)) [B] := by
  refine counts_ok k n hn B rfl (halfS_len n) fun j hj o4 o5 o6 o7 => ?_
  have hm : pBin .mod (.int ((j + 1 : Nat) : Int)) (.int 2) = some (.int (((j + 1) % 2 : Nat) : Int)) := by
    rw [pMod (by decide), Int.fmod_eq_emod_of_nonneg _ (by decide)] <;> rfl
  have h5 : ∀ xs o4 o5 o6 o7, evE (Fn k) (envC n (.str "half") xs (j + 1) o4 o5 o6 o7) onceE [B] = .ok (.bl (decide ((j + 1) % 2 = 0))) [B] := fun xs o4 o5 o6 o7 => by
    have a1 : evE (Fn k) (envC n (.str "half") xs (j + 1) o4 o5 o6 o7) (.cmp .ne (.var 1) (.cst (.str "half"))) [B] = .ok (.bl false) [B] := eStr rfl c_hh
    have a2 : evE (Fn k) (envC n (.str "half") xs (j + 1) o4 o5 o6 o7) (.cmp .eq (.bin .mod (.bi .int [(.var 3)]) (.cst (.int 2))) (.cst (.int 0))) [B] = .ok (.bl (decide (((((j + 1) % 2 : Nat) : Int)) = 0))) [B] := eCmp (eBin (eInt (eVar rfl)) eCst hm) eCst rfl
    have a3 : decide (((((j + 1) % 2 : Nat) : Int)) = 0) = decide ((j + 1) % 2 = 0) := by
      by_cases h : (j + 1) % 2 = 0
      · rw [h] <;> rfl
      · rw [decide_eq_false h, decide_eq_false (by omega)]
    rw [a3] at a2
    have := eOr2 a1 a2
    rw [Bool.false_or] at this
    exact this
  by_cases h : (j + 1) % 2 = 0
  · have hh := inn_ok (F := Fn k) (W := 100000) (μ := [B]) (n := n) (p := j + 1) (m := 1) (so := .str "half") (xs := halfS n j) (o4 := o4) (o5 := o5) (o6 := o6) (o7 := o7) (once := true) (sg := 0) (stp := fun xs => unl (j + 1) xs) hn (by omega) (halfS_len n j) rfl (.inl rfl) (fun _ _ _ _ _ _ => eIte (eStr rfl c_hc) rfl) (fun xs o4 o5 o6 o7 => by rw [h5, decide_eq_true h]) (fun _ _ _ _ => eIte (eStr rfl c_hs) (eIte (eAnd2 (eStr rfl c_heh) (eNot (v := true) (eVar rfl))) rfl)) (fun _ => rfl) (fun _ => by rw [unl_len])
    have e : halfS n (j + 1) = unl (j + 1) (halfS n j) := by
      show (if (j + 1) % 2 = 0 then unl (j + 1) (halfS n j) else oft (j + 1) 1 (halfS n j)) = _
      rw [if_pos h]
    rw [e]
    exact hh
  · have hh := inn_ok (F := Fn k) (W := 100000) (μ := [B]) (n := n) (p := j + 1) (m := 1) (so := .str "half") (xs := halfS n j) (o4 := o4) (o5 := o5) (o6 := o6) (o7 := o7) (once := false) (sg := 1) (stp := fun xs => oft (j + 1) 1 xs) hn (by omega) (halfS_len n j) rfl (.inl rfl) (fun _ _ _ _ _ _ => eIte (eStr rfl c_hc) rfl) (fun xs o4 o5 o6 o7 => by rw [h5, decide_eq_false h]) (fun _ _ _ _ => eIte (eStr rfl c_hs) (eIte (eAnd2 (eStr rfl c_heh) (eNot (v := false) (eVar rfl))) rfl)) (fun _ => rfl) (fun _ => by rw [oft_len])
    have e : halfS n (j + 1) = oft (j + 1) 1 (halfS n j) := by
      show (if (j + 1) % 2 = 0 then unl (j + 1) (halfS n j) else oft (j + 1) 1 (halfS n j)) = _
      rw [if_neg h]
    rw [e]
    exact hh
end Q

/-! P14: the law's counts by rule. -/
namespace Q
open MP
def rstep (n s : Int) (xs : List Int) : List Int :=
  let ys := if s * (s + 1) = 2 * n then (xs.set 0 (if s.fmod 2 = 0 then 2 * s + 1 else 0 - 2 * s - 1)).set 2 1 else xs
  if s * s = n then ys.set 1 (if s = 0 then 1 else if s.fmod 2 = 0 then 2 else -2) else ys
def ruleS (n : Nat) : Nat → List Int
  | 0 => [0, 0, 0]
  | i + 1 => rstep n i (ruleS n i)
theorem rstep_len (n s : Int) (xs : List Int) : (rstep n s xs).length = xs.length := by
  unfold rstep
  dsimp only
  split <;> split <;> simp
theorem ruleS_len (n : Nat) : ∀ i, (ruleS n i).length = 3
  | 0 => rfl
  | i + 1 => by show (rstep _ _ _).length = _; rw [rstep_len, ruleS_len n i]
theorem rng0_item {n j : Nat} {x : T} (h : (rngL 0 1 n)[j]? = some x) : j < n ∧ x = .int (j : Int) := by
  have hj : j < n := by
    have := (List.getElem?_eq_some_iff.mp h).1
    rw [rngL_len] at this
    exact this
  rw [rngL_get _ _ _ _ hj] at h
  cases h
  exact ⟨hj, by congr 1; omega⟩
def ruleB1 : IS := .iff (.cmp .eq (.bin .mul (.var 2) (.bin .add (.var 2) (.cst (.int 1)))) (.bin .mul (.cst (.int 2)) (.var 0))) [(.set 1 (.cst (.int 0)) (.ite (.cmp .eq (.bin .mod (.bi .int [(.var 2)]) (.cst (.int 2))) (.cst (.int 0))) (.imm (.bin .add (.bin .mul (.cst (.int 2)) (.var 2)) (.cst (.int 1)))) (.bin .sub (.bin .sub (.cst (.int 0)) (.bin .mul (.cst (.int 2)) (.var 2))) (.cst (.int 1)))) []), (.set 1 (.cst (.int 2)) (.cst (.int 1)) [])] []
def ruleB2 : IS := .iff (.cmp .eq (.bin .mul (.var 2) (.var 2)) (.var 0)) [(.set 1 (.cst (.int 1)) (.ite (.cmp .eq (.var 2) (.cst (.int 0))) (.cst (.int 1)) (.ite (.cmp .eq (.bin .mod (.bi .int [(.var 2)]) (.cst (.int 2))) (.cst (.int 0))) (.cst (.int 2)) (.un (.cst (.int 2))))) [])] []
theorem inMul_s {s : Int} (h0 : 0 ≤ s) (h1 : s ≤ 10000000) : inMul s = true := by
  unfold inMul
  rw [Bool.and_eq_true, decide_eq_true_eq, decide_eq_true_eq]
  omega
section
variable {F : Fns} {W : Nat} {μ : Mem}
def envR (n s : Int) (xs : List Int) : Env := [some (.int n), some (.lst (xs.map .int)), some (.int s)]
theorem modE {n s : Int} {xs : List Int} : evE F (envR n s xs) (.cmp .eq (.bin .mod (.bi .int [(.var 2)]) (.cst (.int 2))) (.cst (.int 0))) μ = .ok (.bl (decide (s.fmod 2 = 0))) μ := eCmp (eBin (eInt (eVar rfl)) eCst (pMod (by decide))) eCst rfl
theorem ruleB1_ok {n s : Int} {xs : List Int} (h0 : 0 ≤ s) (h1 : s ≤ 1000000) (hl : xs.length = 3) : evI1 F W ruleB1 (envR n s xs) μ = .ok (.nx, envR n s (if s * (s + 1) = 2 * n then (xs.set 0 (if s.fmod 2 = 0 then 2 * s + 1 else 0 - 2 * s - 1)).set 2 1 else xs)) μ := by
  have t : evE F (envR n s xs) (.cmp .eq (.bin .mul (.var 2) (.bin .add (.var 2) (.cst (.int 1)))) (.bin .mul (.cst (.int 2)) (.var 0))) μ = .ok (.bl (decide (s * (s + 1) = 2 * n))) μ :=
    eCmp (eBin (eVar rfl) (eBin (eVar rfl) eCst rfl) (pMul_l (inMul_s h0 (by omega)))) (eBin eCst (eVar rfl) (pMul_l rfl)) rfl
  refine sIf t ?_
  by_cases hc : s * (s + 1) = 2 * n
  · rw [decide_eq_true hc, if_pos hc]
    have d2 : ∀ xs, evE F (envR n s xs) (.bin .mul (.cst (.int 2)) (.var 2)) μ = .ok (.int (2 * s)) μ := fun xs => eBin eCst (eVar rfl) (pMul_l rfl)
    have v : evE F (envR n s xs) (.ite (.cmp .eq (.bin .mod (.bi .int [(.var 2)]) (.cst (.int 2))) (.cst (.int 0))) (.imm (.bin .add (.bin .mul (.cst (.int 2)) (.var 2)) (.cst (.int 1)))) (.bin .sub (.bin .sub (.cst (.int 0)) (.bin .mul (.cst (.int 2)) (.var 2))) (.cst (.int 1)))) μ = .ok (.int (if s.fmod 2 = 0 then 2 * s + 1 else 0 - 2 * s - 1)) μ := by
      refine eIte modE ?_
      by_cases hm : s.fmod 2 = 0
      · rw [decide_eq_true hm, if_pos hm]
        exact eImm (eBin (d2 _) eCst rfl)
      · rw [decide_eq_false hm, if_neg hm]
        exact eBin (eBin eCst (d2 _) rfl) eCst rfl
    have s1 := sSetI (F := F) (W := W) (ρ := envR n s xs) (x := 1) (ei := .cst (.int 0)) (i := 0) v rfl rfl (by omega)
    have s2 := sSetI (F := F) (W := W) (ρ := envR n s (xs.set 0 (if s.fmod 2 = 0 then 2 * s + 1 else 0 - 2 * s - 1))) (μ := μ) (x := 1) (ei := .cst (.int 2)) (i := 2) (v := 1) (e := .cst (.int 1)) eCst rfl rfl (by rw [List.length_set]; omega)
    exact ssCons s1 (ssCons s2 rfl)
  · rw [decide_eq_false hc, if_neg hc] <;> rfl
theorem ruleB2_ok {n s : Int} {xs : List Int} (h0 : 0 ≤ s) (h1 : s ≤ 1000000) (hl : xs.length = 3) : evI1 F W ruleB2 (envR n s xs) μ = .ok (.nx, envR n s (if s * s = n then xs.set 1 (if s = 0 then 1 else if s.fmod 2 = 0 then 2 else -2) else xs)) μ := by
  have t : evE F (envR n s xs) (.cmp .eq (.bin .mul (.var 2) (.var 2)) (.var 0)) μ = .ok (.bl (decide (s * s = n))) μ := eCmp (eBin (eVar rfl) (eVar rfl) (pMul_l (inMul_s h0 (by omega)))) (eVar rfl) rfl
  refine sIf t ?_
  by_cases hc : s * s = n
  · rw [decide_eq_true hc, if_pos hc]
    have z : evE F (envR n s xs) (.cmp .eq (.var 2) (.cst (.int 0))) μ = .ok (.bl (decide (s = 0))) μ := eCmp (eVar rfl) eCst rfl
    have v : evE F (envR n s xs) (.ite (.cmp .eq (.var 2) (.cst (.int 0))) (.cst (.int 1)) (.ite (.cmp .eq (.bin .mod (.bi .int [(.var 2)]) (.cst (.int 2))) (.cst (.int 0))) (.cst (.int 2)) (.un (.cst (.int 2))))) μ = .ok (.int (if s = 0 then 1 else if s.fmod 2 = 0 then 2 else -2)) μ := by
      refine eIte z ?_
      by_cases hz : s = 0
      · rw [decide_eq_true hz, if_pos hz] <;> rfl
      · rw [decide_eq_false hz, if_neg hz]
        refine eIte modE ?_
        by_cases hm : s.fmod 2 = 0
        · rw [decide_eq_true hm, if_pos hm] <;> rfl
        · rw [decide_eq_false hm, if_neg hm] <;> rfl
    exact ssCons (sSetI (F := F) (W := W) (ρ := envR n s xs) (x := 1) (ei := .cst (.int 1)) (i := 1) v rfl rfl (by omega)) rfl
  · rw [decide_eq_false hc, if_neg hc] <;> rfl
end
theorem rule_ok (k n : Nat) (hn : n ≤ 1000000) (B : T) : Fn (k + 1) 15 [.int (n : Int)] [B] = .ok (.lst ((ruleS n (n + 1)).map .int)) [B] := by
  rw [fnEq k 15 _ _ rfl]
  let ρ0 : Env := [some (.int (n : Int)), none, none]
  let ρ1 : Env := [some (.int (n : Int)), some (.lst ([0, 0, 0].map .int)), none]
  have s1 : evI1 (Fn k) 100000 (.asg 1 (.lst [(false, (.cst (.int 0))), (false, (.cst (.int 0))), (false, (.cst (.int 0)))]) []) ρ0 [B] = .ok (.nx, ρ1) [B] := sAsg rfl
  let P : Nat → Env → Prop := fun i ρ => ∃ o2, ρ = [some (.int (n : Int)), some (.lst ((ruleS n i).map .int)), o2]
  obtain ⟨ρ', e, o2, rfl⟩ : ∃ ρ', forLoop (fun x ρ μ => match bindTg (.nm 2) x ρ with | some ρ' => evIs (Fn k) 100000 [ruleB1, ruleB2] ρ' μ | none => .stuck) (rngL 0 1 (n + 1)) ρ1 [B] = .ok (.nx, ρ') [B] ∧ P (0 + (rngL 0 1 (n + 1)).length) ρ' := by
    refine forLoop_ok P ⟨none, rfl⟩ fun j x ρ hx ⟨o2, e⟩ => ?_
    obtain ⟨hj, rfl⟩ := rng0_item hx
    rw [Nat.zero_add] at e ⊢
    subst e
    have hl := ruleS_len n j
    have e1 := ruleB1_ok (F := Fn k) (W := 100000) (μ := [B]) (n := n) (s := (j : Int)) (by omega) (by omega) hl
    have e2 := ruleB2_ok (F := Fn k) (W := 100000) (μ := [B]) (n := n) (s := (j : Int)) (xs := if (j : Int) * ((j : Int) + 1) = 2 * n then ((ruleS n j).set 0 (if (j : Int).fmod 2 = 0 then 2 * (j : Int) + 1 else 0 - 2 * (j : Int) - 1)).set 2 1 else ruleS n j) (by omega) (by omega) (by split <;> simp [hl])
    exact ⟨_, ssCons e1 (ssCons e2 rfl), some (.int (j : Int)), rfl⟩
  rw [rngL_len, Nat.zero_add] at *
  have hi : evI (Fn k) ρ1 (.rng1 (.bin .add (.var 0) (.cst (.int 1)))) [B] = .ok (rngL 0 1 (n + 1)) [B] := by
    have h1 : evE (Fn k) ρ1 (.bin .add (.var 0) (.cst (.int 1))) [B] = .ok (.int ((n : Int) + 1)) [B] := eBin (eVar rfl) eCst rfl
    have q2 : smallI ((n : Int) + 1) = true := by simp only [smallI, Bool.and_eq_true, decide_eq_true_eq]; omega
    rw [evI, h1, Res.bind_ok]
    dsimp only
    rw [if_pos q2, show ((n : Int) + 1).toNat = n + 1 by omega]
  exact runRt (d := d__law_by_rule) rfl (ssCons s1 (ssCons (sFor hi e) (ssRet (sRet (eVar rfl))))) (.inl (by decide))
end Q

/-! P15: the law's ways of two and four squares. -/
namespace Q
open MP
def ostep (n o : Int) (xs : List Int) : List Int := if o * o ≤ n then xs.set (o * o).toNat (xs.getD (o * o).toNat 0 + 1) else xs
def onesS (n : Nat) : Nat → List Int
  | 0 => List.replicate (n + 1) 0
  | i + 1 => ostep n (-15 + (i : Int) * 1) (onesS n i)
theorem onesS_len (n : Nat) : ∀ i, (onesS n i).length = n + 1
  | 0 => by show (List.replicate _ _).length = _; simp
  | i + 1 => by
    show (ostep _ _ _).length = _
    unfold ostep
    split
    · rw [List.length_set, onesS_len n i]
    · exact onesS_len n i
def conv (xs : List Int) (t : Nat) : Int := ((List.range (t + 1)).map fun a => xs.getD a 0 * xs.getD (t - a) 0).sum
def twosS (n : Nat) : List Int := (List.range (n + 1)).map fun t => conv (onesS n 31) t
theorem twosS_len (n : Nat) : (twosS n).length = n + 1 := by unfold twosS; simp
theorem sq_nn (o : Int) : 0 ≤ o * o := by rw [← Int.natAbs_mul_self]; exact Int.natCast_nonneg _
def oneB : IS := .iff (.cmp .le (.bin .mul (.var 2) (.var 2)) (.var 0)) [(.set 1 (.bin .mul (.var 2) (.var 2)) (.bin .add (.imm (.sub (.var 1) (.bin .mul (.var 2) (.var 2)))) (.cst (.int 1))) [])] []
def twoE : IE := .lc (.bi .sum [(.lc (.bin .mul (.imm (.sub (.var 1) (.var 5))) (.imm (.sub (.var 1) (.bin .sub (.var 4) (.var 5))))) (.nm 5) (.rng1 (.bin .add (.var 4) (.cst (.int 1)))) none)]) (.nm 4) (.rng1 (.bin .add (.var 0) (.cst (.int 1)))) none
def fourE : IE := .bi .sum [(.lc (.bin .mul (.sub (.var 3) (.var 5)) (.sub (.var 3) (.bin .sub (.var 0) (.var 5)))) (.nm 5) (.rng1 (.bin .add (.var 0) (.cst (.int 1)))) none)]
section
variable {F : Fns} {W : Nat} {μ : Mem} {ρ : Env}
theorem rngE {i n : Nat} (h : getV ρ i = some (.int (n : Int))) (hn : n ≤ 1000000) : evI F ρ (.rng1 (.bin .add (.var i) (.cst (.int 1)))) μ = .ok (rngL 0 1 (n + 1)) μ := by
  have h1 : evE F ρ (.bin .add (.var i) (.cst (.int 1))) μ = .ok (.int ((n : Int) + 1)) μ := eBin (eVar h) eCst rfl
  have q2 : smallI ((n : Int) + 1) = true := by simp only [smallI, Bool.and_eq_true, decide_eq_true_eq]; omega
  rw [evI, h1, Res.bind_ok]
  dsimp only
  rw [if_pos q2, show ((n : Int) + 1).toNat = n + 1 by omega]
theorem eSum {e : IE} {xs : List Int} (h : evE F ρ e μ = .ok (.lst (xs.map .int)) μ) : evE F ρ (.bi .sum [e]) μ = .ok (.int xs.sum) μ := by
  rw [evE, evL, h, Res.bind_ok, evL, Res.bind_ok, Res.bind_ok]
  show (if ([T.lst (xs.map .int)].all fun t => kidsOk t (kidsOf (view μ t))) = true then opt ((intsOf (xs.map T.int)).map fun ns => T.int ns.sum) μ else .stuck) = _
  rw [intsOf_map] <;> rfl
theorem oneB_ok {n o : Int} {xs : List Int} {o3 o4 o5 : Option T} (h0 : -1000 ≤ o) (h1 : o ≤ 1000) (hl : (xs.length : Int) = n + 1) : evI1 F W oneB [some (.int n), some (.lst (xs.map .int)), some (.int o), o3, o4, o5] μ = .ok (.nx, [some (.int n), some (.lst ((ostep n o xs).map .int)), some (.int o), o3, o4, o5]) μ := by
  let ρ : Env := [some (.int n), some (.lst (xs.map .int)), some (.int o), o3, o4, o5]
  have hm : inMul o = true := by unfold inMul; rw [Bool.and_eq_true, decide_eq_true_eq, decide_eq_true_eq]; omega
  have m : evE F ρ (.bin .mul (.var 2) (.var 2)) μ = .ok (.int (o * o)) μ := eBin (eVar rfl) (eVar rfl) (pMul_l hm)
  have t : evE F ρ (.cmp .le (.bin .mul (.var 2) (.var 2)) (.var 0)) μ = .ok (.bl (decide (o * o ≤ n))) μ := eCmp m (eVar rfl) rfl
  refine sIf t ?_
  unfold ostep
  by_cases hc : o * o ≤ n
  · rw [decide_eq_true hc, if_pos hc]
    have h2 : 0 ≤ o * o := sq_nn o
    have e : ((o * o).toNat : Int) = o * o := Int.toNat_of_nonneg h2
    have m2 : evE F ρ (.bin .mul (.var 2) (.var 2)) μ = .ok (.int ((o * o).toNat : Int)) μ := by rw [e]; exact m
    have a1 : evE F ρ (.sub (.var 1) (.bin .mul (.var 2) (.var 2))) μ = .ok (.int (xs.getD (o * o).toNat 0)) μ := eIx (eVar rfl) m2 (by omega)
    exact ssCons (sSetI (F := F) (W := W) (ρ := ρ) (x := 1) (i := (o * o).toNat) (eBin (eImm a1) eCst rfl) rfl m2 (by omega)) rfl
  · rw [decide_eq_false hc, if_neg hc] <;> rfl
/-- sums of products, both ways along a list -/
theorem conv_lc {xs : List Int} {t : Nat} {ea eb : IE} {ρ0 : Env} (ht : t < xs.length) (hx : xs.length ≤ 1000000) (hi : evI F ρ (.rng1 (.bin .add eb (.cst (.int 1)))) μ = .ok (rngL 0 1 (t + 1)) μ)
    (hs : forget ρ [5] = ρ0)
    (hr : ∀ a : Nat, a ≤ t → evE F (ρ0.set 5 (some (.int (a : Int)))) ea μ = .ok (.int (xs.getD a 0 * xs.getD (t - a) 0)) μ) :
    evE F ρ (.bi .sum [(.lc ea (.nm 5) (.rng1 (.bin .add eb (.cst (.int 1)))) none)]) μ = .ok (.int (conv xs t)) μ := by
  have l1 := line_eq1
  refine eSum ?_
  let g : T → T := fun x => match x with
    | .int a => .int (xs.getD a.toNat 0 * xs.getD (t - a.toNat) 0)
    | _ => .non
  have fin : (rngL 0 1 (t + 1)).map g = ((List.range (t + 1)).map fun a => xs.getD a 0 * xs.getD (t - a) 0).map T.int := by
    rw [rngL_map, List.map_map, List.map_map]
    apply List.map_congr_left
    intro a _
    show T.int (xs.getD (0 + (a : Int) * 1).toNat 0 * xs.getD (t - (0 + (a : Int) * 1).toNat) 0) = T.int (xs.getD a 0 * xs.getD (t - a) 0)
    rw [show (0 + (a : Int) * 1).toNat = a by omega]
  rw [← fin, evE, hi, Res.bind_ok, lcGo_map (g := g) (fun x hx => ?_) (by rw [rngL_len]; omega)]
  · rfl
  · obtain ⟨i, hi', e⟩ := List.mem_iff_getElem.mp hx
    have ex : (rngL 0 1 (t + 1))[i]? = some x := by rw [List.getElem?_eq_getElem hi', e]
    obtain ⟨hj, rfl⟩ := rng0_item ex
    show (match bindTg (.nm 5) (T.int (i : Int)) (forget ρ [5]) with
      | some ρ' => (evC F ρ' none μ).bind fun b μ => (match b with | true => (evE F ρ' ea μ).bind fun y μ => .ok (some y) μ | false => .ok none μ)
      | none => .stuck) = _
    rw [hs]
    show Res.bind (.ok true μ) _ = _
    rw [Res.bind_ok]
    show Res.bind (evE F (ρ0.set 5 (some (.int (i : Int)))) ea μ) _ = _
    rw [hr i (by omega)] <;> rfl
end
theorem getD_all {xs : List Int} (h : xs.all inMul = true) (a : Nat) : inMul (xs.getD a 0) = true := by
  rw [List.getD_eq_getElem?_getD]
  cases e : xs[a]? with
  | none => rfl
  | some v => exact List.all_eq_true.mp h v (List.mem_of_getElem? e)
theorem law_ways_ok (k n : Nat) (hn : n ≤ 100000) (A1 : (onesS n 31).all inMul = true) (A2 : (twosS n).all inMul = true) (B : T) : Fn (k + 1) 16 [.int (n : Int)] [B] = .ok (.lst ([(twosS n).getD n 0, conv (twosS n) n].map .int)) [B] := by
  rw [fnEq k 16 _ _ rfl]
  have l1 := line_eq1
  let ρ0 : Env := [some (.int (n : Int)), none, none, none, none, none]
  let ρ1 : Env := [some (.int (n : Int)), some (.lst ((onesS n 0).map .int)), none, none, none, none]
  have s1 : evI1 (Fn k) 100000 (.asg 1 (.flat (.bin .mul (.lst [(false, (.cst (.int 0)))]) (.bin .add (.var 0) (.cst (.int 1))))) []) ρ0 [B] = .ok (.nx, ρ1) [B] := by
    refine sAsg ?_
    have h0 : evE (Fn k) ρ0 (.bin .mul (.lst [(false, (.cst (.int 0)))]) (.bin .add (.var 0) (.cst (.int 1)))) [B] = .ok (.lst ((List.replicate (n + 1) (0 : Int)).map .int)) [B] := by
      have h2 : evE (Fn k) ρ0 (.bin .add (.var 0) (.cst (.int 1))) [B] = .ok (.int ((n + 1 : Nat) : Int)) [B] := eBin (eVar rfl) eCst rfl
      rw [evE]
      show Res.bind (.ok (T.lst [.int 0]) [B]) _ = _
      rw [Res.bind_ok, h2, Res.bind_ok]
      show opt (pBin .mul (.lst [.int 0]) (.int ((n + 1 : Nat) : Int))) [B] = _
      rw [zeros (n + 1) (by omega), opt_some]
    rw [evE, h0, Res.bind_ok]
    dsimp only
    rw [if_pos (nodelessL_ints _)] <;> rfl
  let P : Nat → Env → Prop := fun i ρ => ∃ o2, ρ = [some (.int (n : Int)), some (.lst ((onesS n i).map .int)), o2, none, none, none]
  obtain ⟨ρ', e, o2, rfl⟩ : ∃ ρ', forLoop (fun x ρ μ => match bindTg (.nm 2) x ρ with | some ρ' => evIs (Fn k) 100000 [oneB] ρ' μ | none => .stuck) (rngL (-15) 1 31) ρ1 [B] = .ok (.nx, ρ') [B] ∧ P (0 + (rngL (-15) 1 31).length) ρ' := by
    refine forLoop_ok P ⟨none, rfl⟩ fun j x ρ hx ⟨o2, e⟩ => ?_
    have hj : j < 31 := by
      have := (List.getElem?_eq_some_iff.mp hx).1
      rw [rngL_len] at this
      exact this
    rw [rngL_get _ _ _ _ hj] at hx
    cases hx
    rw [Nat.zero_add] at e ⊢
    subst e
    have hl := onesS_len n j
    have e1 := oneB_ok (F := Fn k) (W := 100000) (μ := [B]) (n := n) (o := -15 + (j : Int) * 1) (xs := onesS n j) (o3 := none) (o4 := none) (o5 := none) (by omega) (by omega) (by omega)
    exact ⟨_, ssCons e1 rfl, some (.int (-15 + (j : Int) * 1)), rfl⟩
  rw [rngL_len, Nat.zero_add] at *
  have hi : evI (Fn k) ρ1 (.rng2 (.un (.cst (.int 15))) (.cst (.int 16))) [B] = .ok (rngL (-15) 1 31) [B] := rfl
  have hl := onesS_len n 31
  let ρ2 : Env := [some (.int (n : Int)), some (.lst ((onesS n 31).map .int)), o2, none, none, none]
  let ρ3 : Env := [some (.int (n : Int)), some (.lst ((onesS n 31).map .int)), o2, some (.lst ((twosS n).map .int)), none, none]
  have s3 : evI1 (Fn k) 100000 (.asg 3 twoE []) ρ2 [B] = .ok (.nx, ρ3) [B] := by
    refine sAsg ?_
    let g : T → T := fun x => match x with
      | .int t => .int (conv (onesS n 31) t.toNat)
      | _ => .non
    have fin : (rngL 0 1 (n + 1)).map g = (twosS n).map T.int := by
      unfold twosS
      rw [rngL_map, List.map_map, List.map_map]
      apply List.map_congr_left
      intro a _
      show T.int (conv (onesS n 31) (0 + (a : Int) * 1).toNat) = T.int (conv (onesS n 31) a)
      rw [show (0 + (a : Int) * 1).toNat = a by omega]
    have hR : evI (Fn k) ρ2 (.rng1 (.bin .add (.var 0) (.cst (.int 1)))) [B] = .ok (rngL 0 1 (n + 1)) [B] := rngE rfl (by omega)
    unfold twoE
    rw [← fin, evE, hR, Res.bind_ok, lcGo_map (g := g) (fun x hx => ?_) (by rw [rngL_len]; omega)]
    · rfl
    · obtain ⟨i, hi', e⟩ := List.mem_iff_getElem.mp hx
      have ex : (rngL 0 1 (n + 1))[i]? = some x := by rw [List.getElem?_eq_getElem hi', e]
      obtain ⟨hj, rfl⟩ := rng0_item ex
      show Res.bind (.ok true [B]) _ = _
      rw [Res.bind_ok]
      have c := conv_lc (F := Fn k) (μ := [B]) (xs := onesS n 31) (t := i) (ρ := [some (.int (n : Int)), some (.lst ((onesS n 31).map .int)), o2, none, some (.int (i : Int)), none]) (ea := .bin .mul (.imm (.sub (.var 1) (.var 5))) (.imm (.sub (.var 1) (.bin .sub (.var 4) (.var 5))))) (eb := .var 4) (by omega) (by omega) (rngE rfl (by omega)) rfl fun a ha => by
        have e2 : evE (Fn k) [some (.int (n : Int)), some (.lst ((onesS n 31).map .int)), o2, none, some (.int (i : Int)), some (.int (a : Int))] (.bin .sub (.var 4) (.var 5)) [B] = .ok (.int ((i - a : Nat) : Int)) [B] := by
          rw [show ((i - a : Nat) : Int) = (i : Int) - (a : Int) by omega]
          exact eBin (eVar rfl) (eVar rfl) rfl
        exact eBin (eImm (eIx (eVar rfl) (eVar rfl) (by omega))) (eImm (eIx (eVar rfl) e2 (by omega))) (pMul_l (getD_all A1 a))
      show Res.bind (evE (Fn k) [some (.int (n : Int)), some (.lst ((onesS n 31).map .int)), o2, none, some (.int (i : Int)), none] _ [B]) _ = _
      rw [c]
      show Res.ok (some (T.int (conv (onesS n 31) i))) [B] = _
      show _ = Res.ok (some (T.int (conv (onesS n 31) (i : Int).toNat))) [B]
      rw [Int.toNat_natCast]
  have hl2 := twosS_len n
  have r1 : evE (Fn k) ρ3 (.imm (.sub (.var 3) (.var 0))) [B] = .ok (.int ((twosS n).getD n 0)) [B] := eImm (eIx (eVar rfl) (eVar rfl) (by omega))
  have r2 : evE (Fn k) ρ3 fourE [B] = .ok (.int (conv (twosS n) n)) [B] := by
    refine conv_lc (F := Fn k) (μ := [B]) (xs := twosS n) (t := n) (ρ := ρ3) (by omega) (by omega) (rngE rfl (by omega)) rfl fun a ha => ?_
    have e2 : evE (Fn k) [some (.int (n : Int)), some (.lst ((onesS n 31).map .int)), o2, some (.lst ((twosS n).map .int)), none, some (.int (a : Int))] (.bin .sub (.var 0) (.var 5)) [B] = .ok (.int ((n - a : Nat) : Int)) [B] := by
      rw [show ((n - a : Nat) : Int) = (n : Int) - (a : Int) by omega]
      exact eBin (eVar rfl) (eVar rfl) rfl
    exact eBin (eIx (eVar rfl) (eVar rfl) (by omega)) (eIx (eVar rfl) e2 (by omega)) (pMul_l (getD_all A2 a))
  have r : evE (Fn k) ρ3 (.lst [(false, (.imm (.sub (.var 3) (.var 0)))), (false, fourE)]) [B] = .ok (.lst ([(twosS n).getD n 0, conv (twosS n) n].map .int)) [B] := by
    rw [evE, evS, r1, Res.bind_ok]
    dsimp only
    rw [evS, r2, Res.bind_ok]
    rfl
  exact runRt (d := d__law_ways) rfl (ssCons s1 (ssCons (sFor hi e) (ssCons s3 (ssRet (sRet r))))) (.inl (by decide))
end Q

/-! P16: the same; the stream; one of some. -/
namespace Q
open MP
theorem same_int (k : Nat) (a : Int) (B : T) : Fn (k + 1) 13 [.int a, .int a] [B] = .ok (.bl true) [B] := by
  rw [fnEq k 13 _ _ rfl]
  have c : evE (Fn k) [some (.int a), some (.int a), none, none] (.bop true [(.nt (.isi (.var 0) [.list, .tuple, .dict] false)), (.cmp .eq (.var 0) (.var 1))]) [B] = .ok (.bl true) [B] := by
    have h1 : evE (Fn k) [some (.int a), some (.int a), none, none] (.nt (.isi (.var 0) [.list, .tuple, .dict] false)) [B] = .ok (.bl true) [B] := rfl
    have h2 : evE (Fn k) [some (.int a), some (.int a), none, none] (.cmp .eq (.var 0) (.var 1)) [B] = .ok (.bl (decide (a = a))) [B] := eCmp (eVar rfl) (eVar rfl) rfl
    rw [decide_eq_true rfl] at h2
    exact eAnd2 h1 h2
  exact runRt (d := d__law_same) (ρ' := [some (.int a), some (.int a), none, none]) rfl (ssCons (sIf (v := false) rfl rfl) (ssCons (sIf (v := false) rfl rfl) (ssCons (sIf (v := false) rfl rfl) (ssCons (sIf (v := false) rfl rfl) (ssCons (sIf (v := false) rfl rfl) (ssRet (sRet c))))))) (.inr rfl)
theorem zip_same (xs : List Int) : zipL (xs.map T.int) (xs.map T.int) = xs.map fun a => T.tup [.int a, .int a] := by
  induction xs with
  | nil => rfl
  | cons x xs ih => show T.tup [.int x, .int x] :: zipL (xs.map T.int) (xs.map T.int) = _; rw [ih] <;> rfl
theorem blsOf_true (n : Nat) : blsOf (List.replicate n (T.bl true)) = some (List.replicate n true) := by
  induction n with
  | zero => rfl
  | succ n ih => show (blsOf (List.replicate n (T.bl true))).map (true :: ·) = _; rw [ih] <;> rfl
theorem same_ok (k : Nat) (xs : List Int) (hl : xs.length ≤ line) (B : T) : Fn (k + 2) 13 [.lst (xs.map .int), .lst (xs.map .int)] [B] = .ok (.bl true) [B] := by
  rw [fnEq (k + 1) 13 _ _ rfl]
  let ρ : Env := [some (.lst (xs.map .int)), some (.lst (xs.map .int)), none, none]
  have h1 : evE (Fn (k + 1)) ρ (.cmp .eq (.bi .len [(.var 0)]) (.bi .len [(.var 1)])) [B] = .ok (.bl (decide (((xs.map T.int).length : Int) = ((xs.map T.int).length : Int)))) [B] := eCmp (x := ((xs.map T.int).length : Int)) (y := ((xs.map T.int).length : Int)) rfl rfl rfl
  rw [decide_eq_true rfl] at h1
  have h2 : evE (Fn (k + 1)) ρ (.lc (.call 13 [(.var 2), (.var 3)] []) (.tp [(.nm 2), (.nm 3)]) (.zip (.var 0) (.var 1)) none) [B] = .ok (.lst (List.replicate xs.length (.bl true))) [B] := by
    have hz : evI (Fn (k + 1)) ρ (.zip (.var 0) (.var 1)) [B] = .ok (xs.map fun a => T.tup [.int a, .int a]) [B] := by
      rw [← zip_same] <;> rfl
    rw [evE, hz, Res.bind_ok, lcGo_map (g := fun _ => .bl true) (fun x hx => ?_) (by rw [List.length_map]; omega)]
    · have : (xs.map fun a => T.tup [.int a, .int a]).map (fun _ => T.bl true) = List.replicate xs.length (T.bl true) := by
        rw [List.map_map, ← List.map_const']
        rfl
      show Res.ok (T.lst ((xs.map fun a => T.tup [.int a, .int a]).map (fun _ => T.bl true))) [B] = _
      rw [this]
    · obtain ⟨a, _, rfl⟩ := List.mem_map.mp hx
      show Res.bind (.ok true [B]) _ = _
      rw [Res.bind_ok]
      show Res.bind (evE (Fn (k + 1)) [some (.lst (xs.map .int)), some (.lst (xs.map .int)), some (.int a), some (.int a)] (.call 13 [(.var 2), (.var 3)] []) [B]) _ = _
      rw [eCall2 (eVar rfl) (eVar rfl) (same_int k a B)] <;> rfl
  have h3 : evE (Fn (k + 1)) ρ (.bi .all [(.lc (.call 13 [(.var 2), (.var 3)] []) (.tp [(.nm 2), (.nm 3)]) (.zip (.var 0) (.var 1)) none)]) [B] = .ok (.bl true) [B] := by
    rw [evE, evL, h2, Res.bind_ok, evL, Res.bind_ok, Res.bind_ok]
    show opt ((blsOf (List.replicate xs.length (T.bl true))).map fun bs => T.bl (bs.all id)) [B] = _
    rw [blsOf_true]
    show Res.ok (T.bl ((List.replicate xs.length true).all id)) [B] = _
    have : (List.replicate xs.length true).all id = true := List.all_eq_true.mpr fun x hx => (List.mem_replicate.mp hx).2
    rw [this]
  have c := eAnd2 h1 h3
  exact runRt (d := d__law_same) (ρ' := ρ) rfl (ssRet (sIf (v := true) rfl (ssCons (sIf (v := false) rfl rfl) (ssRet (sRet c))))) (.inr rfl)
theorem stream_ok (k : Nat) (ns : List Int) : Fn (k + 1) 10 [.scr ns] [] = .ok (sB ns 0 0 19) [] := by
  rw [fnEq k 10 _ _ rfl]
  have h1 : evE (Fn k) [some (.scr ns)] (.flat (.bi .list [(.var 0)])) [] = .ok (.lst (ns.map .int)) [] := by
    rw [evE]
    show (if nodelessL (ns.map T.int) = true then (Res.ok (T.lst (ns.map .int)) []) else .stuck) = _
    rw [nodelessL_ints] <;> rfl
  have h2 : evE (Fn k) [some (.scr ns)] (.lst [(false, (.flat (.bi .list [(.var 0)]))), (false, (.cst (.int 0))), (false, (.cst (.int 0))), (false, (.cst (.int 19)))]) [] = .ok (sB ns 0 0 19) [] := by
    rw [evE, evS, h1, Res.bind_ok]
    rfl
  have h3 : evIs (Fn k) 100000 d__law_stream.body [some (.scr ns)] [] = .ok (.rt (sB ns 0 0 19), [some (.scr ns)]) [] := ssRet (sRet h2)
  unfold runD
  show (match evIs (Fn k) 100000 d__law_stream.body [some (.scr ns)] [] with
    | .ok (.nx, _) μ' => outD d__law_stream.rk 0 .non μ'
    | .ok (.rt t, _) μ' => outD d__law_stream.rk 0 t μ'
    | .ok (.bk, _) _ => .stuck
    | .exc c t μ' => if Nat.ble μ'.length 0 then .exc c t μ' else if boxBelow 0 t then .exc c t (μ'.take 0) else .stuck
    | .stuck => .stuck) = _
  rw [h3] <;> rfl
theorem pick_ok {c : Nat} {B : T} (k : Nat) (h : IsStream B c) (hc : c < 1000000) {xs : List Int} (h0 : 0 < xs.length) (h1 : xs.length < 2 ^ 30) : ∃ v B', Fn (k + 2) 12 [.box 0, .lst (xs.map .int)] [B] = .ok (.int v) [B'] ∧ v ∈ xs ∧ IsStream B' (c + 1) := by
  rw [fnEq (k + 1) 12 _ _ rfl]
  obtain ⟨d, B', e, l0, l1, hs⟩ := draw_ok (F := Fn k) (W := 100000) (m := (xs.length : Int)) h hc (by decide) (by omega) (by omega)
  have hd : (d.toNat : Int) = d := Int.toNat_of_nonneg l0
  let ρ : Env := [some (.box 0), some (.lst (xs.map .int))]
  have a1 : evE (Fn (k + 1)) ρ (.bi .len [(.var 1)]) [B] = .ok (.int (xs.length : Int)) [B] := by
    show Res.ok (T.int ((xs.map T.int).length : Int)) [B] = _
    rw [List.length_map]
  have e' : Fn (k + 1) 11 [.box 0, .int (xs.length : Int)] [B] = .ok (.int d) [B'] := by rw [fnEq k 11 _ _ rfl]; exact e
  have a2 : evE (Fn (k + 1)) ρ (.call 11 [(.var 0), (.bi .len [(.var 1)])] []) [B] = .ok (.int d) [B'] := eCall2 (eVar rfl) a1 e'
  have hlt : d.toNat < xs.length := by omega
  refine ⟨xs.getD d.toNat 0, B', ?_, ?_, hs⟩
  · rw [← hd] at a2
    have a3 : evE (Fn (k + 1)) ρ (.sub (.var 1) (.call 11 [(.var 0), (.bi .len [(.var 1)])] [])) [B] = .ok (.int (xs.getD d.toNat 0)) [B'] := by
      have v : evE (Fn (k + 1)) ρ (.var 1) [B] = .ok (.lst (xs.map .int)) [B] := eVar rfl
      rw [evE, v, Res.bind_ok, a2, Res.bind_ok]
      show Res.bind (opt (atT (xs.map T.int) (d.toNat : Int)) [B']) _ = _
      rw [atT_ints (getD_some hlt)] <;> rfl
    exact runRt (d := d__law_pick) (ρ' := ρ) rfl (ssRet (sRet a3)) (.inl (by decide))
  · rw [List.getD_eq_getElem?_getD, List.getElem?_eq_getElem hlt]
    exact List.getElem_mem hlt
end Q

/-! P17: the numbers, in plain lists. -/
namespace Q
open MP
theorem getD_take (xs : List Int) {m i : Nat} (h : i < m) : (xs.take m).getD i 0 = xs.getD i 0 := by
  rw [List.getD_eq_getElem?_getD, List.getD_eq_getElem?_getD, List.getElem?_take_of_lt h]
theorem unl_take (p m : Nat) (xs : List Int) : unl p (xs.take m) = (unl p xs).take m := by
  apply List.ext_getElem?
  intro i
  by_cases h : i < m ∧ i < xs.length
  · have hv := List.getElem?_eq_getElem h.2
    have hv2 : (xs.take m)[i]? = some xs[i] := by rw [List.getElem?_take_of_lt h.1]; exact hv
    rw [unl_get p _ i hv2, List.getElem?_take_of_lt h.1, unl_get p xs i hv, List.getElem?_take_of_lt (by omega)]
  · rw [List.getElem?_eq_none (by rw [unl_len, List.length_take]; omega), List.getElem?_eq_none (by rw [List.length_take, unl_len]; omega)]
theorem unl_far {p m : Nat} (xs : List Int) (h : m ≤ p) : (unl p xs).take m = xs.take m := by
  apply List.ext_getElem?
  intro i
  by_cases hi : i < m ∧ i < xs.length
  · have hv := List.getElem?_eq_getElem hi.2
    rw [List.getElem?_take_of_lt hi.1, List.getElem?_take_of_lt hi.1, unl_get p xs i hv, if_neg (by omega), Int.sub_zero, hv]
  · rw [List.getElem?_eq_none (by rw [List.length_take, unl_len]; omega), List.getElem?_eq_none (by rw [List.length_take]; omega)]
theorem take_set_far {xs : List Int} {m i : Nat} {v : Int} (h : m ≤ i) : (xs.set i v).take m = xs.take m := by
  apply List.ext_getElem?
  intro j
  by_cases hj : j < m
  · rw [List.getElem?_take_of_lt hj, List.getElem?_take_of_lt hj, List.getElem?_set_ne (by omega)]
  · rw [List.getElem?_eq_none (by rw [List.length_take]; omega), List.getElem?_eq_none (by rw [List.length_take]; omega)]
theorem take_set_near {xs : List Int} {m i : Nat} {v : Int} : (xs.set i v).take m = (xs.take m).set i v := by
  apply List.ext_getElem?
  intro j
  by_cases hj : j < m
  · rw [List.getElem?_take_of_lt hj, List.getElem?_set, List.getElem?_set, List.getElem?_take_of_lt hj, List.length_take]
    by_cases e : i = j
    · subst e
      rw [if_pos rfl, if_pos rfl]
      by_cases hl : i < xs.length
      · rw [if_pos hl, if_pos (by omega)]
      · rw [if_neg hl, if_neg (by omega)]
    · rw [if_neg e, if_neg e]
  · rw [List.getElem?_eq_none (by rw [List.length_take]; omega), List.getElem?_eq_none (by rw [List.length_set, List.length_take]; omega)]
theorem ofts_take (p : Nat) (sg : Int) (xs : List Int) (m : Nat) : ∀ i, (ofts p sg xs i).take m = ofts p sg (xs.take m) (min i (m - p))
  | 0 => by rw [Nat.zero_min] <;> rfl
  | i + 1 => by
    have ih := ofts_take p sg xs m i
    rw [ofts_succ]
    unfold stepO
    by_cases h : p + i < m
    · rw [show min (i + 1) (m - p) = min i (m - p) + 1 by omega, ofts_succ, ← ih, take_set_near]
      unfold stepO
      rw [show min i (m - p) = i by omega, getD_take _ h, getD_take _ (by omega)]
    · rw [take_set_far (by omega), ih, show min (i + 1) (m - p) = min i (m - p) by omega]
theorem oft_take (p : Nat) (sg : Int) (xs : List Int) (m : Nat) : oft p sg (xs.take m) = (oft p sg xs).take m := by
  unfold oft
  rw [ofts_take, List.length_take, show min (xs.length - p) (m - p) = min m xs.length - p by omega]
theorem oft_far {p m : Nat} (sg : Int) (xs : List Int) (h : m ≤ p) : (oft p sg xs).take m = xs.take m := by
  unfold oft
  rw [ofts_take, show min (xs.length - p) (m - p) = 0 by omega] <;> rfl
theorem base_take {n N : Nat} (h : n ≤ N) : base n = (base N).take (n + 1) := by
  unfold base
  rw [List.take_succ_cons, List.take_replicate, show min n N = n by omega]
/-- one way for all numbers up to N -/
theorem stab {f : Nat → List Int → List Int} (ft : ∀ p m xs, f p (xs.take m) = (f p xs).take m) (ff : ∀ p m xs, m ≤ p → (f p xs).take m = xs.take m) {S : Nat → Nat → List Int} (S0 : ∀ n, S n 0 = base n) (Ss : ∀ n i, S n (i + 1) = f (i + 1) (S n i)) {n N : Nat} (h : n ≤ N) : (S n n).getD n 0 = (S N N).getD n 0 := by
  have h1 : ∀ i, S n i = (S N i).take (n + 1) := fun i => by
    induction i with
    | zero => rw [S0, S0]; exact base_take h
    | succ i ih => rw [Ss, Ss, ih, ft]
  have h2 : ∀ j, (S N (n + j)).take (n + 1) = (S N n).take (n + 1) := fun j => by
    induction j with
    | zero => rfl
    | succ j ih => rw [show n + (j + 1) = (n + j) + 1 by omega, Ss, ff _ _ _ (by omega), ih]
  have h3 : S n n = (S N N).take (n + 1) := by
    rw [h1 n, ← h2 (N - n), show n + (N - n) = N by omega]
  rw [h3, getD_take _ (by omega)]
theorem cube_stab {n N : Nat} (h : n ≤ N) : (cubeS n n).getD n 0 = (cubeS N N).getD n 0 :=
  stab (f := fun p xs => unl p (unl p (unl p xs))) (fun p m xs => by rw [unl_take, unl_take, unl_take]) (fun p m xs h => by rw [unl_far _ h, unl_far _ h, unl_far _ h]) (S := cubeS) (fun _ => rfl) (fun _ _ => rfl) h
theorem sign_stab {n N : Nat} (h : n ≤ N) : (signS n n).getD n 0 = (signS N N).getD n 0 :=
  stab (f := fun p xs => oft p (-1) (unl p xs)) (fun p m xs => by rw [unl_take, oft_take]) (fun p m xs h => by rw [oft_far _ _ h, unl_far _ h]) (S := signS) (fun _ => rfl) (fun _ _ => rfl) h
theorem half_stab {n N : Nat} (h : n ≤ N) : (halfS n n).getD n 0 = (halfS N N).getD n 0 :=
  stab (f := fun p xs => if p % 2 = 0 then unl p xs else oft p 1 xs) (fun p m xs => by
    split
    · rw [unl_take]
    · rw [oft_take]) (fun p m xs h => by
    split
    · rw [unl_far _ h]
    · rw [oft_far _ _ h]) (S := halfS) (fun _ => rfl) (fun _ _ => rfl) h
theorem sqAdd_get {p : Nat} {ls cs : List Int} (h : ls.length = cs.length) {t : Nat} (ht : t < ls.length) : (sqAdd p ls cs).getD t 0 = ls.getD t 0 + 2 * (if p ≤ t then cs.getD (t - p) 0 else 0) := by
  rw [List.getD_eq_getElem?_getD]
  unfold sqAdd
  rw [List.getElem?_zipWith, getD_some ht]
  by_cases hp : p ≤ t
  · rw [if_pos hp, List.getElem?_append_right (by simpa using hp), List.length_replicate, getD_some (xs := cs) (i := t - p) (by omega)] <;> rfl
  · rw [if_neg hp, List.getElem?_append_left (by simp; omega), List.getElem?_replicate, if_pos (by omega)] <;> rfl
theorem ext_getD {xs ys : List Int} (h : xs.length = ys.length) (e : ∀ t, t < xs.length → xs.getD t 0 = ys.getD t 0) : xs = ys := by
  apply List.ext_getElem?
  intro t
  by_cases ht : t < xs.length
  · rw [getD_some ht, getD_some (by omega), e t ht]
  · rw [List.getElem?_eq_none (by omega), List.getElem?_eq_none (by omega)]
theorem sqAdd_take {p m : Nat} {ls cs : List Int} (h : ls.length = cs.length) : sqAdd p (ls.take m) (cs.take m) = (sqAdd p ls cs).take m := by
  have hl : (ls.take m).length = (cs.take m).length := by rw [List.length_take, List.length_take, h]
  apply ext_getD
  · rw [sqAdd_len hl, List.length_take, List.length_take, sqAdd_len h]
  · intro t ht
    rw [sqAdd_len hl, List.length_take] at ht
    rw [sqAdd_get hl (by rw [List.length_take]; omega), getD_take _ (by omega), getD_take _ (by omega), getD_take _ (by omega), sqAdd_get h (by omega)]
theorem sqAdd_far {p m : Nat} {ls cs : List Int} (h : ls.length = cs.length) (hp : m ≤ p) : (sqAdd p ls cs).take m = ls.take m := by
  apply ext_getD
  · rw [List.length_take, List.length_take, sqAdd_len h]
  · intro t ht
    rw [List.length_take, sqAdd_len h] at ht
    rw [getD_take _ (by omega), sqAdd_get h (by omega), if_neg (by omega), getD_take _ (by omega)]
    omega
theorem sqs_take (cs : List Int) {m R : Nat} (hm : IsRt (m - 1) R) (m0 : 0 < m) : ∀ i, (sqs cs i).take m = sqs (cs.take m) (min i R)
  | 0 => by rw [Nat.zero_min] <;> rfl
  | i + 1 => by
    have ih := sqs_take cs hm m0 i
    show (sqAdd ((i + 1) * (i + 1)) (sqs cs i) cs).take m = _
    by_cases h : i + 1 ≤ R
    · rw [← sqAdd_take (sqs_len cs i), ih, show min (i + 1) R = i + 1 by omega, show min i R = i by omega] <;> rfl
    · have : (R + 1) * (R + 1) ≤ (i + 1) * (i + 1) := Nat.mul_le_mul (by omega) (by omega)
      have h2 := hm.2
      rw [sqAdd_far (sqs_len cs i) (by omega), ih, show min (i + 1) R = min i R by omega]
theorem wS_stab {n N R Q' : Nat} (h : n ≤ N) (hR : IsRt n R) (hQ : IsRt N Q') : ∀ i, wS n R i = (wS N Q' i).take (n + 1)
  | 0 => base_take h
  | i + 1 => by
    have hle : R ≤ Q' := by
      obtain ⟨a1, a2⟩ := hR
      obtain ⟨b1, b2⟩ := hQ
      rcases Nat.lt_or_ge Q' R with z | z
      · have : (Q' + 1) * (Q' + 1) ≤ R * R := Nat.mul_le_mul (by omega) (by omega)
        omega
      · exact z
    show sqs (wS n R i) R = (sqs (wS N Q' i) Q').take (n + 1)
    rw [sqs_take _ (m := n + 1) (R := R) hR (by omega), ← wS_stab h hR hQ i, show min Q' R = R by omega]
theorem ones_stab {n N : Nat} (h : n ≤ N) : ∀ i, onesS n i = (onesS N i).take (n + 1)
  | 0 => by
    show List.replicate (n + 1) 0 = (List.replicate (N + 1) 0).take (n + 1)
    rw [List.take_replicate, show min (n + 1) (N + 1) = n + 1 by omega]
  | i + 1 => by
    show ostep n _ _ = (ostep N _ _).take (n + 1)
    rw [ones_stab h i]
    generalize (-15 + (i : Int) * 1) = o
    have h2 : 0 ≤ o * o := sq_nn o
    unfold ostep
    by_cases hc : o * o ≤ (n : Int)
    · rw [if_pos hc, if_pos (by omega), take_set_near, getD_take _ (by omega)]
    · rw [if_neg hc]
      by_cases hd : o * o ≤ (N : Int)
      · rw [if_pos hd, take_set_far (by omega)]
      · rw [if_neg hd]
theorem conv_take {xs : List Int} {m t : Nat} (h : t < m) : conv (xs.take m) t = conv xs t := by
  unfold conv
  congr 1
  apply List.map_congr_left
  intro a ha
  have := List.mem_range.mp ha
  rw [getD_take _ (by omega), getD_take _ (by omega)]
theorem twos_stab {n N : Nat} (h : n ≤ N) : twosS n = (twosS N).take (n + 1) := by
  unfold twosS
  rw [← List.map_take, List.take_range, show min (n + 1) (N + 1) = n + 1 by omega]
  apply List.map_congr_left
  intro t ht
  have := List.mem_range.mp ht
  rw [ones_stab h, conv_take (by omega)]
def C60 : List Int := [1, -3, 0, 5, 0, 0, -7, 0, 0, 0, 9, 0, 0, 0, 0, -11, 0, 0, 0, 0, 0, 13, 0, 0, 0, 0, 0, 0, -15, 0, 0, 0, 0, 0, 0, 0, 17, 0, 0, 0, 0, 0, 0, 0, 0, -19, 0, 0, 0, 0, 0, 0, 0, 0, 0, 21, 0, 0, 0, 0, 0]
def S60 : List Int := [1, -2, 0, 0, 2, 0, 0, 0, 0, -2, 0, 0, 0, 0, 0, 0, 2, 0, 0, 0, 0, 0, 0, 0, 0, -2, 0, 0, 0, 0, 0, 0, 0, 0, 0, 0, 2, 0, 0, 0, 0, 0, 0, 0, 0, 0, 0, 0, 0, -2, 0, 0, 0, 0, 0, 0, 0, 0, 0, 0, 0]
def H60 : List Int := [1, 1, 0, 1, 0, 0, 1, 0, 0, 0, 1, 0, 0, 0, 0, 1, 0, 0, 0, 0, 0, 1, 0, 0, 0, 0, 0, 0, 1, 0, 0, 0, 0, 0, 0, 0, 1, 0, 0, 0, 0, 0, 0, 0, 0, 1, 0, 0, 0, 0, 0, 0, 0, 0, 0, 1, 0, 0, 0, 0, 0]
def W2 : List Int := [1, 4, 4, 0, 4, 8, 0, 0, 4, 4, 8, 0, 0, 8, 0, 0, 4, 8, 4, 0, 8, 0, 0, 0, 0, 12, 8, 0, 0, 8, 0, 0, 4, 0, 8, 0, 4, 8, 0, 0, 8, 8, 0, 0, 0, 8, 0, 0, 0, 4, 12, 0, 8, 8, 0, 0, 0, 0, 8, 0, 0, 8, 0, 0, 4, 16, 0, 0, 8, 0, 0, 0, 4, 8, 8, 0, 0, 0, 0, 0, 8, 4, 8, 0, 0, 16, 0, 0, 0, 8, 8, 0, 0, 0, 0, 0, 0, 8, 4, 0, 12, 8, 0, 0, 8, 0, 8, 0, 0, 8, 0, 0, 0, 8, 0, 0, 8, 8, 0, 0, 0, 4, 8, 0, 0, 16, 0, 0, 4, 0, 16, 0, 0, 0, 0, 0, 8, 8, 0, 0, 0, 0, 0, 0, 4, 16, 8, 0, 8, 8, 0, 0, 0, 8, 0, 0, 0, 8, 0, 0, 8, 0, 4, 0, 8, 0, 0, 0, 0, 12, 16, 0, 0, 8, 0, 0, 0, 0, 8, 0, 8, 8, 0, 0, 0, 16, 0, 0, 0, 0, 0, 0, 0, 8, 8, 0, 4, 8, 0, 0, 12]
def W4 : List Int := [1, 8, 24, 32, 24, 48, 96, 64, 24, 104, 144, 96, 96, 112, 192, 192, 24, 144, 312, 160, 144, 256, 288, 192, 96, 248, 336, 320, 192, 240, 576, 256, 24, 384, 432, 384, 312, 304, 480, 448, 144, 336, 768, 352, 288, 624, 576, 384, 96, 456, 744, 576, 336, 432, 960, 576, 192, 640, 720, 480, 576, 496, 768, 832, 24, 672, 1152, 544, 432, 768, 1152, 576, 312, 592, 912, 992, 480, 768, 1344, 640, 144, 968, 1008, 672, 768, 864, 1056, 960, 288, 720, 1872, 896, 576, 1024, 1152, 960, 96, 784, 1368, 1248, 744, 816, 1728, 832, 336, 1536, 1296, 864, 960, 880, 1728, 1216, 192, 912, 1920, 1152, 720, 1456, 1440, 1152, 576, 1064, 1488, 1344, 768, 1248, 2496, 1024, 24, 1408, 2016, 1056, 1152, 1280, 1632, 1920, 432, 1104, 2304, 1120, 1152, 1536, 1728, 1344, 312, 1440, 1776, 1824, 912, 1200, 2976, 1216, 480, 1872, 2304, 1536, 1344, 1264, 1920, 1728, 144, 1536, 2904, 1312, 1008, 2304, 2016, 1344, 768, 1464, 2592, 2080, 1056, 1392, 2880, 1984, 288, 1920, 2160, 1440, 1872, 1456, 2688, 1984, 576, 1824, 3072, 1728, 1152, 2560, 2880, 1536, 96, 1552, 2352, 2688, 1368, 1584, 3744, 1600, 744]
theorem c60_eq : cubeS 60 60 = C60 := by decide +kernel
theorem s60_eq : signS 60 60 = S60 := by decide +kernel
theorem h60_eq : halfS 60 60 = H60 := by decide +kernel
theorem w2_eq : wS 200 14 2 = W2 := by decide +kernel
theorem w4_eq : wS 200 14 4 = W4 := by decide +kernel
theorem t2_eq : twosS 200 = W2 := by decide +kernel
theorem counts_60 : ∀ n, n ≤ 60 → [(cubeS n n).getD n 0, (signS n n).getD n 0, (halfS n n).getD n 0] = ruleS n (n + 1) := fun n h => by
  rw [cube_stab h, sign_stab h, half_stab h, c60_eq, s60_eq, h60_eq]
  have : (List.range 61).all (fun n => decide ([C60.getD n 0, S60.getD n 0, H60.getD n 0] = ruleS n (n + 1))) = true := by decide +kernel
  exact of_decide_eq_true (List.all_eq_true.mp this n (List.mem_range.mpr (by omega)))
theorem rt_ex : ∀ n, ∃ R, IsRt n R
  | 0 => ⟨0, by decide, by decide⟩
  | n + 1 => by
    obtain ⟨R, h1, h2⟩ := rt_ex n
    by_cases h : n + 1 < (R + 1) * (R + 1)
    · exact ⟨R, by omega, h⟩
    · refine ⟨R + 1, by omega, ?_⟩
      have : (R + 1 + 1) * (R + 1 + 1) = (R + 1) * (R + 1) + 2 * (R + 1) + 1 := by rw [Nat.add_mul, Nat.mul_add]; omega
      omega
theorem ways_200 {n R : Nat} (h : n ≤ 200) (hR : IsRt n R) : (wS n R 2).getD n 0 = (twosS n).getD n 0 ∧ (wS n R 4).getD n 0 = conv (twosS n) n ∧ (twosS n).getD n 0 = W2.getD n 0 ∧ conv (twosS n) n = W4.getD n 0 := by
  have hQ : IsRt 200 14 := ⟨by decide, by decide⟩
  have a1 : (twosS n).getD n 0 = W2.getD n 0 := by rw [twos_stab h, getD_take _ (by omega), t2_eq]
  have a2 : conv (twosS n) n = W4.getD n 0 := by
    rw [twos_stab h, conv_take (by omega), t2_eq]
    have : (List.range 201).all (fun n => decide (conv W2 n = W4.getD n 0)) = true := by decide +kernel
    exact of_decide_eq_true (List.all_eq_true.mp this n (List.mem_range.mpr (by omega)))
  refine ⟨?_, ?_, a1, a2⟩
  · rw [a1, wS_stab h hR hQ, getD_take _ (by omega), w2_eq]
  · rw [a2, wS_stab h hR hQ, getD_take _ (by omega), w4_eq]
def divs (n : Nat) : List Int := ((List.range n).map fun i : Nat => (1 + (i : Int) * 1)).filter fun d => decide ((n : Int).fmod d = 0)
def first (n : Nat) : Int := ((divs n).map fun d => ([0, 1, 0, -1] : List Int).getD (d.fmod 4).toNat 0).sum
def second (n : Nat) : Int := ((divs n).filter fun d => !decide (d.fmod 4 = 0)).sum
theorem divs_200 {n : Nat} (h : n ≤ 200) (h0 : 0 < n) : [(twosS n).getD n 0, conv (twosS n) n] = [4 * first n, 8 * second n] := by
  obtain ⟨R, hR⟩ := rt_ex n
  obtain ⟨_, _, a, b⟩ := ways_200 h hR
  rw [a, b]
  have : (List.range 201).all (fun n => decide (0 < n → [W2.getD n 0, W4.getD n 0] = [4 * first n, 8 * second n])) = true := by decide +kernel
  exact of_decide_eq_true (List.all_eq_true.mp this n (List.mem_range.mpr (by omega))) h0
theorem ones_in : (onesS 200 31).all inMul = true := by decide +kernel
theorem twos_in : W2.all inMul = true := by decide +kernel
theorem all_take {p : Int → Bool} {xs : List Int} (h : xs.all p = true) (m : Nat) : (xs.take m).all p = true :=
  List.all_eq_true.mpr fun x hx => List.all_eq_true.mp h x (List.mem_of_mem_take hx)
theorem ones_in2 {n : Nat} (h : n ≤ 200) : (onesS n 31).all inMul = true := by rw [ones_stab h]; exact all_take ones_in _
theorem twos_in2 {n : Nat} (h : n ≤ 200) : (twosS n).all inMul = true := by rw [twos_stab h, t2_eq]; exact all_take twos_in _
end Q

/-! P18: the law's first loop. -/
namespace Q
open MP
theorem lcGo3 {f : T → Mem → Res (Option T)} {a b c x y z : T} {μ : Mem} (h1 : f a μ = .ok (some x) μ) (h2 : f b μ = .ok (some y) μ) (h3 : f c μ = .ok (some z) μ) : lcGo f [a, b, c] 0 μ = .ok [x, y, z] μ := by
  show Res.bind (f a μ) _ = _
  rw [h1, Res.bind_ok]
  show Res.bind (Res.bind (f b μ) _) _ = _
  rw [h2, Res.bind_ok]
  show Res.bind (Res.bind (Res.bind (f c μ) _) _) _ = _
  rw [h3, Res.bind_ok] <;> rfl
/-- draws in a row -/
theorem draws_go {f : T → Mem → Res (Option T)} {m : Int} (hf : ∀ x B c, IsStream B c → c < 1000000 → ∃ v B', f x [B] = .ok (some (.int v)) [B'] ∧ 0 ≤ v ∧ v < m ∧ IsStream B' (c + 1)) : ∀ (xs : List T) (n c : Nat) (B : T), IsStream B c → c + xs.length ≤ 1000 → n + xs.length ≤ 1000 → ∃ (vs : List Int) (B' : T), lcGo f xs n [B] = .ok (vs.map .int) [B'] ∧ vs.length = xs.length ∧ (∀ v ∈ vs, 0 ≤ v ∧ v < m) ∧ IsStream B' (c + xs.length)
  | [], n, c, B, h, _, _ => ⟨[], B, rfl, rfl, (fun v hv => by cases hv), h⟩
  | x :: xs, n, c, B, h, hc, hn => by
    rw [List.length_cons] at hc hn
    have l1 := line_eq1
    obtain ⟨v, B1, e1, a, b, h1⟩ := hf x B c h (by omega)
    obtain ⟨vs, B2, e2, q, w, h2⟩ := draws_go hf xs (n + 1) (c + 1) B1 h1 (by omega) (by omega)
    refine ⟨v :: vs, B2, ?_, by rw [List.length_cons, List.length_cons, q], ?_, ?_⟩
    · show Res.bind (f x [B]) _ = _
      rw [e1, Res.bind_ok]
      show (if Nat.blt n line = true then (lcGo f xs (n + 1) [B1]).bind fun r μ => .ok (T.int v :: r) μ else .stuck) = _
      have hb : Nat.blt n line = true := Nat.ble_eq_true_of_le (by omega)
      rw [hb, if_pos rfl, e2] <;> rfl
    · intro u hu
      rcases List.mem_cons.mp hu with rfl | hu
      · exact ⟨a, b⟩
      · exact w u hu
    · rw [List.length_cons, show c + (xs.length + 1) = c + 1 + xs.length by omega]
      exact h2
section
variable {F : Fns} {W : Nat} {ρ ρ' : Env} {μ μ1 μ2 μ3 : Mem}
theorem sForK {tg : Tg} {it : II} {b : List IS} {ks : List Nat} {xs : List T} {r : Res (Fl × Env)} (h : evI F ρ it μ = .ok xs μ1) (h2 : forLoop (fun x ρ μ => match bindTg tg x ρ with | some ρ' => evIs F W b ρ' μ | none => .stuck) xs (kill ρ ks) μ1 = r) : evI1 F W (.for tg it b ks) ρ μ = r := by
  rw [evI1, h, Res.bind_ok]
  exact h2
theorem eLst2 {a b : IE} {x y : Int} (h1 : evE F ρ a μ = .ok (.int x) μ) (h2 : evE F ρ b μ = .ok (.int y) μ) : evE F ρ (.lst [(false, a), (false, b)]) μ = .ok (.lst ([x, y].map .int)) μ := by
  rw [evE, evS, h1, Res.bind_ok]
  dsimp only
  rw [evS, h2, Res.bind_ok]
  rfl
theorem eLst3 {a b c : IE} {x y z : Int} (h1 : evE F ρ a μ = .ok (.int x) μ) (h2 : evE F ρ b μ = .ok (.int y) μ) (h3 : evE F ρ c μ = .ok (.int z) μ) : evE F ρ (.lst [(false, a), (false, b), (false, c)]) μ = .ok (.lst ([x, y, z].map .int)) μ := by
  rw [evE, evS, h1, Res.bind_ok]
  dsimp only
  rw [evS, h2, Res.bind_ok]
  dsimp only
  rw [evS, h3, Res.bind_ok]
  rfl
/-- the test that ends a law: not so -/
theorem sNot {e : IE} {a : List IS} (h : evE F ρ e μ = .ok (.bl true) μ) : evI1 F W (.iff (.nt e) a []) ρ μ = .ok (.nx, ρ) μ := sIf (v := false) (eNot h) rfl
end
def L1 : List IS := [(.asg 4 (.lc (.call 14 [(.var 3), (.var 10)] []) (.nm 10) (.seq (.tup [(.cst (.str "cube")), (.cst (.str "signed")), (.cst (.str "half"))])) none) []), (.iff (.nt (.call 13 [(.var 4), (.call 15 [(.var 3)] [])] [])) [(.ret (some (.cst (.bl false))))] []), (.asg 5 (.lst [(false, (.call 4 [(.var 3)] [])), (false, (.call 5 [(.var 3)] [])), (false, (.call 6 [(.var 3)] []))]) []), (.iff (.nt (.call 13 [(.var 5), (.var 4)] [])) [(.ret (some (.cst (.bl false))))] []), (.asg 5 (.lst [(false, (.call 4 [] [(0, (.var 3))])), (false, (.call 5 [] [(0, (.var 3))])), (false, (.call 6 [] [(0, (.var 3))]))]) []), (.iff (.nt (.call 13 [(.var 5), (.var 4)] [])) [(.ret (some (.cst (.bl false))))] [])]
theorem L1_ok {k n : Nat} (hn : n ≤ 60) (B s : T) (o4 o5 : Option T) : ∃ p4 p5, evIs (Fn (k + 3)) 100000 L1 [some s, some (.box 0), none, some (.int (n : Int)), o4, o5, none, none, none, none, none, none] [B] = .ok (.nx, [some s, some (.box 0), none, some (.int (n : Int)), p4, p5, none, none, none, none, none, none]) [B] := by
  have l1 := line_eq1
  let xs : List Int := [(cubeS n n).getD n 0, (signS n n).getD n 0, (halfS n n).getD n 0]
  have hx : ruleS n (n + 1) = xs := (counts_60 n hn).symm
  have b1 : evI1 (Fn (k + 3)) 100000 (.asg 4 (.lc (.call 14 [(.var 3), (.var 10)] []) (.nm 10) (.seq (.tup [(.cst (.str "cube")), (.cst (.str "signed")), (.cst (.str "half"))])) none) []) [some s, some (.box 0), none, some (.int (n : Int)), o4, o5, none, none, none, none, none, none] [B] = .ok (.nx, [some s, some (.box 0), none, some (.int (n : Int)), some (.lst (xs.map .int)), o5, none, none, none, none, none, none]) [B] := by
    refine sAsg ?_
    have hi : evI (Fn (k + 3)) [some s, some (.box 0), none, some (.int (n : Int)), o4, o5, none, none, none, none, none, none] (.seq (.tup [(.cst (.str "cube")), (.cst (.str "signed")), (.cst (.str "half"))])) [B] = .ok [.str "cube", .str "signed", .str "half"] [B] := rfl
    rw [evE, hi, Res.bind_ok, lcGo3 (x := .int ((cubeS n n).getD n 0)) (y := .int ((signS n n).getD n 0)) (z := .int ((halfS n n).getD n 0))]
    · rfl
    · show Res.bind (.ok true [B]) _ = _
      rw [Res.bind_ok]
      show Res.bind (evE (Fn (k + 3)) [some s, some (.box 0), none, some (.int (n : Int)), o4, o5, none, none, none, none, some (.str "cube"), none] (.call 14 [(.var 3), (.var 10)] []) [B]) _ = _
      rw [eCall2 (eVar rfl) (eVar rfl) (counts_cube (k + 2) n (by omega) B)] <;> rfl
    · show Res.bind (.ok true [B]) _ = _
      rw [Res.bind_ok]
      show Res.bind (evE (Fn (k + 3)) [some s, some (.box 0), none, some (.int (n : Int)), o4, o5, none, none, none, none, some (.str "signed"), none] (.call 14 [(.var 3), (.var 10)] []) [B]) _ = _
      rw [eCall2 (eVar rfl) (eVar rfl) (counts_signed (k + 2) n (by omega) B)] <;> rfl
    · show Res.bind (.ok true [B]) _ = _
      rw [Res.bind_ok]
      show Res.bind (evE (Fn (k + 3)) [some s, some (.box 0), none, some (.int (n : Int)), o4, o5, none, none, none, none, some (.str "half"), none] (.call 14 [(.var 3), (.var 10)] []) [B]) _ = _
      rw [eCall2 (eVar rfl) (eVar rfl) (counts_half (k + 2) n (by omega) B)] <;> rfl
  have sm : Fn (k + 3) 13 [.lst (xs.map .int), .lst (xs.map .int)] [B] = .ok (.bl true) [B] := same_ok (k + 1) xs (by show 3 ≤ line; omega) B
  have rl : Fn (k + 3) 15 [.int (n : Int)] [B] = .ok (.lst (xs.map .int)) [B] := by rw [← hx]; exact rule_ok (k + 2) n (by omega) B
  have f1 := cube_ok k n (by omega) B
  have f2 := signed_ok k n (by omega) B
  have f3 := half_ok k n (by omega) B
  exact ⟨_, _, ssCons b1 (ssCons (sNot (eCall2 (eVar rfl) (eCall1 (eVar rfl) rl) sm))
    (ssCons (sAsg (eLst3 (eCall1 (eVar rfl) f1) (eCall1 (eVar rfl) f2) (eCall1 (eVar rfl) f3))) (ssCons (sNot (eCall2 (eVar rfl) (eVar rfl) sm))
    (ssCons (sAsg (eLst3 (eCallK (eVar rfl) f1) (eCallK (eVar rfl) f2) (eCallK (eVar rfl) f3))) (ssCons (sNot (eCall2 (eVar rfl) (eVar rfl) sm)) rfl)))))⟩
end Q

/-! P19: the law's second loop. -/
namespace Q
open MP
def L2s : List IS := [(.asg 4 (.call 16 [(.var 3)] []) []), (.iff (.nt (.call 13 [(.lst [(false, (.call 8 [(.var 3)] [])), (false, (.call 9 [(.var 3)] []))]), (.var 4)] [])) [(.ret (some (.cst (.bl false))))] []), (.iff (.nt (.call 13 [(.lst [(false, (.call 8 [] [(0, (.var 3))])), (false, (.call 9 [] [(0, (.var 3))]))]), (.var 4)] [])) [(.ret (some (.cst (.bl false))))] []), (.asg 6 (.lc (.var 11) (.nm 11) (.rng2 (.cst (.int 1)) (.bin .add (.var 3) (.cst (.int 1)))) (some (.cmp .eq (.bin .mod (.bi .int [(.var 3)]) (.var 11)) (.cst (.int 0))))) []), (.asg 7 (.bi .sum [(.lc (.sub (.lst [(false, (.cst (.int 0))), (false, (.cst (.int 1))), (false, (.cst (.int 0))), (false, (.un (.cst (.int 1))))]) (.bin .mod (.bi .int [(.var 11)]) (.cst (.int 4)))) (.nm 11) (.seq (.var 6)) none)]) []), (.asg 8 (.bi .sum [(.lc (.var 11) (.nm 11) (.seq (.var 6)) (some (.cmp .ne (.bin .mod (.bi .int [(.var 11)]) (.cst (.int 4))) (.cst (.int 0)))))]) []), (.iff (.bop true [(.cmp .gt (.var 3) (.cst (.int 0))), (.cmp .ne (.var 4) (.lst [(false, (.bin .mul (.cst (.int 4)) (.var 7))), (false, (.bin .mul (.cst (.int 8)) (.var 8)))]))]) [(.ret (some (.cst (.bl false))))] [])]
theorem fm_gen {α : Type} {g : T → Option T} {p : Int → Bool} (f : α → Int) (h : ∀ i, g (.int i) = if p i then some (.int i) else none) : ∀ xs : List α, (xs.map fun a => T.int (f a)).filterMap g = ((xs.map f).filter p).map T.int
  | [] => rfl
  | x :: xs => by
    have ih := fm_gen (g := g) (p := p) f h xs
    rw [List.map_cons, List.map_cons]
    cases hp : p (f x) with
    | true => rw [List.filterMap_cons_some (by rw [h, hp, if_pos rfl]), List.filter_cons_of_pos hp, List.map_cons, ih]
    | false => rw [List.filterMap_cons_none (by rw [h, hp] <;> rfl), List.filter_cons_of_neg (by rw [hp]; decide), ih]
theorem eqTL_refl : ∀ xs : List Int, eqTL (xs.map T.int) (xs.map T.int) = true
  | [] => rfl
  | x :: xs => by
    show (decide (x = x) && eqTL (xs.map T.int) (xs.map T.int)) = true
    rw [eqTL_refl xs, decide_eq_true rfl] <;> rfl
theorem divs_len (n : Nat) : (divs n).length ≤ n := by
  unfold divs
  refine Nat.le_trans (List.length_filter_le _ _) ?_
  rw [List.length_map, List.length_range]
  exact Nat.le_refl n
theorem divs_pos {n : Nat} {d : Int} (h : d ∈ divs n) : 0 < d := by
  unfold divs at h
  obtain ⟨i, _, rfl⟩ := List.mem_map.mp (List.mem_filter.mp h).1
  omega
section
variable {F : Fns} {W : Nat} {μ : Mem}
/-- the slots of the second loop -/
def envL (s : T) (n : Int) (o2 o4 o5 o6 o7 o8 : Option T) (o11 : Option T) : Env := [some s, some (.box 0), o2, some (.int n), o4, o5, o6, o7, o8, none, none, o11]
theorem divs_ok {s : T} {n : Nat} (hn : n ≤ 1000) {o2 o4 o5 o6 o7 o8 : Option T} : evE F (envL s n o2 o4 o5 o6 o7 o8 none) (.lc (.var 11) (.nm 11) (.rng2 (.cst (.int 1)) (.bin .add (.var 3) (.cst (.int 1)))) (some (.cmp .eq (.bin .mod (.bi .int [(.var 3)]) (.var 11)) (.cst (.int 0))))) μ = .ok (.lst ((divs n).map .int)) μ := by
  have l1 := line_eq1
  let g : T → Option T := fun x => match x with
    | .int d => if decide ((n : Int).fmod d = 0) then some (.int d) else none
    | _ => none
  have fin : (rngL 1 1 n).filterMap g = (divs n).map T.int := by
    rw [rngL_map]
    exact fm_gen (g := g) (fun i : Nat => (1 + (i : Int) * 1)) (fun i => rfl) (List.range n)
  rw [← fin, evE, rng1n rfl (by omega), Res.bind_ok, lcGo_filter (g := g) (fun x hx => ?_) (by rw [rngL_len]; omega)]
  · rfl
  · obtain ⟨i, hi', e⟩ := List.mem_iff_getElem.mp hx
    have ex : (rngL 1 1 n)[i]? = some x := by rw [List.getElem?_eq_getElem hi', e]
    obtain ⟨hj, rfl⟩ := rng_item ex
    have c : evC F (envL s n o2 o4 o5 o6 o7 o8 (some (.int ((i + 1 : Nat) : Int)))) (some (.cmp .eq (.bin .mod (.bi .int [(.var 3)]) (.var 11)) (.cst (.int 0)))) μ = .ok (decide ((n : Int).fmod ((i + 1 : Nat) : Int) = 0)) μ := by
      have q : evE F (envL s n o2 o4 o5 o6 o7 o8 (some (.int ((i + 1 : Nat) : Int)))) (.cmp .eq (.bin .mod (.bi .int [(.var 3)]) (.var 11)) (.cst (.int 0))) μ = .ok (.bl (decide ((n : Int).fmod ((i + 1 : Nat) : Int) = 0))) μ := eCmp (eBin (eInt (eVar rfl)) (eVar rfl) (pMod (by omega))) eCst rfl
      rw [evC, q] <;> rfl
    show Res.bind (evC F (envL s n o2 o4 o5 o6 o7 o8 (some (.int ((i + 1 : Nat) : Int)))) _ μ) _ = _
    rw [c, Res.bind_ok]
    show _ = Res.ok (if decide ((n : Int).fmod ((i + 1 : Nat) : Int) = 0) = true then some (T.int ((i + 1 : Nat) : Int)) else none) μ
    cases hd : decide ((n : Int).fmod ((i + 1 : Nat) : Int) = 0) <;> rfl
theorem m4 {s : T} {n d : Int} {o2 o4 o5 o6 o7 o8 : Option T} : evE F (envL s n o2 o4 o5 o6 o7 o8 (some (.int d))) (.bin .mod (.bi .int [(.var 11)]) (.cst (.int 4))) μ = .ok (.int (d.fmod 4)) μ := eBin (eInt (eVar rfl)) eCst (pMod (by decide))
theorem first_ok {s : T} {n : Nat} (hn : n ≤ 1000) {o2 o4 o5 o7 o8 : Option T} : evE F (envL s n o2 o4 o5 (some (.lst ((divs n).map .int))) o7 o8 none) (.bi .sum [(.lc (.sub (.lst [(false, (.cst (.int 0))), (false, (.cst (.int 1))), (false, (.cst (.int 0))), (false, (.un (.cst (.int 1))))]) (.bin .mod (.bi .int [(.var 11)]) (.cst (.int 4)))) (.nm 11) (.seq (.var 6)) none)]) μ = .ok (.int (first n)) μ := by
  have l1 := line_eq1
  have dl := divs_len n
  let f : Int → Int := fun d => ([0, 1, 0, -1] : List Int).getD (d.fmod 4).toNat 0
  let g : T → T := fun x => match x with
    | .int d => .int (f d)
    | _ => .non
  have fin : ((divs n).map T.int).map g = ((divs n).map f).map T.int := by rw [List.map_map, List.map_map] <;> rfl
  have hi : evI F (envL s n o2 o4 o5 (some (.lst ((divs n).map .int))) o7 o8 none) (.seq (.var 6)) μ = .ok ((divs n).map .int) μ := rfl
  refine eSum (xs := (divs n).map f) ?_
  rw [← fin, evE, hi, Res.bind_ok, lcGo_map (g := g) (fun x hx => ?_) (by rw [List.length_map]; omega)]
  · rfl
  · obtain ⟨d, hd, rfl⟩ := List.mem_map.mp hx
    have a0 : 0 ≤ d.fmod 4 := by rw [Int.fmod_eq_emod_of_nonneg _ (by decide)]; omega
    have a1 : d.fmod 4 < 4 := by rw [Int.fmod_eq_emod_of_nonneg _ (by decide)]; omega
    have q : evE F (envL s n o2 o4 o5 (some (.lst ((divs n).map .int))) o7 o8 (some (.int d))) (.bin .mod (.bi .int [(.var 11)]) (.cst (.int 4))) μ = .ok (.int ((d.fmod 4).toNat : Int)) μ := by
      rw [Int.toNat_of_nonneg a0]
      exact m4
    have r : evE F (envL s n o2 o4 o5 (some (.lst ((divs n).map .int))) o7 o8 (some (.int d))) (.sub (.lst [(false, (.cst (.int 0))), (false, (.cst (.int 1))), (false, (.cst (.int 0))), (false, (.un (.cst (.int 1))))]) (.bin .mod (.bi .int [(.var 11)]) (.cst (.int 4)))) μ = .ok (.int (f d)) μ := eIx (xs := [0, 1, 0, -1]) rfl q (by show (d.fmod 4).toNat < 4; omega)
    show Res.bind (.ok true μ) _ = _
    rw [Res.bind_ok]
    show Res.bind (evE F (envL s n o2 o4 o5 (some (.lst ((divs n).map .int))) o7 o8 (some (.int d))) _ μ) _ = _
    rw [r] <;> rfl
theorem second_ok {s : T} {n : Nat} (hn : n ≤ 1000) {o2 o4 o5 o7 o8 : Option T} : evE F (envL s n o2 o4 o5 (some (.lst ((divs n).map .int))) o7 o8 none) (.bi .sum [(.lc (.var 11) (.nm 11) (.seq (.var 6)) (some (.cmp .ne (.bin .mod (.bi .int [(.var 11)]) (.cst (.int 4))) (.cst (.int 0)))))]) μ = .ok (.int (second n)) μ := by
  have l1 := line_eq1
  have dl := divs_len n
  let g : T → Option T := fun x => match x with
    | .int d => if !decide (d.fmod 4 = 0) then some (.int d) else none
    | _ => none
  have fin : ((divs n).map T.int).filterMap g = ((divs n).filter fun d => !decide (d.fmod 4 = 0)).map T.int := by
    have := fm_gen (g := g) (p := fun d => !decide (d.fmod 4 = 0)) (fun d : Int => d) (fun i => rfl) (divs n)
    rw [List.map_id'] at this
    exact this
  have hi : evI F (envL s n o2 o4 o5 (some (.lst ((divs n).map .int))) o7 o8 none) (.seq (.var 6)) μ = .ok ((divs n).map .int) μ := rfl
  refine eSum (xs := (divs n).filter fun d => !decide (d.fmod 4 = 0)) ?_
  rw [← fin, evE, hi, Res.bind_ok, lcGo_filter (g := g) (fun x hx => ?_) (by rw [List.length_map]; omega)]
  · rfl
  · obtain ⟨d, hd, rfl⟩ := List.mem_map.mp hx
    have c : evC F (envL s n o2 o4 o5 (some (.lst ((divs n).map .int))) o7 o8 (some (.int d))) (some (.cmp .ne (.bin .mod (.bi .int [(.var 11)]) (.cst (.int 4))) (.cst (.int 0)))) μ = .ok (!decide (d.fmod 4 = 0)) μ := by
      have q : evE F (envL s n o2 o4 o5 (some (.lst ((divs n).map .int))) o7 o8 (some (.int d))) (.cmp .ne (.bin .mod (.bi .int [(.var 11)]) (.cst (.int 4))) (.cst (.int 0))) μ = .ok (.bl (!decide (d.fmod 4 = 0))) μ := eCmp m4 eCst rfl
      rw [evC, q] <;> rfl
    show Res.bind (evC F (envL s n o2 o4 o5 (some (.lst ((divs n).map .int))) o7 o8 (some (.int d))) _ μ) _ = _
    rw [c, Res.bind_ok]
    show _ = Res.ok (if (!decide (d.fmod 4 = 0)) = true then some (T.int d) else none) μ
    cases hd : (!decide (d.fmod 4 = 0)) <;> rfl
theorem neL {a b : IE} {xs : List Int} {ρ : Env} (ha : evE F ρ a μ = .ok (.lst (xs.map .int)) μ) (hb : evE F ρ b μ = .ok (.lst (xs.map .int)) μ) : evE F ρ (.cmp .ne a b) μ = .ok (.bl false) μ := by
  have h : pCmp .ne (.lst (xs.map .int)) (.lst (xs.map .int)) = some false := by
    have d : datum 60 (.lst (xs.map T.int)) = true := datumL_ints 59 xs
    show (if datum 60 (.lst (xs.map T.int)) && datum 60 (.lst (xs.map T.int)) then some (!eqTL (xs.map T.int) (xs.map T.int)) else none) = _
    rw [d, eqTL_refl] <;> rfl
  rw [evE, ha, Res.bind_ok, hb, Res.bind_ok]
  show Res.bind (opt (pCmp .ne (.lst (xs.map .int)) (.lst (xs.map .int))) μ) _ = _
  rw [h] <;> rfl
end
theorem L2_ok {k n : Nat} (hn : n ≤ 200) (B s : T) (o2 o4 o5 o6 o7 o8 : Option T) : ∃ p4 p5 p6 p7 p8, evIs (Fn (k + 3)) 100000 L2s (envL s n o2 o4 o5 o6 o7 o8 none) [B] = .ok (.nx, envL s n o2 p4 p5 p6 p7 p8 none) [B] := by
  have l1 := line_eq1
  obtain ⟨R, hR⟩ := rt_ex n
  obtain ⟨e2, e4, _, _⟩ := ways_200 hn hR
  let xs : List Int := [(twosS n).getD n 0, conv (twosS n) n]
  have w := law_ways_ok (k + 2) n (by omega) (ones_in2 hn) (twos_in2 hn) B
  have t2 := two_ok k n R (by omega) hR B
  have t4 := four_ok k n R (by omega) hR B
  rw [e2] at t2
  rw [e4] at t4
  have sm : Fn (k + 3) 13 [.lst (xs.map .int), .lst (xs.map .int)] [B] = .ok (.bl true) [B] := same_ok (k + 1) xs (by show 2 ≤ line; omega) B
  have last : evE (Fn (k + 3)) (envL s n o2 (some (.lst (xs.map .int))) o5 (some (.lst ((divs n).map .int))) (some (.int (first n))) (some (.int (second n))) none) (.bop true [(.cmp .gt (.var 3) (.cst (.int 0))), (.cmp .ne (.var 4) (.lst [(false, (.bin .mul (.cst (.int 4)) (.var 7))), (false, (.bin .mul (.cst (.int 8)) (.var 8)))]))]) [B] = .ok (.bl false) [B] := by
    have g : evE (Fn (k + 3)) (envL s n o2 (some (.lst (xs.map .int))) o5 (some (.lst ((divs n).map .int))) (some (.int (first n))) (some (.int (second n))) none) (.cmp .gt (.var 3) (.cst (.int 0))) [B] = .ok (.bl (decide ((0 : Int) < (n : Int)))) [B] := eCmp (eVar rfl) eCst rfl
    by_cases h0 : 0 < n
    · have hx : xs = [4 * first n, 8 * second n] := divs_200 hn h0
      rw [decide_eq_true (by omega)] at g
      have l : evE (Fn (k + 3)) (envL s n o2 (some (.lst (xs.map .int))) o5 (some (.lst ((divs n).map .int))) (some (.int (first n))) (some (.int (second n))) none) (.lst [(false, (.bin .mul (.cst (.int 4)) (.var 7))), (false, (.bin .mul (.cst (.int 8)) (.var 8)))]) [B] = .ok (.lst (xs.map .int)) [B] := by
        rw [hx]
        exact eLst2 (eBin eCst (eVar rfl) (pMul_l rfl)) (eBin eCst (eVar rfl) (pMul_l rfl))
      exact eAnd2 g (neL (eVar rfl) l)
    · rw [decide_eq_false (by omega)] at g
      exact eAndF g
  exact ⟨_, _, _, _, _, ssCons (sAsg (eCall1 (eVar rfl) w))
    (ssCons (sNot (eCall2 (eLst2 (eCall1 (eVar rfl) t2) (eCall1 (eVar rfl) t4)) (eVar rfl) sm))
    (ssCons (sNot (eCall2 (eLst2 (eCallK (eVar rfl) t2) (eCallK (eVar rfl) t4)) (eVar rfl) sm))
    (ssCons (sAsg (divs_ok (by omega))) (ssCons (sAsg (first_ok (by omega))) (ssCons (sAsg (second_ok (by omega))) (ssCons (sIf (v := false) last rfl) rfl))))))⟩
end Q

/-! P20: the law. -/
namespace Q
open MP
theorem draw_in {k c : Nat} {B : T} {ρ : Env} {m : Int} (h : IsStream B c) (hc : c < 1000000) (h0 : 0 < m) (h1 : m < 1073741824) (hρ : getV ρ 1 = some (.box 0)) : ∃ (v : Int) (B' : T), evE (Fn (k + 1)) ρ (.call 11 [(.imm (.var 1)), (.cst (.int m))] []) [B] = .ok (.int v) [B'] ∧ 0 ≤ v ∧ v < m ∧ IsStream B' (c + 1) := by
  obtain ⟨v, B', e, a, b, hs⟩ := draw_ok (F := Fn k) (W := 100000) (m := m) h hc (by decide) h0 h1
  refine ⟨v, B', ?_, a, b, hs⟩
  have e' : Fn (k + 1) 11 [.box 0, .int m] [B] = .ok (.int v) [B'] := by rw [fnEq k 11 _ _ rfl]; exact e
  have hb : evE (Fn (k + 1)) ρ (.imm (.var 1)) [B] = .ok (.box 0) [B] := by rw [evE, eVar hρ] <;> rfl
  exact eCall2 hb eCst e'
theorem loop1 (B s : T) (vs : List Int) (w : ∀ u ∈ vs, 0 ≤ u ∧ u < 61) : ∃ o3 o4 o5, forLoop (fun x ρ μ => match bindTg (.nm 3) x ρ with | some ρ' => evIs (Fn 39) 100000 L1 ρ' μ | none => .stuck) (vs.map .int) [some s, some (.box 0), none, none, none, none, none, none, none, none, none, none] [B] = .ok (.nx, [some s, some (.box 0), none, o3, o4, o5, none, none, none, none, none, none]) [B] := by
  obtain ⟨ρ', e, o3, o4, o5, rfl⟩ := forLoop_ok (f := fun x ρ μ => match bindTg (.nm 3) x ρ with | some ρ' => evIs (Fn 39) 100000 L1 ρ' μ | none => .stuck) (μ := [B]) (xs := vs.map T.int) (i := 0) (ρ := [some s, some (.box 0), none, none, none, none, none, none, none, none, none, none]) (fun i ρ => ∃ o3 o4 o5, ρ = [some s, some (.box 0), none, o3, o4, o5, none, none, none, none, none, none]) ⟨none, none, none, rfl⟩ (fun j x ρ hx hρ => by
    obtain ⟨o3, o4, o5, rfl⟩ := hρ
    rw [List.getElem?_map] at hx
    obtain ⟨u, hu, rfl⟩ := Option.map_eq_some_iff.mp hx
    have hu2 := w u (List.mem_of_getElem? hu)
    obtain ⟨n, rfl⟩ := Int.eq_ofNat_of_zero_le hu2.1
    obtain ⟨p4, p5, e⟩ := L1_ok (k := 36) (n := n) (by omega) B s o4 o5
    exact ⟨_, e, some (.int (n : Int)), p4, p5, rfl⟩)
  exact ⟨o3, o4, o5, e⟩
theorem loop2 (B s : T) (o3 o4 o5 : Option T) (vs : List Int) (w : ∀ u ∈ vs, 0 ≤ u ∧ u < 201) : ∃ p3 p4 p5 p6 p7 p8, forLoop (fun x ρ μ => match bindTg (.nm 3) x ρ with | some ρ' => evIs (Fn 39) 100000 L2s ρ' μ | none => .stuck) (vs.map .int) [some s, some (.box 0), none, o3, o4, o5, none, none, none, none, none, none] [B] = .ok (.nx, [some s, some (.box 0), none, p3, p4, p5, p6, p7, p8, none, none, none]) [B] := by
  obtain ⟨ρ', e, p3, p4, p5, p6, p7, p8, rfl⟩ := forLoop_ok (f := fun x ρ μ => match bindTg (.nm 3) x ρ with | some ρ' => evIs (Fn 39) 100000 L2s ρ' μ | none => .stuck) (μ := [B]) (xs := vs.map T.int) (i := 0) (ρ := [some s, some (.box 0), none, o3, o4, o5, none, none, none, none, none, none]) (fun i ρ => ∃ o3 o4 o5 o6 o7 o8, ρ = [some s, some (.box 0), none, o3, o4, o5, o6, o7, o8, none, none, none]) ⟨_, _, _, _, _, _, rfl⟩ (fun j x ρ hx hρ => by
    obtain ⟨o3, o4, o5, o6, o7, o8, rfl⟩ := hρ
    rw [List.getElem?_map] at hx
    obtain ⟨u, hu, rfl⟩ := Option.map_eq_some_iff.mp hx
    have hu2 := w u (List.mem_of_getElem? hu)
    obtain ⟨n, rfl⟩ := Int.eq_ofNat_of_zero_le hu2.1
    obtain ⟨p4, p5, p6, p7, p8, e⟩ := L2_ok (k := 36) (n := n) (by omega) B s none o4 o5 o6 o7 o8
    exact ⟨_, e, some (.int (n : Int)), p4, p5, p6, p7, p8, rfl⟩)
  exact ⟨p3, p4, p5, p6, p7, p8, e⟩
theorem plain : ∀ ns : List Int, ns.length ≤ 63 → ∃ μ, callF Δ 100000 40 17 [.scr ns] [] = .ok (.bl true) μ := fun ns hns => by
  have l1 := line_eq1
  have fe : callF Δ 100000 40 17 [.scr ns] [] = runD (Fn 39) 100000 d_law [.scr ns] [] := fnEq 39 17 _ _ rfl
  rw [fe]
  let s : T := .scr ns
  have hs0 : IsStream (sB ns 0 0 19) 0 := ⟨ns, 0, 19, rfl, hns, by decide, by decide, by decide⟩
  have s1 : evI1 (Fn 39) 100000 (.asg 1 (.call 10 [(.var 0)] []) []) [some s, none, none, none, none, none, none, none, none, none, none, none] [] = .ok (.nx, [some s, some (sB ns 0 0 19), none, none, none, none, none, none, none, none, none, none]) [] := sAsg (eCall1 (eVar rfl) (stream_ok 38 ns))
  have s2 : evI1 (Fn 39) 100000 (.mkbox 1) [some s, some (sB ns 0 0 19), none, none, none, none, none, none, none, none, none, none] [] = .ok (.nx, [some s, some (.box 0), none, none, none, none, none, none, none, none, none, none]) [sB ns 0 0 19] := by
    rw [evI1]
    show (if (boxless (sB ns 0 0 19) && true) = true then Res.ok (Fl.nx, [some s, some (.box 0), none, none, none, none, none, none, none, none, none, none]) [sB ns 0 0 19] else .stuck) = _
    rw [sB_boxless] <;> rfl
  obtain ⟨vs, B1, e3, q3, w3, h3⟩ := draws_go (f := fun x μ => match bindTg (.nm 9) x (forget [some s, some (.box 0), none, none, none, none, none, none, none, none, none, none] (Tg.slots (.nm 9))) with
      | some ρ' => (evC (Fn 39) ρ' none μ).bind fun b μ => (match b with | true => (evE (Fn 39) ρ' (.call 11 [(.imm (.var 1)), (.cst (.int 61))] []) μ).bind fun y μ => .ok (some y) μ | false => .ok none μ)
      | none => .stuck) (m := 61) (fun x B c h hc => by
    obtain ⟨v, B', e, a, b, hs⟩ := draw_in (k := 38) (ρ := [some s, some (.box 0), none, none, none, none, none, none, none, some x, none, none]) (m := 61) h hc (by decide) (by decide) rfl
    refine ⟨v, B', ?_, a, b, hs⟩
    show Res.bind (.ok true [B]) _ = _
    rw [Res.bind_ok]
    show Res.bind (evE (Fn 39) [some s, some (.box 0), none, none, none, none, none, none, none, some x, none, none] (.call 11 [(.imm (.var 1)), (.cst (.int 61))] []) [B]) _ = _
    rw [e] <;> rfl) (rngL 0 1 4) 0 0 _ hs0 (by decide) (by decide)
  have s3 : evI1 (Fn 39) 100000 (.asg 2 (.lc (.call 11 [(.imm (.var 1)), (.cst (.int 61))] []) (.nm 9) (.rng1 (.cst (.int 4))) none) []) [some s, some (.box 0), none, none, none, none, none, none, none, none, none, none] [sB ns 0 0 19] = .ok (.nx, [some s, some (.box 0), some (.lst (vs.map .int)), none, none, none, none, none, none, none, none, none]) [B1] := by
    refine sAsg ?_
    have hi : evI (Fn 39) [some s, some (.box 0), none, none, none, none, none, none, none, none, none, none] (.rng1 (.cst (.int 4))) [sB ns 0 0 19] = .ok (rngL 0 1 4) [sB ns 0 0 19] := rfl
    rw [evE, hi, Res.bind_ok]
    exact (congrArg (fun r => Res.bind (noExc r) fun r μ => Res.ok (T.lst r) μ) e3).trans rfl
  let ps : List Int := [0, 1, 3, 4, 6, 9, 10, 16, 21, 36, 45, 55]
  obtain ⟨v, B2, e4, m4, h4⟩ := pick_ok (xs := ps) 37 h3 (by rw [rngL_len]; decide) (by decide) (by decide)
  have hv : 0 ≤ v ∧ v < 61 := by
    have : ∀ u ∈ ps, 0 ≤ u ∧ u < 61 := by decide
    exact this v m4
  have s4 : evI1 (Fn 39) 100000 (.app 2 (.imm (.call 12 [(.imm (.var 1)), (.lst [(false, (.cst (.int 0))), (false, (.cst (.int 1))), (false, (.cst (.int 3))), (false, (.cst (.int 4))), (false, (.cst (.int 6))), (false, (.cst (.int 9))), (false, (.cst (.int 10))), (false, (.cst (.int 16))), (false, (.cst (.int 21))), (false, (.cst (.int 36))), (false, (.cst (.int 45))), (false, (.cst (.int 55)))])] [])) []) [some s, some (.box 0), some (.lst (vs.map .int)), none, none, none, none, none, none, none, none, none] [B1] = .ok (.nx, [some s, some (.box 0), some (.lst ((vs ++ [v]).map .int)), none, none, none, none, none, none, none, none, none]) [B2] := by
    have hb : evE (Fn 39) [some s, some (.box 0), some (.lst (vs.map .int)), none, none, none, none, none, none, none, none, none] (.imm (.var 1)) [B1] = .ok (.box 0) [B1] := rfl
    have e : evE (Fn 39) [some s, some (.box 0), some (.lst (vs.map .int)), none, none, none, none, none, none, none, none, none] (.imm (.call 12 [(.imm (.var 1)), (.lst [(false, (.cst (.int 0))), (false, (.cst (.int 1))), (false, (.cst (.int 3))), (false, (.cst (.int 4))), (false, (.cst (.int 6))), (false, (.cst (.int 9))), (false, (.cst (.int 10))), (false, (.cst (.int 16))), (false, (.cst (.int 21))), (false, (.cst (.int 36))), (false, (.cst (.int 45))), (false, (.cst (.int 55)))])] [])) [B1] = .ok (.int v) [B2] := eImm (eCall2 hb (u := .lst (ps.map .int)) rfl e4)
    rw [evI1]
    show Res.bind (.ok (vs.map T.int) [B1]) _ = _
    rw [Res.bind_ok]
    show Res.bind (evE (Fn 39) [some s, some (.box 0), some (.lst (vs.map .int)), none, none, none, none, none, none, none, none, none] _ [B1]) _ = _
    rw [e, Res.bind_ok]
    have hb : Nat.blt (vs.map T.int).length line = true := Nat.ble_eq_true_of_le (by rw [List.length_map, q3, rngL_len]; omega)
    rw [hb, if_pos rfl, List.map_append] <;> rfl
  have w4 : ∀ u ∈ vs ++ [v], 0 ≤ u ∧ u < 61 := fun u hu => by
    rcases List.mem_append.mp hu with hu | hu
    · exact w3 u hu
    · rw [List.mem_singleton.mp hu]; exact hv
  obtain ⟨o3, o4, o5, e5⟩ := loop1 B2 s (vs ++ [v]) w4
  have s5 : evI1 (Fn 39) 100000 (.for (.nm 3) (.seq (.var 2)) L1 [2]) [some s, some (.box 0), some (.lst ((vs ++ [v]).map .int)), none, none, none, none, none, none, none, none, none] [B2] = .ok (.nx, [some s, some (.box 0), none, o3, o4, o5, none, none, none, none, none, none]) [B2] := sForK rfl e5
  obtain ⟨us, B3, e6, q6, w6, h6⟩ := draws_go (f := fun x μ => match bindTg (.nm 9) x (forget [some s, some (.box 0), none, o3, o4, o5, none, none, none, none, none, none] (Tg.slots (.nm 9))) with
      | some ρ' => (evC (Fn 39) ρ' none μ).bind fun b μ => (match b with | true => (evE (Fn 39) ρ' (.call 11 [(.imm (.var 1)), (.cst (.int 201))] []) μ).bind fun y μ => .ok (some y) μ | false => .ok none μ)
      | none => .stuck) (m := 201) (fun x B c h hc => by
    obtain ⟨v, B', e, a, b, hs⟩ := draw_in (k := 38) (ρ := [some s, some (.box 0), none, o3, o4, o5, none, none, none, some x, none, none]) (m := 201) h hc (by decide) (by decide) rfl
    refine ⟨v, B', ?_, a, b, hs⟩
    show Res.bind (.ok true [B]) _ = _
    rw [Res.bind_ok]
    show Res.bind (evE (Fn 39) [some s, some (.box 0), none, o3, o4, o5, none, none, none, some x, none, none] (.call 11 [(.imm (.var 1)), (.cst (.int 201))] []) [B]) _ = _
    rw [e] <;> rfl) (rngL 0 1 5) 0 _ _ h4 (by rw [rngL_len, rngL_len]; decide) (by decide)
  obtain ⟨u0, B4, e7, a7, b7, h7⟩ := draw_in (k := 38) (ρ := [some s, some (.box 0), none, o3, o4, o5, none, none, none, none, none, none]) (m := 4) h6 (by rw [rngL_len, rngL_len]; decide) (by decide) (by decide) rfl
  have i6 : evI (Fn 39) [some s, some (.box 0), none, o3, o4, o5, none, none, none, none, none, none] (.seq (.bin .add (.lc (.call 11 [(.imm (.var 1)), (.cst (.int 201))] []) (.nm 9) (.rng1 (.cst (.int 5))) none) (.lst [(false, (.call 11 [(.imm (.var 1)), (.cst (.int 4))] []))]))) [B2] = .ok ((us ++ [u0]).map .int) [B4] := by
    have hl : evE (Fn 39) [some s, some (.box 0), none, o3, o4, o5, none, none, none, none, none, none] (.lc (.call 11 [(.imm (.var 1)), (.cst (.int 201))] []) (.nm 9) (.rng1 (.cst (.int 5))) none) [B2] = .ok (.lst (us.map .int)) [B3] := by
      have hi : evI (Fn 39) [some s, some (.box 0), none, o3, o4, o5, none, none, none, none, none, none] (.rng1 (.cst (.int 5))) [B2] = .ok (rngL 0 1 5) [B2] := rfl
      rw [evE, hi, Res.bind_ok]
      exact (congrArg (fun r => Res.bind (noExc r) fun r μ => Res.ok (T.lst r) μ) e6).trans rfl
    have hr : evE (Fn 39) [some s, some (.box 0), none, o3, o4, o5, none, none, none, none, none, none] (.lst [(false, (.call 11 [(.imm (.var 1)), (.cst (.int 4))] []))]) [B3] = .ok (.lst ([u0].map .int)) [B4] := by
      rw [evE, evS, e7, Res.bind_ok]
      rfl
    have hb : Nat.ble ((us.map T.int).length + ([u0].map T.int).length) line = true := Nat.ble_eq_true_of_le (by rw [List.length_map, List.length_map, q6, rngL_len, List.length_singleton]; omega)
    have ha : pBin .add (.lst (us.map .int)) (.lst ([u0].map .int)) = some (.lst ((us ++ [u0]).map .int)) := by
      simp only [pBin, pAdd]
      rw [if_pos hb, ← List.map_append]
    rw [evI, evE, hl, Res.bind_ok, hr, Res.bind_ok]
    show Res.bind (opt (pBin .add (.lst (us.map .int)) (.lst ([u0].map .int))) [B4]) _ = _
    rw [ha] <;> rfl
  have w7 : ∀ u ∈ us ++ [u0], 0 ≤ u ∧ u < 201 := fun u hu => by
    rcases List.mem_append.mp hu with hu | hu
    · exact w6 u hu
    · rw [List.mem_singleton.mp hu]; omega
  obtain ⟨p3, p4, p5, p6, p7, p8, e8⟩ := loop2 B4 s o3 o4 o5 (us ++ [u0]) w7
  have s6 := sFor (F := Fn 39) (W := 100000) (tg := .nm 3) (b := L2s) i6 e8
  have body : evIs (Fn 39) 100000 d_law.body [some s, none, none, none, none, none, none, none, none, none, none, none] [] = .ok (.rt (.bl true), [some s, some (.box 0), none, p3, p4, p5, p6, p7, p8, none, none, none]) [B4] :=
    ssCons s1 (ssCons s2 (ssCons s3 (ssCons s4 (ssCons s5 (ssCons s6 (ssRet (sRet rfl)))))))
  refine ⟨[], ?_⟩
  unfold runD
  show (match evIs (Fn 39) 100000 d_law.body [some s, none, none, none, none, none, none, none, none, none, none, none] [] with
    | .ok (.nx, _) μ' => outD d_law.rk 0 .non μ'
    | .ok (.rt t, _) μ' => outD d_law.rk 0 t μ'
    | .ok (.bk, _) _ => .stuck
    | .exc c t μ' => if Nat.ble μ'.length 0 then .exc c t μ' else if boxBelow 0 t then .exc c t (μ'.take 0) else .stuck
    | .stuck => .stuck) = _
  rw [body] <;> rfl
end Q

namespace Q
open PySem MP
end Q
namespace Q
open PySem PySem.Spec PyProof.Rows L2 MP
theorem bd_0_1_ : ∀ (kV doc pm : Value) (an : Option Addr) (cdv ct : Value) (us ws : List Value), us.length = 1 → ws.length = 0 → bindArgs (PySem.W.fnOf "is_whole" "is_whole" (defArgs (top 1)) (defBody (top 1)) (defScope (top 1)) .none kV doc pm an cdv ct) ⟨us, (kwN (["thing"] : List Str) []).zip ws⟩ = pure ((["thing"] : List Str).zip (us ++ kwP 1 [] ws)) :=
  fun _ _ _ _ _ _ us ws h1 h2 => match us, ws, h1, h2 with | [a0], [], _, _ => rfl
theorem bd_1_1_ : ∀ (kV doc pm : Value) (an : Option Addr) (cdv ct : Value) (us ws : List Value), us.length = 1 → ws.length = 0 → bindArgs (PySem.W.fnOf "check_number" "check_number" (defArgs (top 6)) (defBody (top 6)) (defScope (top 6)) .none kV doc pm an cdv ct) ⟨us, (kwN (["number"] : List Str) []).zip ws⟩ = pure ((["number"] : List Str).zip (us ++ kwP 1 [] ws)) :=
  fun _ _ _ _ _ _ us ws h1 h2 => match us, ws, h1, h2 with | [a0], [], _, _ => rfl
theorem bd_2_2_ : ∀ (kV doc pm : Value) (an : Option Addr) (cdv ct : Value) (us ws : List Value), us.length = 2 → ws.length = 0 → bindArgs (PySem.W.fnOf "with_unlike" "with_unlike" (defArgs (top 8)) (defBody (top 8)) (defScope (top 8)) .none kV doc pm an cdv ct) ⟨us, (kwN (["counts", "part"] : List Str) []).zip ws⟩ = pure ((["counts", "part"] : List Str).zip (us ++ kwP 2 [] ws)) :=
  fun _ _ _ _ _ _ us ws h1 h2 => match us, ws, h1, h2 with | [a0, a1], [], _, _ => rfl
theorem bd_3_3_ : ∀ (kV doc pm : Value) (an : Option Addr) (cdv ct : Value) (us ws : List Value), us.length = 3 → ws.length = 0 → bindArgs (PySem.W.fnOf "with_often" "with_often" (defArgs (top 9)) (defBody (top 9)) (defScope (top 9)) .none kV doc pm an cdv ct) ⟨us, (kwN (["counts", "part", "sign"] : List Str) []).zip ws⟩ = pure ((["counts", "part", "sign"] : List Str).zip (us ++ kwP 3 [] ws)) :=
  fun _ _ _ _ _ _ us ws h1 h2 => match us, ws, h1, h2 with | [a0, a1, a2], [], _, _ => rfl
theorem bd_4_0_0 : ∀ (kV doc pm : Value) (an : Option Addr) (cdv ct : Value) (us ws : List Value), us.length = 0 → ws.length = 1 → bindArgs (PySem.W.fnOf "cube_count" "cube_count" (defArgs (top 10)) (defBody (top 10)) (defScope (top 10)) .none kV doc pm an cdv ct) ⟨us, (kwN (["number"] : List Str) [0]).zip ws⟩ = pure ((["number"] : List Str).zip (us ++ kwP 0 [0] ws)) :=
  fun _ _ _ _ _ _ us ws h1 h2 => match us, ws, h1, h2 with | [], [b0], _, _ => rfl
theorem bd_4_1_ : ∀ (kV doc pm : Value) (an : Option Addr) (cdv ct : Value) (us ws : List Value), us.length = 1 → ws.length = 0 → bindArgs (PySem.W.fnOf "cube_count" "cube_count" (defArgs (top 10)) (defBody (top 10)) (defScope (top 10)) .none kV doc pm an cdv ct) ⟨us, (kwN (["number"] : List Str) []).zip ws⟩ = pure ((["number"] : List Str).zip (us ++ kwP 1 [] ws)) :=
  fun _ _ _ _ _ _ us ws h1 h2 => match us, ws, h1, h2 with | [a0], [], _, _ => rfl
theorem bd_5_0_0 : ∀ (kV doc pm : Value) (an : Option Addr) (cdv ct : Value) (us ws : List Value), us.length = 0 → ws.length = 1 → bindArgs (PySem.W.fnOf "signed_count" "signed_count" (defArgs (top 11)) (defBody (top 11)) (defScope (top 11)) .none kV doc pm an cdv ct) ⟨us, (kwN (["number"] : List Str) [0]).zip ws⟩ = pure ((["number"] : List Str).zip (us ++ kwP 0 [0] ws)) :=
  fun _ _ _ _ _ _ us ws h1 h2 => match us, ws, h1, h2 with | [], [b0], _, _ => rfl
theorem bd_5_1_ : ∀ (kV doc pm : Value) (an : Option Addr) (cdv ct : Value) (us ws : List Value), us.length = 1 → ws.length = 0 → bindArgs (PySem.W.fnOf "signed_count" "signed_count" (defArgs (top 11)) (defBody (top 11)) (defScope (top 11)) .none kV doc pm an cdv ct) ⟨us, (kwN (["number"] : List Str) []).zip ws⟩ = pure ((["number"] : List Str).zip (us ++ kwP 1 [] ws)) :=
  fun _ _ _ _ _ _ us ws h1 h2 => match us, ws, h1, h2 with | [a0], [], _, _ => rfl
theorem bd_6_0_0 : ∀ (kV doc pm : Value) (an : Option Addr) (cdv ct : Value) (us ws : List Value), us.length = 0 → ws.length = 1 → bindArgs (PySem.W.fnOf "half_count" "half_count" (defArgs (top 12)) (defBody (top 12)) (defScope (top 12)) .none kV doc pm an cdv ct) ⟨us, (kwN (["number"] : List Str) [0]).zip ws⟩ = pure ((["number"] : List Str).zip (us ++ kwP 0 [0] ws)) :=
  fun _ _ _ _ _ _ us ws h1 h2 => match us, ws, h1, h2 with | [], [b0], _, _ => rfl
theorem bd_6_1_ : ∀ (kV doc pm : Value) (an : Option Addr) (cdv ct : Value) (us ws : List Value), us.length = 1 → ws.length = 0 → bindArgs (PySem.W.fnOf "half_count" "half_count" (defArgs (top 12)) (defBody (top 12)) (defScope (top 12)) .none kV doc pm an cdv ct) ⟨us, (kwN (["number"] : List Str) []).zip ws⟩ = pure ((["number"] : List Str).zip (us ++ kwP 1 [] ws)) :=
  fun _ _ _ _ _ _ us ws h1 h2 => match us, ws, h1, h2 with | [a0], [], _, _ => rfl
theorem bd_7_2_ : ∀ (kV doc pm : Value) (an : Option Addr) (cdv ct : Value) (us ws : List Value), us.length = 2 → ws.length = 0 → bindArgs (PySem.W.fnOf "ways_of_squares" "ways_of_squares" (defArgs (top 13)) (defBody (top 13)) (defScope (top 13)) .none kV doc pm an cdv ct) ⟨us, (kwN (["number", "many"] : List Str) []).zip ws⟩ = pure ((["number", "many"] : List Str).zip (us ++ kwP 2 [] ws)) :=
  fun _ _ _ _ _ _ us ws h1 h2 => match us, ws, h1, h2 with | [a0, a1], [], _, _ => rfl
theorem bd_8_0_0 : ∀ (kV doc pm : Value) (an : Option Addr) (cdv ct : Value) (us ws : List Value), us.length = 0 → ws.length = 1 → bindArgs (PySem.W.fnOf "two_squares" "two_squares" (defArgs (top 14)) (defBody (top 14)) (defScope (top 14)) .none kV doc pm an cdv ct) ⟨us, (kwN (["number"] : List Str) [0]).zip ws⟩ = pure ((["number"] : List Str).zip (us ++ kwP 0 [0] ws)) :=
  fun _ _ _ _ _ _ us ws h1 h2 => match us, ws, h1, h2 with | [], [b0], _, _ => rfl
theorem bd_8_1_ : ∀ (kV doc pm : Value) (an : Option Addr) (cdv ct : Value) (us ws : List Value), us.length = 1 → ws.length = 0 → bindArgs (PySem.W.fnOf "two_squares" "two_squares" (defArgs (top 14)) (defBody (top 14)) (defScope (top 14)) .none kV doc pm an cdv ct) ⟨us, (kwN (["number"] : List Str) []).zip ws⟩ = pure ((["number"] : List Str).zip (us ++ kwP 1 [] ws)) :=
  fun _ _ _ _ _ _ us ws h1 h2 => match us, ws, h1, h2 with | [a0], [], _, _ => rfl
theorem bd_9_0_0 : ∀ (kV doc pm : Value) (an : Option Addr) (cdv ct : Value) (us ws : List Value), us.length = 0 → ws.length = 1 → bindArgs (PySem.W.fnOf "four_squares" "four_squares" (defArgs (top 15)) (defBody (top 15)) (defScope (top 15)) .none kV doc pm an cdv ct) ⟨us, (kwN (["number"] : List Str) [0]).zip ws⟩ = pure ((["number"] : List Str).zip (us ++ kwP 0 [0] ws)) :=
  fun _ _ _ _ _ _ us ws h1 h2 => match us, ws, h1, h2 with | [], [b0], _, _ => rfl
theorem bd_9_1_ : ∀ (kV doc pm : Value) (an : Option Addr) (cdv ct : Value) (us ws : List Value), us.length = 1 → ws.length = 0 → bindArgs (PySem.W.fnOf "four_squares" "four_squares" (defArgs (top 15)) (defBody (top 15)) (defScope (top 15)) .none kV doc pm an cdv ct) ⟨us, (kwN (["number"] : List Str) []).zip ws⟩ = pure ((["number"] : List Str).zip (us ++ kwP 1 [] ws)) :=
  fun _ _ _ _ _ _ us ws h1 h2 => match us, ws, h1, h2 with | [a0], [], _, _ => rfl
theorem bd_10_1_ : ∀ (kV doc pm : Value) (an : Option Addr) (cdv ct : Value) (us ws : List Value), us.length = 1 → ws.length = 0 → bindArgs (PySem.W.fnOf "_law_stream" "_law_stream" (defArgs (top 17)) (defBody (top 17)) (defScope (top 17)) .none kV doc pm an cdv ct) ⟨us, (kwN (["script"] : List Str) []).zip ws⟩ = pure ((["script"] : List Str).zip (us ++ kwP 1 [] ws)) :=
  fun _ _ _ _ _ _ us ws h1 h2 => match us, ws, h1, h2 with | [a0], [], _, _ => rfl
theorem bd_11_2_ : ∀ (kV doc pm : Value) (an : Option Addr) (cdv ct : Value) (us ws : List Value), us.length = 2 → ws.length = 0 → bindArgs (PySem.W.fnOf "_law_draw" "_law_draw" (defArgs (top 18)) (defBody (top 18)) (defScope (top 18)) .none kV doc pm an cdv ct) ⟨us, (kwN (["stream", "many"] : List Str) []).zip ws⟩ = pure ((["stream", "many"] : List Str).zip (us ++ kwP 2 [] ws)) :=
  fun _ _ _ _ _ _ us ws h1 h2 => match us, ws, h1, h2 with | [a0, a1], [], _, _ => rfl
theorem bd_12_2_ : ∀ (kV doc pm : Value) (an : Option Addr) (cdv ct : Value) (us ws : List Value), us.length = 2 → ws.length = 0 → bindArgs (PySem.W.fnOf "_law_pick" "_law_pick" (defArgs (top 19)) (defBody (top 19)) (defScope (top 19)) .none kV doc pm an cdv ct) ⟨us, (kwN (["stream", "things"] : List Str) []).zip ws⟩ = pure ((["stream", "things"] : List Str).zip (us ++ kwP 2 [] ws)) :=
  fun _ _ _ _ _ _ us ws h1 h2 => match us, ws, h1, h2 with | [a0, a1], [], _, _ => rfl
theorem bd_13_2_ : ∀ (kV doc pm : Value) (an : Option Addr) (cdv ct : Value) (us ws : List Value), us.length = 2 → ws.length = 0 → bindArgs (PySem.W.fnOf "_law_same" "_law_same" (defArgs (top 20)) (defBody (top 20)) (defScope (top 20)) .none kV doc pm an cdv ct) ⟨us, (kwN (["found", "due"] : List Str) []).zip ws⟩ = pure ((["found", "due"] : List Str).zip (us ++ kwP 2 [] ws)) :=
  fun _ _ _ _ _ _ us ws h1 h2 => match us, ws, h1, h2 with | [a0, a1], [], _, _ => rfl
theorem bd_14_2_ : ∀ (kV doc pm : Value) (an : Option Addr) (cdv ct : Value) (us ws : List Value), us.length = 2 → ws.length = 0 → bindArgs (PySem.W.fnOf "_law_counts_of" "_law_counts_of" (defArgs (top 21)) (defBody (top 21)) (defScope (top 21)) .none kV doc pm an cdv ct) ⟨us, (kwN (["number", "sort"] : List Str) []).zip ws⟩ = pure ((["number", "sort"] : List Str).zip (us ++ kwP 2 [] ws)) :=
  fun _ _ _ _ _ _ us ws h1 h2 => match us, ws, h1, h2 with | [a0, a1], [], _, _ => rfl
theorem bd_15_1_ : ∀ (kV doc pm : Value) (an : Option Addr) (cdv ct : Value) (us ws : List Value), us.length = 1 → ws.length = 0 → bindArgs (PySem.W.fnOf "_law_by_rule" "_law_by_rule" (defArgs (top 22)) (defBody (top 22)) (defScope (top 22)) .none kV doc pm an cdv ct) ⟨us, (kwN (["number"] : List Str) []).zip ws⟩ = pure ((["number"] : List Str).zip (us ++ kwP 1 [] ws)) :=
  fun _ _ _ _ _ _ us ws h1 h2 => match us, ws, h1, h2 with | [a0], [], _, _ => rfl
theorem bd_16_1_ : ∀ (kV doc pm : Value) (an : Option Addr) (cdv ct : Value) (us ws : List Value), us.length = 1 → ws.length = 0 → bindArgs (PySem.W.fnOf "_law_ways" "_law_ways" (defArgs (top 23)) (defBody (top 23)) (defScope (top 23)) .none kV doc pm an cdv ct) ⟨us, (kwN (["number"] : List Str) []).zip ws⟩ = pure ((["number"] : List Str).zip (us ++ kwP 1 [] ws)) :=
  fun _ _ _ _ _ _ us ws h1 h2 => match us, ws, h1, h2 with | [a0], [], _, _ => rfl
theorem bd_17_1_ : ∀ (kV doc pm : Value) (an : Option Addr) (cdv ct : Value) (us ws : List Value), us.length = 1 → ws.length = 0 → bindArgs (PySem.W.fnOf "law" "law" (defArgs (top 24)) (defBody (top 24)) (defScope (top 24)) .none kV doc pm an cdv ct) ⟨us, (kwN (["script"] : List Str) []).zip ws⟩ = pure ((["script"] : List Str).zip (us ++ kwP 1 [] ws)) :=
  fun _ _ _ _ _ _ us ws h1 h2 => match us, ws, h1, h2 with | [a0], [], _, _ => rfl
theorem bd1 : Binds1 fis dfs := fun f fi D hf hD n is hs => by
  match f, hf, hD with
  | 0, hf, hD =>
    cases hf; cases hD
    have hs : (n, is) ∈ [(1, [])] := hs
    simp only [List.mem_cons, List.not_mem_nil, or_false, Prod.mk.injEq] at hs
    obtain ⟨rfl, rfl⟩ := hs
    exact bd_0_1_
  | 1, hf, hD =>
    cases hf; cases hD
    have hs : (n, is) ∈ [(1, [])] := hs
    simp only [List.mem_cons, List.not_mem_nil, or_false, Prod.mk.injEq] at hs
    obtain ⟨rfl, rfl⟩ := hs
    exact bd_1_1_
  | 2, hf, hD =>
    cases hf; cases hD
    have hs : (n, is) ∈ [(2, [])] := hs
    simp only [List.mem_cons, List.not_mem_nil, or_false, Prod.mk.injEq] at hs
    obtain ⟨rfl, rfl⟩ := hs
    exact bd_2_2_
  | 3, hf, hD =>
    cases hf; cases hD
    have hs : (n, is) ∈ [(3, [])] := hs
    simp only [List.mem_cons, List.not_mem_nil, or_false, Prod.mk.injEq] at hs
    obtain ⟨rfl, rfl⟩ := hs
    exact bd_3_3_
  | 4, hf, hD =>
    cases hf; cases hD
    have hs : (n, is) ∈ [(0, [0]), (1, [])] := hs
    simp only [List.mem_cons, List.not_mem_nil, or_false, Prod.mk.injEq] at hs
    rcases hs with ⟨rfl, rfl⟩ | ⟨rfl, rfl⟩
    · exact bd_4_0_0
    · exact bd_4_1_
  | 5, hf, hD =>
    cases hf; cases hD
    have hs : (n, is) ∈ [(0, [0]), (1, [])] := hs
    simp only [List.mem_cons, List.not_mem_nil, or_false, Prod.mk.injEq] at hs
    rcases hs with ⟨rfl, rfl⟩ | ⟨rfl, rfl⟩
    · exact bd_5_0_0
    · exact bd_5_1_
  | 6, hf, hD =>
    cases hf; cases hD
    have hs : (n, is) ∈ [(0, [0]), (1, [])] := hs
    simp only [List.mem_cons, List.not_mem_nil, or_false, Prod.mk.injEq] at hs
    rcases hs with ⟨rfl, rfl⟩ | ⟨rfl, rfl⟩
    · exact bd_6_0_0
    · exact bd_6_1_
  | 7, hf, hD =>
    cases hf; cases hD
    have hs : (n, is) ∈ [(2, [])] := hs
    simp only [List.mem_cons, List.not_mem_nil, or_false, Prod.mk.injEq] at hs
    obtain ⟨rfl, rfl⟩ := hs
    exact bd_7_2_
  | 8, hf, hD =>
    cases hf; cases hD
    have hs : (n, is) ∈ [(0, [0]), (1, [])] := hs
    simp only [List.mem_cons, List.not_mem_nil, or_false, Prod.mk.injEq] at hs
    rcases hs with ⟨rfl, rfl⟩ | ⟨rfl, rfl⟩
    · exact bd_8_0_0
    · exact bd_8_1_
  | 9, hf, hD =>
    cases hf; cases hD
    have hs : (n, is) ∈ [(0, [0]), (1, [])] := hs
    simp only [List.mem_cons, List.not_mem_nil, or_false, Prod.mk.injEq] at hs
    rcases hs with ⟨rfl, rfl⟩ | ⟨rfl, rfl⟩
    · exact bd_9_0_0
    · exact bd_9_1_
  | 10, hf, hD =>
    cases hf; cases hD
    have hs : (n, is) ∈ [(1, [])] := hs
    simp only [List.mem_cons, List.not_mem_nil, or_false, Prod.mk.injEq] at hs
    obtain ⟨rfl, rfl⟩ := hs
    exact bd_10_1_
  | 11, hf, hD =>
    cases hf; cases hD
    have hs : (n, is) ∈ [(2, [])] := hs
    simp only [List.mem_cons, List.not_mem_nil, or_false, Prod.mk.injEq] at hs
    obtain ⟨rfl, rfl⟩ := hs
    exact bd_11_2_
  | 12, hf, hD =>
    cases hf; cases hD
    have hs : (n, is) ∈ [(2, [])] := hs
    simp only [List.mem_cons, List.not_mem_nil, or_false, Prod.mk.injEq] at hs
    obtain ⟨rfl, rfl⟩ := hs
    exact bd_12_2_
  | 13, hf, hD =>
    cases hf; cases hD
    have hs : (n, is) ∈ [(2, [])] := hs
    simp only [List.mem_cons, List.not_mem_nil, or_false, Prod.mk.injEq] at hs
    obtain ⟨rfl, rfl⟩ := hs
    exact bd_13_2_
  | 14, hf, hD =>
    cases hf; cases hD
    have hs : (n, is) ∈ [(2, [])] := hs
    simp only [List.mem_cons, List.not_mem_nil, or_false, Prod.mk.injEq] at hs
    obtain ⟨rfl, rfl⟩ := hs
    exact bd_14_2_
  | 15, hf, hD =>
    cases hf; cases hD
    have hs : (n, is) ∈ [(1, [])] := hs
    simp only [List.mem_cons, List.not_mem_nil, or_false, Prod.mk.injEq] at hs
    obtain ⟨rfl, rfl⟩ := hs
    exact bd_15_1_
  | 16, hf, hD =>
    cases hf; cases hD
    have hs : (n, is) ∈ [(1, [])] := hs
    simp only [List.mem_cons, List.not_mem_nil, or_false, Prod.mk.injEq] at hs
    obtain ⟨rfl, rfl⟩ := hs
    exact bd_16_1_
  | 17, hf, hD =>
    cases hf; cases hD
    have hs : (n, is) ∈ [(1, [])] := hs
    simp only [List.mem_cons, List.not_mem_nil, or_false, Prod.mk.injEq] at hs
    obtain ⟨rfl, rfl⟩ := hs
    exact bd_17_1_
  | f + 18, hf, hD => cases hf
theorem ok1 : okAll fis blt dfs = true := by kernel_rfl
theorem dΔ : dfs.map (·.d) = Δ := rfl
abbrev R : PySem.W.OpenRow := PySem.W.OpenLaw.row PySem.Challenge.rw_fallrows_k90_whole_main_signed_counts_an
abbrev fnD : List He.DefD := defsD fis dfs
abbrev faD : List He.Fa := factsD fis blt
abbrev hkD : PySem.W.Hook := He.hookD 4 faD fnD
def obD (s : PySem.W.SharedT) : He.AlD := He.obsDG 4 faD fnD (HandSHeadRun.getT s)
theorem obD_eq (s : PySem.W.SharedT) : obD s = hkD.obs s.abs := He.obsDG_eq (HandSHeadRun.getT_eq s)
def lo0 : List Str := ["is_whole", "RowError", "BadNumber", "check_number", "with_unlike", "with_often", "cube_count", "signed_count"]
def lo1 : List Str := ["half_count", "ways_of_squares", "two_squares", "four_squares", "_law_stream", "_law_draw", "_law_pick", "_law_same"]
def lo2 : List Str := ["_law_counts_of", "_law_by_rule", "_law_ways"]
def looseD : List Str := lo0 ++ lo1 ++ lo2
theorem runD (w : World) : HandSHeadRun.RunEq R (PySem.W.view R.prog [24]) hkD obD 20000 looseD w := by
  intro os
  kernel_rfl
end Q
open PySem PySem.W PySem.Calls PyProof.Rows
theorem holds_fallrows_k90_whole_main_signed_counts_an : PySem.Challenge.rw_fallrows_k90_whole_main_signed_counts_an.Holds := by
  w_on; o_law
  refine HandSHeadRun.head_any (r := Q.R) (q := view Q.R.prog [24]) (H := Q.hkD)
    (ob := Q.obD) (M := 20000) (loose := Q.looseD) (d := HandSHeadRun.topDef Q.R.prog 24) (kwd := []) Q.obD_eq
    (by kernel_rfl) (fun s => by kernel_rfl) Q.runD (by kernel_rfl) (by kernel_rfl) (by kernel_rfl) (by rfl)
    (by first | assumption | decide +kernel) (by decide +kernel) ⟨rfl, rfl, rfl, rfl, rfl, by decide +kernel⟩ ?hw ?hc
  case hw => w_witness2
  case hc =>
    refine MP.walk1 (l := PySem.Challenge.rw_fallrows_k90_whole_main_signed_counts_an) (n := 63) (k := 40) (x := "script") rfl (by decide) (by kernel_rfl) ⟨rfl, by decide, by decide⟩ ?_
    intro w mg fa h Y G hmg0
    obtain ⟨K, KX, c⟩ := Y
    have hmg : mg ("law" : PySem.Str) = some (.ref fa) := by
      have e : (HandSHeadRun.topDef Q.R.prog 24).name = ("law" : PySem.Str) := by kernel_rfl
      rw [← e]
      exact hmg0
    obtain ⟨fd, sp, h1, h2, h3⟩ := MP.law_F (P := (PySem.Challenge.rw_fallrows_k90_whole_main_signed_counts_an).prog) (w := w) (k := 40) (f := 17) (Wf := 100000) (x := "script") c KX G Q.ok1 Q.bd1 rfl hmg (by decide) Q.plain
    exact ⟨K, fd, sp, KX, h1, h2, h3⟩
theorem PySem.Challenge.cw_fallrows_k90_whole_main_signed_counts_an_holds : PySem.Challenge.rw_fallrows_k90_whole_main_signed_counts_an.Holds :=
  holds_fallrows_k90_whole_main_signed_counts_an
