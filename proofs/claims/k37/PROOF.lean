import PyProof.Rows.All
import Wide.All
import OpenK.AllK
import Wide.FinOn
import HandS.ForMost
import HandS.TupAny
import HandS.SortInts
import HandS.Style
import HandS.IsInst
import HandS.Wide
import HandS.Zip
import HandS.Walk
import HandS.Lambda
import HandS.HeadHook4
import KE.DataMinMax
import KE.KTupSum
import KE.KDictKeyed
import KE.SortData
import HandS.Star
import HandS.ListItems
import HandS.Conv
import HandS.Dict
import HandS.Rev
import KE.GoesNew
import HandS.ExcOwn
import HandS.ExcField
import HandS.TryMany
import HandS.ExcInit
import HandS.Small
import HandS.Defaults
import HandS.Ends
import HandS.HeadEnd
import HandS.EndTab
import HandS.HeadHook1
import HandS.HeadHook2
import HandS.NestedK
import PySem.Challenge.RW_fallrows_k37_whole_main_rows_pushed
import KE.KStateDown
import HandS.Base
import HandS.Call
import HandS.More
import HandS.Words
import HandS.WordsExc
import HandS.Head0
import HandS.Head1
import HandS.Head2
set_option Elab.async false
set_option linter.all false
set_option maxRecDepth 100000
set_option maxHeartbeats 0

/-! C0: values as trees, the small language, its evaluator. -/
namespace MP
open PySem L2

/-- values as trees -/
inductive T where
  | non | bl (b : Bool) | int (i : Int) | str (x : Str)
  | lst (xs : List T) | tup (xs : List T)
  | dk (ks : List Key) (vs : List T) | dt (ks : List (List Key)) (vs : List T)
  | scr (ns : List Int) | box (k : Nat)
  deriving Inhabited

/-- built-in types that are asked -/
inductive Ty where
  | int | bool | str | list | tuple | dict
  deriving DecidableEq
def Ty.nm : Ty → String
  | .int => "int" | .bool => "bool" | .str => "str" | .list => "list" | .tuple => "tuple" | .dict => "dict"

inductive BOp where
  | add | sub | mul | fdiv | mod | pow
  deriving DecidableEq
inductive COp where
  | lt | le | gt | ge | eq | ne | isN | notN | inn | nin
  deriving DecidableEq
/-- built-in functions by name -/
inductive BI where
  | len | abs | int | list | tuple | sorted | all | any | sum | max1 | min1 | max2 | min2 | repr | dict
  deriving DecidableEq
/-- methods that change nothing -/
inductive ME where
  | get1 | get2 | items | values | index | count
  deriving DecidableEq
/-- targets -/
inductive Tg where
  | nm (i : Nat) | tp (ts : List Tg)

mutual
inductive IE where
  | var (i : Nat) | cst (c : T) | un (a : IE) | bin (op : BOp) (a b : IE) | cmp (op : COp) (a b : IE) | chn (op op' : COp) (a b c : IE)
  | bop (isAnd : Bool) (as : List IE) | nt (a : IE) | ite (c a b : IE)
  | lst (as : List (Bool × IE)) | tup (as : List IE) | sub (a b : IE) | slc (a : IE) (lo hi : Option IE) | rev (a : IE)
  | call (f : Nat) (as : List IE) (kw : List (Nat × IE)) | bi (b : BI) (as : List IE) | isi (a : IE) (cs : List Ty) (one : Bool) | meth (m : ME) (a : IE) (as : List IE)
  | lc (elt : IE) (tg : Tg) (it : II) (cnd : Option IE) | imm (a : IE) | flat (a : IE) | ls (a : IE) | dnew (tk : Bool)
  | neNil (x : Nat) (i : IE) | popAt (x : Nat) (i j : IE) | lof (tp : Bool) (it : II) | met (vs : List Nat) (b : IE) (tl : Bool) (cs : List (Nat × Str)) (fr : Bool) | itm (a : IE)
  | never
inductive II where
  | seq (a : IE) | rng1 (a : IE) | rng2 (a b : IE) | rng3 (a b c : IE) | enum (a : IE) | zip (a b : IE) | keys (a : IE) | items (a : IE)
end
inductive IS where
  | ex (e : IE) | asg (x : Nat) (e : IE) (ks : List Nat) | par (xs : List Nat) (es : List IE) (ks : List Nat) | unp (tg : Tg) (e : IE) (ks : List Nat)
  | app (x : Nat) (e : IE) (ks : List Nat) | appPop (x y : Nat) (e : Option IE) | asgPop (x y : Nat) (e : Option IE) | ext (x : Nat) (e : IE) (ks : List Nat)
  | set (x : Nat) (i e : IE) (ks : List Nat) | bset (x : Nat) (i e : IE) | set2 (x : Nat) (i j e : IE)
  | iff (c : IE) (a b : List IS) | wh (c : IE) (b : List IS) | for (tg : Tg) (it : II) (b : List IS) (ks : List Nat)
  | ret (e : Option IE) | pass | brk | raise (c : Nat) (e : IE) | spoil (x : Nat) | spoilP (x i j k l : Nat) | mkbox (x : Nat) | retB (f : Nat) (as : List IE) | never

/-- kinds of slots: S may be shared; P: the list itself is mine alone; D: all of it is -/
inductive SK where
  | S | P | D
  deriving DecidableEq
/-- kinds of results: I has no list or dict in it; D is new throughout; P is new itself; S any -/
inductive RK where
  | I | D | P | S
  deriving DecidableEq
structure Dn where
  nps : Nat
  n : Nat
  ka : List SK
  rk : RK
  body : List IS

/-! ### the machine's answers -/
abbrev Mem := List T
abbrev Env := List (Option T)
inductive Res (α : Type) where
  | ok (a : α) (μ : Mem) | exc (c : Nat) (t : T) (μ : Mem) | stuck
def Res.bind {α β : Type} : Res α → (α → Mem → Res β) → Res β
  | .ok a μ, f => f a μ
  | .exc c t μ, _ => .exc c t μ
  | .stuck, _ => .stuck
@[simp] theorem Res.bind_ok {α β : Type} (a : α) (μ : Mem) (f : α → Mem → Res β) : (Res.ok a μ).bind f = f a μ := rfl
@[simp] theorem Res.bind_exc {α β : Type} (c : Nat) (t : T) (μ : Mem) (f : α → Mem → Res β) : (Res.exc c t μ : Res α).bind f = .exc c t μ := rfl
@[simp] theorem Res.bind_stuck {α β : Type} (f : α → Mem → Res β) : (Res.stuck : Res α).bind f = .stuck := rfl
/-- an optional value, the memory as it is -/
def opt {α : Type} (o : Option α) (μ : Mem) : Res α := match o with
  | some a => .ok a μ
  | none => .stuck
@[simp] theorem opt_some {α : Type} (a : α) (μ : Mem) : opt (some a) μ = .ok a μ := rfl
@[simp] theorem opt_none {α : Type} (μ : Mem) : opt (none : Option α) μ = .stuck := rfl

def line : Nat := 16777216

/-! ### no list and no dict in it -/
mutual
def nodeless : T → Bool
  | .lst _ => false
  | .dk _ _ => false
  | .dt _ _ => false
  | .tup xs => nodelessL xs
  | _ => true
def nodelessL : List T → Bool
  | [] => true
  | x :: xs => nodeless x && nodelessL xs
end
mutual
def boxless : T → Bool
  | .lst xs => boxlessL xs
  | .dk _ xs => boxlessL xs
  | .dt _ xs => boxlessL xs
  | .tup xs => boxlessL xs
  | .box _ => false
  | _ => true
def boxlessL : List T → Bool
  | [] => true
  | x :: xs => boxless x && boxlessL xs
end
/- all boxes in it are below n -/
mutual
def boxBelow (n : Nat) : T → Bool
  | .lst xs => boxBelowL n xs
  | .dk _ xs => boxBelowL n xs
  | .dt _ xs => boxBelowL n xs
  | .tup xs => boxBelowL n xs
  | .box k => Nat.blt k n
  | _ => true
def boxBelowL (n : Nat) : List T → Bool
  | [] => true
  | x :: xs => boxBelow n x && boxBelowL n xs
end
/-- what stands behind a box -/
def view (μ : Mem) : T → T
  | .box k => (μ[k]?).getD .non
  | t => t
/-- may the children of this go into a new thing -/
def kidsOk (t : T) (xs : List T) : Bool := match t with
  | .box _ => nodelessL xs
  | _ => true

/-! ### the plain operations, behind view -/
def pyEqI (a : T) : Option Int := match a with
  | .int i => some i
  | .bl b => some (if b then 1 else 0)
  | _ => none
mutual
/-- == of data: none, bools, ints, texts, lists, tuples -/
def eqT : T → T → Bool
  | .non, .non => true
  | .bl a, .bl b => a == b
  | .bl a, .int b => (if a then 1 else 0) == b
  | .int a, .bl b => a == (if b then 1 else 0)
  | .int a, .int b => decide (a = b)
  | .str a, .str b => decide (a = b)
  | .lst a, .lst b => eqTL a b
  | .tup a, .tup b => eqTL a b
  | _, _ => false
def eqTL : List T → List T → Bool
  | [], [] => true
  | a :: as, b :: bs => eqT a b && eqTL as bs
  | _, _ => false
end
mutual
/-- data that == compares, at most d deep -/
def datum : Nat → T → Bool
  | _, .non => true
  | _, .bl _ => true
  | _, .int _ => true
  | _, .str x => x.cps.all (· < 0x110000)
  | d, .lst xs => (match d with | 0 => false | d + 1 => datumL d xs)
  | d, .tup xs => (match d with | 0 => false | d + 1 => datumL d xs)
  | _, _ => false
def datumL : Nat → List T → Bool
  | _, [] => true
  | d, x :: xs => datum d x && datumL d xs
end
def intsOf : List T → Option (List Int)
  | [] => some []
  | .int i :: r => (intsOf r).map (i :: ·)
  | _ => none
def blsOf : List T → Option (List Bool)
  | [] => some []
  | .bl b :: r => (blsOf r).map (b :: ·)
  | _ => none
/-- the items of a list or tuple -/
def seqOf : T → Option (List T)
  | .lst xs => some xs
  | .tup xs => some xs
  | .scr ns => some (ns.map .int)
  | _ => none
def pAdd : T → T → Option T
  | .int a, .int b => some (.int (a + b))
  | .lst a, .lst b => if Nat.ble (a.length + b.length) line then some (.lst (a ++ b)) else none
  | .str a, .str b => if Nat.ble (a.length + b.length) line then some (.str (a ++ b)) else none
  | .tup a, .tup b => if Nat.ble (a.length + b.length) line then some (.tup (a ++ b)) else none
  | _, _ => none
def inMul (i : Int) : Bool := decide (-(2 ^ 64) < i) && decide (i < 2 ^ 64)
def pMul : T → T → Option T
  | .int a, .int b => if inMul a || inMul b || Nat.blt (a.natAbs.log2 + b.natAbs.log2) 1000000 then some (.int (a * b)) else none
  | .lst a, .int k => if decide (-(2 ^ 63) ≤ k) && decide (k < 2 ^ 63) && Nat.ble (a.length * k.toNat) line then some (.lst (List.replicate k.toNat a).flatten) else none
  | _, _ => none
def pBin (op : BOp) (a b : T) : Option T := match op with
  | .add => pAdd a b
  | .mul => pMul a b
  | .sub => (match a, b with | .int a, .int b => some (.int (a - b)) | _, _ => none)
  | .fdiv => (match a, b with | .int a, .int b => if decide (b ≠ 0) && (Nat.blt b.natAbs 1073741824 || (decide (0 < b) && Nat.blt b.natAbs.log2 9000)) then some (.int (a.fdiv b)) else none | _, _ => none)
  | .mod => (match a, b with | .int a, .int b => if decide (b ≠ 0) then some (.int (a.fmod b)) else none | _, _ => none)
  | .pow => (match a, b with | .int a, .int b => if decide (0 ≤ b) && decide (b ≤ 1000000) && Nat.blt a.natAbs (2 ^ 64) then some (.int (a ^ b.toNat)) else none | _, _ => none)
/-- the children that an operation carries on -/
def kidsOf : T → List T
  | .lst xs => xs
  | .tup xs => xs
  | .dk _ xs => xs
  | .dt _ xs => xs
  | _ => []
def flatT : T → Bool
  | .non => true
  | .bl _ => true
  | .int _ => true
  | .str _ => true
  | _ => false
def keyT : T → Option Key
  | .int i => some (.inl i)
  | .str x => some (.inr x)
  | _ => none
def keysT : List T → Option (List Key)
  | [] => some []
  | t :: r => (match keyT t, keysT r with | some k, some ks => some (k :: ks) | _, _ => none)
def findK {κ : Type} [DecidableEq κ] (k : κ) : List κ → List T → Option T
  | a :: ks, v :: vs => if k = a then some v else findK k ks vs
  | _, _ => none
/-- x in c -/
def pIn (x c : T) : Option Bool := match c with
  | .lst xs => if flatT x && xs.all flatT then some (xs.any fun y => eqT y x) else none
  | .tup xs => if flatT x && xs.all flatT then some (xs.any fun y => eqT y x) else none
  | .dk ks vs => (match keyT x with | some k => some (findK k ks vs).isSome | none => none)
  | .dt ks vs => (match x with | .tup ts => (match keysT ts with | some k => some (findK k ks vs).isSome | none => none) | _ => none)
  | _ => none
def isNon : T → Bool
  | .non => true
  | _ => false
def pCmp (op : COp) (a b : T) : Option Bool := match op with
  | .eq => if datum 60 a && datum 60 b then some (eqT a b) else none
  | .ne => if datum 60 a && datum 60 b then some (!eqT a b) else none
  | .isN => (match b with | .non => some (isNon a) | _ => none)
  | .notN => (match b with | .non => some (!isNon a) | _ => none)
  | .inn => pIn a b
  | .nin => (pIn a b).map (!·)
  | .lt => (match a, b with | .int a, .int b => some (decide (a < b)) | _, _ => none)
  | .le => (match a, b with | .int a, .int b => some (decide (a ≤ b)) | _, _ => none)
  | .gt => (match a, b with | .int a, .int b => some (decide (b < a)) | _, _ => none)
  | .ge => (match a, b with | .int a, .int b => some (decide (b ≤ a)) | _, _ => none)
/-- xs[i], any sign -/
def atT (xs : List T) (i : Int) : Option T := match ixN xs.length i with
  | some j => xs[j]?
  | none => none
def pSub (c i : T) : Option T := match c, i with
  | .lst xs, .int i => atT xs i
  | .tup xs, .int i => atT xs i
  | .dk ks vs, i => (match keyT i with | some k => findK k ks vs | none => none)
  | .dt ks vs, .tup ts => (match keysT ts with | some k => findK k ks vs | none => none)
  | _, _ => none
def cutT (xs : List T) (lo hi : Option Int) : List T := (xs.drop (HT.sIx xs.length 0 lo)).take (HT.sIx xs.length xs.length hi - HT.sIx xs.length 0 lo)
def pSlc (c : T) (lo hi : Option Int) : Option T := match c with
  | .lst xs => some (.lst (cutT xs lo hi))
  | .tup xs => some (.tup (cutT xs lo hi))
  | _ => none
def ins (i : Int) : List Int → List Int
  | [] => [i]
  | j :: r => if i ≤ j then i :: j :: r else j :: ins i r
def isort : List Int → List Int
  | [] => []
  | i :: r => ins i (isort r)
/-- lists of ints, by their first unlike ints -/
def ltR : List Int → List Int → Bool
  | _, [] => false
  | [], _ :: _ => true
  | a :: as, b :: bs => if a < b then true else if b < a then false else ltR as bs
def leR (a b : List Int) : Bool := !ltR b a
def insR (x : List Int) : List (List Int) → List (List Int)
  | [] => [x]
  | y :: r => if leR x y then x :: y :: r else y :: insR x r
def sortR : List (List Int) → List (List Int)
  | [] => []
  | x :: r => insR x (sortR r)
def rowsOf : List T → Option (List (List Int))
  | [] => some []
  | .lst xs :: r => (match intsOf xs, rowsOf r with | some is, some rs => some (is :: rs) | _, _ => none)
  | _ => none
def lmax : Int → List Int → Int
  | m, [] => m
  | m, i :: r => lmax (if m < i then i else m) r
def lmin : Int → List Int → Int
  | m, [] => m
  | m, i :: r => lmin (if i < m then i else m) r
def truth : T → Option Bool
  | .bl b => some b
  | _ => none



mutual
def dataOf : T → Option PyData
  | .non => some .none
  | .bl b => some (.bool b)
  | .int i => some (.int i)
  | .str x => some (.str x)
  | .lst xs => (dataOfL xs).map .list
  | .tup xs => (dataOfL xs).map .tuple
  | _ => none
def dataOfL : List T → Option (List PyData)
  | [] => some []
  | x :: xs => (match dataOf x, dataOfL xs with | some d, some ds => some (d :: ds) | _, _ => none)
end
def putK {κ α : Type} [DecidableEq κ] (k : κ) (v : α) : List κ → List α → List κ × List α
  | a :: ks, w :: vs => if k = a then (a :: ks, v :: vs) else (a :: (putK k v ks vs).1, w :: (putK k v ks vs).2)
  | _, _ => ([k], [v])
def dictGo : List T → List Key → List T → Option T
  | [], ks, vs => some (.dk ks vs)
  | .tup [k, v] :: r, ks, vs => (match keyT k with | some k => dictGo r (MP.putK k v ks vs).1 (MP.putK k v ks vs).2 | none => none)
  | _, _, _ => none
/-- pairs with keys that are tuples, none twice -/
def dictGoT : List T → List (List Key) → List T → Option T
  | [], ks, vs => some (.dt ks vs)
  | .tup [.tup ts, v] :: r, ks, vs => (match keysT ts with | some k => if (ks.any fun a => decide (a = k)) = true then none else dictGoT r (ks ++ [k]) (vs ++ [v]) | none => none)
  | _, _, _ => none
/-- dict(pairs) -/
def dictOf (xs : List T) : Option T := match dictGo xs [] [] with
  | some d => some d
  | none => dictGoT xs [] []
/-- built-in functions on viewed arguments; kids: what is carried on of the arguments' children -/
def pBI (b : BI) (as : List T) : Option T := match b, as with
  | .len, [.lst xs] => some (.int xs.length)
  | .len, [.tup xs] => some (.int xs.length)
  | .len, [.str x] => if Nat.ble x.length line then some (.int x.length) else none
  | .len, [.dk ks _] => some (.int ks.length)
  | .abs, [.int i] => some (.int (if i < 0 then -i else i))
  | .int, [.int i] => some (.int i)
  | .int, [.bl b] => some (.int (if b then 1 else 0))
  | .list, [.lst xs] => some (.lst xs)
  | .list, [.tup xs] => some (.lst xs)
  | .list, [.scr ns] => some (.lst (ns.map .int))
  | .tuple, [.lst xs] => some (.tup xs)
  | .tuple, [.tup xs] => some (.tup xs)
  | .sorted, [.lst xs] => (match intsOf xs with
    | some ns => some (.lst ((isort ns).map .int))
    | none => (rowsOf xs).map fun rs => .lst ((sortR rs).map fun is => .lst (is.map .int)))
  | .sorted, [.tup xs] => (intsOf xs).map fun ns => .lst ((isort ns).map .int)
  | .all, [.lst xs] => (blsOf xs).map fun bs => .bl (bs.all id)
  | .any, [.lst xs] => (blsOf xs).map fun bs => .bl (bs.any id)
  | .sum, [.lst xs] => (intsOf xs).map fun ns => .int ns.sum
  | .sum, [.tup xs] => (intsOf xs).map fun ns => .int ns.sum
  | .max1, [.lst xs] => (match intsOf xs with | some (n :: ns) => some (.int (lmax n ns)) | _ => none)
  | .max1, [.tup xs] => (match intsOf xs with | some (n :: ns) => some (.int (lmax n ns)) | _ => none)
  | .min1, [.lst xs] => (match intsOf xs with | some (n :: ns) => some (.int (lmin n ns)) | _ => none)
  | .min1, [.tup xs] => (match intsOf xs with | some (n :: ns) => some (.int (lmin n ns)) | _ => none)
  | .max2, [.int i, .int j] => some (.int (if j > i then j else i))
  | .min2, [.int i, .int j] => some (.int (if j < i then j else i))
  | .dict, [.lst xs] => dictOf xs
  | .repr, [.dk [] _] => some (.str (PyData.dict []).shown)
  | .repr, [t] => if datum 40 t then (match dataOf t with
    | some d => if d.showable && Nat.ble d.shown.length line then some (.str d.shown) else none
    | none => none) else none
  | _, _ => none
def kTy (t : T) : Ty → Bool
  | .int => (match t with | .int _ => true | .bl _ => true | _ => false)
  | .bool => (match t with | .bl _ => true | _ => false)
  | .str => (match t with | .str _ => true | _ => false)
  | .list => (match t with | .lst _ => true | .scr _ => true | _ => false)
  | .tuple => (match t with | .tup _ => true | _ => false)
  | .dict => (match t with | .dk _ _ => true | .dt _ _ => true | _ => false)
def pME (m : ME) (a : T) (as : List T) : Option T := match m, a, as with
  | .get1, .dk ks vs, [k] => (match keyT k with | some k => some ((findK k ks vs).getD .non) | none => none)
  | .get2, .dk ks vs, [k, d] => (match keyT k with | some k => some ((findK k ks vs).getD d) | none => none)
  | .count, .lst xs, [.int k] => (intsOf xs).map fun ns => .int (ns.count k)
  | .index, .lst xs, [y] => if flatT y && xs.all flatT then (match xs.findIdx? fun z => eqT z y with | some j => some (.int j) | none => none) else none
  | _, _, _ => none

/-! ### targets -/
mutual
def bindTg : Tg → T → Env → Option Env
  | .nm i, t, ρ => some (ρ.set i (some t))
  | .tp ts, .tup xs, ρ => bindTgs ts xs ρ
  | _, _, _ => none
def bindTgs : List Tg → List T → Env → Option Env
  | [], [], ρ => some ρ
  | g :: gs, x :: xs, ρ => (match bindTg g x ρ with | some ρ' => bindTgs gs xs ρ' | none => none)
  | _, _, _ => none
end
mutual
def Tg.slots : Tg → List Nat
  | .nm i => [i]
  | .tp ts => Tg.slotsL ts
def Tg.slotsL : List Tg → List Nat
  | [] => []
  | g :: gs => g.slots ++ Tg.slotsL gs
end
/-- the slots is forgotten -/
def forget (ρ : Env) : List Nat → Env
  | [] => ρ
  | i :: is => (forget ρ is).set i none
/-- some slots as they were -/
def restore (ρ ρ0 : Env) : List Nat → Env
  | [] => ρ
  | i :: is => (restore ρ ρ0 is).set i ((ρ0[i]?).getD none)

def getV (ρ : Env) (i : Nat) : Option T := match ρ[i]? with
  | some (some t) => some t
  | _ => none
def rngL (lo c : Int) : Nat → List T
  | 0 => []
  | n + 1 => .int lo :: rngL (lo + c) c n
def enumL (k : Int) : List T → List T
  | [] => []
  | x :: xs => .tup [.int k, x] :: enumL (k + 1) xs
def zipL : List T → List T → List T
  | x :: xs, y :: ys => .tup [x, y] :: zipL xs ys
  | _, _ => []
def smallI (i : Int) : Bool := decide (-(2 ^ 62) ≤ i) && decide (i < 2 ^ 62)
/-- a comprehension's turns -/
def lcLoop (c e : T → Mem → Res (Option T)) : List T → Mem → Res (List T)
  | [], μ => .ok [] μ
  | x :: xs, μ => (e x μ).bind fun o μ => (lcLoop c e xs μ).bind fun r μ => .ok (match o with | some y => y :: r | none => r) μ
def lcGo (f : T → Mem → Res (Option T)) : List T → Nat → Mem → Res (List T)
  | [], _, μ => .ok [] μ
  | x :: xs, n, μ => (f x μ).bind fun o μ => match o with
    | some y => if Nat.blt n line then (lcGo f xs (n + 1) μ).bind fun r μ => .ok (y :: r) μ else .stuck
    | none => lcGo f xs n μ
/-- results of a block: no exception leaves it -/
def noExc {α : Type} : Res α → Res α
  | .exc _ _ _ => .stuck
  | r => r

/-- c[i].pop(0): the first one, c behind it -/
def popB (c : T) (i : Int) : Option (T × T) := match c with
  | .lst cs => (match ixN cs.length i with
    | some m => (match cs[m]? with
      | some (.lst (y :: ys)) => if nodeless y && boxless (.lst (cs.set m (.lst ys))) then some (y, .lst (cs.set m (.lst ys))) else none
      | _ => none)
    | none => none)
  | _ => none
/-- some slots alone -/
def maskV (ρ : Env) (vs : List Nat) : Env := (List.range ρ.length).map fun i => if vs.contains i then getV ρ i else none
def pairT (tl : Bool) (a : Str) (t : T) : T := match tl with
  | true => .lst [.str a, t]
  | false => .tup [.str a, t]
/-- what is told of a call (fr: an error's thing has no list in it) -/
def metR (tl : Bool) (cs : List (Nat × Str)) (fr : Bool) : Res T → Res T
  | .ok t μ => .ok (pairT tl "told" t) μ
  | .exc c t μ => (match cs.lookup c with
    | some a => if !fr || nodeless t then .ok (pairT tl a t) μ else .stuck
    | none => .stuck)
  | .stuck => .stuck
/-- the keywords' values in the parameters' order, from the n-th parameter on -/
def kwArgs (n : Nat) (is : List Nat) (zs : List T) : List T := (List.range is.length).filterMap fun d => (is.zip zs).lookup (n + d)
abbrev Fns := Nat → List T → Mem → Res T
mutual
def evE (F : Fns) (ρ : Env) : IE → Mem → Res T
  | .var i, μ => opt (getV ρ i) μ
  | .cst c, μ => .ok c μ
  | .un a, μ => (evE F ρ a μ).bind fun x μ => (match x with | .int i => .ok (.int (-i)) μ | _ => .stuck)
  | .bin op a b, μ => (evE F ρ a μ).bind fun x μ => (evE F ρ b μ).bind fun y μ =>
      if kidsOk x (kidsOf (view μ x)) && kidsOk y (kidsOf (view μ y)) then opt (pBin op (view μ x) (view μ y)) μ else .stuck
  | .cmp op a b, μ => (evE F ρ a μ).bind fun x μ => (evE F ρ b μ).bind fun y μ => (opt (pCmp op (view μ x) (view μ y)) μ).bind fun r μ => .ok (.bl r) μ
  | .chn op op' a b c, μ => (evE F ρ a μ).bind fun x μ => (evE F ρ b μ).bind fun y μ => (opt (pCmp op (view μ x) (view μ y)) μ).bind fun r μ => (match r with
      | true => (evE F ρ c μ).bind fun z μ => (opt (pCmp op' (view μ y) (view μ z)) μ).bind fun r μ => .ok (.bl r) μ
      | false => .ok (.bl false) μ)
  | .bop isAnd as, μ => evB F ρ isAnd as μ
  | .nt a, μ => (evE F ρ a μ).bind fun x μ => (match x with | .bl b => .ok (.bl (!b)) μ | _ => .stuck)
  | .ite c a b, μ => (evE F ρ c μ).bind fun x μ => (match x with | .bl true => evE F ρ a μ | .bl false => evE F ρ b μ | _ => .stuck)
  | .lst as, μ => (evS F ρ as μ).bind fun ts μ => if Nat.ble ts.length line then .ok (.lst ts) μ else .stuck
  | .tup as, μ => (evL F ρ as μ).bind fun ts μ => if Nat.ble ts.length line then .ok (.tup ts) μ else .stuck
  | .sub a b, μ => (evE F ρ a μ).bind fun x μ => (evE F ρ b μ).bind fun y μ => (opt (pSub (view μ x) y) μ).bind fun r μ => if kidsOk x [r] then .ok r μ else .stuck
  | .slc a lo hi, μ => (evE F ρ a μ).bind fun x μ => (evO F ρ lo μ).bind fun l μ => (evO F ρ hi μ).bind fun h μ =>
      if kidsOk x (kidsOf (view μ x)) then opt (pSlc (view μ x) l h) μ else .stuck
  | .rev a, μ => (evE F ρ a μ).bind fun x μ => if kidsOk x (kidsOf (view μ x)) then (match view μ x with | .lst xs => .ok (.lst xs.reverse) μ | .tup xs => .ok (.tup xs.reverse) μ | _ => .stuck) else .stuck
  | .call f as kw, μ => (evL F ρ as μ).bind fun ts μ => (evK F ρ kw μ).bind fun zs μ => F f (ts ++ kwArgs ts.length (kw.map (·.1)) zs) μ
  | .bi b as, μ => (evL F ρ as μ).bind fun ts μ => if ts.all (fun t => kidsOk t (kidsOf (view μ t))) then opt (pBI b (ts.map (view μ))) μ else .stuck
  | .isi a cs _, μ => (evE F ρ a μ).bind fun x μ => .ok (.bl (cs.any (kTy (view μ x)))) μ
  | .meth m a as, μ => (evE F ρ a μ).bind fun x μ => (evL F ρ as μ).bind fun ts μ => opt (pME m x ts) μ
  | .lc elt tg it cnd, μ => (evI F ρ it μ).bind fun xs μ => (noExc (lcGo (fun x μ => match bindTg tg x (forget ρ tg.slots) with
      | some ρ' => (evC F ρ' cnd μ).bind fun b μ => (match b with | true => (evE F ρ' elt μ).bind fun y μ => .ok (some y) μ | false => .ok none μ)
      | none => .stuck) xs 0 μ)).bind fun r μ => .ok (.lst r) μ
  | .imm a, μ => (evE F ρ a μ).bind fun x μ => if nodeless x then .ok x μ else .stuck
  | .flat a, μ => (evE F ρ a μ).bind fun x μ => (match x with | .lst xs => if nodelessL xs then .ok x μ else .stuck | _ => .stuck)
  | .ls a, μ => (evE F ρ a μ).bind fun x μ => (match x with | .lst xs => .ok (.lst xs) μ | _ => .stuck)
  | .dnew tk, μ => .ok (match tk with | true => .dt [] [] | false => .dk [] []) μ
  | .neNil x i, μ => (match getV ρ x with
      | some (.box k) => (evE F ρ i μ).bind fun j μ => (opt ((μ[k]?).bind fun c => pSub c j) μ).bind fun t μ => (match t with | .lst xs => if datum 60 (.lst xs) then .ok (.bl (!xs.isEmpty)) μ else .stuck | _ => .stuck)
      | _ => .stuck)
  | .popAt x i j, μ => (match getV ρ x with
      | some (.box k) => (evE F ρ i μ).bind fun i μ => (evE F ρ j μ).bind fun j μ => (match i, j, μ[k]? with
        | .int i, .int 0, some c => (match popB c i with
          | some r => .ok r.1 (μ.set k r.2)
          | none => .stuck)
        | _, _, _ => .stuck)
      | _ => .stuck)
  | .lof tp it, μ => (evI F ρ it μ).bind fun xs μ => if Nat.ble xs.length line then .ok (match tp with | true => .tup xs | false => .lst xs) μ else .stuck
  | .met vs b tl cs fr, μ => metR tl cs fr (evE F (maskV ρ vs) b μ)
  | .itm a, μ => (evE F ρ a μ).bind fun x μ => (match x with | .dk ks vs => .ok (.lst (zipL (ks.map fun k => match k with | .inl i => .int i | .inr x => .str x) vs)) μ | _ => .stuck)
  | .never, _ => .stuck
def evB (F : Fns) (ρ : Env) (isAnd : Bool) : List IE → Mem → Res T
  | [], _ => .stuck
  | [a], μ => evE F ρ a μ
  | a :: as, μ => (evE F ρ a μ).bind fun x μ => (match x with | .bl b => if b = isAnd then evB F ρ isAnd as μ else .ok (.bl b) μ | _ => .stuck)
def evS (F : Fns) (ρ : Env) : List (Bool × IE) → Mem → Res (List T)
  | [], μ => .ok [] μ
  | (st, a) :: as, μ => (evE F ρ a μ).bind fun x μ => (match st with
      | false => (evS F ρ as μ).bind fun r μ => .ok (x :: r) μ
      | true => (match seqOf (view μ x) with
        | some xs => if kidsOk x xs then (evS F ρ as μ).bind fun r μ => .ok (xs ++ r) μ else .stuck
        | none => .stuck))
def evL (F : Fns) (ρ : Env) : List IE → Mem → Res (List T)
  | [], μ => .ok [] μ
  | a :: as, μ => (evE F ρ a μ).bind fun x μ => (evL F ρ as μ).bind fun r μ => .ok (x :: r) μ
def evK (F : Fns) (ρ : Env) : List (Nat × IE) → Mem → Res (List T)
  | [], μ => .ok [] μ
  | (_, a) :: as, μ => (evE F ρ a μ).bind fun x μ => (evK F ρ as μ).bind fun r μ => .ok (x :: r) μ
def evO (F : Fns) (ρ : Env) : Option IE → Mem → Res (Option Int)
  | none, μ => .ok none μ
  | some a, μ => (evE F ρ a μ).bind fun x μ => (match x with | .int i => .ok (some i) μ | _ => .stuck)
def evC (F : Fns) (ρ : Env) : Option IE → Mem → Res Bool
  | none, μ => .ok true μ
  | some a, μ => (evE F ρ a μ).bind fun x μ => (match x with | .bl b => .ok b μ | _ => .stuck)
def evI (F : Fns) (ρ : Env) : II → Mem → Res (List T)
  | .seq a, μ => (evE F ρ a μ).bind fun x μ => opt (seqOf x) μ
  | .rng1 a, μ => (evE F ρ a μ).bind fun x μ => (match x with | .int n => if smallI n then .ok (rngL 0 1 n.toNat) μ else .stuck | _ => .stuck)
  | .rng2 a b, μ => (evE F ρ a μ).bind fun x μ => (evE F ρ b μ).bind fun y μ => (match x, y with
      | .int m, .int n => if smallI m && smallI n then .ok (rngL m 1 (n - m).toNat) μ else .stuck
      | _, _ => .stuck)
  | .rng3 a b c, μ => (evE F ρ a μ).bind fun x μ => (evE F ρ b μ).bind fun y μ => (evE F ρ c μ).bind fun z μ => (match x, y, z with
      | .int m, .int n, .int (-1) => if smallI m && smallI n then .ok (rngL m (-1) (m - n).toNat) μ else .stuck
      | _, _, _ => .stuck)
  | .enum a, μ => (evE F ρ a μ).bind fun x μ => (match x with | .lst xs => .ok (enumL 0 xs) μ | .tup xs => .ok (enumL 0 xs) μ | _ => .stuck)
  | .zip a b, μ => (evE F ρ a μ).bind fun x μ => (evE F ρ b μ).bind fun y μ => (match x, y with
      | .lst xs, .lst ys => .ok (zipL xs ys) μ
      | .tup xs, .tup ys => .ok (zipL xs ys) μ
      | .lst xs, .tup ys => .ok (zipL xs ys) μ
      | .tup xs, .lst ys => .ok (zipL xs ys) μ
      | _, _ => .stuck)
  | .keys a, μ => (evE F ρ a μ).bind fun x μ => (match x with
      | .dk [] _ => .ok [] μ
      | _ => .stuck)
  | .items a, μ => (evE F ρ a μ).bind fun x μ => (match x with
      | .dk ks vs => .ok (zipL (ks.map fun k => match k with | .inl i => .int i | .inr x => .str x) vs) μ
      | _ => .stuck)
end
inductive Fl where
  | nx | bk | rt (t : T)
/-- the slots that a statement gives away -/
def kill (ρ : Env) : List Nat → Env
  | [] => ρ
  | i :: is => (kill ρ is).set i none
/-- a list, a dict in the slot; a box in it -/
def getN (ρ : Env) (x : Nat) : Option T := match getV ρ x with
  | some (.lst xs) => some (.lst xs)
  | some (.dk ks vs) => some (.dk ks vs)
  | some (.dt ks vs) => some (.dt ks vs)
  | _ => none
def getB (ρ : Env) (x : Nat) : Option Nat := match getV ρ x with
  | some (.box k) => some k
  | _ => none
def getL (ρ : Env) (x : Nat) : Option (List T) := match getV ρ x with
  | some (.lst xs) => some xs
  | _ => none
def forLoop (f : T → Env → Mem → Res (Fl × Env)) : List T → Env → Mem → Res (Fl × Env)
  | [], ρ, μ => .ok (.nx, ρ) μ
  | x :: xs, ρ, μ => (f x ρ μ).bind fun r μ => match r.1 with
    | .nx => forLoop f xs r.2 μ
    | .bk => .ok (.nx, r.2) μ
    | .rt t => .ok (.rt t, r.2) μ
def whLoop (c : Env → Mem → Res T) (f : Env → Mem → Res (Fl × Env)) : Nat → Env → Mem → Res (Fl × Env)
  | 0, _, _ => .stuck
  | n + 1, ρ, μ => (c ρ μ).bind fun b μ => match b with
    | .bl true => (f ρ μ).bind fun r μ => match r.1 with
      | .nx => whLoop c f n r.2 μ
      | .bk => .ok (.nx, r.2) μ
      | .rt t => .ok (.rt t, r.2) μ
    | .bl false => .ok (.nx, ρ) μ
    | _ => .stuck
def setAll (ρ : Env) : List Nat → List T → Option Env
  | [], [] => some ρ
  | i :: is, t :: ts => setAll (ρ.set i (some t)) is ts
  | _, _ => none
/-- a list, a dict with one thing stored -/
def pSet (c i v : T) : Option T := match c, i with
  | .lst xs, .int i => (match ixN xs.length i with | some j => some (.lst (xs.set j v)) | none => none)
  | .dk ks vs, i => (match keyT i with | some k => if Nat.blt ks.length line then some (.dk (MP.putK k v ks vs).1 (MP.putK k v ks vs).2) else none | none => none)
  | .dt ks vs, .tup ts => (match keysT ts with | some k => if Nat.blt ks.length line then some (.dt (MP.putK k v ks vs).1 (MP.putK k v ks vs).2) else none | none => none)
  | _, _ => none
def pApp (c v : T) : Option T := match c with
  | .lst xs => if Nat.blt xs.length line then some (.lst (xs ++ [v])) else none
  | _ => none
def pExt (c d : T) : Option T := match c, d with
  | .lst xs, .lst ys => if Nat.ble (xs.length + ys.length) line then some (.lst (xs ++ ys)) else none
  | _, _ => none
def pPop (c : T) (i : Option T) : Option (T × T) := match c, i with
  | .lst xs, none => (match xs.getLast? with | some y => some (y, .lst xs.dropLast) | none => none)
  | .lst xs, some (.int i) => if smallI i then (match ixN xs.length i with | some j => (match xs[j]? with | some y => some (y, .lst (xs.eraseIdx j)) | none => none) | none => none) else none
  | _, _ => none
/-- a change of the thing in slot x: in the slot itself, or in its box (then what is stored has no list in it) -/
def upS (ρ : Env) (x : Nat) (μ : Mem) (f : T → Option T) : Res Env := match getV ρ x with
  | some (.box k) => (match (μ[k]?).bind f with | some c => if boxless c then .ok ρ (μ.set k c) else .stuck | none => .stuck)
  | some c => (match f c with | some c' => .ok (ρ.set x (some c')) μ | none => .stuck)
  | none => .stuck
def evP (F : Fns) (ρ : Env) (e : Option IE) (μ : Mem) : Res (Option T) := match e with
  | none => .ok none μ
  | some e => (evE F ρ e μ).bind fun t μ => .ok (some t) μ
mutual
/-- what all lists become a text longer: no dict in it, at most d deep -/
def spOk : Nat → T → Bool
  | _, .non => true
  | _, .bl _ => true
  | _, .int _ => true
  | _, .str _ => true
  | d, .lst xs => (match d with | 0 => false | d + 1 => Nat.blt xs.length line && spOkL d xs)
  | d, .tup xs => (match d with | 0 => false | d + 1 => spOkL d xs)
  | _, _ => false
def spOkL : Nat → List T → Bool
  | _, [] => true
  | d, x :: xs => spOk d x && spOkL d xs
end
/-- the index that asks it -/
def spIx : Nat := 1000000
def spoilF (k f : Nat) (as : List T) (μ : Mem) : Res T := match Nat.beq f spIx, as with
  | true, [t] => if spOk k t then .ok .non μ else .stuck
  | _, _ => .stuck
/-- the list at an index -/
def innerAt (xs : List T) (iv : T) : Option (Nat × List T) := match iv with
  | .int n => (match ixN xs.length n with
    | some a => (match xs[a]? with | some (.lst ys) => some (a, ys) | _ => none)
    | none => none)
  | _ => none
/-- the child at an index, a list's or a tuple's -/
def kidAt (t : T) (i : Nat) : Option T := match t with
  | .lst xs => xs[i]?
  | .tup xs => xs[i]?
  | _ => none
def path2 (t : T) (i j : Nat) : Option T := (kidAt t i).bind fun u => kidAt u j
mutual
def evI1 (F : Fns) (W : Nat) : IS → Env → Mem → Res (Fl × Env)
  | .ex e, ρ, μ => (evE F ρ e μ).bind fun _ μ => .ok (.nx, ρ) μ
  | .asg x e ks, ρ, μ => (evE F ρ e μ).bind fun t μ => .ok (.nx, (kill ρ ks).set x (some t)) μ
  | .par xs es ks, ρ, μ => (evL F ρ es μ).bind fun ts μ => (opt (setAll (kill ρ ks) xs ts) μ).bind fun ρ μ => .ok (.nx, ρ) μ
  | .unp tg e ks, ρ, μ => (evE F ρ e μ).bind fun t μ => (opt (bindTg tg t (kill ρ ks)) μ).bind fun ρ μ => .ok (.nx, ρ) μ
  | .app x e ks, ρ, μ => (opt (getL (kill ρ ks) x) μ).bind fun xs μ => (evE F ρ e μ).bind fun t μ => if Nat.blt xs.length line then .ok (.nx, (kill ρ ks).set x (some (.lst (xs ++ [t])))) μ else .stuck
  | .appPop x y e, ρ, μ => (opt (getL ρ x) μ).bind fun xs μ => (opt (getL ρ y) μ).bind fun ys μ => (evP F ρ e μ).bind fun i μ => (opt (pPop (.lst ys) i) μ).bind fun r μ => if Nat.blt xs.length line then .ok (.nx, (ρ.set y (some r.2)).set x (some (.lst (xs ++ [r.1])))) μ else .stuck
  | .asgPop x y e, ρ, μ => (opt (getL ρ y) μ).bind fun ys μ => (evP F ρ e μ).bind fun i μ => (opt (pPop (.lst ys) i) μ).bind fun r μ => .ok (.nx, (ρ.set y (some r.2)).set x (some r.1)) μ
  | .ext x e ks, ρ, μ => (opt (getL (kill ρ ks) x) μ).bind fun xs μ => (evE F ρ e μ).bind fun t μ => (match t with | .lst ys => if Nat.ble (xs.length + ys.length) line then .ok (.nx, (kill ρ ks).set x (some (.lst (xs ++ ys)))) μ else .stuck | _ => .stuck)
  | .set x i e ks, ρ, μ => (evE F ρ e μ).bind fun t μ => (opt (getN (kill ρ ks) x) μ).bind fun c μ => (evE F ρ i μ).bind fun j μ => (opt (pSet c j t) μ).bind fun c' μ => .ok (.nx, (kill ρ ks).set x (some c')) μ
  | .set2 x i j e, ρ, μ => (evE F ρ e μ).bind fun t μ => (opt (getL ρ x) μ).bind fun xs μ => (evE F ρ i μ).bind fun iv μ => (opt (innerAt xs iv) μ).bind fun r μ => (evE F ρ j μ).bind fun jv μ => (opt (pSet (.lst r.2) jv t) μ).bind fun c' μ => if nodeless t then .ok (.nx, ρ.set x (some (.lst (xs.set r.1 c')))) μ else .stuck
  | .bset x i e, ρ, μ => (evE F ρ e μ).bind fun t μ => (opt (getB ρ x) μ).bind fun k μ => (evE F ρ i μ).bind fun j μ => (opt ((μ[k]?).bind fun b => pSet b j t) μ).bind fun b μ => if nodeless t && boxless b then .ok (.nx, ρ) (μ.set k b) else .stuck
  | .iff c a b, ρ, μ => (evE F ρ c μ).bind fun t μ => (match t with | .bl true => evIs F W a ρ μ | .bl false => evIs F W b ρ μ | _ => .stuck)
  | .wh c b, ρ, μ => whLoop (fun ρ μ => evE F ρ c μ) (fun ρ μ => evIs F W b ρ μ) W ρ μ
  | .for tg it b ks, ρ, μ => (evI F ρ it μ).bind fun xs μ => forLoop (fun x ρ μ => match bindTg tg x ρ with | some ρ' => evIs F W b ρ' μ | none => .stuck) xs (kill ρ ks) μ
  | .ret none, ρ, μ => .ok (.rt .non, ρ) μ
  | .ret (some e), ρ, μ => (evE F ρ e μ).bind fun t μ => .ok (.rt t, ρ) μ
  | .pass, ρ, μ => .ok (.nx, ρ) μ
  | .brk, ρ, μ => .ok (.bk, ρ) μ
  | .raise c e, ρ, μ => (evE F ρ e μ).bind fun t μ => .exc c t μ
  | .spoil x, ρ, μ => (opt (getV ρ x) μ).bind fun t μ => (F spIx [t] μ).bind fun _ μ => .ok (.nx, ρ.set x none) μ
  | .spoilP x i j k l, ρ, μ => (opt (getV ρ x) μ).bind fun t μ => (opt (path2 t i j) μ).bind fun u μ => (opt (path2 t k l) μ).bind fun v μ => (F spIx [.lst [u, v]] μ).bind fun _ μ => .ok (.nx, ρ.set x none) μ
  | .mkbox x, ρ, μ => (match getV ρ x with | some t => if boxless t && (match t with | .lst _ => true | .dk _ _ => true | .dt _ _ => true | _ => false) then .ok (.nx, ρ.set x (some (.box μ.length))) (μ ++ [t]) else .stuck | none => .stuck)
  | .retB f as, ρ, μ => (evL F ρ as μ).bind fun ts μ => (match F f (ts ++ [.box μ.length]) (μ ++ [.dt [] []]) with | .ok t μ' => if nodeless t then .ok (.rt t, ρ) μ' else .stuck | _ => .stuck)
  | .never, _, _ => .stuck
def evIs (F : Fns) (W : Nat) : List IS → Env → Mem → Res (Fl × Env)
  | [], ρ, μ => .ok (.nx, ρ) μ
  | st :: r, ρ, μ => (evI1 F W st ρ μ).bind fun q μ => match q.1 with
    | .nx => evIs F W r q.2 μ
    | .bk => .ok q μ
    | .rt _ => .ok q μ
end
/-- behind a def's body: new boxes are forgotten -/
def outD (rk : RK) (n : Nat) (t : T) (μ : Mem) : Res T :=
  if (match rk with | .I => nodeless t | _ => true) then
    if Nat.ble μ.length n then .ok t μ else if boxBelow n t then .ok t (μ.take n) else .stuck
  else .stuck
/-- a def called -/
def runD (F : Fns) (W : Nat) (d : Dn) (as : List T) (μ : Mem) : Res T :=
  if Nat.beq as.length d.nps then
    match evIs F W d.body (as.map some ++ List.replicate (d.n - as.length) none) μ with
    | .ok (.nx, _) μ' => outD d.rk μ.length .non μ'
    | .ok (.rt t, _) μ' => outD d.rk μ.length t μ'
    | .ok (.bk, _) _ => .stuck
    | .exc c t μ' => if Nat.ble μ'.length μ.length then .exc c t μ' else if boxBelow μ.length t then .exc c t (μ'.take μ.length) else .stuck
    | .stuck => .stuck
  else .stuck
/-- k levels of calls -/
def callF (Δ : List Dn) (W : Nat) : Nat → Fns
  | 0 => fun _ _ _ => .stuck
  | k + 1 => fun f as μ => match Δ[f]? with
    | some d => runD (callF Δ W k) W d as μ
    | none => spoilF k f as μ
end MP

/-! C1: trees read off the abstract heap; boxes; steps of the heap. -/
namespace MP
open PySem PySem.Spec PyProof.Rows L2

mutual
/-- v reads as the tree; n: the lists and dicts in it -/
def Rds (K : PySem.W.Frag) (β : List Addr) (H : Hp) : T → V → List Addr → Prop
  | .non, v, n => v = .non ∧ n = []
  | .bl b, v, n => v = .bl b ∧ n = []
  | .int i, v, n => v = .int i ∧ n = []
  | .str x, v, n => v = .str x ∧ n = []
  | .lst xs, v, n => ∃ a vs m, v = .ref a ∧ H a = some (.lst vs) ∧ RdsL K β H xs vs m ∧ n = a :: m
  | .tup xs, v, n => ∃ a vs, v = .ref a ∧ H a = some (.tup vs) ∧ RdsL K β H xs vs n
  | .dk ks xs, v, n => ∃ a vs m, v = .ref a ∧ H a = some (.dK (ks.zip vs)) ∧ (ks.length = vs.length ∧ ks.Nodup) ∧ RdsL K β H xs vs m ∧ n = a :: m
  | .dt ks xs, v, n => ∃ a vs m, v = .ref a ∧ H a = some (.dT (ks.zip vs)) ∧ (ks.length = vs.length ∧ ks.Nodup) ∧ RdsL K β H xs vs m ∧ n = a :: m
  | .scr ns, v, n => ∃ a, v = .ref a ∧ n = [] ∧ ((∃ o, H a = some (.frz o (.lst (ns.map V.int)))) ∨
      ∃ (o : Obj) (its : Array Value) (m : Nat), K.lookup a = some o ∧ o.cls = .type "list" ∧ o.dict = none ∧ o.data = .seq its m ∧ its.size ≤ sizeLine ∧ Vals (ns.map V.int) its.toList)
  | .box k, v, n => ∃ a, v = .ref a ∧ β[k]? = some a ∧ n = []
def RdsL (K : PySem.W.Frag) (β : List Addr) (H : Hp) : List T → List V → List Addr → Prop
  | [], vs, n => vs = [] ∧ n = []
  | x :: xs, vs, n => ∃ v ws m k, vs = v :: ws ∧ Rds K β H x v m ∧ RdsL K β H xs ws k ∧ n = m ++ k
end

/-- lists and dicts -/
def isMut : HO → Bool
  | .lst _ => true
  | .dK _ => true
  | .dT _ => true
  | _ => false
/-- what is tracked stays but at B -/
structure Keeps (B : Addr → Prop) (H H' : Hp) : Prop where
  keep : ∀ a o, H a = some o → ¬ B a → (∀ ps, o ≠ .tbl ps) → H' a = some o
  tup : ∀ a xs, H a = some (.tup xs) → H' a = some (.tup xs)
  frz : ∀ a o u, H a = some (.frz o u) → H' a = some (.frz o u)
  more : ∀ a, H' a = none → H a = none
theorem Keeps.refl (B : Addr → Prop) (H : Hp) : Keeps B H H := ⟨fun _ _ e _ _ => e, fun _ _ e => e, fun _ _ _ e => e, fun _ e => e⟩
theorem Keeps.trans {B B' : Addr → Prop} {H H1 H2 : Hp} (k : Keeps B H H1) (k' : Keeps B' H1 H2) (sub : ∀ a, B' a → B a ∨ H a = none) : Keeps B H H2 where
  keep := fun a o e nb nt => k'.keep a o (k.keep a o e nb nt) (fun b => by
    rcases sub a b with z | z
    · exact nb z
    · rw [e] at z; cases z) nt
  tup := fun a xs e => k'.tup a xs (k.tup a xs e)
  frz := fun a o u e => k'.frz a o u (k.frz a o u e)
  more := fun a e => k.more a (k'.more a e)
theorem Keeps.new {B : Addr → Prop} {H : Hp} {p : Addr} {o : HO} (h : H p = none) : Keeps B H (upd H p o) where
  keep := fun a u e _ _ => by rw [upd_ne (ne_of_none e h)]; exact e
  tup := fun a u e => by rw [upd_ne (ne_of_none e h)]; exact e
  frz := fun a u w e => by rw [upd_ne (ne_of_none e h)]; exact e
  more := fun a e => by
    by_cases z : a = p
    · rw [z]; exact h
    · rw [upd_ne z] at e; exact e
/-- a thing is written at p -/
theorem Keeps.write {B : Addr → Prop} {H : Hp} {p : Addr} {o u : HO} (h : H p = some u) (hb : B p) (hm : isMut u = true) : Keeps B H (upd H p o) where
  keep := fun a u' e nb _ => by rw [upd_ne (fun z => nb (by rw [z]; exact hb))]; exact e
  tup := fun a xs e => by
    rw [upd_ne (fun z => ?_)]
    · exact e
    · rw [z, h] at e; cases e; cases hm
  frz := fun a o' u' e => by
    rw [upd_ne (fun z => ?_)]
    · exact e
    · rw [z, h] at e; cases e; cases hm
  more := fun a e => by
    by_cases z : a = p
    · rw [z, upd_same] at e; cases e
    · rw [upd_ne z] at e; exact e
theorem Keeps.wider {B B' : Addr → Prop} {H H' : Hp} (k : Keeps B H H') (s : ∀ a, B a → B' a) : Keeps B' H H' := ⟨fun a o e nb nt => k.keep a o e (fun b => nb (s a b)) nt, k.tup, k.frz, k.more⟩

theorem Keeps.lst {B : Addr → Prop} {H H' : Hp} (k : Keeps B H H') {a : Addr} {vs : List V} (e : H a = some (.lst vs)) (nb : ¬ B a) : H' a = some (.lst vs) := k.keep a _ e nb fun _ z => by cases z
/-! ### the tables of code objects of the defs that make lambdas -/
def lamNames : List Str := ["law", "_law_row_right", "_law_field", "_law_beads_right", "_law_one_right", "_law_two_right", "_law_asked_right", "_law_over_right", "_law_led_right", "_law_pair_right", "_law_balanced_right", "_law_lots_right", "_law_right"]
def hasTab (K : PySem.W.Frag) (nm : Str) : Bool := PySem.W.codeHdIn K (He.cT K (nm, none)).1 (He.cT K (nm, none)).2
def lamQ (nm : Str) : Str := nm ++ ".<locals>." ++ "<lambda>"
/-- the tables, with the name of the lambdas in each -/
def tabL (K : PySem.W.Frag) : List (Addr × Str) := (lamNames.filter (hasTab K)).map fun nm => ((He.cT K (nm, none)).2, lamQ nm)
abbrev Tb (K : PySem.W.Frag) (H : Hp) : Prop := LamX.Tabs (tabL K) H
/-- a list, a dict is written: what is told of the tables stays -/
theorem tabS_write {H : Hp} {p : Addr} {o u : HO} (h : H p = some u) (hm : isMut u = true) {a : Addr} {q : Str} (t : LamX.TabS H a q) : LamX.TabS (upd H p o) a q := by
  obtain ⟨ps, h1, h2, h3⟩ := t
  refine ⟨ps, ?_, h2, fun pos cv hc => ?_⟩
  · rw [upd_ne (fun z => ?_)]
    · exact h1
    · rw [z, h] at h1; cases h1; cases hm
  · obtain ⟨c, e1, e2⟩ := h3 pos cv hc
    refine ⟨c, e1, ?_⟩
    rw [upd_ne (fun z => ?_)]
    · exact e2
    · rw [z, h] at e2; cases e2; cases hm
theorem Tb.write {K : PySem.W.Frag} {H : Hp} {p : Addr} {o u : HO} (t : Tb K H) (h : H p = some u) (hm : isMut u = true) : Tb K (upd H p o) := fun q hq => tabS_write h hm (t q hq)
theorem Tb.new {K : PySem.W.Frag} {H : Hp} {p : Addr} {o : HO} (t : Tb K H) (h : H p = none) : Tb K (upd H p o) := LamX.Tabs.ext t fun b u e => by rw [upd_ne (ne_of_none e h)]; exact e
/-- what is told of tables stays, too -/
structure KeepsT (K : PySem.W.Frag) (B : Addr → Prop) (H H' : Hp) : Prop extends Keeps B H H' where
  tab : Tb K H → Tb K H'
section
variable {K : PySem.W.Frag}
theorem KeepsT.refl (B : Addr → Prop) (H : Hp) : KeepsT K B H H := ⟨Keeps.refl B H, fun t => t⟩
theorem KeepsT.trans {B B' : Addr → Prop} {H H1 H2 : Hp} (k : KeepsT K B H H1) (k' : KeepsT K B' H1 H2) (sub : ∀ a, B' a → B a ∨ H a = none) : KeepsT K B H H2 := ⟨k.toKeeps.trans k'.toKeeps sub, fun t => k'.tab (k.tab t)⟩
theorem KeepsT.new {B : Addr → Prop} {H : Hp} {p : Addr} {o : HO} (h : H p = none) : KeepsT K B H (upd H p o) := ⟨Keeps.new h, fun t => t.new h⟩
theorem KeepsT.write {B : Addr → Prop} {H : Hp} {p : Addr} {o u : HO} (h : H p = some u) (hb : B p) (hm : isMut u = true) : KeepsT K B H (upd H p o) := ⟨Keeps.write h hb hm, fun t => t.write h hm⟩
theorem KeepsT.wider {B B' : Addr → Prop} {H H' : Hp} (k : KeepsT K B H H') (s : ∀ a, B a → B' a) : KeepsT K B' H H' := ⟨k.toKeeps.wider s, k.tab⟩
end
section
variable {K : PySem.W.Frag} {β β' : List Addr} {H H' : Hp} {B : Addr → Prop}
mutual
/-- each node is a tracked list or dict -/
theorem Rds.node : ∀ (t : T) {v : V} {n : List Addr}, Rds K β H t v n → ∀ a ∈ n, ∃ o, H a = some o ∧ isMut o = true
  | .non, v, n, h => by obtain ⟨_, rfl⟩ := h; intro a ha; cases ha
  | .bl _, v, n, h => by obtain ⟨_, rfl⟩ := h; intro a ha; cases ha
  | .int _, v, n, h => by obtain ⟨_, rfl⟩ := h; intro a ha; cases ha
  | .str _, v, n, h => by obtain ⟨_, rfl⟩ := h; intro a ha; cases ha
  | .lst xs, v, n, h => by
    obtain ⟨a, vs, m, _, e, r, rfl⟩ := h
    intro b hb
    rcases List.mem_cons.mp hb with rfl | hb
    · exact ⟨_, e, rfl⟩
    · exact RdsL.node xs r b hb
  | .tup xs, v, n, h => by
    obtain ⟨a, vs, _, e, r⟩ := h
    exact RdsL.node xs r
  | .dk ks xs, v, n, h => by
    obtain ⟨a, vs, m, _, e, _, r, rfl⟩ := h
    intro b hb
    rcases List.mem_cons.mp hb with rfl | hb
    · exact ⟨_, e, rfl⟩
    · exact RdsL.node xs r b hb
  | .dt ks xs, v, n, h => by
    obtain ⟨a, vs, m, _, e, _, r, rfl⟩ := h
    intro b hb
    rcases List.mem_cons.mp hb with rfl | hb
    · exact ⟨_, e, rfl⟩
    · exact RdsL.node xs r b hb
  | .scr _, v, n, h => by obtain ⟨_, _, rfl, _⟩ := h; intro a ha; cases ha
  | .box _, v, n, h => by obtain ⟨_, _, _, rfl⟩ := h; intro a ha; cases ha
theorem RdsL.node : ∀ (ts : List T) {vs : List V} {n : List Addr}, RdsL K β H ts vs n → ∀ a ∈ n, ∃ o, H a = some o ∧ isMut o = true
  | [], vs, n, h => by obtain ⟨_, rfl⟩ := h; intro a ha; cases ha
  | x :: xs, vs, n, h => by
    obtain ⟨v, ws, m, k, _, r1, r2, rfl⟩ := h
    intro a ha
    rcases List.mem_append.mp ha with ha | ha
    · exact Rds.node x r1 a ha
    · exact RdsL.node xs r2 a ha
end
mutual
/-- a tree stays where its nodes do -/
theorem Rds.keep (k : Keeps B H H') (hβ : ∀ (i : Nat) (a : Addr), β[i]? = some a → β'[i]? = some a) : ∀ (t : T) {v : V} {n : List Addr}, Rds K β H t v n → (∀ a ∈ n, ¬ B a) → Rds K β' H' t v n
  | .non, v, n, h, _ => h
  | .bl _, v, n, h, _ => h
  | .int _, v, n, h, _ => h
  | .str _, v, n, h, _ => h
  | .lst xs, v, n, h, hn => by
    obtain ⟨a, vs, m, e1, e, r, rfl⟩ := h
    exact ⟨a, vs, m, e1, k.keep a _ e (hn a List.mem_cons_self) (fun _ z => by cases z), RdsL.keep k hβ xs r (fun b hb => hn b (List.mem_cons_of_mem _ hb)), rfl⟩
  | .tup xs, v, n, h, hn => by
    obtain ⟨a, vs, e1, e, r⟩ := h
    exact ⟨a, vs, e1, k.tup a _ e, RdsL.keep k hβ xs r hn⟩
  | .dk ks xs, v, n, h, hn => by
    obtain ⟨a, vs, m, e1, e, l, r, rfl⟩ := h
    exact ⟨a, vs, m, e1, k.keep a _ e (hn a List.mem_cons_self) (fun _ z => by cases z), l, RdsL.keep k hβ xs r (fun b hb => hn b (List.mem_cons_of_mem _ hb)), rfl⟩
  | .dt ks xs, v, n, h, hn => by
    obtain ⟨a, vs, m, e1, e, l, r, rfl⟩ := h
    exact ⟨a, vs, m, e1, k.keep a _ e (hn a List.mem_cons_self) (fun _ z => by cases z), l, RdsL.keep k hβ xs r (fun b hb => hn b (List.mem_cons_of_mem _ hb)), rfl⟩
  | .scr ns, v, n, h, _ => by
    obtain ⟨a, e1, e2, h⟩ := h
    refine ⟨a, e1, e2, ?_⟩
    rcases h with ⟨o, h⟩ | h
    · exact .inl ⟨o, k.frz a o _ h⟩
    · exact .inr h
  | .box i, v, n, h, _ => by
    obtain ⟨a, e1, e2, e3⟩ := h
    exact ⟨a, e1, hβ _ _ e2, e3⟩
theorem RdsL.keep (k : Keeps B H H') (hβ : ∀ (i : Nat) (a : Addr), β[i]? = some a → β'[i]? = some a) : ∀ (ts : List T) {vs : List V} {n : List Addr}, RdsL K β H ts vs n → (∀ a ∈ n, ¬ B a) → RdsL K β' H' ts vs n
  | [], vs, n, h, _ => h
  | x :: xs, vs, n, h, hn => by
    obtain ⟨v, ws, m, j, e, r1, r2, rfl⟩ := h
    exact ⟨v, ws, m, j, e, Rds.keep k hβ x r1 (fun a ha => hn a (List.mem_append_left _ ha)), RdsL.keep k hβ xs r2 (fun a ha => hn a (List.mem_append_right _ ha)), rfl⟩
end
mutual
/-- without a list or a dict there is no node -/
theorem Rds.nil : ∀ (t : T) {v : V} {n : List Addr}, Rds K β H t v n → nodeless t = true → n = []
  | .non, v, n, h, _ => h.2
  | .bl _, v, n, h, _ => h.2
  | .int _, v, n, h, _ => h.2
  | .str _, v, n, h, _ => h.2
  | .lst _, v, n, h, e => by simp [nodeless] at e
  | .tup xs, v, n, h, e => by
    obtain ⟨a, vs, _, _, r⟩ := h
    exact RdsL.nil xs r (by simpa [nodeless] using e)
  | .dk _ _, v, n, h, e => by simp [nodeless] at e
  | .dt _ _, v, n, h, e => by simp [nodeless] at e
  | .scr _, v, n, h, _ => by obtain ⟨_, _, e, _⟩ := h; exact e
  | .box _, v, n, h, _ => by obtain ⟨_, _, _, e⟩ := h; exact e
theorem RdsL.nil : ∀ (ts : List T) {vs : List V} {n : List Addr}, RdsL K β H ts vs n → nodelessL ts = true → n = []
  | [], vs, n, h, _ => h.2
  | x :: xs, vs, n, h, e => by
    obtain ⟨v, ws, m, j, _, r1, r2, rfl⟩ := h
    have e' : nodeless x = true ∧ nodelessL xs = true := by simpa [nodelessL] using e
    rw [Rds.nil x r1 e'.1, RdsL.nil xs r2 e'.2]
    rfl
end
mutual
/-- one value, one tree: the nodes are told by the tree and the value -/
theorem Rds.uniq : ∀ (t : T) {v : V} {n m : List Addr}, Rds K β H t v n → Rds K β H t v m → n = m
  | .non, v, n, m, h, h' => by rw [h.2, h'.2]
  | .bl _, v, n, m, h, h' => by rw [h.2, h'.2]
  | .int _, v, n, m, h, h' => by rw [h.2, h'.2]
  | .str _, v, n, m, h, h' => by rw [h.2, h'.2]
  | .lst xs, v, n, m, h, h' => by
    obtain ⟨a, vs, k, rfl, e, r, rfl⟩ := h
    obtain ⟨a', vs', k', e1, e', r', rfl⟩ := h'
    cases e1
    rw [e] at e'; cases e'
    rw [RdsL.uniq xs r r']
  | .tup xs, v, n, m, h, h' => by
    obtain ⟨a, vs, rfl, e, r⟩ := h
    obtain ⟨a', vs', e1, e', r'⟩ := h'
    cases e1
    rw [e] at e'; cases e'
    exact RdsL.uniq xs r r'
  | .dk ks xs, v, n, m, h, h' => by
    obtain ⟨a, vs, k, rfl, e, l, r, rfl⟩ := h
    obtain ⟨a', vs', k', e1, e', l', r', rfl⟩ := h'
    cases e1
    rw [e] at e'
    have e2 := congrArg (fun z => match z with | some (HO.dK q) => q.map Prod.snd | _ => []) e'
    simp only [List.map_snd_zip (Nat.le_of_eq l.1.symm), List.map_snd_zip (Nat.le_of_eq l'.1.symm)] at e2
    subst e2
    rw [RdsL.uniq xs r r']
  | .dt ks xs, v, n, m, h, h' => by
    obtain ⟨a, vs, k, rfl, e, l, r, rfl⟩ := h
    obtain ⟨a', vs', k', e1, e', l', r', rfl⟩ := h'
    cases e1
    rw [e] at e'
    have e2 := congrArg (fun z => match z with | some (HO.dT q) => q.map Prod.snd | _ => []) e'
    simp only [List.map_snd_zip (Nat.le_of_eq l.1.symm), List.map_snd_zip (Nat.le_of_eq l'.1.symm)] at e2
    subst e2
    rw [RdsL.uniq xs r r']
  | .scr _, v, n, m, h, h' => by
    obtain ⟨_, _, e, _⟩ := h
    obtain ⟨_, _, e', _⟩ := h'
    rw [e, e']
  | .box _, v, n, m, h, h' => by
    obtain ⟨_, _, _, e⟩ := h
    obtain ⟨_, _, _, e'⟩ := h'
    rw [e, e']
theorem RdsL.uniq : ∀ (ts : List T) {vs : List V} {n m : List Addr}, RdsL K β H ts vs n → RdsL K β H ts vs m → n = m
  | [], vs, n, m, h, h' => by rw [h.2, h'.2]
  | x :: xs, vs, n, m, h, h' => by
    obtain ⟨v, ws, k, j, rfl, r1, r2, rfl⟩ := h
    obtain ⟨v', ws', k', j', e, r1', r2', rfl⟩ := h'
    cases e
    rw [Rds.uniq x r1 r1', RdsL.uniq xs r2 r2']
end
/-! ### lists of trees -/
theorem RdsL.length : ∀ {ts : List T} {vs : List V} {n : List Addr}, RdsL K β H ts vs n → vs.length = ts.length
  | [], vs, n, h => by rw [h.1] <;> rfl
  | x :: xs, vs, n, h => by
    obtain ⟨v, ws, m, k, rfl, _, r2, _⟩ := h
    simp [RdsL.length r2]
theorem RdsL.append : ∀ {ts ss : List T} {vs ws : List V} {n m : List Addr}, RdsL K β H ts vs n → RdsL K β H ss ws m → RdsL K β H (ts ++ ss) (vs ++ ws) (n ++ m)
  | [], ss, vs, ws, n, m, h, h' => by rw [h.1, h.2]; exact h'
  | x :: xs, ss, vs, ws, n, m, h, h' => by
    obtain ⟨v, us, k, j, rfl, r1, r2, rfl⟩ := h
    exact ⟨v, us ++ ws, k, j ++ m, rfl, r1, RdsL.append r2 h', by rw [List.append_assoc]⟩
/-- the nodes of each, one behind another -/
theorem RdsL.split : ∀ {ts ss : List T} {vs : List V} {n : List Addr}, RdsL K β H (ts ++ ss) vs n → ∃ v1 v2 n1 n2, vs = v1 ++ v2 ∧ n = n1 ++ n2 ∧ RdsL K β H ts v1 n1 ∧ RdsL K β H ss v2 n2
  | [], ss, vs, n, h => ⟨[], vs, [], n, rfl, rfl, ⟨rfl, rfl⟩, h⟩
  | x :: xs, ss, vs, n, h => by
    obtain ⟨v, ws, m, k, rfl, r1, r2, rfl⟩ := h
    obtain ⟨v1, v2, n1, n2, rfl, rfl, h1, h2⟩ := RdsL.split (ts := xs) r2
    exact ⟨v :: v1, v2, m ++ n1, n2, rfl, by rw [List.append_assoc], ⟨v, v1, m, n1, rfl, r1, h1, rfl⟩, h2⟩
theorem RdsL.one {t : T} {vs : List V} {n : List Addr} : RdsL K β H [t] vs n ↔ ∃ v, vs = [v] ∧ Rds K β H t v n := by
  constructor
  · rintro ⟨v, ws, m, k, rfl, r, ⟨rfl, rfl⟩, rfl⟩
    exact ⟨v, rfl, by rw [List.append_nil]; exact r⟩
  · rintro ⟨v, rfl, r⟩
    exact ⟨v, [], n, [], rfl, r, ⟨rfl, rfl⟩, by rw [List.append_nil]⟩
/-- the i-th -/
theorem RdsL.at {ts : List T} {vs : List V} {n : List Addr} (h : RdsL K β H ts vs n) {i : Nat} {t : T} (e : ts[i]? = some t) :
    ∃ v n1 m n2, vs[i]? = some v ∧ n = n1 ++ (m ++ n2) ∧ Rds K β H t v m ∧ RdsL K β H (ts.take i) (vs.take i) n1 ∧ RdsL K β H (ts.drop (i + 1)) (vs.drop (i + 1)) n2 := by
  induction i generalizing ts vs n with
  | zero =>
    cases ts with
    | nil => simp at e
    | cons x xs =>
      simp at e; subst e
      obtain ⟨v, ws, m, k, rfl, r1, r2, rfl⟩ := h
      exact ⟨v, [], m, k, by simp, by simp, r1, ⟨by simp, rfl⟩, by simpa using r2⟩
  | succ i ih =>
    cases ts with
    | nil => simp at e
    | cons x xs =>
      obtain ⟨v, ws, m, k, rfl, r1, r2, rfl⟩ := h
      obtain ⟨v', n1, m', n2, e1, rfl, r, h1, h2⟩ := ih r2 (by simpa using e)
      exact ⟨v', m ++ n1, m', n2, by simpa using e1, by simp, r, ⟨v, ws.take i, m, n1, by simp, r1, h1, rfl⟩, by simpa using h2⟩
theorem RdsL.get {ts : List T} {vs : List V} {n : List Addr} (h : RdsL K β H ts vs n) {i : Nat} {v : V} (e : vs[i]? = some v) : ∃ t, ts[i]? = some t := by
  have l := h.length
  have hi : i < vs.length := (List.getElem?_eq_some_iff.mp e).1
  exact ⟨ts[i]'(by omega), List.getElem?_eq_getElem _⟩
/-- a part: its nodes are a part -/
theorem RdsL.takeN {ts : List T} {vs : List V} {n : List Addr} (h : RdsL K β H ts vs n) (i : Nat) : ∃ n1 n2, n = n1 ++ n2 ∧ RdsL K β H (ts.take i) (vs.take i) n1 ∧ RdsL K β H (ts.drop i) (vs.drop i) n2 := by
  have l := h.length
  rw [← List.take_append_drop i ts] at h
  obtain ⟨v1, v2, n1, n2, e1, e2, h1, h2⟩ := h.split
  have l1 := h1.length
  have l2 : v1.length = min i ts.length := by rw [l1, List.length_take]
  have t1 : vs.take i = v1 := by
    rw [e1]
    by_cases hi : i ≤ ts.length
    · rw [List.take_append_of_le_length (by omega), List.take_of_length_le (by omega)]
    · have : v2 = [] := by
        have := h2.length
        have z : (ts.drop i).length = 0 := by rw [List.length_drop]; omega
        rw [z] at this
        exact List.length_eq_zero_iff.mp this
      rw [this, List.append_nil, List.take_of_length_le (by omega)]
  have t2 : vs.drop i = v2 := by
    rw [e1]
    by_cases hi : i ≤ ts.length
    · rw [List.drop_append_of_le_length (by omega), List.drop_eq_nil_of_le (by omega), List.nil_append]
    · have : v2 = [] := by
        have := h2.length
        have z : (ts.drop i).length = 0 := by rw [List.length_drop]; omega
        rw [z] at this
        exact List.length_eq_zero_iff.mp this
      rw [this, List.append_nil, List.drop_eq_nil_of_le (by omega)]
  exact ⟨n1, n2, e2, by rw [t1]; exact h1, by rw [t2]; exact h2⟩
end
end MP

/-! C2: boxes, the state of an expression, what a value leans on. -/
namespace MP
open PySem L2

/-! ### what a value leans on, read off the text -/
/-- dp: slots whose things may be in it; dc: lists whose children may be in it; lin: nothing stands twice in it; top: the thing itself is new -/
structure Inf where
  dp : List Nat
  dc : List Nat
  lin : Bool
  top : Bool
  self : Option Nat := none
def Inf.nil : Inf := ⟨[], [], true, true, none⟩
def Inf.non (i : Inf) : Bool := i.dp.isEmpty && i.dc.isEmpty
/-- the kinds of the slots, of the defs' results -/
structure Sg where
  ka : List SK
  rk : List RK
def Sg.k (g : Sg) (i : Nat) : SK := (g.ka[i]?).getD .S
def disj (a b : List Nat) : Bool := a.all fun i => !b.contains i
def Inf.join (g : Sg) (x r : Inf) : Inf := ⟨x.dp ++ r.dp, x.dc ++ r.dc, x.lin && r.lin && x.dc.isEmpty && r.dc.isEmpty && disj x.dp r.dp && x.dp.all (fun i => g.k i == .D) && r.dp.all (fun i => g.k i == .D), true, none⟩
/-- .. where nothing is told of the whole -/
def Inf.mix (x r : Inf) : Inf := ⟨x.dp ++ r.dp, x.dc ++ r.dc, false, false, none⟩
/-- of the children of the value -/
def kidI (g : Sg) (i : Inf) : Inf := match i.self with
  | some j => ⟨[], [j], false, false, none⟩
  | none => ⟨i.dp, i.dc, i.lin, false, none⟩
def Inf.newTop (i : Inf) : Inf := ⟨i.dp, i.dc, i.lin, true, none⟩
def Inf.noTop (i : Inf) : Inf := ⟨i.dp, i.dc, i.lin, false, none⟩
def rkInf (rk : RK) (i : Inf) : Inf := match rk with
  | .I => .nil
  | .D => .nil
  | .P => ⟨i.dp, i.dc, false, true, none⟩
  | .S => ⟨i.dp, i.dc, false, false, none⟩
/-- a comprehension's: its own names stand for the items -/
def lcInf (own : List Nat) (el it : Inf) : Inf :=
  let dp := el.dp.filter fun i => !own.contains i
  let dc := el.dc.filter fun i => !own.contains i
  let u := el.dp.any (fun i => own.contains i) || el.dc.any (fun i => own.contains i)
  ⟨if u then dp ++ it.dp else dp, if u then dc ++ it.dc else dc, el.lin && dp.isEmpty && dc.isEmpty && !u, true, none⟩
mutual
def info (g : Sg) : IE → Inf
  | .var i => ⟨[i], [], g.k i == .D, false, if g.k i = .P then some i else none⟩
  | .bin op a b => (match op with
    | .add => (kidI g (info g a)).join g (kidI g (info g b))
    | .mul => ((kidI g (info g a)).mix (kidI g (info g b))).newTop
    | _ => .nil)
  | .bop _ as => (infoLast g as).noTop
  | .ite _ a b => ⟨(info g a).dp ++ (info g b).dp, (info g a).dc ++ (info g b).dc, (info g a).lin && (info g b).lin, (info g a).top && (info g b).top, none⟩
  | .lst as => infoS g as
  | .tup as => infoL g as
  | .sub a _ => (kidI g (info g a)).noTop
  | .slc a _ _ => (kidI g (info g a)).newTop
  | .rev a => (kidI g (info g a)).newTop
  | .call f as kw => rkInf ((g.rk[f]?).getD .S) ((infoL g as).mix (infoK g kw))
  | .bi b as => (match b, as with
    | .list, [a] => (kidI g (info g a)).newTop
    | .tuple, [a] => (kidI g (info g a)).newTop
    | .sorted, [a] => (kidI g (info g a)).newTop
    | .dict, [a] => (kidI g (info g a)).newTop
    | _, _ => .nil)
  | .meth m a as => (match m with
    | .get1 => ((kidI g (info g a)).mix (infoL g as))
    | .get2 => ((kidI g (info g a)).mix (infoL g as))
    | .items => ((kidI g (info g a)).mix (infoL g as))
    | .values => ((kidI g (info g a)).mix (infoL g as))
    | _ => .nil)
  | .lc elt tg it _ => lcInf tg.slots (info g elt) (infoI g it)
  | .lof _ it => (infoI g it).newTop
  | .met vs b _ _ fr => (match fr with
    | true => (info g b).join g .nil
    | false => ⟨vs, [], false, false, none⟩)
  | .itm a => (kidI g (info g a)).newTop
  | .flat a => if (info g a).top then .nil else ⟨(info g a).dp, (info g a).dc, (info g a).dp.all (fun i => g.k i == .D), false, none⟩
  | .ls a => info g a
  | _ => .nil
def infoLast (g : Sg) : List IE → Inf
  | [] => .nil
  | [a] => info g a
  | _ :: as => infoLast g as
def infoS (g : Sg) : List (Bool × IE) → Inf
  | [] => .nil
  | (st, a) :: as => (if st then kidI g (info g a) else info g a).join g (infoS g as)
def infoL (g : Sg) : List IE → Inf
  | [] => .nil
  | a :: as => (info g a).join g (infoL g as)
def infoK (g : Sg) : List (Nat × IE) → Inf
  | [] => .nil
  | (_, a) :: as => (info g a).join g (infoK g as)
/-- of the items that are walked -/
def infoI (g : Sg) : II → Inf
  | .seq a => kidI g (info g a)
  | .enum a => kidI g (info g a)
  | .zip a b => (kidI g (info g a)).mix (kidI g (info g b))
  | .items a => kidI g (info g a)
  | _ => .nil
end

/-- of the walked thing as a whole -/
def infoW (g : Sg) : II → Inf
  | .seq a => info g a
  | .enum a => info g a
  | .zip a b => (info g a).mix (info g b)
  | .keys a => info g a
  | .items a => info g a
  | _ => .nil
/-! ### boxes -/
/-- the boxes' nodes -/
def Bx (β : List Addr) (bn : Nat → List Addr) : Addr → Prop := fun a => ∃ k, k < β.length ∧ a ∈ bn k
structure BoxOk (K : PySem.W.Frag) (β : List Addr) (H : Hp) (μ : Mem) (bn : Nat → List Addr) : Prop where
  len : β.length = μ.length
  rd : ∀ (k : Nat) (t : T), μ[k]? = some t → ∃ a, β[k]? = some a ∧ Rds K β H t (.ref a) (bn k) ∧ boxless t = true ∧ (bn k).Nodup
  dj : ∀ k l, k ≠ l → k < β.length → l < β.length → ∀ a ∈ bn k, a ∉ bn l
  tb : Tb K H
/-- a step of the heap: all but the boxes stays; the boxes are boxes still -/
structure Step (K : PySem.W.Frag) (β : List Addr) (bn : Nat → List Addr) (H H' : Hp) (μ' : Mem) (bn' : Nat → List Addr) : Prop where
  keep : Keeps (Bx β bn) H H'
  box : BoxOk K β H' μ' bn'
  sub : ∀ a, Bx β bn' a → Bx β bn a ∨ H a = none
theorem Step.refl {K : PySem.W.Frag} {β : List Addr} {bn : Nat → List Addr} {H : Hp} {μ : Mem} (b : BoxOk K β H μ bn) : Step K β bn H H μ bn := ⟨Keeps.refl _ _, b, fun _ z => .inl z⟩
theorem Step.trans {K : PySem.W.Frag} {β : List Addr} {bn bn1 bn2 : Nat → List Addr} {H H1 H2 : Hp} {μ1 μ2 : Mem} (s : Step K β bn H H1 μ1 bn1) (t : Step K β bn1 H1 H2 μ2 bn2) : Step K β bn H H2 μ2 bn2 where
  keep := s.keep.trans t.keep s.sub
  box := t.box
  sub := fun a z => by
    rcases t.sub a z with z | z
    · exact s.sub a z
    · exact .inr (s.keep.more a z)
/-- a box's nodes are tracked -/
theorem BoxOk.node {K : PySem.W.Frag} {β : List Addr} {H : Hp} {μ : Mem} {bn : Nat → List Addr} (b : BoxOk K β H μ bn) {a : Addr} (h : Bx β bn a) : ∃ o, H a = some o ∧ isMut o = true := by
  obtain ⟨k, hk, ha⟩ := h
  have hk' : k < μ.length := by rw [← b.len]; exact hk
  obtain ⟨c, _, r, _⟩ := b.rd k μ[k] (List.getElem?_eq_getElem hk')
  exact r.node _ a ha
/-- a new thing -/
theorem Step.new {K : PySem.W.Frag} {β : List Addr} {bn : Nat → List Addr} {H : Hp} {μ : Mem} {p : Addr} {o : HO} (b : BoxOk K β H μ bn) (h : H p = none) : Step K β bn H (upd H p o) μ bn where
  keep := Keeps.new h
  box := ⟨b.len, fun k t e => by
    obtain ⟨a, e1, r, bl, nd⟩ := b.rd k t e
    exact ⟨a, e1, r.keep (B := fun _ => False) (Keeps.new h) (fun _ _ e => e) t (fun _ _ z => z), bl, nd⟩, b.dj, b.tb.new h⟩
  sub := fun a z => .inl z

/-! ### the state of an expression -/
/-- a list, a dict -/
def isNode : T → Bool
  | .lst _ => true
  | .dk _ _ => true
  | .dt _ _ => true
  | _ => false
structure ESt (K : PySem.W.Frag) (g : Sg) (β : List Addr) (H : Hp) (ρ : Env) (σ : St) (μ : Mem) (ns : Nat → List Addr) (bn : Nat → List Addr) : Prop where
  box : BoxOk K β H μ bn
  len : ρ.length = σ.length
  sl : ∀ i t, getV ρ i = some t → ∃ v, σ[i]? = some (some v) ∧ Rds K β H t v (ns i)
  no : ∀ i, getV ρ i = none → ns i = []
  sb : ∀ i a, a ∈ ns i → ¬ Bx β bn a
  dn : ∀ i, g.k i = .D → (ns i).Nodup
  dd : ∀ i j, i ≠ j → g.k i = .D → g.k j = .D → ∀ a ∈ ns i, a ∉ ns j
  pk : ∀ i t, g.k i = .P → getV ρ i = some t → isNode t = true ∨ ns i = []
theorem ESt.node {K : PySem.W.Frag} {g : Sg} {β : List Addr} {H : Hp} {ρ : Env} {σ : St} {μ : Mem} {ns bn : Nat → List Addr} (S : ESt K g β H ρ σ μ ns bn) {i : Nat} {a : Addr} (h : a ∈ ns i) : ∃ o, H a = some o ∧ isMut o = true := by
  cases e : getV ρ i with
  | none => rw [S.no i e] at h; cases h
  | some t =>
    obtain ⟨v, _, r⟩ := S.sl i t e
    exact r.node t a h
theorem ESt.step {K : PySem.W.Frag} {g : Sg} {β : List Addr} {H H' : Hp} {ρ : Env} {σ : St} {μ μ' : Mem} {ns bn bn' : Nat → List Addr} (S : ESt K g β H ρ σ μ ns bn) (s : Step K β bn H H' μ' bn') : ESt K g β H' ρ σ μ' ns bn' where
  box := s.box
  len := S.len
  sl := fun i t e => by
    obtain ⟨v, e1, r⟩ := S.sl i t e
    exact ⟨v, e1, r.keep s.keep (fun _ _ z => z) t (S.sb i)⟩
  no := S.no
  sb := fun i a h z => by
    rcases s.sub a z with z | z
    · exact S.sb i a h z
    · obtain ⟨o, e, _⟩ := S.node h
      rw [e] at z; cases z
  dn := S.dn
  dd := S.dd
  pk := S.pk

theorem getV_mask {ρ : Env} {vs : List Nat} {i : Nat} : getV (maskV ρ vs) i = if vs.contains i then getV ρ i else none := by
  unfold maskV
  by_cases h : i < ρ.length
  · show (match ((List.range ρ.length).map fun i => if vs.contains i then getV ρ i else none)[i]? with | some (some t) => some t | _ => none) = _
    rw [List.getElem?_map, List.getElem?_range h]
    show (match some (if vs.contains i then getV ρ i else none) with | some (some t) => some t | _ => none) = _
    cases (if vs.contains i = true then getV ρ i else none) <;> rfl
  · have e : getV ρ i = none := by
      unfold getV
      rw [List.getElem?_eq_none (by omega)]
    rw [e]
    show (match ((List.range ρ.length).map fun i => if vs.contains i then getV ρ i else none)[i]? with | some (some t) => some t | _ => none) = _
    rw [List.getElem?_eq_none (by rw [List.length_map, List.length_range]; omega)]
    show none = _
    split <;> rfl
/-- the slots' nodes, some slots alone -/
def maskN (ns : Nat → List Addr) (vs : List Nat) : Nat → List Addr := fun i => if vs.contains i then ns i else []
theorem maskN_sub {ns : Nat → List Addr} {vs : List Nat} {i : Nat} {a : Addr} (h : a ∈ maskN ns vs i) : i ∈ vs ∧ a ∈ ns i := by
  unfold maskN at h
  split at h
  · rename_i q; exact ⟨by simpa using q, h⟩
  · cases h
theorem ESt.mask {K : PySem.W.Frag} {g : Sg} {β : List Addr} {H : Hp} {ρ : Env} {σ : St} {μ : Mem} {ns bn : Nat → List Addr} (S : ESt K g β H ρ σ μ ns bn) (vs : List Nat) : ESt K g β H (maskV ρ vs) σ μ (maskN ns vs) bn where
  box := S.box
  len := by unfold maskV; rw [List.length_map, List.length_range]; exact S.len
  sl := fun i t e => by
    rw [getV_mask] at e
    unfold maskN
    split at e
    · rename_i q; rw [if_pos q]; exact S.sl i t e
    · cases e
  no := fun i e => by
    rw [getV_mask] at e
    unfold maskN
    split at e
    · rename_i q; rw [if_pos q]; exact S.no i e
    · rename_i q; rw [if_neg q]
  sb := fun i a h => S.sb i a (maskN_sub h).2
  dn := fun i h => by
    unfold maskN
    split
    · exact S.dn i h
    · exact List.nodup_nil
  dd := fun i j hn h1 h2 a h z => S.dd i j hn h1 h2 a (maskN_sub h).2 (maskN_sub z).2
  pk := fun i t h e => by
    rw [getV_mask] at e
    unfold maskN
    split at e
    · rename_i q; rw [if_pos q]; exact S.pk i t h e
    · cases e
/-- what a value's nodes are, seen from the heap H ahead of it -/
structure Good (ns : Nat → List Addr) (H : Hp) (i : Inf) (t : T) (n : List Addr) : Prop where
  src : ∀ a ∈ n, H a = none ∨ (∃ j ∈ i.dp, a ∈ ns j) ∨ (∃ j ∈ i.dc, a ∈ (ns j).drop 1)
  lin : i.lin = true → n.Nodup
  top : i.top = true → isNode t = true → ∃ p m, n = p :: m ∧ H p = none ∧ p ∉ m
  self : ∀ j, i.self = some j → n = ns j ∧ (isNode t = true ∨ n = [])
theorem Good.nil {ns : Nat → List Addr} {H : Hp} {i : Inf} {t : T} (h : isNode t = false) (hs : i.self = none) : Good ns H i t [] where
  src := fun _ z => by cases z
  lin := fun _ => List.nodup_nil
  top := fun _ z => by rw [h] at z; cases z
  self := fun j z => by rw [hs] at z; cases z
/-- seen from further back -/
theorem Good.back {ns : Nat → List Addr} {B : Addr → Prop} {H H1 : Hp} {i : Inf} {t : T} {n : List Addr} (h : Good ns H1 i t n) (k : Keeps B H H1) : Good ns H i t n where
  src := fun a ha => (h.src a ha).imp_left (k.more a)
  lin := h.lin
  top := fun e1 e2 => by
    obtain ⟨p, m, e, q, nm⟩ := h.top e1 e2
    exact ⟨p, m, e, k.more p q, nm⟩
  self := h.self
/-- a value that came -/
structure Val (K : PySem.W.Frag) (β : List Addr) (bn' ns : Nat → List Addr) (H H' : Hp) (i : Inf) (t : T) (v : V) (n : List Addr) : Prop where
  rd : Rds K β H' t v n
  nb : ∀ a ∈ n, ¬ Bx β bn' a
  ok : Good ns H i t n
theorem Val.node {K : PySem.W.Frag} {β : List Addr} {bn' ns : Nat → List Addr} {H H' : Hp} {i : Inf} {t : T} {v : V} {n : List Addr} (x : Val K β bn' ns H H' i t v n) {a : Addr} (h : a ∈ n) : ∃ o, H' a = some o ∧ isMut o = true := x.rd.node t a h
/-- a value stays while the next ones come -/
theorem Val.step {K : PySem.W.Frag} {β : List Addr} {bn1 bn2 ns : Nat → List Addr} {H H1 H2 : Hp} {μ2 : Mem} {i : Inf} {t : T} {v : V} {n : List Addr} (x : Val K β bn1 ns H H1 i t v n) (s : Step K β bn1 H1 H2 μ2 bn2) : Val K β bn2 ns H H2 i t v n where
  rd := x.rd.keep s.keep (fun _ _ z => z) t x.nb
  nb := fun a h z => by
    rcases s.sub a z with z | z
    · exact x.nb a h z
    · obtain ⟨o, e, _⟩ := x.node h
      rw [e] at z; cases z
  ok := x.ok
/-- .. seen from further back -/
theorem Val.back {K : PySem.W.Frag} {β : List Addr} {bn' ns : Nat → List Addr} {B : Addr → Prop} {H H1 H' : Hp} {i : Inf} {t : T} {v : V} {n : List Addr} (x : Val K β bn' ns H1 H' i t v n) (k : Keeps B H H1) : Val K β bn' ns H H' i t v n := ⟨x.rd, x.nb, x.ok.back k⟩
/-- several values that came -/
structure Vls (K : PySem.W.Frag) (β : List Addr) (bn' ns : Nat → List Addr) (H H' : Hp) (i : Inf) (ts : List T) (vs : List V) (n : List Addr) : Prop where
  rd : RdsL K β H' ts vs n
  nb : ∀ a ∈ n, ¬ Bx β bn' a
  src : ∀ a ∈ n, H a = none ∨ (∃ j ∈ i.dp, a ∈ ns j) ∨ (∃ j ∈ i.dc, a ∈ (ns j).drop 1)
  lin : i.lin = true → n.Nodup
theorem Vls.node {K : PySem.W.Frag} {β : List Addr} {bn' ns : Nat → List Addr} {H H' : Hp} {i : Inf} {ts : List T} {vs : List V} {n : List Addr} (x : Vls K β bn' ns H H' i ts vs n) {a : Addr} (h : a ∈ n) : ∃ o, H' a = some o ∧ isMut o = true := x.rd.node ts a h
theorem Vls.step {K : PySem.W.Frag} {β : List Addr} {bn1 bn2 ns : Nat → List Addr} {H H1 H2 : Hp} {μ2 : Mem} {i : Inf} {ts : List T} {vs : List V} {n : List Addr} (x : Vls K β bn1 ns H H1 i ts vs n) (s : Step K β bn1 H1 H2 μ2 bn2) : Vls K β bn2 ns H H2 i ts vs n where
  rd := x.rd.keep s.keep (fun _ _ z => z) ts x.nb
  nb := fun a h z => by
    rcases s.sub a z with z | z
    · exact x.nb a h z
    · obtain ⟨o, e, _⟩ := x.node h
      rw [e] at z; cases z
  src := x.src
  lin := x.lin
theorem Vls.back {K : PySem.W.Frag} {β : List Addr} {bn' ns : Nat → List Addr} {B : Addr → Prop} {H H1 H' : Hp} {i : Inf} {ts : List T} {vs : List V} {n : List Addr} (x : Vls K β bn' ns H1 H' i ts vs n) (k : Keeps B H H1) : Vls K β bn' ns H H' i ts vs n :=
  ⟨x.rd, x.nb, fun a ha => (x.src a ha).imp_left (k.more a), x.lin⟩
theorem Vls.nil {K : PySem.W.Frag} {β : List Addr} {bn' ns : Nat → List Addr} {H H' : Hp} {i : Inf} : Vls K β bn' ns H H' i [] [] [] where
  rd := ⟨rfl, rfl⟩
  nb := fun _ z => by cases z
  src := fun _ z => by cases z
  lin := fun _ => List.nodup_nil

theorem mem_disj {a b : List Nat} (h : disj a b = true) {i : Nat} (x : i ∈ a) (y : i ∈ b) : False := by
  have := List.all_eq_true.mp h i x
  simp at this
  exact this y
/-- the first values, then the further ones: those lean on H, these on H1 -/
theorem Vls.append {K : PySem.W.Frag} {g : Sg} {β : List Addr} {bn bn1 bn2 ns : Nat → List Addr} {H H1 H2 : Hp} {ρ : Env} {σ : St} {μ μ1 μ2 : Mem} {i j : Inf} {ts ss : List T} {vs ws : List V} {n m : List Addr} (S : ESt K g β H ρ σ μ ns bn)
    (x : Vls K β bn1 ns H H1 i ts vs n) (s1 : Step K β bn H H1 μ1 bn1) (y : Vls K β bn2 ns H1 H2 j ss ws m) (s : Step K β bn1 H1 H2 μ2 bn2) : Vls K β bn2 ns H H2 (i.join g j) (ts ++ ss) (vs ++ ws) (n ++ m) where
  rd := (x.step s).rd.append y.rd
  nb := fun a ha => by
    rcases List.mem_append.mp ha with ha | ha
    · exact (x.step s).nb a ha
    · exact y.nb a ha
  src := fun a ha => by
    rcases List.mem_append.mp ha with ha | ha
    · rcases x.src a ha with h | ⟨k, h1, h2⟩ | ⟨k, h1, h2⟩
      · exact .inl h
      · exact .inr (.inl ⟨k, List.mem_append_left _ h1, h2⟩)
      · exact .inr (.inr ⟨k, List.mem_append_left _ h1, h2⟩)
    · rcases y.src a ha with h | ⟨k, h1, h2⟩ | ⟨k, h1, h2⟩
      · exact .inl (s1.keep.more a h)
      · exact .inr (.inl ⟨k, List.mem_append_right _ h1, h2⟩)
      · exact .inr (.inr ⟨k, List.mem_append_right _ h1, h2⟩)
  lin := fun e => by
    have e' : (i.lin && j.lin && i.dc.isEmpty && j.dc.isEmpty && disj i.dp j.dp && i.dp.all (fun k => g.k k == .D) && j.dp.all (fun k => g.k k == .D)) = true := e
    simp only [Bool.and_eq_true] at e'
    obtain ⟨⟨⟨⟨⟨⟨h1, h2⟩, h3⟩, h4⟩, h5⟩, h6⟩, h7⟩ := e'
    have kd : ∀ k ∈ i.dp, g.k k = .D := fun k hk => by simpa using List.all_eq_true.mp h6 k hk
    have kd' : ∀ k ∈ j.dp, g.k k = .D := fun k hk => by simpa using List.all_eq_true.mp h7 k hk
    refine List.nodup_append.mpr ⟨x.lin h1, y.lin h2, fun a ha b hb z => ?_⟩
    subst z
    have q1 : ∃ o, H1 a = some o := let ⟨o, e, _⟩ := x.node ha; ⟨o, e⟩
    have nodc : ∀ {l : List Nat}, l.isEmpty = true → ∀ k, k ∉ l := fun h k hk => by rw [List.isEmpty_iff.mp h] at hk; cases hk
    rcases y.src a hb with z | ⟨k, k1, k2⟩ | ⟨k, k1, _⟩
    · obtain ⟨o, q⟩ := q1; rw [q] at z; cases z
    · rcases x.src a ha with z | ⟨l, l1, l2⟩ | ⟨l, l1, _⟩
      · obtain ⟨o, q, _⟩ := S.node k2
        rw [q] at z; cases z
      · have hne : l ≠ k := fun z => mem_disj h5 l1 (z ▸ k1)
        exact S.dd l k hne (kd l l1) (kd' k k1) a l2 k2
      · exact nodc h3 l l1
    · exact nodc h4 k k1
end MP

/-! C3: the operations by values. -/
namespace MP
open PySem L2

theorem line_eq : line = sizeLine := by rw [PySem.sizeLine_eq] <;> rfl
/-- the nodes of a value's children -/
def kn (t : T) (n : List Addr) : List Addr := if isNode t then n.drop 1 else n
/-- nothing but new things: at most one -/
def New1 (H H' : Hp) : Prop := H' = H ∨ ∃ p o, H p = none ∧ H' = upd H p o
/-- what an operation hands on: a value that reads as r; its nodes come out of ks, a list or dict is new itself (nd: nothing comes twice) -/
def OutN (K : PySem.W.Frag) (β : List Addr) (H : Hp) (nd : Bool) (r : T) (ks : List Addr) (Q : VK) : Prop :=
  ∀ v H' n, New1 H H' → Rds K β H' r v n → (∃ k, (∀ a ∈ k, a ∈ ks) ∧ (nd = true → ks.Nodup → k.Nodup) ∧ ((isNode r = false ∧ n = k) ∨ ∃ p, H p = none ∧ n = p :: k)) → Q v H'
section
variable {K : PySem.W.Frag} {β : List Addr} {H H' : Hp}
theorem keepsN (h : New1 H H') : Keeps (fun _ => False) H H' := by
  rcases h with rfl | ⟨p, o, hp, rfl⟩
  · exact Keeps.refl _ _
  · exact Keeps.new hp
theorem Rds.new {t : T} {v : V} {n : List Addr} (h : Rds K β H t v n) (k : New1 H H') : Rds K β H' t v n := h.keep (B := fun _ => False) (keepsN k) (fun _ _ e => e) t (fun _ _ z => z)
theorem RdsL.new {ts : List T} {vs : List V} {n : List Addr} (h : RdsL K β H ts vs n) (k : New1 H H') : RdsL K β H' ts vs n := h.keep (B := fun _ => False) (keepsN k) (fun _ _ e => e) ts (fun _ _ z => z)
/-- a scalar is handed on -/
theorem OutN.scal {nd : Bool} {r : T} {ks : List Addr} {Q : VK} {v : V} (h : OutN K β H nd r ks Q) (e : Rds K β H r v []) (hn : isNode r = false) : Q v H :=
  h v H [] (.inl rfl) e ⟨[], (fun _ z => by cases z), (fun _ _ => List.nodup_nil), .inl ⟨hn, rfl⟩⟩
/-- a new list -/
theorem OutN.lst {nd : Bool} {ts : List T} {vs : List V} {m ks : List Addr} {Q : VK} (h : OutN K β H nd (.lst ts) ks Q) (r : RdsL K β H ts vs m) (h1 : ∀ a ∈ m, a ∈ ks) (h2 : nd = true → ks.Nodup → m.Nodup) : ∀ p, H p = none → Q (.ref p) (upd H p (.lst vs)) := fun p hp =>
  h _ _ (p :: m) (.inr ⟨p, _, hp, rfl⟩) ⟨p, vs, m, rfl, upd_same, r.new (.inr ⟨p, _, hp, rfl⟩), rfl⟩ ⟨m, h1, h2, .inr ⟨p, hp, rfl⟩⟩
/-- a new tuple -/
theorem OutN.tup {nd : Bool} {ts : List T} {vs : List V} {m ks : List Addr} {Q : VK} (h : OutN K β H nd (.tup ts) ks Q) (r : RdsL K β H ts vs m) (h1 : ∀ a ∈ m, a ∈ ks) (h2 : nd = true → ks.Nodup → m.Nodup) : ∀ p, H p = none → Q (.ref p) (upd H p (.tup vs)) := fun p hp =>
  h _ _ m (.inr ⟨p, _, hp, rfl⟩) ⟨p, vs, rfl, upd_same, r.new (.inr ⟨p, _, hp, rfl⟩)⟩ ⟨m, h1, h2, .inl ⟨rfl, rfl⟩⟩
/-- a tuple that stands -/
theorem OutN.old {nd : Bool} {ts : List T} {v : V} {m ks : List Addr} {Q : VK} (h : OutN K β H nd (.tup ts) ks Q) (r : Rds K β H (.tup ts) v m) (h1 : ∀ a ∈ m, a ∈ ks) (h2 : nd = true → ks.Nodup → m.Nodup) : Q v H :=
  h _ _ m (.inl rfl) r ⟨m, h1, h2, .inl ⟨rfl, rfl⟩⟩
theorem RdsL.ints : ∀ {ts : List T} {is : List Int} {vs : List V} {n : List Addr}, RdsL K β H ts vs n → intsOf ts = some is → vs = is.map V.int ∧ n = []
  | [], is, vs, n, h, e => by simp [intsOf] at e; subst e; exact ⟨h.1, h.2⟩
  | .int i :: r, is, vs, n, h, e => by
    obtain ⟨v, ws, m, k, rfl, r1, r2, rfl⟩ := h
    obtain ⟨rfl, rfl⟩ := r1
    unfold intsOf at e
    cases q : intsOf r with
    | none => rw [q] at e; cases e
    | some js =>
      rw [q] at e
      have e' : i :: js = is := Option.some.inj e
      subst e'
      obtain ⟨h1, h2⟩ := RdsL.ints r2 q
      exact ⟨by rw [h1] <;> rfl, by rw [h2] <;> rfl⟩
  | .non :: r, is, vs, n, h, e => by simp [intsOf] at e
  | .bl _ :: r, is, vs, n, h, e => by simp [intsOf] at e
  | .str _ :: r, is, vs, n, h, e => by simp [intsOf] at e
  | .lst _ :: r, is, vs, n, h, e => by simp [intsOf] at e
  | .tup _ :: r, is, vs, n, h, e => by simp [intsOf] at e
  | .dk _ _ :: r, is, vs, n, h, e => by simp [intsOf] at e
  | .dt _ _ :: r, is, vs, n, h, e => by simp [intsOf] at e
  | .scr _ :: r, is, vs, n, h, e => by simp [intsOf] at e
  | .box _ :: r, is, vs, n, h, e => by simp [intsOf] at e
theorem RdsL.ofInts : ∀ (is : List Int), RdsL K β H (is.map T.int) (is.map V.int) []
  | [] => ⟨rfl, rfl⟩
  | i :: is => ⟨.int i, is.map V.int, [], [], rfl, ⟨rfl, rfl⟩, RdsL.ofInts is, rfl⟩
theorem RdsL.rep {ts : List T} {vs : List V} {n : List Addr} (h : RdsL K β H ts vs n) : ∀ k : Nat, ∃ m, RdsL K β H (List.replicate k ts).flatten (List.replicate k vs).flatten m ∧ ∀ a ∈ m, a ∈ n
  | 0 => ⟨[], ⟨rfl, rfl⟩, (fun _ z => by cases z)⟩
  | k + 1 => by
    obtain ⟨m, r, s⟩ := RdsL.rep h k
    refine ⟨n ++ m, ?_, fun a ha => ?_⟩
    · rw [List.replicate_succ, List.replicate_succ, List.flatten_cons, List.flatten_cons]
      exact h.append r
    · rcases List.mem_append.mp ha with z | z
      · exact z
      · exact s a z
end
def BOp.py : BOp → Operator
  | .add => .Add | .sub => .Sub | .mul => .Mult | .fdiv => .FloorDiv | .mod => .Mod | .pow => .Pow
section
variable {X : Cx}
theorem OpR.weak {f : Value → Value → Sem Value} {r r' : R2} (h : OpR X f r) (w : ∀ x y H Q, r' x y H Q → r x y H Q) : OpR X f r' := fun pins s σ H x y v u Q I rx ry q => h pins s σ H x y v u Q I rx ry (w x y H Q q)
/-- two readings by cases of the values -/
theorem OpR.byCases {f : Value → Value → Sem Value} {r : R2} (h : ∀ x y H Q, r x y H Q → ∃ r', OpR X f r' ∧ r' x y H Q) : OpR X f r := fun pins s σ H x y v u Q I rx ry q => by
  obtain ⟨r', h', q'⟩ := h x y H Q q
  exact h' pins s σ H x y v u Q I rx ry q'
def rBin (K : PySem.W.Frag) (op : BOp) : R2 := fun x y H Q => ∃ β t u r n m, Rds K β H t x n ∧ Rds K β H u y m ∧ pBin op t u = some r ∧ OutN K β H (op != .mul) r (kn t n ++ kn u m) Q
theorem le_line {n : Nat} (h : Nat.ble n line = true) : n ≤ sizeLine := by
  rw [← line_eq]
  exact Nat.le_of_ble_eq_true h
theorem lt_line {n : Nat} (h : Nat.blt n line = true) : n < sizeLine := by
  rw [← line_eq]
  exact Nat.le_of_ble_eq_true h
theorem opBin (op : BOp) : OpR X (binaryOp op.py) (rBin X.K op) := OpR.byCases fun x y H Q h => by
  obtain ⟨β, t, u, r, n, m, h1, h2, e, q⟩ := h
  cases op with
  | sub =>
    cases t <;> cases u <;> simp only [pBin, reduceCtorEq, Option.some.injEq] at e
    subst e
    obtain ⟨rfl, rfl⟩ := h1
    obtain ⟨rfl, rfl⟩ := h2
    exact ⟨_, op_sub, _, _, rfl, rfl, q.scal ⟨rfl, rfl⟩ rfl⟩
  | fdiv =>
    cases t <;> cases u <;> simp only [pBin, reduceCtorEq] at e
    rename_i i j
    obtain ⟨rfl, rfl⟩ := h1
    obtain ⟨rfl, rfl⟩ := h2
    split at e
    · rename_i hc
      simp only [Option.some.injEq] at e
      subst e
      simp only [Bool.and_eq_true, Bool.or_eq_true, decide_eq_true_eq] at hc
      obtain ⟨h0, hc | ⟨h3, h4⟩⟩ := hc
      · exact ⟨_, op_fdivN, _, _, rfl, rfl, ⟨h0, Nat.le_of_ble_eq_true hc⟩, q.scal ⟨rfl, rfl⟩ rfl⟩
      · refine ⟨_, op_fdivW, _, _, rfl, rfl, ⟨h3, Nat.le_of_ble_eq_true h4⟩, q.scal ⟨?_, rfl⟩ rfl⟩
        rw [Int.fdiv_eq_ediv_of_nonneg _ (by omega)]
    · cases e
  | mod =>
    cases t <;> cases u <;> simp only [pBin, reduceCtorEq] at e
    obtain ⟨rfl, rfl⟩ := h1
    obtain ⟨rfl, rfl⟩ := h2
    split at e
    · rename_i hc
      simp only [Option.some.injEq] at e
      subst e
      exact ⟨_, op_modN, _, _, rfl, rfl, of_decide_eq_true hc, q.scal ⟨rfl, rfl⟩ rfl⟩
    · cases e
  | pow =>
    cases t <;> cases u <;> simp only [pBin, reduceCtorEq] at e
    obtain ⟨rfl, rfl⟩ := h1
    obtain ⟨rfl, rfl⟩ := h2
    split at e
    · rename_i hc
      simp only [Option.some.injEq] at e
      subst e
      simp only [Bool.and_eq_true, decide_eq_true_eq] at hc
      exact ⟨_, op_pow, _, _, rfl, rfl, ⟨hc.1.1, hc.1.2, Nat.le_of_ble_eq_true hc.2⟩, q.scal ⟨rfl, rfl⟩ rfl⟩
    · cases e
  | mul =>
    cases t <;> cases u <;> simp only [pBin, pMul, reduceCtorEq] at e
    · rename_i i j
      obtain ⟨rfl, rfl⟩ := h1
      obtain ⟨rfl, rfl⟩ := h2
      split at e
      · rename_i hc
        simp only [Option.some.injEq] at e
        subst e
        simp only [Bool.or_eq_true] at hc
        have hm : ∀ k : Int, inMul k = true → -(2 ^ 64) < k ∧ k < 2 ^ 64 := fun k h => by
          simp only [inMul, Bool.and_eq_true, decide_eq_true_eq] at h
          exact h
        rcases hc with (hc | hc) | hc
        · exact ⟨_, op_mul, _, _, rfl, rfl, .inl (hm _ hc), q.scal ⟨rfl, rfl⟩ rfl⟩
        · exact ⟨_, op_mul, _, _, rfl, rfl, .inr (hm _ hc), q.scal ⟨rfl, rfl⟩ rfl⟩
        · exact ⟨_, op_mulW, _, _, rfl, rfl, Nat.le_of_ble_eq_true hc, q.scal ⟨rfl, rfl⟩ rfl⟩
      · cases e
    · rename_i xs k
      obtain ⟨a, vs, m1, rfl, ea, ra, rfl⟩ := h1
      obtain ⟨rfl, rfl⟩ := h2
      split at e
      · rename_i hc
        simp only [Option.some.injEq] at e
        subst e
        simp only [Bool.and_eq_true, decide_eq_true_eq] at hc
        obtain ⟨m2, r2, s2⟩ := ra.rep k.toNat
        refine ⟨_, op_rep, a, k, vs, rfl, rfl, ea, hc.1.1, hc.1.2, ?_, q.lst r2 (fun b hb => ?_) (fun z => by cases z)⟩
        · rw [ra.length]; exact le_line hc.2
        · simpa [kn, isNode] using s2 b hb
      · cases e
  | add =>
    cases t <;> cases u <;> simp only [pBin, pAdd, reduceCtorEq, Option.some.injEq] at e
    · subst e
      obtain ⟨rfl, rfl⟩ := h1
      obtain ⟨rfl, rfl⟩ := h2
      exact ⟨_, op_add, _, _, rfl, rfl, q.scal ⟨rfl, rfl⟩ rfl⟩
    · obtain ⟨rfl, rfl⟩ := h1
      obtain ⟨rfl, rfl⟩ := h2
      split at e
      · rename_i hc
        simp only [Option.some.injEq] at e
        subst e
        exact ⟨_, op_add_str, _, _, rfl, rfl, le_line hc, q.scal ⟨rfl, rfl⟩ rfl⟩
      · cases e
    · obtain ⟨a, vs, m1, rfl, ea, ra, rfl⟩ := h1
      obtain ⟨b, ws, m2, rfl, eb, rb, rfl⟩ := h2
      split at e
      · rename_i hc
        simp only [Option.some.injEq] at e
        subst e
        refine ⟨_, op_cat, a, b, vs, ws, rfl, rfl, ea, eb, ?_, q.lst (ra.append rb) (fun c hc => ?_) (fun _ z => ?_)⟩
        · rw [ra.length, rb.length]; exact le_line hc
        · simpa [kn, isNode] using hc
        · simpa [kn, isNode] using z
      · cases e
    · obtain ⟨a, vs, rfl, ea, ra⟩ := h1
      obtain ⟨b, ws, rfl, eb, rb⟩ := h2
      split at e
      · rename_i hc
        simp only [Option.some.injEq] at e
        subst e
        rename_i xs ys
        refine ⟨_, op_catA, a, b, vs, ws, rfl, rfl, SqT.of ea, SqT.of eb, ?_, fun z => ?_, fun _ z => ?_, fun _ _ => q.tup (ra.append rb) (fun c hc => ?_) (fun _ z => ?_)⟩
        · rw [ra.length, rb.length]; exact le_line hc
        · subst z
          have l := ra.length
          have l' : xs = [] := List.length_eq_zero_iff.mp l.symm
          subst l'
          obtain ⟨_, rfl⟩ := ra
          exact q.old ⟨b, ws, rfl, eb, rb⟩ (fun c hc => by simpa [kn, isNode] using hc) (fun _ z => by simpa [kn, isNode] using z)
        · subst z
          have l := rb.length
          have l' : ys = [] := List.length_eq_zero_iff.mp l.symm
          subst l'
          obtain ⟨_, rfl⟩ := rb
          exact q.old (m := n) ⟨a, vs, rfl, ea, by simpa using ra⟩ (fun c hc => by simpa [kn, isNode] using hc) (fun _ z => by simpa [kn, isNode] using z)
        · simpa [kn, isNode] using hc
        · simpa [kn, isNode] using z
      · cases e
end
end MP

/-! C4: comparisons, subscripts, slices, isinstance by values. -/
namespace MP
open PySem L2
section
variable {K : PySem.W.Frag} {β : List Addr} {H H' : Hp}
mutual
/-- data as the library reads it -/
theorem datum_dp : ∀ (t : T) {d : Nat} {v : V} {n : List Addr}, Rds K β H t v n → datum d t = true → ∃ p, Dp K H v p ∧ p.canLay0 = true ∧ p.depth ≤ d ∧ dataOf t = some p
  | .non, d, v, n, h, _ => by obtain ⟨rfl, _⟩ := h; exact ⟨.none, .non, rfl, Nat.zero_le _, rfl⟩
  | .bl b, d, v, n, h, _ => by obtain ⟨rfl, _⟩ := h; exact ⟨.bool b, .bl b, rfl, Nat.zero_le _, rfl⟩
  | .int i, d, v, n, h, _ => by obtain ⟨rfl, _⟩ := h; exact ⟨.int i, .int i, rfl, Nat.zero_le _, rfl⟩
  | .str x, d, v, n, h, e => by
    obtain ⟨rfl, _⟩ := h
    exact ⟨.str x, .str x, by simpa [PyData.canLay0, PyData.strOk, datum] using e, Nat.zero_le _, rfl⟩
  | .lst xs, d, v, n, h, e => by
    obtain ⟨a, vs, m, rfl, ea, r, rfl⟩ := h
    cases d with
    | zero => simp [datum] at e
    | succ d =>
      obtain ⟨ps, h1, h2, h3, h4⟩ := datum_dpL xs r (by simpa [datum] using e)
      exact ⟨.list ps, .lst (SqL.of ea) h1, by simpa [PyData.canLay0] using h2, by simp [PyData.depth]; exact h3, by simp [dataOf, h4]⟩
  | .tup xs, d, v, n, h, e => by
    obtain ⟨a, vs, rfl, ea, r⟩ := h
    cases d with
    | zero => simp [datum] at e
    | succ d =>
      obtain ⟨ps, h1, h2, h3, h4⟩ := datum_dpL xs r (by simpa [datum] using e)
      exact ⟨.tuple ps, .tup (SqT.of ea) h1, by simpa [PyData.canLay0] using h2, by simp [PyData.depth]; exact h3, by simp [dataOf, h4]⟩
  | .dk _ _, d, v, n, h, e => by simp [datum] at e
  | .dt _ _, d, v, n, h, e => by simp [datum] at e
  | .scr _, d, v, n, h, e => by simp [datum] at e
  | .box _, d, v, n, h, e => by simp [datum] at e
theorem datum_dpL : ∀ (ts : List T) {d : Nat} {vs : List V} {n : List Addr}, RdsL K β H ts vs n → datumL d ts = true → ∃ ps, DpAll K H vs ps ∧ PyData.canLayAll0 ps = true ∧ PyData.depthAll ps ≤ d ∧ dataOfL ts = some ps
  | [], d, vs, n, h, _ => by obtain ⟨rfl, _⟩ := h; exact ⟨[], .nil, rfl, Nat.zero_le _, rfl⟩
  | x :: xs, d, vs, n, h, e => by
    obtain ⟨v, ws, m, k, rfl, r1, r2, rfl⟩ := h
    have e' : datum d x = true ∧ datumL d xs = true := by simpa [datumL] using e
    obtain ⟨p, h1, h2, h3, h4⟩ := datum_dp x r1 e'.1
    obtain ⟨ps, g1, g2, g3, g4⟩ := datum_dpL xs r2 e'.2
    exact ⟨p :: ps, .cons h1 g1, by simp [PyData.canLayAll0, h2, g2], by simp only [PyData.depthAll]; omega, by simp [dataOfL, h4, g4]⟩
end
mutual
theorem eqT_eqv : ∀ (t u : T) {p q : PyData}, dataOf t = some p → dataOf u = some q → p.canLay0 = true → q.canLay0 = true → eqT t u = PyData.eqv p q := by
  intro t u p q h1 h2 c1 c2
  cases t with
  | non => simp [dataOf] at h1; subst h1; cases u <;> simp [dataOf, Option.map_eq_some_iff] at h2 <;> first | (subst h2; rfl) | (obtain ⟨_, _, rfl⟩ := h2; rfl)
  | bl b => simp [dataOf] at h1; subst h1; cases u <;> simp [dataOf, Option.map_eq_some_iff] at h2 <;> first | (subst h2; simp [eqT, PyData.eqv]) | (obtain ⟨_, _, rfl⟩ := h2; rfl)
  | int i => simp [dataOf] at h1; subst h1; cases u <;> simp [dataOf, Option.map_eq_some_iff] at h2 <;> first | (subst h2; simp [eqT, PyData.eqv]; try rfl) | (obtain ⟨_, _, rfl⟩ := h2; rfl)
  | str x => simp [dataOf] at h1; subst h1; cases u <;> simp [dataOf, Option.map_eq_some_iff] at h2 <;> first | (subst h2; simp [eqT, PyData.eqv]; try rfl) | (obtain ⟨_, _, rfl⟩ := h2; rfl)
  | lst xs =>
    simp [dataOf, Option.map_eq_some_iff] at h1
    obtain ⟨ps, e1, rfl⟩ := h1
    cases u with
    | lst ys =>
      simp [dataOf, Option.map_eq_some_iff] at h2
      obtain ⟨qs, e2, rfl⟩ := h2
      simp only [eqT, PyData.eqv]
      exact eqTL_eqv xs ys e1 e2 (by simpa [PyData.canLay0] using c1) (by simpa [PyData.canLay0] using c2)
    | _ => simp [dataOf, Option.map_eq_some_iff] at h2 <;> first | (subst h2; rfl) | (obtain ⟨_, _, rfl⟩ := h2; rfl)
  | tup xs =>
    simp [dataOf, Option.map_eq_some_iff] at h1
    obtain ⟨ps, e1, rfl⟩ := h1
    cases u with
    | tup ys =>
      simp [dataOf, Option.map_eq_some_iff] at h2
      obtain ⟨qs, e2, rfl⟩ := h2
      simp only [eqT, PyData.eqv]
      exact eqTL_eqv xs ys e1 e2 (by simpa [PyData.canLay0] using c1) (by simpa [PyData.canLay0] using c2)
    | _ => simp [dataOf, Option.map_eq_some_iff] at h2 <;> first | (subst h2; rfl) | (obtain ⟨_, _, rfl⟩ := h2; rfl)
  | dk _ _ => simp [dataOf] at h1
  | dt _ _ => simp [dataOf] at h1
  | scr _ => simp [dataOf] at h1
  | box _ => simp [dataOf] at h1
theorem eqTL_eqv : ∀ (ts us : List T) {ps qs : List PyData}, dataOfL ts = some ps → dataOfL us = some qs → PyData.canLayAll0 ps = true → PyData.canLayAll0 qs = true → eqTL ts us = PyData.eqvAll ps qs := by
  intro ts us ps qs h1 h2 c1 c2
  cases ts with
  | nil =>
    simp [dataOfL] at h1; subst h1
    cases us with
    | nil => simp [dataOfL] at h2; subst h2; rfl
    | cons y ys =>
      simp only [dataOfL] at h2
      split at h2
      · cases h2; rfl
      · cases h2
  | cons x xs =>
    simp only [dataOfL] at h1
    split at h1
    · rename_i p ps' e1 e2
      cases h1
      cases us with
      | nil => simp [dataOfL] at h2; subst h2; rfl
      | cons y ys =>
        simp only [dataOfL] at h2
        split at h2
        · rename_i q qs' f1 f2
          cases h2
          have c1' : p.canLay0 = true ∧ PyData.canLayAll0 ps' = true := by simpa [PyData.canLayAll0] using c1
          have c2' : q.canLay0 = true ∧ PyData.canLayAll0 qs' = true := by simpa [PyData.canLayAll0] using c2
          simp only [eqTL, PyData.eqvAll]
          rw [eqT_eqv x y e1 f1 c1'.1 c2'.1, eqTL_eqv xs ys e2 f2 c1'.2 c2'.2]
        · cases h2
    · cases h1
end
/-! ### flat values, keys -/
def fV : T → V
  | .bl b => .bl b
  | .int i => .int i
  | .str x => .str x
  | _ => .non
theorem flat_v {t : T} {v : V} {n : List Addr} (h : Rds K β H t v n) (f : flatT t = true) : v = fV t ∧ flatV v = true := by
  cases t <;> simp [flatT] at f <;> (obtain ⟨rfl, _⟩ := h; exact ⟨rfl, rfl⟩)
theorem flat_eq {t u : T} (f : flatT t = true) (g : flatT u = true) : eqV (fV t) (fV u) = eqT t u := by
  cases t <;> simp [flatT] at f <;> cases u <;> simp [flatT] at g <;> first | rfl | simp [fV, eqV, eqT] | (simp [fV, eqV, eqT]; rfl)
theorem flat_list : ∀ {ts : List T} {vs : List V} {n : List Addr}, RdsL K β H ts vs n → ts.all flatT = true → vs.all flatV = true ∧ ∀ u, flatT u = true → (vs.any fun y => eqV y (fV u)) = ts.any fun y => eqT y u
  | [], vs, n, h, _ => by rw [h.1]; exact ⟨rfl, fun _ _ => rfl⟩
  | x :: xs, vs, n, h, e => by
    obtain ⟨v, ws, m, k, rfl, r1, r2, _⟩ := h
    have e' : flatT x = true ∧ xs.all flatT = true := by simpa using e
    obtain ⟨h1, h2⟩ := flat_v r1 e'.1
    obtain ⟨g1, g2⟩ := flat_list r2 e'.2
    refine ⟨by simp [h2]; simpa using g1, fun u hu => ?_⟩
    rw [List.any_cons, List.any_cons, g2 u hu, h1, flat_eq e'.1 hu]
theorem key_v {t : T} {k : Key} {v : V} {n : List Addr} (h : Rds K β H t v n) (e : keyT t = some k) : v = kV k := by
  cases t <;> simp [keyT] at e <;> (subst e; exact h.1)
theorem keys_v : ∀ {ts : List T} {ks : List Key} {vs : List V} {n : List Addr}, RdsL K β H ts vs n → keysT ts = some ks → vs = ks.map kV
  | [], ks, vs, n, h, e => by simp [keysT] at e; subst e; exact h.1
  | x :: xs, ks, vs, n, h, e => by
    obtain ⟨v, ws, m, k, rfl, r1, r2, _⟩ := h
    simp only [keysT] at e
    split at e
    · rename_i k1 ks1 e1 e2
      cases e
      rw [key_v r1 e1, keys_v r2 e2] <;> rfl
    · cases e
theorem valV_zip {κ : Type} [DecidableEq κ] (k : κ) : ∀ {ks : List κ} {ts : List T} {vs : List V} {n : List Addr}, RdsL K β H ts vs n → ks.length = vs.length →
    (findK k ks ts = none ∧ valV (ks.zip vs) k = none) ∨ ∃ t v m, findK k ks ts = some t ∧ valV (ks.zip vs) k = some v ∧ Rds K β H t v m ∧ m.Sublist n
  | [], ts, vs, n, h, l => by
    have : vs = [] := List.length_eq_zero_iff.mp l.symm
    subst this
    exact .inl ⟨by cases ts <;> rfl, by simp [valV]⟩
  | a :: ks, ts, vs, n, h, l => by
    cases ts with
    | nil => obtain ⟨rfl, _⟩ := h; cases l
    | cons t ts =>
      obtain ⟨v, ws, m, j, rfl, r1, r2, rfl⟩ := h
      by_cases z : k = a
      · subst z
        exact .inr ⟨t, v, m, by simp [findK], by simp [List.zip_cons_cons, valV_pos], r1, List.sublist_append_left _ _⟩
      · have z' : ¬ a = k := fun q => z q.symm
        rcases valV_zip k (ks := ks) r2 (by simpa using l) with ⟨h1, h2⟩ | ⟨t', v', m', h1, h2, h3, h4⟩
        · exact .inl ⟨by simp [findK, z, h1], by rw [List.zip_cons_cons, valV_neg (by exact z'), h2]⟩
        · exact .inr ⟨t', v', m', by simp [findK, z, h1], by rw [List.zip_cons_cons, valV_neg (by exact z'), h2], h3, h4.trans (List.sublist_append_right _ _)⟩
end
def COp.py : COp → CmpOp
  | .lt => .Lt | .le => .LtE | .gt => .Gt | .ge => .GtE | .eq => .Eq | .ne => .NotEq | .isN => .Is | .notN => .IsNot | .inn => .In | .nin => .NotIn
section
variable {X : Cx}
def rCmp (K : PySem.W.Frag) (op : COp) : R2 := fun x y H Q => ∃ β t u r n m, Rds K β H t x n ∧ Rds K β H u y m ∧ pCmp op t u = some r ∧ Q (.bl r) H
theorem op_dIn (hu : X.A.units + 1 < cLine) : OpR X (compareOp .In) (fun x y H Q => ∃ a o, y = .ref a ∧ DGet H a x o ∧ Q (.bl o.isSome) H) := fun pins s σ H x y v u Q I rx ry q => by
  obtain ⟨a, o, rfl, g, q⟩ := q
  obtain rfl : u = Value.ref a := ry
  exact d_in hu I g rx fun s' I' => ⟨.bl o.isSome, H, I', rfl, q⟩
theorem op_dNotIn (hu : X.A.units + 1 < cLine) : OpR X (compareOp .NotIn) (fun x y H Q => ∃ a o, y = .ref a ∧ DGet H a x o ∧ Q (.bl (!o.isSome)) H) := fun pins s σ H x y v u Q I rx ry q => by
  obtain ⟨a, o, rfl, g, q⟩ := q
  obtain rfl : u = Value.ref a := ry
  exact d_notIn hu I g rx fun s' I' => ⟨.bl (!o.isSome), H, I', rfl, q⟩
theorem isNon_v {K : PySem.W.Frag} {β : List Addr} {H : Hp} {t : T} {v : V} {n : List Addr} (h : Rds K β H t v n) : decide (v = .non) = isNon t := by
  cases t with
  | non => obtain ⟨rfl, _⟩ := h; rfl
  | bl _ => obtain ⟨rfl, _⟩ := h; rfl
  | int _ => obtain ⟨rfl, _⟩ := h; rfl
  | str _ => obtain ⟨rfl, _⟩ := h; rfl
  | lst _ => obtain ⟨_, _, _, rfl, _⟩ := h; rfl
  | tup _ => obtain ⟨_, _, rfl, _⟩ := h; rfl
  | dk _ _ => obtain ⟨_, _, _, rfl, _⟩ := h; rfl
  | dt _ _ => obtain ⟨_, _, _, rfl, _⟩ := h; rfl
  | scr _ => obtain ⟨_, rfl, _⟩ := h; rfl
  | box _ => obtain ⟨_, rfl, _⟩ := h; rfl
/-- x in c, its answer -/
theorem pIn_ok {K : PySem.W.Frag} {β : List Addr} {H : Hp} {t u : T} {x y : V} {r : Bool} {n m : List Addr} (h1 : Rds K β H t x n) (h2 : Rds K β H u y m) (e : pIn t u = some r) :
    (∃ p xs, y = .ref p ∧ (SqL K H p xs ∨ SqT K H p xs) ∧ flatV x = true ∧ xs.all flatV = true ∧ inV x xs = r) ∨ ∃ a o, y = .ref a ∧ DGet H a x o ∧ o.isSome = r := by
  cases u with
  | lst xs =>
    obtain ⟨a, vs, m1, rfl, ea, ra, _⟩ := h2
    simp only [pIn] at e
    split at e
    · rename_i hc
      cases e
      simp only [Bool.and_eq_true] at hc
      obtain ⟨g1, g2⟩ := flat_list ra hc.2
      obtain ⟨f1, f2⟩ := flat_v h1 hc.1
      exact .inl ⟨a, vs, rfl, .inl (SqL.of ea), f2, g1, by rw [f1]; exact g2 t hc.1⟩
    · cases e
  | tup xs =>
    obtain ⟨a, vs, rfl, ea, ra⟩ := h2
    simp only [pIn] at e
    split at e
    · rename_i hc
      cases e
      simp only [Bool.and_eq_true] at hc
      obtain ⟨g1, g2⟩ := flat_list ra hc.2
      obtain ⟨f1, f2⟩ := flat_v h1 hc.1
      exact .inl ⟨a, vs, rfl, .inr (SqT.of ea), f2, g1, by rw [f1]; exact g2 t hc.1⟩
    · cases e
  | dk ks ts =>
    obtain ⟨a, vs, m1, rfl, ea, l, ra, _⟩ := h2
    simp only [pIn] at e
    split at e
    · rename_i k hk
      cases e
      have hx := key_v h1 hk
      subst hx
      refine .inr ⟨a, _, rfl, DGet.k ea, ?_⟩
      rcases valV_zip k ra l.1 with ⟨h1, h2⟩ | ⟨t', v', m', h1, h2, _⟩ <;> rw [h1, h2] <;> rfl
    · cases e
  | dt ks ts =>
    obtain ⟨a, vs, m1, rfl, ea, l, ra, _⟩ := h2
    simp only [pIn] at e
    split at e
    · rename_i us
      split at e
      · rename_i k hk
        cases e
        obtain ⟨b, ws, rfl, eb, rb⟩ := h1
        have hx := keys_v rb hk
        subst hx
        refine .inr ⟨a, _, rfl, DGet.t ea eb, ?_⟩
        rcases valV_zip k ra l.1 with ⟨h1, h2⟩ | ⟨t', v', m', h1, h2, _⟩ <;> rw [h1, h2] <;> rfl
      · cases e
    · cases e
  | _ => simp [pIn] at e
theorem opCmp (hu : X.A.units + 65 < cLine) (op : COp) : OpR X (compareOp op.py) (rCmp X.K op) := OpR.byCases fun x y H Q h => by
  obtain ⟨β, t, u, r, n, m, h1, h2, e, q⟩ := h
  cases op with
  | eq =>
    simp only [pCmp] at e
    split at e
    · rename_i hc
      cases e
      simp only [Bool.and_eq_true] at hc
      obtain ⟨p, d1, c1, l1, e1⟩ := datum_dp t h1 hc.1
      obtain ⟨p', d2, c2, l2, e2⟩ := datum_dp u h2 hc.2
      refine ⟨_, op_eqD (by omega), p, p', d1, d2, ?_, ?_, ?_⟩
      · simp [SeqAt.shaped, c1]; omega
      · simp [SeqAt.shaped, c2]; omega
      · rw [← eqT_eqv t u e1 e2 c1 c2]; exact q
    · cases e
  | ne =>
    simp only [pCmp] at e
    split at e
    · rename_i hc
      cases e
      simp only [Bool.and_eq_true] at hc
      obtain ⟨p, d1, c1, l1, e1⟩ := datum_dp t h1 hc.1
      obtain ⟨p', d2, c2, l2, e2⟩ := datum_dp u h2 hc.2
      refine ⟨_, op_neD (by omega), p, p', d1, d2, ?_, ?_, ?_⟩
      · simp [SeqAt.shaped, c1]; omega
      · simp [SeqAt.shaped, c2]; omega
      · rw [← eqT_eqv t u e1 e2 c1 c2]; exact q
    · cases e
  | isN =>
    simp only [pCmp] at e
    split at e
    · cases e
      obtain ⟨rfl, _⟩ := h2
      exact ⟨_, op_isN, rfl, by rw [isNon_v h1]; exact q⟩
    · cases e
  | notN =>
    simp only [pCmp] at e
    split at e
    · cases e
      obtain ⟨rfl, _⟩ := h2
      exact ⟨_, op_notN, rfl, by rw [isNon_v h1]; exact q⟩
    · cases e
  | inn =>
    simp only [pCmp] at e
    rcases pIn_ok h1 h2 e with ⟨p, xs, rfl, hs, f1, f2, rfl⟩ | ⟨a, o, rfl, g, rfl⟩
    · exact ⟨_, op_in_seq, p, xs, rfl, hs, f1, f2, q⟩
    · exact ⟨_, op_dIn (by omega), a, o, rfl, g, q⟩
  | nin =>
    simp only [pCmp, Option.map_eq_some_iff] at e
    obtain ⟨r', e, rfl⟩ := e
    rcases pIn_ok h1 h2 e with ⟨p, xs, rfl, hs, f1, f2, rfl⟩ | ⟨a, o, rfl, g, rfl⟩
    · exact ⟨_, op_notIn_seq, p, xs, rfl, hs, f1, f2, q⟩
    · exact ⟨_, op_dNotIn (by omega), a, o, rfl, g, q⟩
  | lt =>
    cases t <;> cases u <;> simp only [pCmp, reduceCtorEq, Option.some.injEq] at e
    subst e; obtain ⟨rfl, rfl⟩ := h1; obtain ⟨rfl, rfl⟩ := h2
    exact ⟨_, op_lt, _, _, rfl, rfl, q⟩
  | le =>
    cases t <;> cases u <;> simp only [pCmp, reduceCtorEq, Option.some.injEq] at e
    subst e; obtain ⟨rfl, rfl⟩ := h1; obtain ⟨rfl, rfl⟩ := h2
    exact ⟨_, op_le, _, _, rfl, rfl, q⟩
  | gt =>
    cases t <;> cases u <;> simp only [pCmp, reduceCtorEq, Option.some.injEq] at e
    subst e; obtain ⟨rfl, rfl⟩ := h1; obtain ⟨rfl, rfl⟩ := h2
    exact ⟨_, op_gt, _, _, rfl, rfl, q⟩
  | ge =>
    cases t <;> cases u <;> simp only [pCmp, reduceCtorEq, Option.some.injEq] at e
    subst e; obtain ⟨rfl, rfl⟩ := h1; obtain ⟨rfl, rfl⟩ := h2
    exact ⟨_, op_ge, _, _, rfl, rfl, q⟩
end
end MP

/-! C5: subscripts, slices, isinstance, built-in functions by values. -/
namespace MP
open PySem L2
section
variable {X : Cx}
theorem IxR.byCases {r : R2} (h : ∀ x y H Q, r x y H Q → ∃ r', IxR X r' ∧ r' x y H Q) : IxR X r := fun value slice pins s σ H x y v u Q I rx ry q hs => by
  obtain ⟨r', h', q'⟩ := h x y H Q q
  exact h' value slice pins s σ H x y v u Q I rx ry q' hs
theorem ix_dict (hu : X.A.units + 1 < cLine) : IxR X (fun x y H Q => ∃ a v, x = .ref a ∧ DGet H a y (some v) ∧ Q v H) := fun value slice pins s σ H x y v u Q I rx ry q hs => by
  obtain ⟨a, z, rfl, g, q⟩ := q
  obtain rfl : v = Value.ref a := rx
  exact PyProof.Rows.tail_any (dict_typeIs I g) PySem.F.slot_dict_getitem.lookup (d_getItem hu I g ry fun w' s' I' rw' => ⟨z, H, I', rw', q⟩) hs
def rSub (K : PySem.W.Frag) : R2 := fun x y H Q => ∃ β t u r n m, Rds K β H t x n ∧ Rds K β H u y m ∧ pSub t u = some r ∧ ∀ v k, Rds K β H r v k → k.Sublist (kn t n) → Q v H
theorem at_ok {K : PySem.W.Frag} {β : List Addr} {H : Hp} {xs : List T} {vs : List V} {n : List Addr} {i : Int} {r : T} (h : RdsL K β H xs vs n) (e : atT xs i = some r) : ∃ v k, atI vs i = some v ∧ Rds K β H r v k ∧ k.Sublist n := by
  unfold atT at e
  split at e
  · rename_i j hj
    obtain ⟨v, n1, m, n2, e1, rfl, r1, _, _⟩ := h.at e
    refine ⟨v, m, ?_, r1, ?_⟩
    · unfold atI
      rw [h.length, hj]
      exact e1
    · exact (List.sublist_append_left m n2).trans (List.sublist_append_right n1 (m ++ n2))
  · cases e
theorem ixSub (hu : X.A.units + 1 < cLine) : IxR X (rSub X.K) := IxR.byCases fun x y H Q h => by
  obtain ⟨β, t, u, r, n, m, h1, h2, e, q⟩ := h
  cases t with
  | lst xs =>
    obtain ⟨a, vs, m1, rfl, ea, ra, rfl⟩ := h1
    cases u <;> simp only [pSub, reduceCtorEq] at e
    obtain ⟨rfl, rfl⟩ := h2
    obtain ⟨v, k, e1, r1, s1⟩ := at_ok ra e
    exact ⟨_, ix_list, a, vs, _, v, rfl, rfl, SqL.of ea, e1, q v k r1 (by simpa [kn, isNode] using s1)⟩
  | tup xs =>
    obtain ⟨a, vs, rfl, ea, ra⟩ := h1
    cases u <;> simp only [pSub, reduceCtorEq] at e
    obtain ⟨rfl, rfl⟩ := h2
    obtain ⟨v, k, e1, r1, s1⟩ := at_ok ra e
    exact ⟨_, ix_tup, a, vs, _, v, rfl, rfl, SqT.of ea, e1, q v k r1 (by simpa [kn, isNode] using s1)⟩
  | dk ks ts =>
    obtain ⟨a, vs, m1, rfl, ea, l, ra, rfl⟩ := h1
    simp only [pSub] at e
    split at e
    · rename_i k hk
      have hy := key_v h2 hk
      subst hy
      rcases valV_zip k ra l.1 with ⟨h1, _⟩ | ⟨t', v', m', g1, g2, g3, g4⟩
      · rw [h1] at e; cases e
      · rw [g1] at e; cases e
        exact ⟨_, ix_dict hu, a, v', rfl, g2 ▸ DGet.k ea, q v' m' g3 (by simpa [kn, isNode] using g4)⟩
    · cases e
  | dt ks ts =>
    obtain ⟨a, vs, m1, rfl, ea, l, ra, rfl⟩ := h1
    cases u <;> simp only [pSub, reduceCtorEq] at e
    split at e
    · rename_i k hk
      obtain ⟨b, ws, rfl, eb, rb⟩ := h2
      have hy := keys_v rb hk
      subst hy
      rcases valV_zip k ra l.1 with ⟨h1, _⟩ | ⟨t', v', m', g1, g2, g3, g4⟩
      · rw [h1] at e; cases e
      · rw [g1] at e; cases e
        exact ⟨_, ix_dict hu, a, v', rfl, g2 ▸ DGet.t ea eb, q v' m' g3 (by simpa [kn, isNode] using g4)⟩
    · cases e
  | _ => cases u <;> simp [pSub] at e
/-! ### slices -/
theorem cut_ok {K : PySem.W.Frag} {β : List Addr} {H : Hp} {xs : List T} {vs : List V} {n : List Addr} (h : RdsL K β H xs vs n) (lo hi : Option Int) : ∃ m, RdsL K β H (cutT xs lo hi) (cutV vs lo hi) m ∧ m.Sublist n := by
  unfold cutT cutV
  rw [h.length]
  obtain ⟨n1, n2, rfl, _, r2⟩ := h.takeN (HT.sIx xs.length 0 lo)
  obtain ⟨n3, n4, rfl, r3, _⟩ := r2.takeN (HT.sIx xs.length xs.length hi - HT.sIx xs.length 0 lo)
  exact ⟨n3, r3, (List.sublist_append_left n3 n4).trans (List.sublist_append_right n1 _)⟩
theorem SlR.byCases {r : V → Option Int → Option Int → Hp → VK → Prop} (h : ∀ x lo hi H Q, r x lo hi H Q → ∃ r', SlR X r' ∧ r' x lo hi H Q) : SlR X r := fun pins s σ H x v vl vu lo hi sl Q I rx h1 h2 h3 q => by
  obtain ⟨r', h', q'⟩ := h x lo hi H Q q
  exact h' pins s σ H x v vl vu lo hi sl Q I rx h1 h2 h3 q'
def rSlc (K : PySem.W.Frag) : V → Option Int → Option Int → Hp → VK → Prop := fun x lo hi H Q => ∃ β t r n, Rds K β H t x n ∧ pSlc t lo hi = some r ∧ OutN K β H true r (kn t n) Q
theorem cut_whole {α : Type} (xs : List α) {a b : Nat} (ha : a = 0) (hb : b = xs.length) : (xs.drop a).take (b - a) = xs := by subst ha hb; simp
theorem slSlc : SlR X (rSlc X.K) := SlR.byCases fun x lo hi H Q h => by
  obtain ⟨β, t, r, n, h1, e, q⟩ := h
  cases t <;> simp only [pSlc, reduceCtorEq, Option.some.injEq] at e
  · subst e
    obtain ⟨a, vs, m1, rfl, ea, ra, rfl⟩ := h1
    obtain ⟨m, r2, s2⟩ := cut_ok ra lo hi
    exact ⟨_, sl_list, a, vs, rfl, SqL.of ea, q.lst r2 (fun b hb => by simpa [kn, isNode] using s2.subset hb) (fun _ z => (by simpa [kn, isNode] using z : m1.Nodup).sublist s2)⟩
  · subst e
    obtain ⟨a, vs, rfl, ea, ra⟩ := h1
    obtain ⟨m, r2, s2⟩ := cut_ok ra lo hi
    rename_i xs
    refine ⟨_, sl_tupA, a, vs, rfl, SqT.of ea, fun z => ?_, fun _ => q.tup r2 (fun b hb => by simpa [kn, isNode] using s2.subset hb) (fun _ z => (by simpa [kn, isNode] using z : n.Nodup).sublist s2)⟩
    have e : cutT xs lo hi = xs := cut_whole xs (by rw [ra.length] at z; exact z.1) (by rw [ra.length] at z; exact z.2)
    rw [e] at q
    exact q.old ⟨a, vs, rfl, ea, ra⟩ (fun b hb => by simpa [kn, isNode] using hb) (fun _ z => by simpa [kn, isNode] using z)
/-! ### isinstance -/
def tyN : T → String
  | .non => "NoneType" | .bl _ => "bool" | .int _ => "int" | .str _ => "str" | .lst _ => "list" | .tup _ => "tuple" | .dk _ _ => "dict" | .dt _ _ => "dict" | .scr _ => "list" | .box _ => "list"
def tyK : List String := ["NoneType", "bool", "int", "str", "list", "tuple", "dict"]
def kN (a : String) (c : Ty) : Bool := (a == c.nm) || (a == "bool" && c == .int)
theorem kit_tab : (tyK.all fun a => [Ty.int, .bool, .str, .list, .tuple, .dict].all fun c => kitB a c.nm == some (kN a c)) = true := by decide +kernel
theorem tyN_mem (t : T) : tyN t ∈ tyK := by cases t <;> simp [tyN, tyK]
theorem kTy_eq (t : T) (ht : ∀ k, t ≠ .box k) (c : Ty) : kN (tyN t) c = kTy t c := by
  cases t <;> cases c <;> first | rfl | (exact absurd rfl (ht _)) | decide
theorem kit_of_ty {K : PySem.W.Frag} (t : T) (ht : ∀ k, t ≠ .box k) (c : Ty) : PySem.W.kitOne K (.type (tyN t)) (.type c.nm) = some (kTy t c) := by
  refine kit_ty ?_
  have h1 := List.all_eq_true.mp kit_tab (tyN t) (tyN_mem t)
  have h2 := List.all_eq_true.mp h1 c (by cases c <;> simp)
  rw [← kTy_eq t ht c]
  exact eq_of_beq h2
theorem kitAny_of {K : PySem.W.Frag} (t : T) (ht : ∀ k, t ≠ .box k) : ∀ cs : List Ty, PySem.W.kitAny K (.type (tyN t)) (cs.map fun c => .type c.nm) = some (cs.any (kTy t))
  | [] => kitAny_nil
  | c :: cs => by
    refine kitAny_cons (b := kTy t c) (kit_of_ty t ht c) (fun h => ?_) (fun h => by simp [h])
    rw [kitAny_of t ht cs, List.any_cons, h] <;> rfl
theorem ty_of {K : PySem.W.Frag} {β : List Addr} {H : Hp} (t : T) {v : V} {n : List Addr} (h : Rds K β H t v n) (ht : ∀ k, t ≠ .box k) : TyX K H v (.type (tyN t)) := by
  cases t with
  | non => obtain ⟨rfl, _⟩ := h; exact .base .non
  | bl b => obtain ⟨rfl, _⟩ := h; exact .base (.bl b)
  | int i => obtain ⟨rfl, _⟩ := h; exact .base (.int i)
  | str x => obtain ⟨rfl, _⟩ := h; exact .base (.str x)
  | lst xs => obtain ⟨a, vs, m, rfl, e, _⟩ := h; exact .base (.lst e)
  | tup xs => obtain ⟨a, vs, rfl, e, _⟩ := h; exact .base (.tup e)
  | dk ks xs => obtain ⟨a, vs, m, rfl, e, _⟩ := h; exact .base (.dK e)
  | dt ks xs => obtain ⟨a, vs, m, rfl, e, _⟩ := h; exact .base (.dT e)
  | scr ns =>
    obtain ⟨a, rfl, _, h⟩ := h
    rcases h with ⟨o, h⟩ | ⟨o, its, m, h1, h2, _⟩
    · exact .base (.frz h)
    · exact .kList h1 h2
  | box k => exact absurd rfl (ht k)
theorem cls_all : ∀ cs : List Ty, Paired ClsV (cs.map fun c => V.ty c.nm) (cs.map fun c => Value.type c.nm)
  | [] => .nil
  | c :: cs => .cons (.ty _) (cls_all cs)
end
end MP

/-! C6: built-in functions by values. -/
namespace MPS
open PySem PyProof.Rows
section
variable {prog : Program} {w : World} {A : Around} {E : Value → Shared → Prop} {s : Shared}
/-- sorted of a list or a tuple of ints -/
theorem sortedOf {it : Addr} {T : String} {o : Obj} {its : List Value} {n : Nat} {ns : List Int} {Q : Value → Shared → Prop} (hT : T = "list" ∨ T = "tuple") (ho : s.heap.get? it = some o) (hc : o.cls = .type T) (hd : o.data = .seq its.toArray n)
    (hI : IntsAre its ns) (hz : its.length ≤ sizeLine)
    (hQ : ∀ (h1 h' : Heap) (p : Addr) (out : List Value) (ns' : List Int) (e : Nat), (∀ b u, s.heap.get? b = some u → h1.get? b = some u) → (∀ b u, h1.get? b = some u → h'.get? b = some u) → h1.objs.size ≤ p → h'.get? p = some (seqObj "list" out.toArray e) →
      IntsAre out ns' → ns'.Perm ns → ns'.Pairwise (· ≤ ·) → Q (.ref p) { s with heap := h' }) : wpAny (model prog w) A (call (.builtin "sorted") [.ref it]) Q E s := by
  refine Calls.call_function_entry kind_sorted plain_sorted entry_sorted (args_sorted1 _) ?_
  unfold Builtin.«sorted»
  refine wpAny_bind (m := checkCount "sorted" 1 1 _) (wpAny_pure ?_)
  refine wpAny_bind (wpAny_collect_seq it hT ho hc hd (fun h1 k1 => ?_) (by rw [List.size_toArray]; exact hz))
  refine wpAny_bind (wpAny_newList ?_ hz)
  have h0 : (h1.push (seqObj "list" its.toArray 0)).get? h1.objs.size = some (seqObj "list" its.toArray 0) := Heap.get?_push_size _ rfl
  refine wpAny_bind (wpAny_holding (wpAny_call_entry slot_list_sort ⟨_, h0, rfl⟩ entry_list_sort
    (SrtO.list_sort_ord (n := 0) (s := { s with heap := h1.push (seqObj "list" its.toArray 0) }) SrtO.swo_int h0 hz (fun h2 => SrtO.ints_sortable hI h2) fun out hs hb => ⟨_, rfl, ?_⟩) (args_list_sort _)))
  obtain ⟨g1, g2, g3⟩ := SrtO.ints_out hI hs hb
  obtain ⟨e, he⟩ := sortedHeap_at (out := out.toArray) h0
  refine wpAny_pure ⟨_, rfl, hQ h1 _ _ out _ e k1 (fun b u hb => ?_) (Nat.le_refl _) he g1 g2 g3⟩
  have hlt := Heap.lt_size hb
  show (sortedHeap (h1.push (seqObj "list" its.toArray 0)) h1.objs.size its out.toArray).get? b = some u
  rw [sortedHeap_old (Nat.ne_of_lt hlt) (by rw [size_push']; exact Nat.lt_succ_of_lt hlt)]
  exact Heap.get?_push_of_some _ hb
/-- sum of a tuple of ints -/
theorem sumT {t : Addr} {its : List Value} {ns : List Int} {Q : Value → Shared → Prop} (hh : A.handled = none) (ht : s.heap.IsTuple t its.toArray) (hi : IntsAre its ns)
    (h : ∀ h' tk t', (∀ b o, s.heap.get? b = some o → h'.get? b = some o) → Q (.int ns.sum t') { s with heap := h', toks := tk }) : wpAny (model prog w) A (call (.builtin "sum") [.ref t]) Q E s := by
  obtain ⟨xs, e⟩ := hi.allInts.items
  have hn : numsOf (intItems xs).toList = ns := by rw [← e]; exact hi.numsOf
  rw [nums_intItems] at hn
  rw [e] at ht
  refine PySem.W.ktm_sumG hh ht fun h' tk t' hk => ?_
  have z := h h' tk t' hk
  rw [preSum_eq, List.take_of_length_le (by simp), hn]
  exact z
end
end MPS

namespace MP
open PySem L2
/-! ### plain facts -/
theorem ins_perm (i : Int) : ∀ l : List Int, (ins i l).Perm (i :: l)
  | [] => List.Perm.refl _
  | j :: r => by
    unfold ins
    split
    · exact List.Perm.refl _
    · exact ((ins_perm i r).cons j).trans (List.Perm.swap i j r)
theorem isort_perm : ∀ l : List Int, (isort l).Perm l
  | [] => List.Perm.refl _
  | i :: r => (ins_perm i (isort r)).trans ((isort_perm r).cons i)
theorem ins_sorted (i : Int) : ∀ l : List Int, l.Pairwise (· ≤ ·) → (ins i l).Pairwise (· ≤ ·)
  | [], _ => List.pairwise_singleton _ _
  | j :: r, h => by
    unfold ins
    split
    · rename_i hc
      exact List.pairwise_cons.mpr ⟨fun k hk => by
        rcases List.mem_cons.mp hk with rfl | hk
        · exact hc
        · exact Int.le_trans hc (List.rel_of_pairwise_cons h hk), h⟩
    · rename_i hc
      refine List.pairwise_cons.mpr ⟨fun k hk => ?_, ins_sorted i r h.tail⟩
      rcases List.mem_cons.mp ((ins_perm i r).mem_iff.mp hk) with rfl | hk
      · omega
      · exact List.rel_of_pairwise_cons h hk
theorem isort_sorted : ∀ l : List Int, (isort l).Pairwise (· ≤ ·)
  | [] => List.Pairwise.nil
  | i :: r => ins_sorted i _ (isort_sorted r)
theorem sorted_uniq {a b : List Int} (p : a.Perm b) (ha : a.Pairwise (· ≤ ·)) (hb : b.Pairwise (· ≤ ·)) : a = b :=
  p.eq_of_pairwise (fun x y _ _ h1 h2 => Int.le_antisymm h1 h2) ha hb
theorem lmax_foldl : ∀ (l : List Int) (m : Int), lmax m l = l.foldl max m
  | [], m => rfl
  | i :: r, m => by
    unfold lmax
    rw [lmax_foldl r, List.foldl_cons]
    congr 1
    split <;> omega
theorem lmin_foldl : ∀ (l : List Int) (m : Int), lmin m l = l.foldl min m
  | [], m => rfl
  | i :: r, m => by
    unfold lmin
    rw [lmin_foldl r, List.foldl_cons]
    congr 1
    split <;> omega
theorem lmax_spec : ∀ (l : List Int) (m : Int), lmax m l ∈ m :: l ∧ ∀ x ∈ m :: l, x ≤ lmax m l
  | [], m => ⟨List.mem_cons_self, fun x hx => by simp at hx; simp [lmax, hx]⟩
  | i :: r, m => by
    unfold lmax
    obtain ⟨h1, h2⟩ := lmax_spec r (if m < i then i else m)
    refine ⟨?_, fun x hx => ?_⟩
    · rcases List.mem_cons.mp h1 with h | h
      · rw [h]; split <;> simp
      · simp [h]
    · have h3 := h2 (if m < i then i else m) List.mem_cons_self
      rcases List.mem_cons.mp hx with rfl | hx
      · split at h3 <;> split <;> omega
      · rcases List.mem_cons.mp hx with rfl | hx
        · split at h3 <;> split <;> omega
        · exact h2 x (List.mem_cons_of_mem _ hx)
theorem lmin_spec : ∀ (l : List Int) (m : Int), lmin m l ∈ m :: l ∧ ∀ x ∈ m :: l, lmin m l ≤ x
  | [], m => ⟨List.mem_cons_self, fun x hx => by simp at hx; simp [lmin, hx]⟩
  | i :: r, m => by
    unfold lmin
    obtain ⟨h1, h2⟩ := lmin_spec r (if i < m then i else m)
    refine ⟨?_, fun x hx => ?_⟩
    · rcases List.mem_cons.mp h1 with h | h
      · rw [h]; split <;> simp
      · simp [h]
    · have h3 := h2 (if i < m then i else m) List.mem_cons_self
      rcases List.mem_cons.mp hx with rfl | hx
      · split at h3 <;> split <;> omega
      · rcases List.mem_cons.mp hx with rfl | hx
        · split at h3 <;> split <;> omega
        · exact h2 x (List.mem_cons_of_mem _ hx)
section
variable {K : PySem.W.Frag} {β : List Addr} {H H' : Hp}
theorem RdsL.bls : ∀ {ts : List T} {bs : List Bool} {vs : List V} {n : List Addr}, RdsL K β H ts vs n → blsOf ts = some bs → vs = bs.map V.bl
  | [], is, vs, n, h, e => by simp [blsOf] at e; subst e; exact h.1
  | t :: r, is, vs, n, h, e => by
    obtain ⟨v, ws, m, k, rfl, r1, r2, rfl⟩ := h
    cases t <;> simp only [blsOf, reduceCtorEq, Option.map_eq_some_iff] at e
    obtain ⟨js, e, rfl⟩ := e
    obtain ⟨rfl, _⟩ := r1
    rw [RdsL.bls r2 e] <;> rfl
/-! ### dicts: one thing stored -/
theorem zip_nil {κ α : Type} {ks : List κ} {ws : List α} (l : ks.length = ws.length) (h : ks = []) : ws = [] := by
  subst h; exact List.length_eq_zero_iff.mp l.symm
theorem putK_keys {κ α α' : Type} [DecidableEq κ] (k : κ) (v : α) (v' : α') : ∀ {ks : List κ} {ws : List α} {us : List α'}, ks.length = ws.length → ks.length = us.length → (MP.putK k v ks ws).1 = (MP.putK k v' ks us).1
  | [], ws, us, h1, h2 => by
    rw [zip_nil h1 rfl, zip_nil h2 rfl] <;> rfl
  | a :: ks, [], us, h1, h2 => by cases h1
  | a :: ks, w :: ws, [], h1, h2 => by cases h2
  | a :: ks, w :: ws, u :: us, h1, h2 => by
    unfold MP.putK
    split
    · rfl
    · show a :: _ = a :: _
      rw [putK_keys k v v' (by simpa using h1) (by simpa using h2)]
theorem putK_len {κ α : Type} [DecidableEq κ] (k : κ) (v : α) : ∀ {ks : List κ} {ws : List α}, ks.length = ws.length → (MP.putK k v ks ws).1.length = (MP.putK k v ks ws).2.length
  | [], ws, h => by rw [zip_nil h rfl] <;> rfl
  | a :: ks, [], h => by cases h
  | a :: ks, w :: ws, h => by
    unfold MP.putK
    split
    · simpa using h
    · simpa using putK_len k v (ks := ks) (ws := ws) (by simpa using h)
theorem putK_mem {κ α : Type} [DecidableEq κ] (k : κ) (v : α) : ∀ {ks : List κ} {ws : List α}, ks.length = ws.length → ∀ a ∈ (MP.putK k v ks ws).1, a = k ∨ a ∈ ks
  | [], ws, h, a, ha => by
    rw [zip_nil h rfl] at ha
    simp [MP.putK] at ha
    exact .inl ha
  | b :: ks, [], h, a, ha => by cases h
  | b :: ks, w :: ws, h, a, ha => by
    unfold MP.putK at ha
    split at ha
    · exact .inr ha
    · rcases List.mem_cons.mp ha with rfl | ha
      · exact .inr List.mem_cons_self
      · rcases putK_mem k v (by simpa using h) a ha with z | z
        · exact .inl z
        · exact .inr (List.mem_cons_of_mem _ z)
theorem putK_nodup {κ α : Type} [DecidableEq κ] (k : κ) (v : α) : ∀ {ks : List κ} {ws : List α}, ks.length = ws.length → ks.Nodup → (MP.putK k v ks ws).1.Nodup
  | [], ws, h, _ => by rw [zip_nil h rfl]; simp [MP.putK]
  | a :: ks, [], h, _ => by cases h
  | a :: ks, w :: ws, h, nd => by
    unfold MP.putK
    split
    · exact nd
    · rename_i hne
      obtain ⟨h1, h2⟩ := List.nodup_cons.mp nd
      refine List.nodup_cons.mpr ⟨fun z => ?_, putK_nodup k v (by simpa using h) h2⟩
      rcases putK_mem k v (by simpa using h) a z with q | q
      · exact hne q.symm
      · exact h1 q
theorem putK_zip {κ : Type} [DecidableEq κ] (k : κ) (v : V) : ∀ {ks : List κ} {ws : List V}, ks.length = ws.length → ks.Nodup → L2.putK (ks.zip ws) k v = (MP.putK k v ks ws).1.zip (MP.putK k v ks ws).2
  | [], ws, h, _ => by rw [zip_nil h rfl] <;> rfl
  | a :: ks, [], h, _ => by cases h
  | a :: ks, w :: ws, h, nd => by
    obtain ⟨h1, h2⟩ := List.nodup_cons.mp nd
    have ih := putK_zip k v (ks := ks) (ws := ws) (by simpa using h) h2
    by_cases z : k = a
    · subst z
      have no : ∀ p ∈ ks.zip ws, ¬ p.1 = k := fun p hp e => h1 (e ▸ (List.of_mem_zip hp).1)
      have e1 : (ks.zip ws).map (fun kv => if kv.1 = k then (kv.1, v) else kv) = ks.zip ws := by
        conv => rhs; rw [← List.map_id (ks.zip ws)]
        exact List.map_congr_left fun p hp => by simp [no p hp]
      unfold L2.putK
      simp only [List.zip_cons_cons, List.any_cons, decide_true, Bool.true_or, if_true, List.map_cons]
      rw [e1]
      simp [MP.putK]
    · have z' : ¬ a = k := fun q => z q.symm
      have e2 : (decide (a = k)) = false := decide_eq_false z'
      unfold L2.putK at ih ⊢
      simp only [List.zip_cons_cons, List.any_cons, e2, Bool.false_or, List.map_cons, if_neg z']
      unfold MP.putK
      simp only [if_neg z, List.zip_cons_cons]
      rw [← ih]
      split <;> rfl
theorem putK_rds {κ : Type} [DecidableEq κ] (k : κ) {t : T} {v : V} {m : List Addr} (ht : Rds K β H t v m) : ∀ {ks : List κ} {ts : List T} {ws : List V} {n : List Addr}, ks.length = ws.length → RdsL K β H ts ws n →
    ∃ n', RdsL K β H (MP.putK k t ks ts).2 (MP.putK k v ks ws).2 n' ∧ (∀ a ∈ n', a ∈ n ∨ a ∈ m) ∧ ((∀ a ∈ n, a ∉ m) → n.Nodup → m.Nodup → n'.Nodup)
  | [], ts, ws, n, h, r => by
    have hw := zip_nil h rfl
    subst hw
    have l := r.length
    have ht' : ts = [] := List.length_eq_zero_iff.mp l.symm
    subst ht'
    exact ⟨m, ⟨v, [], m, [], rfl, ht, ⟨rfl, rfl⟩, by simp⟩, fun a ha => .inr ha, fun _ _ h => h⟩
  | a :: ks, ts, [], n, h, r => by cases h
  | a :: ks, [], w :: ws, n, h, r => by
    have := r.length
    cases this
  | a :: ks, u :: ts, w :: ws, n, h, r => by
    obtain ⟨w', ws', n1, n2, e, r1, r2, rfl⟩ := r
    cases e
    by_cases z : k = a
    · subst z
      refine ⟨m ++ n2, ?_, fun b hb => ?_, fun hd h1 h2 => ?_⟩
      · simp only [MP.putK, if_true]
        exact ⟨v, ws, m, n2, rfl, ht, r2, rfl⟩
      · rcases List.mem_append.mp hb with q | q
        · exact .inr q
        · exact .inl (List.mem_append_right _ q)
      · exact List.nodup_append.mpr ⟨h2, (List.nodup_append.mp h1).2.1, fun x hx y hy e => hd y (List.mem_append_right _ hy) (e ▸ hx)⟩
    · obtain ⟨n', h1, h2, h3⟩ := putK_rds k ht (ks := ks) (ts := ts) (ws := ws) (by simpa using h) r2
      refine ⟨n1 ++ n', ?_, fun b hb => ?_, fun hd g1 g2 => ?_⟩
      · simp only [MP.putK, if_neg z]
        exact ⟨w, _, n1, n', rfl, r1, h1, rfl⟩
      · rcases List.mem_append.mp hb with q | q
        · exact .inl (List.mem_append_left _ q)
        · rcases h2 b q with q | q
          · exact .inl (List.mem_append_right _ q)
          · exact .inr q
      · obtain ⟨k1, k2, k3⟩ := List.nodup_append.mp g1
        refine List.nodup_append.mpr ⟨k1, h3 (fun b hb => hd b (List.mem_append_right _ hb)) k2 g2, fun x hx y hy e => ?_⟩
        rcases h2 y hy with q | q
        · exact k3 x hx y q e
        · exact hd x (List.mem_append_left _ hx) (e ▸ q)
theorem dictGo_inv {x : T} {xs : List T} {ks : List Key} {ts : List T} {r : T} (e : dictGo (x :: xs) ks ts = some r) : ∃ k0 v0 kk, x = .tup [k0, v0] ∧ keyT k0 = some kk ∧ dictGo xs (MP.putK kk v0 ks ts).1 (MP.putK kk v0 ks ts).2 = some r := by
  cases x with
  | tup l =>
    match l, e with
    | [], e => simp [dictGo] at e
    | [_], e => simp [dictGo] at e
    | [k0, v0], e =>
      simp only [dictGo] at e
      cases q : keyT k0 with
      | none => rw [q] at e; cases e
      | some kk => rw [q] at e; exact ⟨k0, v0, kk, rfl, q, e⟩
    | _ :: _ :: _ :: _, e => simp [dictGo] at e
  | _ => simp [dictGo] at e
/-- dict(pairs): the pairs as the library reads them -/
theorem dictGo_ok : ∀ {xs : List T} {vs : List V} {n : List Addr} {ks : List Key} {ts : List T} {ws : List V} {m : List Addr} {r : T}, RdsL K β H xs vs n → RdsL K β H ts ws m → ks.length = ws.length → ks.Nodup → dictGo xs ks ts = some r →
    ∃ (ps : List Addr) (kvs : List (Key × V)) (ks' : List Key) (ts' : List T) (ws' : List V) (m' : List Addr), vs = ps.map V.ref ∧ Paired (fun p kv => SqT K H p [kV kv.1, kv.2]) ps kvs ∧ r = .dk ks' ts' ∧ RdsL K β H ts' ws' m' ∧ ks'.length = ws'.length ∧ ks'.Nodup ∧
      mergeK (ks.zip ws) kvs = ks'.zip ws' ∧ (∀ a ∈ m', a ∈ m ∨ a ∈ n) ∧ ((∀ a ∈ m, a ∉ n) → m.Nodup → n.Nodup → m'.Nodup)
  | [], vs, n, ks, ts, ws, m, r, h, h2, l, nd, e => by
    obtain ⟨rfl, rfl⟩ := h
    simp [dictGo] at e
    subst e
    exact ⟨[], [], ks, ts, ws, m, rfl, .nil, rfl, h2, l, nd, rfl, fun a ha => .inl ha, fun _ h _ => h⟩
  | x :: xs, vs, n, ks, ts, ws, m, r, h, h2, l, nd, e => by
    obtain ⟨v, us, n1, n2, rfl, r1, r2, rfl⟩ := h
    obtain ⟨k0, v0, kk, rfl, hk, e⟩ := dictGo_inv e
    obtain ⟨p, ps0, rfl, ep, rp⟩ := r1
    obtain ⟨w1, l1, q1, q2, rfl, s1, s2, rfl⟩ := rp
    obtain ⟨w2, l2, q3, q4, rfl, s3, s4, rfl⟩ := s2
    obtain ⟨rfl, rfl⟩ := s4
    have hw := key_v s1 hk
    subst hw
    have hq1 : q1 = [] := by
      cases k0 <;> simp [keyT] at hk <;> exact (show _ ∧ _ from s1).2
    subst hq1
    obtain ⟨n', g1, g2, g3⟩ := putK_rds kk s3 l h2
    have lz := putK_len kk w2 (ks := ks) (ws := ws) l
    have ek : (MP.putK kk v0 ks ts).1 = (MP.putK kk w2 ks ws).1 := putK_keys kk v0 w2 (by rw [l]; exact h2.length) l
    rw [ek] at e
    obtain ⟨ps, kvs, ks', ts', ws', m', e1, e2, e3, e4, e5, e6, e7, e8, e9⟩ := dictGo_ok r2 g1 lz (putK_nodup kk w2 l nd) e
    refine ⟨p :: ps, (kk, w2) :: kvs, ks', ts', ws', m', by rw [e1] <;> rfl, .cons (SqT.of ep) e2, e3, e4, e5, e6, ?_, fun a ha => ?_, fun hd k1 k2 => ?_⟩
    · show mergeK (L2.putK (ks.zip ws) kk w2) kvs = _
      rw [putK_zip kk w2 l nd]
      exact e7
    · simp only [List.nil_append, List.append_nil]
      rcases e8 a ha with q | q
      · rcases g2 a q with q | q
        · exact .inl q
        · exact .inr (List.mem_append_left _ q)
      · exact .inr (List.mem_append_right _ q)
    · simp only [List.nil_append, List.append_nil] at hd k2
      obtain ⟨j1, j2, j3⟩ := List.nodup_append.mp k2
      refine e9 (fun a ha hb => ?_) (g3 (fun a ha hb => hd a ha (List.mem_append_left _ hb)) k1 j1) j2
      rcases g2 a ha with q | q
      · exact hd a q (List.mem_append_right _ hb)
      · exact j3 a q a hb rfl
end
end MP

/-! C6b: dict(pairs) with keys that are tuples, none twice. -/
namespace MP
open PySem PySem.Spec PyProof.Rows L2
section
variable {X : Cx}
/-- a pair's own tuple, its key's tuple, what they hold -/
def PK2 (H : Hp) (p : Addr × Addr) (kv : List Key × V) : Prop := H p.1 = some (.tup [.ref p.2, kv.2]) ∧ H p.2 = some (.tup (kv.1.map kV))
theorem pairsT_of {pins : List (Addr × Obj)} {σ : L2.St} {H : Hp} {s : Shared} (I : L2.Inv X pins σ H s) : ∀ {ps : List (Addr × Addr)} {kvs : List (List Key × V)}, Paired (PK2 H) ps kvs →
    ∃ xs : List (List Key × Addr × Value), Paired (fun (p : List Key × V) (q : List Key × Addr × Value) => p.1 = q.1 ∧ H q.2.1 = some (.tup (p.1.map kV)) ∧ RelV p.2 q.2.2) kvs xs ∧ xs.length = ps.length ∧ xs.map (·.1) = kvs.map (·.1) ∧
      ∀ (j : Nat) (x : List Key × Addr × Value), xs[j]? = some x → ∃ p : Addr × Addr, ps[j]? = some p ∧ s.heap.IsTuple p.1 #[.ref x.2.1, x.2.2] ∧ (tupleKind (mixKind X.prog X.w)).is s.heap x.1 x.2.1
  | _, _, .nil => ⟨[], .nil, rfl, rfl, fun j x e => by simp at e⟩
  | _, _, .cons (a := p) (b := kv) h t => by
    obtain ⟨xs, r, hl, hm, hp⟩ := pairsT_of I t
    obtain ⟨h1, h2⟩ := h
    obtain ⟨_, its, rv, o, e1, e2, n, e3⟩ := (show ObjOk X.prog X.w H s.heap p.1 (.tup [.ref p.2, kv.2]) from I.hok p.1 _ h1)
    obtain ⟨u, y, ei, ru, ry⟩ := vals2 rv
    subst ei
    cases (show u = Value.ref p.2 from ru)
    refine ⟨(kv.1, p.2, y) :: xs, .cons ⟨rfl, h2, ry⟩ r, by rw [List.length_cons, List.length_cons, hl], by rw [List.map_cons, List.map_cons, hm], fun j x e => ?_⟩
    cases j with
    | zero =>
      have e' : (kv.1, p.2, y) = x := Option.some.inj e
      subst e'
      exact ⟨p, rfl, ⟨o, e1, e2, n, e3⟩, key_of I.hok h2⟩
    | succ j =>
      obtain ⟨q, g1, g2, g3⟩ := hp j x (by simpa using e)
      exact ⟨q, by simpa using g1, g2, g3⟩
theorem paired_imp {α β : Type} {R R' : α → β → Prop} (h : ∀ a b, R a b → R' a b) : ∀ {as : List α} {bs : List β}, Paired R as bs → Paired R' as bs
  | _, _, .nil => .nil
  | _, _, .cons x t => .cons (h _ _ x) (paired_imp h t)
/-- dict(xs) of a list of pairs whose keys are tuples -/
theorem call_dictT (hu : X.A.units + 2 < cLine) (hcalm : X.calm = true) : CallR X (.type "dict") (fun xs H Q => ∃ (a : Addr) (ps : List (Addr × Addr)) (kvs : List (List Key × V)), xs = [.ref a] ∧ SqL X.K H a (ps.map fun p => V.ref p.1) ∧ Paired (PK2 H) ps kvs ∧ (kvs.map (·.1)).Nodup ∧
    ∀ p, H p = none → Q (.ref p) (upd H p (.dT kvs))) := by
  intro pins s σ H xs us Q I r q
  obtain ⟨a, ps, kvs, ex, hq, hp, nd, q⟩ := q
  subst ex
  obtain ⟨u, eu, rx⟩ := vals1 r
  subst eu
  cases rx
  obtain ⟨its, rv, pl, hz⟩ := I.list hq
  have ei := refs_at (ps := ps.map (·.1)) (by rw [List.map_map]; exact rv)
  rw [List.map_map] at ei
  subst ei
  rw [List.length_map] at hz
  obtain ⟨xs, rel, hl, hm, hpr⟩ := pairsT_of (X := X) I hp
  have ndx : (xs.map (·.1)).Nodup := by rw [hm]; exact nd
  let prs : List (Value × Value) := xs.map fun x => (.ref x.2.1, x.2.2)
  let Ts : Nat → Addr := fun j => ((ps[j]?).map (·.1)).getD 0
  have big := I.hok
  have P := PairArg.list (prog := X.prog) (w := X.w) a ((ps.map (Value.ref ∘ (·.1))).toArray) Ts prs
  have pi : PairItems s.heap ((ps.map (Value.ref ∘ (·.1))).toArray) Ts prs := by
    refine ⟨by rw [List.size_toArray, List.length_map, List.length_map, hl], fun j k v e => ?_⟩
    rw [List.getElem?_map] at e
    obtain ⟨x, hx, e⟩ := Option.map_eq_some_iff.mp e
    cases e
    obtain ⟨p, g1, g2, g3⟩ := hpr j x hx
    have ht : Ts j = p.1 := by show ((ps[j]?).map (·.1)).getD 0 = _; rw [g1] <;> rfl
    rw [ht]
    exact ⟨by simp [g1], .inl g2⟩
  have lx : xs.length ≤ sizeLine := by rw [hl]; exact hz
  refine call_dict_pairsH (knd := tupleKind (mixKind X.prog X.w)) (ps := xs) P (I.ok.hd hcalm) (show X.A.units + 1 + 1 < cLine by omega) ⟨pl, pi⟩ ⟨by rw [List.length_map], fun i key v e => ?_⟩ (fun h' hk x hx => ?_) (by rw [List.length_map]; exact lx) fun h' tk hd' hk => ?_
  · have e : (xs.map fun x => ((Value.ref x.2.1, x.2.2) : Value × Value))[i]? = some (key, v) := e
    rw [List.getElem?_map] at e
    obtain ⟨x, hx, e⟩ := Option.map_eq_some_iff.mp e
    cases e
    exact ⟨x.1, x.2.1, hx, rfl⟩
  · obtain ⟨j, hj⟩ := List.getElem?_of_mem hx
    obtain ⟨p, g1, g2, o, its, n, g3, g4⟩ := hpr j x hj
    exact ⟨o, its, n, hk _ _ (Nat.ne_of_lt (Heap.lt_size g3)) (by simp) g3, g4⟩
  · rw [storedAllH_nil_of_nodup xs ndx] at hd'
    obtain ⟨o, es, ep, k1, k2, k3, k4, k5, k6⟩ := hd'
    have hsys : (s.heap.objs.size == sysModules) = false := beq_eq_false_iff_ne.mpr (Nat.ne_of_gt I.big)
    have hlen : kvs.length ≤ sizeLine := by rw [rel.length]; exact lx
    have hf : H s.heap.objs.size = none := I.hok.fresh (Nat.le_refl _)
    have rel' : Paired (fun (p : List Key × V) (q : List Key × Addr × Value) => p.1 = q.1 ∧ upd H s.heap.objs.size (.dT kvs) q.2.1 = some (.tup (p.1.map kV)) ∧ RelV p.2 q.2.2) kvs xs := by
      refine paired_imp (fun p q ⟨z1, z2, z3⟩ => ⟨z1, ?_, z3⟩) rel
      rw [upd_ne (ne_of_none z2 hf)]
      exact z2
    exact ⟨.ref s.heap.objs.size, upd H s.heap.objs.size (.dT kvs), I.laid (t' := tk) (fun b o e => hk b o (by simp) e) (Nat.le_refl _) (show ObjOk X.prog X.w _ _ _ (.dT kvs) from ⟨hlen, hsys, xs, rel', o, es, ep, k1, k2, k3, k4, k6⟩), rfl, q _ hf⟩
end
section
variable {K : PySem.W.Frag} {β : List Addr} {H : Hp}
theorem keysT_nl : ∀ {ts : List T} {ks : List Key}, keysT ts = some ks → nodelessL ts = true
  | [], ks, e => rfl
  | x :: xs, ks, e => by
    simp only [keysT] at e
    split at e
    · rename_i k kr h1 h2
      have : nodeless x = true := by cases x <;> first | rfl | simp [keyT] at h1
      show (nodeless x && nodelessL xs) = true
      rw [this, keysT_nl h2] <;> rfl
    · cases e
theorem dictGoT_inv {x : T} {xs : List T} {ks : List (List Key)} {ts : List T} {r : T} (e : dictGoT (x :: xs) ks ts = some r) : ∃ tk v0 k, x = .tup [.tup tk, v0] ∧ keysT tk = some k ∧ k ∉ ks ∧ dictGoT xs (ks ++ [k]) (ts ++ [v0]) = some r := by
  cases x with
  | tup l =>
    match l, e with
    | [], e => simp [dictGoT] at e
    | [_], e => simp [dictGoT] at e
    | [k0, v0], e =>
      cases k0 with
      | tup tk =>
        simp only [dictGoT] at e
        cases q : keysT tk with
        | none => rw [q] at e; cases e
        | some k =>
          rw [q] at e
          have e : (if (ks.any fun a => decide (a = k)) = true then none else dictGoT xs (ks ++ [k]) (ts ++ [v0])) = some r := e
          by_cases h : (ks.any fun a => decide (a = k)) = true
          · rw [if_pos h] at e; cases e
          · rw [if_neg h] at e
            exact ⟨tk, v0, k, rfl, q, fun z => h (List.any_eq_true.mpr ⟨k, z, decide_eq_true rfl⟩), e⟩
      | _ => simp [dictGoT] at e
    | _ :: _ :: _ :: _, e => simp [dictGoT] at e
  | _ => simp [dictGoT] at e
theorem dictT_ok : ∀ {xs : List T} {vs : List V} {n : List Addr} {ks : List (List Key)} {ts : List T} {r : T}, RdsL K β H xs vs n → ks.Nodup → dictGoT xs ks ts = some r →
    ∃ (ps : List (Addr × Addr)) (kvs : List (List Key × V)) (ts' : List T), vs = ps.map (fun p => V.ref p.1) ∧ Paired (PK2 H) ps kvs ∧ r = .dt (ks ++ kvs.map (·.1)) (ts ++ ts') ∧ RdsL K β H ts' (kvs.map (·.2)) n ∧ (ks ++ kvs.map (·.1)).Nodup
  | [], vs, n, ks, ts, r, h, nd, e => by
    obtain ⟨rfl, rfl⟩ := h
    simp only [dictGoT, Option.some.injEq] at e
    subst e
    exact ⟨[], [], [], rfl, .nil, by simp, ⟨rfl, rfl⟩, by simpa using nd⟩
  | x :: xs, vs, n, ks, ts, r, h, nd, e => by
    obtain ⟨v, us, n1, n2, rfl, r1, r2, rfl⟩ := h
    obtain ⟨tk, v0, k, rfl, hk, hn, e⟩ := dictGoT_inv e
    obtain ⟨p, ps0, rfl, ep, rp⟩ := r1
    obtain ⟨w1, l1, q1, q2, rfl, s1, s2, rfl⟩ := rp
    obtain ⟨w2, l2, q3, q4, rfl, s3, s4, rfl⟩ := s2
    obtain ⟨rfl, rfl⟩ := s4
    obtain ⟨b, vb, rfl, eb, rb⟩ := s1
    have hv := keys_v rb hk
    subst hv
    have hq1 := RdsL.nil tk rb (keysT_nl hk)
    subst hq1
    have nd2 : (ks ++ [k]).Nodup := List.nodup_append.mpr ⟨nd, by simp, fun a ha c hc z => by
      rw [List.mem_singleton.mp hc] at z
      rw [z] at ha
      exact hn ha⟩
    obtain ⟨ps, kvs, ts', e1, e2, e3, e4, e5⟩ := dictT_ok r2 nd2 e
    refine ⟨(p, b) :: ps, (k, w2) :: kvs, v0 :: ts', by rw [e1] <;> rfl, .cons ⟨ep, eb⟩ e2, ?_, ?_, ?_⟩
    · rw [e3, List.append_assoc, List.append_assoc] <;> rfl
    · exact ⟨w2, _, q3, n2, rfl, s3, e4, by simp⟩
    · rw [List.map_cons]
      rw [List.append_assoc] at e5
      exact e5
theorem zip_kvs : ∀ kvs : List (List Key × V), (kvs.map (·.1)).zip (kvs.map (·.2)) = kvs
  | [] => rfl
  | p :: r => by
    show (p.1, p.2) :: (r.map (·.1)).zip (r.map (·.2)) = p :: r
    rw [zip_kvs r]
end
end MP

/-! C6c: sorted of lists of ints. -/
namespace MP
open PySem L2
theorem ltR_lt : ∀ a b : List Int, ltR a b = decide (a < b)
  | [], [] => by simp [ltR]
  | [], b :: bs => by simp [ltR]
  | a :: as, [] => by simp [ltR]
  | a :: as, b :: bs => by
    unfold ltR
    have e : (a :: as < b :: bs) ↔ (a < b ∨ a = b ∧ as < bs) := List.cons_lt_cons_iff
    by_cases h1 : a < b
    · rw [if_pos h1, decide_eq_true (e.mpr (.inl h1))]
    · rw [if_neg h1]
      by_cases h2 : b < a
      · rw [if_pos h2, decide_eq_false (fun z => by rcases e.mp z with z | ⟨z, _⟩ <;> omega)]
      · rw [if_neg h2, ltR_lt as bs]
        have h3 : a = b := by omega
        by_cases h4 : as < bs
        · rw [decide_eq_true h4, decide_eq_true (e.mpr (.inr ⟨h3, h4⟩))]
        · rw [decide_eq_false h4, decide_eq_false (fun z => by
            rcases e.mp z with z | ⟨_, z⟩
            · exact h1 z
            · exact h4 z)]
theorem leR_le (a b : List Int) : leR a b = decide (a ≤ b) := by
  unfold leR
  rw [ltR_lt]
  by_cases h : b < a
  · rw [decide_eq_true h, decide_eq_false (show ¬ a ≤ b from fun z => z h)] <;> rfl
  · rw [decide_eq_false h, decide_eq_true (show a ≤ b from h)] <;> rfl
theorem leR_anti {a b : List Int} (h1 : leR a b = true) (h2 : leR b a = true) : a = b := by
  rw [leR_le, decide_eq_true_eq] at h1 h2
  exact List.le_antisymm h1 h2
theorem leR_trans {a b c : List Int} (h1 : leR a b = true) (h2 : leR b c = true) : leR a c = true := by
  rw [leR_le, decide_eq_true_eq] at *
  exact List.le_trans h1 h2
theorem leR_total (a b : List Int) : leR a b = true ∨ leR b a = true := by
  rw [leR_le, leR_le, decide_eq_true_eq, decide_eq_true_eq]
  exact List.le_total a b
theorem insR_perm (x : List Int) : ∀ l, (insR x l).Perm (x :: l)
  | [] => List.Perm.refl _
  | y :: r => by
    unfold insR
    split
    · exact List.Perm.refl _
    · exact ((insR_perm x r).cons y).trans (List.Perm.swap x y r)
theorem sortR_perm : ∀ l, (sortR l).Perm l
  | [] => List.Perm.refl _
  | x :: r => (insR_perm x (sortR r)).trans ((sortR_perm r).cons x)
theorem insR_sorted (x : List Int) : ∀ l, l.Pairwise (fun a b => leR a b = true) → (insR x l).Pairwise (fun a b => leR a b = true)
  | [], _ => List.pairwise_singleton _ _
  | y :: r, h => by
    unfold insR
    split
    · rename_i hc
      exact List.pairwise_cons.mpr ⟨fun k hk => by
        rcases List.mem_cons.mp hk with rfl | hk
        · exact hc
        · exact leR_trans hc (List.rel_of_pairwise_cons h hk), h⟩
    · rename_i hc
      refine List.pairwise_cons.mpr ⟨fun k hk => ?_, insR_sorted x r h.tail⟩
      rcases List.mem_cons.mp ((insR_perm x r).mem_iff.mp hk) with rfl | hk
      · exact (leR_total k y).resolve_left hc
      · exact List.rel_of_pairwise_cons h hk
theorem sortR_sorted : ∀ l, (sortR l).Pairwise (fun a b => leR a b = true)
  | [] => List.Pairwise.nil
  | x :: r => insR_sorted x _ (sortR_sorted r)
theorem sortR_uniq {a b : List (List Int)} (p : a.Perm b) (ha : a.Pairwise (fun a b => leR a b = true)) (hb : b.Pairwise (fun a b => leR a b = true)) : a = b := p.eq_of_pairwise (fun x y _ _ h1 h2 => leR_anti h1 h2) ha hb
theorem dp_ints {K : PySem.W.Frag} {H : Hp} : ∀ ns : List Int, DpAll K H (ns.map V.int) (ns.map PyData.int)
  | [] => .nil
  | n :: ns => .cons (.int n) (dp_ints ns)
theorem ints_eq : ∀ {xs : List T} {is : List Int}, intsOf xs = some is → xs = is.map T.int
  | [], is, h => by cases h; rfl
  | x :: xs, is, h => by
    cases x <;> try (cases h; done)
    rename_i i
    unfold intsOf at h
    cases e : intsOf xs with
    | none => rw [e] at h; cases h
    | some js =>
      rw [e] at h
      cases h
      rw [ints_eq e] <;> rfl
/-- a row, as a value, its nodes -/
abbrev RowV := List Int × V × List Addr
section
variable {K : PySem.W.Frag} {β : List Addr} {H : Hp}
/-- lists of ints, one by one -/
theorem RdsL.rows : ∀ {ts : List T} {rs : List (List Int)} {vs : List V} {n : List Addr}, RdsL K β H ts vs n → rowsOf ts = some rs → ∃ bs : List RowV, rs = bs.map (·.1) ∧ vs = bs.map (·.2.1) ∧ n = (bs.map (·.2.2)).flatten ∧ ∀ b ∈ bs, Rds K β H (.lst (b.1.map T.int)) b.2.1 b.2.2
  | [], rs, vs, n, h, e => by
    obtain ⟨rfl, rfl⟩ := h
    cases e
    exact ⟨[], rfl, rfl, rfl, fun _ z => by cases z⟩
  | x :: ts, rs, vs, n, h, e => by
    obtain ⟨v, ws, m, k, rfl, r1, r2, rfl⟩ := h
    cases x <;> try (cases e; done)
    rename_i xs
    unfold rowsOf at e
    cases e1 : intsOf xs with
    | none => rw [e1] at e; cases e
    | some is =>
      cases e2 : rowsOf ts with
      | none => rw [e1, e2] at e; cases e
      | some rs' =>
        rw [e1, e2] at e
        cases e
        obtain ⟨bs, rfl, rfl, rfl, h4⟩ := RdsL.rows r2 e2
        have ex : xs = is.map T.int := ints_eq e1
        subst ex
        exact ⟨(is, v, m) :: bs, rfl, rfl, rfl, fun b hb => by
          rcases List.mem_cons.mp hb with rfl | hb
          · exact r1
          · exact h4 b hb⟩
theorem rows_rds : ∀ {bs : List RowV}, (∀ b ∈ bs, Rds K β H (.lst (b.1.map T.int)) b.2.1 b.2.2) → RdsL K β H (bs.map fun b => .lst (b.1.map T.int)) (bs.map (·.2.1)) (bs.map (·.2.2)).flatten
  | [], _ => ⟨rfl, rfl⟩
  | b :: bs, h => ⟨_, _, _, _, rfl, h b List.mem_cons_self, rows_rds fun c hc => h c (List.mem_cons_of_mem _ hc), rfl⟩
end
section
variable {X : Cx}
theorem each_of {us : List Value} : ∀ {bs : List RowV}, Vals (bs.map (·.2.1)) us → PySem.W.EachIs (fun v (b : RowV) => RelV b.2.1 v) us bs
  | [], h => by cases h; exact .nil
  | b :: bs, h => by cases h with | cons h1 h2 => exact .cons h1 (each_of h2)
theorem of_each {us : List Value} : ∀ {bs : List RowV}, PySem.W.EachIs (fun v (b : RowV) => RelV b.2.1 v) us bs → Vals (bs.map (·.2.1)) us
  | [], h => by cases h; exact .nil
  | b :: bs, h => by cases h with | cons h1 h2 => exact .cons h1 (of_each h2)
theorem call_sortedR (hu : X.A.units + 65 < cLine) : CallR X (.builtin "sorted") (fun vs H Q => ∃ (a : Addr) (bs : List RowV), vs = [V.ref a] ∧ SqL X.K H a (bs.map (·.2.1)) ∧ (∀ b ∈ bs, ∃ a', b.2.1 = .ref a' ∧ SqL X.K H a' (b.1.map V.int)) ∧
    ∀ (bs' : List RowV) (p : Addr), bs'.Perm bs → bs'.map (·.1) = sortR (bs.map (·.1)) → H p = none → Q (.ref p) (upd H p (.lst (bs'.map (·.2.1))))) := fun pins s σ H xs us Q I rv q => by
  obtain ⟨a, bs, rfl, hs, hb, q⟩ := q
  obtain ⟨its, r1, hl, hz⟩ := I.list hs
  rw [Vals.ref1 rv]
  have each := each_of r1
  have hlen : bs.length ≤ sizeLine := by rw [List.length_map] at hz; exact hz
  have er : PySem.W.EachIs (fun v (b : RowV) => ∃ as, Reads s.heap v (.list (b.1.map PyData.int)) as) its bs := by
    have go : ∀ {us : List Value} {cs : List RowV}, (∀ c ∈ cs, c ∈ bs) → PySem.W.EachIs (fun v (b : RowV) => RelV b.2.1 v) us cs → PySem.W.EachIs (fun v (b : RowV) => ∃ as, Reads s.heap v (.list (b.1.map PyData.int)) as) us cs := by
      intro us cs hc e
      induction e with
      | nil => exact .nil
      | @cons v b vs cs h1 h2 ih =>
        obtain ⟨a', e1, e2⟩ := hb b (hc b List.mem_cons_self)
        refine .cons ?_ (ih fun c h => hc c (List.mem_cons_of_mem _ h))
        exact Dp.reads I (.list (b.1.map PyData.int)) b.2.1 v (by rw [e1]; exact .lst e2 (dp_ints b.1)) h1
    exact go (fun _ h => h) each
  refine PySem.W.sorted_data (enc := fun b : RowV => .list (b.1.map PyData.int)) hl.isList each er (PySem.W.AllAlike.of fun b b' => by
    show PySem.W.alike (.list (b.1.map PyData.int)) (.list (b'.1.map PyData.int)) = true
    rw [PySem.W.alike]
    exact PySem.W.alike_ints b.1 b'.1) (PySem.W.Sortable.others fun b => ⟨(fun z => by cases z), fun xs z => by cases z⟩) hlen (fun b hb => by
    show X.A.units + 2 + (PyData.list (b.1.map PyData.int)).depth < cLine
    have : (PyData.list (b.1.map PyData.int)).depth = 1 := by rw [PyData.depth, PySem.W.depth_ints]
    rw [this]
    omega) fun out h1 h2 => ?_
  let bs' : List RowV := bs.mergeSort (PySem.W.dataLe false fun b : RowV => .list (b.1.map PyData.int))
  have pm : bs'.Perm bs := List.mergeSort_perm bs _
  have le_eq : PySem.W.dataLe false (fun b : RowV => PyData.list (b.1.map PyData.int)) = fun p q => leR p.1 q.1 := by
    rw [PySem.W.dataLe_rows (fun b : RowV => b.1)]
    funext p q
    rw [leR_le]
  have sd : bs'.Pairwise (fun p q : RowV => leR p.1 q.1 = true) := by
    show (bs.mergeSort (PySem.W.dataLe false fun b : RowV => .list (b.1.map PyData.int))).Pairwise _
    rw [le_eq]
    exact List.pairwise_mergeSort (le := fun p q : RowV => leR p.1 q.1) (fun a b c h1 h2 => leR_trans h1 h2) (fun a b => by
      have := leR_total a.1 b.1
      rw [Bool.or_eq_true]
      exact this) bs
  have same : bs'.map (·.1) = sortR (bs.map (·.1)) := sortR_uniq ((pm.map _).trans (sortR_perm _).symm) (List.pairwise_map.mpr sd) (sortR_sorted _)
  obtain ⟨ep, at_⟩ := PyProof.Rows.sortedAll_at s.heap its out.toArray
  have rel : Vals (bs'.map (·.2.1)) out := of_each h2
  have hlen' : (bs'.map (·.2.1)).length ≤ sizeLine := by rw [List.length_map, pm.length_eq]; exact hlen
  exact ⟨.ref _, upd H (s.heap.objs.size + 1) (.lst (bs'.map (·.2.1))), I.laid (t' := s.toks) (fun _ _ => PyProof.Rows.sortedAll_old) (Nat.le_succ _) ⟨hlen', out, ep, rel, at_⟩, rfl, q bs' _ pm same (I.hok.fresh (Nat.le_succ _))⟩
end
end MP

/-! C7: the built-in functions as rules. -/
namespace MP
open PySem L2
def BI.val : BI → Value
  | .len => .builtin "len" | .abs => .builtin "abs" | .int => .type "int" | .list => .type "list" | .tuple => .type "tuple" | .sorted => .builtin "sorted" | .all => .builtin "all" | .any => .builtin "any" | .sum => .builtin "sum"
  | .max1 => .builtin "max" | .min1 => .builtin "min" | .max2 => .builtin "max" | .min2 => .builtin "min" | .repr => .builtin "repr" | .dict => .type "dict"
def BI.name : BI → Str
  | .len => "len" | .abs => "abs" | .int => "int" | .list => "list" | .tuple => "tuple" | .sorted => "sorted" | .all => "all" | .any => "any" | .sum => "sum"
  | .max1 => "max" | .min1 => "min" | .max2 => "max" | .min2 => "min" | .repr => "repr" | .dict => "dict"
/-- the kids' nodes of the arguments -/
def kn1 (ts : List T) (n : List Addr) : List Addr := match ts with
  | [t] => kn t n
  | _ => n
section
variable {X : Cx}
theorem CallR.byCases {f : Value} {r : List V → Hp → VK → Prop} (h : ∀ xs H Q, r xs H Q → ∃ r', CallR X f r' ∧ r' xs H Q) : CallR X f r := fun pins s σ H xs us Q I rv q => by
  obtain ⟨r', h', q'⟩ := h xs H Q q
  exact h' pins s σ H xs us Q I rv q'
def rBI (K : PySem.W.Frag) (b : BI) : List V → Hp → VK → Prop := fun vs H Q => ∃ β ts r n, RdsL K β H ts vs n ∧ pBI b ts = some r ∧ OutN K β H true r (kn1 ts n) Q
theorem call_len_dict : CallR X (.builtin "len") (fun vs H Q => ∃ a kvs, vs = [V.ref a] ∧ H a = some (.dK kvs) ∧ Q (.int kvs.length) H) := fun pins s σ H xs us Q I rv q => by
  obtain ⟨a, kvs, rfl, e, q⟩ := q
  rw [Vals.ref1 rv]
  exact d_len I (.inl e) fun t s' I' => ⟨.int kvs.length, H, I', ⟨t, rfl⟩, q⟩
theorem call_sumT (hc : X.calm = true) : CallR X (.builtin "sum") (fun vs H Q => ∃ (a : Addr) (ns : List Int), vs = [V.ref a] ∧ SqT X.K H a (ns.map V.int) ∧ Q (.int ns.sum) H) := fun pins s σ H xs us Q I rv q => by
  obtain ⟨a, ns, rfl, e, q⟩ := q
  rw [Vals.ref1 rv]
  obtain ⟨its, r1, ht, hz⟩ := I.tuple e
  exact MPS.sumT (I.ok.hd hc) ht r1.ints fun h' tk t' hk => ⟨.int _, H, I.kept hk, ⟨_, rfl⟩, q⟩
theorem ints_data : ∀ (ns : List Int), dataOfL (ns.map T.int) = some (ns.map PyData.int)
  | [] => rfl
  | i :: ns => by simp [dataOfL, dataOf, ints_data ns]
theorem ints_alike (ns : List Int) : PySem.W.AlikeAll (ns.map PyData.int) := by
  refine ⟨fun x hx y hy => ?_, fun x hx => ?_⟩
  · obtain ⟨i, _, rfl⟩ := List.mem_map.mp hx
    obtain ⟨j, _, rfl⟩ := List.mem_map.mp hy
    rfl
  · obtain ⟨i, _, rfl⟩ := List.mem_map.mp hx
    intro z; cases z
theorem ints_depth : ∀ ns : List Int, PyData.depthAll (ns.map PyData.int) = 0
  | [] => rfl
  | i :: ns => by simp only [List.map_cons, PyData.depthAll, PyData.depth, ints_depth ns]; rfl
theorem ints_dp {K : PySem.W.Frag} {H : Hp} : ∀ ns : List Int, DpAll K H (ns.map V.int) (ns.map PyData.int)
  | [] => .nil
  | i :: ns => .cons (.int i) (ints_dp ns)
theorem reads_int {h : Heap} {v : Value} {i : Int} {as : List Addr} (r : Reads h v (.int i) as) : RelV (.int i) v := by
  cases r with
  | int i t => exact ⟨t, rfl⟩
theorem call_maxT (hc : X.calm = true) (hu : X.A.units + 1 < cLine) : CallR X (.builtin "max") (fun vs H Q => ∃ (a : Addr) (n : Int) (ns : List Int), vs = [V.ref a] ∧ SqT X.K H a ((n :: ns).map V.int) ∧ Q (.int (lmax n ns)) H) := fun pins s σ H xs us Q I rv q => by
  obtain ⟨a, n, ns, rfl, e, q⟩ := q
  rw [Vals.ref1 rv]
  obtain ⟨its, r1, ht, hz⟩ := I.tuple e
  obtain ⟨as, hr⟩ := Dp.readsAll I ((n :: ns).map PyData.int) _ its (ints_dp (n :: ns)) r1
  refine PySem.W.max_tuple_data (I.ok.hd hc) ht (x := .int n) (xs := ns.map PyData.int) (by simpa using hr) (ints_alike (n :: ns)) (by rw [show PyData.int n :: ns.map PyData.int = (n :: ns).map PyData.int from rfl, ints_depth]; exact hu) fun i v h' tk bs _ rv' hk => ?_
  rw [PySem.W.maxD_ints, ← lmax_foldl] at rv'
  exact ⟨.int _, H, I.kept hk, reads_int rv', q⟩
theorem call_minT (hc : X.calm = true) (hu : X.A.units + 1 < cLine) : CallR X (.builtin "min") (fun vs H Q => ∃ (a : Addr) (n : Int) (ns : List Int), vs = [V.ref a] ∧ SqT X.K H a ((n :: ns).map V.int) ∧ Q (.int (lmin n ns)) H) := fun pins s σ H xs us Q I rv q => by
  obtain ⟨a, n, ns, rfl, e, q⟩ := q
  rw [Vals.ref1 rv]
  obtain ⟨its, r1, ht, hz⟩ := I.tuple e
  obtain ⟨as, hr⟩ := Dp.readsAll I ((n :: ns).map PyData.int) _ its (ints_dp (n :: ns)) r1
  refine PySem.W.min_tuple_data (I.ok.hd hc) ht (x := .int n) (xs := ns.map PyData.int) (by simpa using hr) (ints_alike (n :: ns)) (by rw [show PyData.int n :: ns.map PyData.int = (n :: ns).map PyData.int from rfl, ints_depth]; exact hu) fun i v h' tk bs _ rv' hk => ?_
  rw [PySem.W.minD_ints, ← lmin_foldl] at rv'
  exact ⟨.int _, H, I.kept hk, reads_int rv', q⟩
theorem call_sortedT : CallR X (.builtin "sorted") (fun vs H Q => ∃ (a : Addr) (ns : List Int), vs = [V.ref a] ∧ SqT X.K H a (ns.map V.int) ∧ ∀ (ns' : List Int) (p : Addr), ns'.Perm ns → ns'.Pairwise (· ≤ ·) → H p = none → Q (.ref p) (upd H p (.lst (ns'.map V.int)))) := fun pins s σ H xs us Q I rv q => by
  obtain ⟨a, ns, rfl, e, q⟩ := q
  rw [Vals.ref1 rv]
  obtain ⟨its, r1, ht, hz⟩ := I.tuple e
  obtain ⟨o, ho, hcl, n, hd⟩ := ht
  refine MPS.sortedOf (.inr rfl) ho hcl hd r1.ints (by rw [← r1.length]; exact hz) fun h1 h' p out ns' ep k1 k2 hp he g1 g2 g3 => ?_
  have I1 := I.kept (t' := s.toks) k1
  have hlen : (ns'.map V.int).length ≤ sizeLine := by
    rw [List.length_map, g2.length_eq]
    rw [List.length_map] at hz
    exact hz
  exact ⟨.ref p, upd H p (.lst (ns'.map V.int)), I1.laid (t' := s.toks) k2 hp ⟨hlen, out, ep, vals_of_ints g1, he⟩, rfl, q ns' p g2 g3 (I1.hok.fresh hp)⟩
theorem call_reprD (hg : X.A.guards = some []) (hu : X.A.units + 65 < cLine) : CallR X (.builtin "repr") (fun vs H Q => ∃ v d, vs = [v] ∧ Dp X.K H v d ∧ d.canLay0 = true ∧ d.depth ≤ 60 ∧ d.showable = true ∧ d.shown.length ≤ sizeLine ∧ Q (.str d.shown) H) := fun pins s σ H xs us Q I rv q => by
  obtain ⟨v, d, rfl, hd, hl, hdp, hsh, hz, q⟩ := q
  obtain ⟨u, rfl, ru⟩ := vals1 rv
  have nd : d.hasDict = false := PyData.hasDict_of_canLay d hl
  cases hd with
  | non =>
    obtain rfl : u = Value.none := ru
    exact PySem.P.repr_of_none ⟨.str _, H, I.tok _, ⟨_, rfl⟩, q⟩
  | bl b =>
    obtain rfl : u = Value.bool b := ru
    exact PySem.P.repr_of_bool ⟨.str _, H, I.tok _, ⟨_, rfl⟩, q⟩
  | int i =>
    obtain ⟨t, rfl⟩ := ru
    exact PySem.P.repr_of_int (of_decide_eq_true hsh) ⟨.str _, H, I.tok _, ⟨_, rfl⟩, q⟩
  | str x =>
    obtain ⟨t, rfl⟩ := ru
    exact PySem.P.repr_of_str ⟨.str _, H, I.tok _, ⟨_, rfl⟩, q⟩ hz
  | @lst a xs ds h1 h2 =>
    obtain rfl : u = Value.ref a := ru
    obtain ⟨as, hr⟩ := Dp.reads I (.list ds) (.ref a) (.ref a) (.lst h1 h2) rfl
    exact PySem.repr_of_reads' hr hsh (fun z => by rw [nd] at z; cases z) hg (by omega) (fun _ _ e => e) (fun h' w' tk hk => ⟨.str _, H, I.kept hk, ⟨_, rfl⟩, q⟩) hz
  | @tup a xs ds h1 h2 =>
    obtain rfl : u = Value.ref a := ru
    obtain ⟨as, hr⟩ := Dp.reads I (.tuple ds) (.ref a) (.ref a) (.tup h1 h2) rfl
    exact PySem.repr_of_reads' hr hsh (fun z => by rw [nd] at z; cases z) hg (by omega) (fun _ _ e => e) (fun h' w' tk hk => ⟨.str _, H, I.kept hk, ⟨_, rfl⟩, q⟩) hz
theorem call_repr0 (hg : X.A.guards = some []) (hu : X.A.units + 65 < cLine) : CallR X (.builtin "repr") (fun vs H Q => ∃ a, vs = [V.ref a] ∧ H a = some (.dK []) ∧ Q (.str (PyData.dict []).shown) H) := fun pins s σ H xs us Q I rv q => by
  obtain ⟨a, rfl, e, q⟩ := q
  rw [Vals.ref1 rv]
  obtain ⟨_, hs, vs, kv, o, es, ep, ho, hx, hdat, _, hp, _⟩ := I.hok a _ e
  have hv : vs = [] := by cases kv; rfl
  subst hv
  have hes : es.toList = [] := by
    cases h : es.toList with
    | nil => rfl
    | cons x r => rw [h] at hp; cases hp
  have hr : Reads s.heap (.ref a) (.dict []) (a :: [] ++ []) := .dict ho hx.1 hdat (by rw [hes]; exact .nil) (by rw [hes]; exact .nil)
  refine PySem.repr_of_reads' hr rfl (fun _ z => ?_) hg (by show X.A.units + (0 + 1 + 1) < cLine; omega) (fun _ _ e => e) (fun h' w' tk hk => ⟨.str _, H, I.kept hk, ⟨_, rfl⟩, q⟩) (by decide +kernel)
  have z' : sysModules ∈ [a] := by simpa using z
  have : a = sysModules := by simpa using (List.mem_singleton.mp z').symm
  rw [this] at hs
  simp at hs
theorem rds1 {K : PySem.W.Frag} {β : List Addr} {H : Hp} {t : T} {vs : List V} {n : List Addr} (h : RdsL K β H [t] vs n) : ∃ v, vs = [v] ∧ Rds K β H t v n := RdsL.one.mp h
theorem rds2 {K : PySem.W.Frag} {β : List Addr} {H : Hp} {t u : T} {vs : List V} {n : List Addr} (h : RdsL K β H [t, u] vs n) : ∃ v w n1 n2, vs = [v, w] ∧ Rds K β H t v n1 ∧ Rds K β H u w n2 := by
  obtain ⟨v, ws, n1, n2, rfl, r1, r2, _⟩ := h
  obtain ⟨w, rfl, r3⟩ := rds1 r2
  exact ⟨v, w, n1, n2, rfl, r1, r3⟩
theorem subL {α : Type} {m n : List α} (h : m = n) : ∀ a ∈ m, a ∈ n := fun a ha => h ▸ ha
theorem intsOf_ofInts : ∀ is : List Int, intsOf (is.map T.int) = some is
  | [] => rfl
  | i :: r => by rw [List.map_cons, intsOf, intsOf_ofInts r] <;> rfl
theorem crBI (hc : X.calm = true) (hg : X.A.guards = some []) (hu : X.A.units + 65 < cLine) (b : BI) : CallR X b.val (rBI X.K b) := CallR.byCases fun vs H Q h => by
  obtain ⟨β, ts, r, n, h1, e, q⟩ := h
  cases b with
  | len =>
    match ts, e with
    | [.lst xs], e =>
      obtain ⟨v, rfl, a, ws, m, rfl, ea, ra, rfl⟩ := rds1 h1
      simp only [pBI, Option.some.injEq] at e; subst e
      exact ⟨_, call_len_seq, a, ws, rfl, .inl (SqL.of ea), by rw [ra.length]; exact q.scal ⟨rfl, rfl⟩ rfl⟩
    | [.tup xs], e =>
      obtain ⟨v, rfl, a, ws, rfl, ea, ra⟩ := rds1 h1
      simp only [pBI, Option.some.injEq] at e; subst e
      exact ⟨_, call_len_seq, a, ws, rfl, .inr (SqT.of ea), by rw [ra.length]; exact q.scal ⟨rfl, rfl⟩ rfl⟩
    | [.str x], e =>
      obtain ⟨v, rfl, rfl, _⟩ := rds1 h1
      simp only [pBI] at e
      split at e
      · rename_i hz
        cases e
        exact ⟨_, call_len_str, x, rfl, le_line hz, q.scal ⟨rfl, rfl⟩ rfl⟩
      · cases e
    | [.dk ks xs], e =>
      obtain ⟨v, rfl, a, ws, m, rfl, ea, l, ra, rfl⟩ := rds1 h1
      simp only [pBI, Option.some.injEq] at e; subst e
      refine ⟨_, call_len_dict, a, _, rfl, ea, ?_⟩
      rw [List.length_zip, ← l.1, Nat.min_self]
      exact q.scal ⟨rfl, rfl⟩ rfl
    | [.non], e | [.bl _], e | [.int _], e | [.dt _ _], e | [.scr _], e | [.box _], e => simp [pBI] at e
    | [], e | _ :: _ :: _, e => simp [pBI] at e
  | abs =>
    match ts, e with
    | [.int i], e =>
      obtain ⟨v, rfl, rfl, _⟩ := rds1 h1
      simp only [pBI, Option.some.injEq] at e; subst e
      exact ⟨_, call_abs, i, rfl, q.scal ⟨rfl, rfl⟩ rfl⟩
    | [.non], e | [.bl _], e | [.str _], e | [.lst _], e | [.tup _], e | [.dk _ _], e | [.dt _ _], e | [.scr _], e | [.box _], e => simp [pBI] at e
    | [], e | _ :: _ :: _, e => simp [pBI] at e
  | int =>
    match ts, e with
    | [.int i], e =>
      obtain ⟨v, rfl, rfl, _⟩ := rds1 h1
      simp only [pBI, Option.some.injEq] at e; subst e
      exact ⟨_, call_int1, .inl ⟨i, rfl, q.scal ⟨rfl, rfl⟩ rfl⟩⟩
    | [.bl i], e =>
      obtain ⟨v, rfl, rfl, _⟩ := rds1 h1
      simp only [pBI, Option.some.injEq] at e; subst e
      exact ⟨_, call_int1, .inr ⟨i, rfl, q.scal ⟨rfl, rfl⟩ rfl⟩⟩
    | [.non], e | [.str _], e | [.lst _], e | [.tup _], e | [.dk _ _], e | [.dt _ _], e | [.scr _], e | [.box _], e => simp [pBI] at e
    | [], e | _ :: _ :: _, e => simp [pBI] at e
  | list =>
    match ts, e with
    | [.lst xs], e =>
      obtain ⟨v, rfl, a, ws, m, rfl, ea, ra, rfl⟩ := rds1 h1
      simp only [pBI, Option.some.injEq] at e; subst e
      exact ⟨_, call_list_of, a, ws, rfl, .inl (SqL.of ea), q.lst ra (by simp [kn1, kn, isNode]) (fun _ z => by simpa [kn1, kn, isNode] using z)⟩
    | [.tup xs], e =>
      obtain ⟨v, rfl, a, ws, rfl, ea, ra⟩ := rds1 h1
      simp only [pBI, Option.some.injEq] at e; subst e
      exact ⟨_, call_list_of, a, ws, rfl, .inr (SqT.of ea), q.lst ra (by simp [kn1, kn, isNode]) (fun _ z => by simpa [kn1, kn, isNode] using z)⟩
    | [.scr ns], e =>
      obtain ⟨v, rfl, a, rfl, rfl, hs⟩ := rds1 h1
      simp only [pBI, Option.some.injEq] at e; subst e
      have hq : SqL X.K H a (ns.map V.int) := by
        rcases hs with ⟨o, h⟩ | h
        · exact .inl (.inr ⟨o, h⟩)
        · exact .inr h
      exact ⟨_, call_list_of, a, _, rfl, .inl hq, q.lst (RdsL.ofInts ns) (by simp) (fun _ _ => List.nodup_nil)⟩
    | [.non], e | [.bl _], e | [.int _], e | [.str _], e | [.dk _ _], e | [.dt _ _], e | [.box _], e => simp [pBI] at e
    | [], e | _ :: _ :: _, e => simp [pBI] at e
  | tuple =>
    match ts, e with
    | [.lst xs], e =>
      obtain ⟨v, rfl, a, ws, m, rfl, ea, ra, rfl⟩ := rds1 h1
      simp only [pBI, Option.some.injEq] at e; subst e
      exact ⟨_, call_tuple_of, a, ws, rfl, .inl ⟨SqL.of ea, q.tup ra (by simp [kn1, kn, isNode]) (fun _ z => by simpa [kn1, kn, isNode] using z)⟩⟩
    | [.tup xs], e =>
      obtain ⟨v, rfl, a, ws, rfl, ea, ra⟩ := rds1 h1
      simp only [pBI, Option.some.injEq] at e; subst e
      exact ⟨_, call_tuple_of, a, ws, rfl, .inr ⟨SqT.of ea, q.old (m := n) ⟨a, ws, rfl, ea, ra⟩ (by simp [kn1, kn, isNode]) (fun _ z => by simpa [kn1, kn, isNode] using z)⟩⟩
    | [.non], e | [.bl _], e | [.int _], e | [.str _], e | [.dk _ _], e | [.dt _ _], e | [.scr _], e | [.box _], e => simp [pBI] at e
    | [], e | _ :: _ :: _, e => simp [pBI] at e
  | sorted =>
    match ts, e with
    | [.lst xs], e =>
      obtain ⟨v, rfl, a, ws, m, rfl, ea, ra, rfl⟩ := rds1 h1
      cases ei : intsOf xs with
      | some ns =>
        simp only [pBI, ei, Option.some.injEq] at e
        subst e
        obtain ⟨rfl, rfl⟩ := ra.ints ei
        refine ⟨_, cr_sortedI, a, ns, rfl, SqL.of ea, fun ns' p hp hs hn => ?_⟩
        have : ns' = isort ns := sorted_uniq (hp.trans (isort_perm ns).symm) hs (isort_sorted ns)
        subst this
        exact q.lst (RdsL.ofInts (isort ns)) (by simp) (fun _ _ => List.nodup_nil) p hn
      | none =>
        simp only [pBI, ei, Option.map_eq_some_iff] at e
        obtain ⟨rs, er, rfl⟩ := e
        obtain ⟨bs, rfl, rfl, rfl, hb⟩ := ra.rows er
        refine ⟨_, call_sortedR hu, a, bs, rfl, SqL.of ea, fun b hm => ?_, fun bs' p pm same hn => ?_⟩
        · obtain ⟨a', vs, m, e1, e2, r3, _⟩ := hb b hm
          have := (RdsL.ints r3 (intsOf_ofInts b.1)).1
          subst this
          exact ⟨a', e1, SqL.of e2⟩
        · have rd := rows_rds (bs := bs') fun b hm => hb b (pm.mem_iff.mp hm)
          have et : (bs'.map fun b => T.lst (b.1.map T.int)) = (sortR (bs.map (·.1))).map fun is => T.lst (is.map T.int) := by
            rw [← same, List.map_map] <;> rfl
          rw [et] at rd
          have pf : ((bs'.map (·.2.2)).flatten).Perm ((bs.map (·.2.2)).flatten) := (pm.map _).flatten
          exact q.lst rd (fun a ha => by simpa [kn1, kn, isNode] using pf.mem_iff.mp ha) (fun _ nd => by
            have nd : ((bs.map (·.2.2)).flatten).Nodup := by simpa [kn1, kn, isNode] using nd
            exact pf.nodup_iff.mpr nd) p hn
    | [.tup xs], e =>
      obtain ⟨v, rfl, a, ws, rfl, ea, ra⟩ := rds1 h1
      simp only [pBI, Option.map_eq_some_iff] at e
      obtain ⟨ns, e', rfl⟩ := e
      obtain ⟨rfl, rfl⟩ := ra.ints e'
      refine ⟨_, call_sortedT, a, ns, rfl, SqT.of ea, fun ns' p hp hs hn => ?_⟩
      have : ns' = isort ns := sorted_uniq (hp.trans (isort_perm ns).symm) hs (isort_sorted ns)
      subst this
      exact q.lst (RdsL.ofInts (isort ns)) (by simp) (fun _ _ => List.nodup_nil) p hn
    | [.non], e | [.bl _], e | [.int _], e | [.str _], e | [.dk _ _], e | [.dt _ _], e | [.scr _], e | [.box _], e => simp [pBI] at e
    | [], e | _ :: _ :: _, e => simp [pBI] at e
  | all =>
    match ts, e with
    | [.lst xs], e =>
      obtain ⟨v, rfl, a, ws, m, rfl, ea, ra, rfl⟩ := rds1 h1
      simp only [pBI, Option.map_eq_some_iff] at e
      obtain ⟨bs, e', rfl⟩ := e
      have hw := ra.bls e'
      subst hw
      exact ⟨_, cr_all hc, a, bs, rfl, SqL.of ea, q.scal ⟨rfl, rfl⟩ rfl⟩
    | [.non], e | [.bl _], e | [.int _], e | [.str _], e | [.tup _], e | [.dk _ _], e | [.dt _ _], e | [.scr _], e | [.box _], e => simp [pBI] at e
    | [], e | _ :: _ :: _, e => simp [pBI] at e
  | any =>
    match ts, e with
    | [.lst xs], e =>
      obtain ⟨v, rfl, a, ws, m, rfl, ea, ra, rfl⟩ := rds1 h1
      simp only [pBI, Option.map_eq_some_iff] at e
      obtain ⟨bs, e', rfl⟩ := e
      have hw := ra.bls e'
      subst hw
      exact ⟨_, cr_any hc, a, bs, rfl, SqL.of ea, q.scal ⟨rfl, rfl⟩ rfl⟩
    | [.non], e | [.bl _], e | [.int _], e | [.str _], e | [.tup _], e | [.dk _ _], e | [.dt _ _], e | [.scr _], e | [.box _], e => simp [pBI] at e
    | [], e | _ :: _ :: _, e => simp [pBI] at e
  | sum =>
    match ts, e with
    | [.lst xs], e =>
      obtain ⟨v, rfl, a, ws, m, rfl, ea, ra, rfl⟩ := rds1 h1
      simp only [pBI, Option.map_eq_some_iff] at e
      obtain ⟨bs, e', rfl⟩ := e
      obtain ⟨hw, _⟩ := ra.ints e'
      subst hw
      exact ⟨_, cr_sum hc, a, bs, rfl, SqL.of ea, q.scal ⟨rfl, rfl⟩ rfl⟩
    | [.tup xs], e =>
      obtain ⟨v, rfl, a, ws, rfl, ea, ra⟩ := rds1 h1
      simp only [pBI, Option.map_eq_some_iff] at e
      obtain ⟨bs, e', rfl⟩ := e
      obtain ⟨hw, _⟩ := ra.ints e'
      subst hw
      exact ⟨_, call_sumT hc, a, bs, rfl, SqT.of ea, q.scal ⟨rfl, rfl⟩ rfl⟩
    | [.non], e | [.bl _], e | [.int _], e | [.str _], e | [.dk _ _], e | [.dt _ _], e | [.scr _], e | [.box _], e => simp [pBI] at e
    | [], e | _ :: _ :: _, e => simp [pBI] at e
  | max1 =>
    match ts, e with
    | [.lst xs], e =>
      obtain ⟨v, rfl, a, ws, m, rfl, ea, ra, rfl⟩ := rds1 h1
      simp only [pBI] at e
      split at e
      · rename_i k ns e1
        cases e
        obtain ⟨hw, _⟩ := ra.ints e1
        subst hw
        obtain ⟨m1, m2⟩ := lmax_spec ns k
        refine ⟨_, cr_max hc, a, k :: ns, rfl, SqL.of ea, by simp, fun z h2 h3 => ?_⟩
        have : z = lmax k ns := Int.le_antisymm (m2 z h2) (h3 _ m1)
        subst this
        exact q.scal ⟨rfl, rfl⟩ rfl
      · cases e
    | [.tup xs], e =>
      obtain ⟨v, rfl, a, ws, rfl, ea, ra⟩ := rds1 h1
      simp only [pBI] at e
      split at e
      · rename_i k ns e1
        cases e
        obtain ⟨hw, _⟩ := ra.ints e1
        subst hw
        exact ⟨_, call_maxT hc (by omega), a, k, ns, rfl, SqT.of ea, q.scal ⟨rfl, rfl⟩ rfl⟩
      · cases e
    | [.non], e | [.bl _], e | [.int _], e | [.str _], e | [.dk _ _], e | [.dt _ _], e | [.scr _], e | [.box _], e => simp [pBI] at e
    | [], e | _ :: _ :: _, e => simp [pBI] at e
  | min1 =>
    match ts, e with
    | [.lst xs], e =>
      obtain ⟨v, rfl, a, ws, m, rfl, ea, ra, rfl⟩ := rds1 h1
      simp only [pBI] at e
      split at e
      · rename_i k ns e1
        cases e
        obtain ⟨hw, _⟩ := ra.ints e1
        subst hw
        obtain ⟨m1, m2⟩ := lmin_spec ns k
        refine ⟨_, cr_min hc, a, k :: ns, rfl, SqL.of ea, by simp, fun z h2 h3 => ?_⟩
        have : z = lmin k ns := Int.le_antisymm (h3 _ m1) (m2 z h2)
        subst this
        exact q.scal ⟨rfl, rfl⟩ rfl
      · cases e
    | [.tup xs], e =>
      obtain ⟨v, rfl, a, ws, rfl, ea, ra⟩ := rds1 h1
      simp only [pBI] at e
      split at e
      · rename_i k ns e1
        cases e
        obtain ⟨hw, _⟩ := ra.ints e1
        subst hw
        exact ⟨_, call_minT hc (by omega), a, k, ns, rfl, SqT.of ea, q.scal ⟨rfl, rfl⟩ rfl⟩
      · cases e
    | [.non], e | [.bl _], e | [.int _], e | [.str _], e | [.dk _ _], e | [.dt _ _], e | [.scr _], e | [.box _], e => simp [pBI] at e
    | [], e | _ :: _ :: _, e => simp [pBI] at e
  | max2 =>
    match ts, e with
    | [.int i, .int j], e =>
      obtain ⟨v, w, n1, n2, rfl, ⟨rfl, _⟩, ⟨rfl, _⟩⟩ := rds2 h1
      simp only [pBI, Option.some.injEq] at e; subst e
      exact ⟨_, call_max2 hc, i, j, rfl, q.scal ⟨rfl, rfl⟩ rfl⟩
    | [], e | [_], e | _ :: _ :: _ :: _, e => simp [pBI] at e
    | [t, u], e =>
      cases t <;> cases u <;> simp only [pBI, reduceCtorEq] at e
      obtain ⟨v, w, n1, n2, rfl, ⟨rfl, _⟩, ⟨rfl, _⟩⟩ := rds2 h1
      simp only [Option.some.injEq] at e; subst e
      exact ⟨_, call_max2 hc, _, _, rfl, q.scal ⟨rfl, rfl⟩ rfl⟩
  | min2 =>
    match ts, e with
    | [.int i, .int j], e =>
      obtain ⟨v, w, n1, n2, rfl, ⟨rfl, _⟩, ⟨rfl, _⟩⟩ := rds2 h1
      simp only [pBI, Option.some.injEq] at e; subst e
      exact ⟨_, call_min2 hc, i, j, rfl, q.scal ⟨rfl, rfl⟩ rfl⟩
    | [], e | [_], e | _ :: _ :: _ :: _, e => simp [pBI] at e
    | [t, u], e =>
      cases t <;> cases u <;> simp only [pBI, reduceCtorEq] at e
      obtain ⟨v, w, n1, n2, rfl, ⟨rfl, _⟩, ⟨rfl, _⟩⟩ := rds2 h1
      simp only [Option.some.injEq] at e; subst e
      exact ⟨_, call_min2 hc, _, _, rfl, q.scal ⟨rfl, rfl⟩ rfl⟩
  | repr =>
    match ts, e with
    | [], e | _ :: _ :: _, e => simp [pBI] at e
    | [t], e =>
      obtain ⟨v, rfl, rt⟩ := rds1 h1
      have main : (if datum 40 t then (match dataOf t with | some d => if d.showable && Nat.ble d.shown.length line then some (T.str d.shown) else none | none => none) else none) = some r →
          ∃ r', CallR X BI.repr.val r' ∧ r' [v] H Q := fun e => by
        split at e
        · rename_i hd
          split at e
          · rename_i d hdd
            split at e
            · rename_i hc2
              cases e
              simp only [Bool.and_eq_true] at hc2
              obtain ⟨p, d1, c1, l1, e1⟩ := datum_dp t rt hd
              rw [hdd] at e1
              cases e1
              exact ⟨_, call_reprD hg hu, v, d, rfl, d1, c1, by omega, hc2.1, le_line hc2.2, q.scal ⟨rfl, rfl⟩ rfl⟩
            · cases e
          · cases e
        · cases e
      cases t with
      | dk ks xs =>
        cases ks with
        | nil =>
          obtain ⟨a, ws, m, rfl, ea, l, ra, rfl⟩ := rt
          have hw := zip_nil l.1 rfl
          subst hw
          simp only [pBI, Option.some.injEq] at e; subst e
          exact ⟨_, call_repr0 hg hu, a, rfl, ea, q.scal ⟨rfl, rfl⟩ rfl⟩
        | cons k ks => exact main e
      | _ => exact main e
  | dict =>
    match ts, e with
    | [.lst xs], e =>
      obtain ⟨v, rfl, a, ws, m, rfl, ea, ra, rfl⟩ := rds1 h1
      simp only [pBI, dictOf] at e
      cases hgo : dictGo xs [] [] with
      | some d =>
        rw [hgo] at e
        have e : dictGo xs [] [] = some r := by rw [hgo]; exact e
        obtain ⟨ps, kvs, ks', ts', ws', m', rfl, e2, rfl, e4, e5, e6, e7, e8, e9⟩ := dictGo_ok (ks := []) (ts := []) (ws := []) (m := []) ra ⟨rfl, rfl⟩ rfl List.nodup_nil e
        have e7' : mergeK [] kvs = ks'.zip ws' := e7
        refine ⟨_, call_dictP hc, a, ps, kvs, rfl, SqL.of ea, e2, fun p hp => ?_⟩
        rw [e7']
        have k1 : New1 H (upd H p (.dK (ks'.zip ws'))) := .inr ⟨p, _, hp, rfl⟩
        refine q _ _ (p :: m') k1 ⟨p, ws', m', rfl, upd_same, ⟨e5, e6⟩, e4.new k1, rfl⟩ ⟨m', fun b hb => ?_, fun _ z => ?_, .inr ⟨p, hp, rfl⟩⟩
        · rcases e8 b hb with z | z
          · cases z
          · simpa [kn1, kn, isNode] using z
        · exact e9 (fun _ z => by cases z) List.nodup_nil (by simpa [kn1, kn, isNode] using z)
      | none =>
        rw [hgo] at e
        obtain ⟨ps, kvs, ts', rfl, e2, e3, e4, e5⟩ := dictT_ok ra List.nodup_nil e
        rw [List.nil_append, List.nil_append] at e3
        subst e3
        refine ⟨_, call_dictT (by omega) hc, a, ps, kvs, rfl, SqL.of ea, e2, by simpa using e5, fun p hp => ?_⟩
        have k1 : New1 H (upd H p (.dT kvs)) := .inr ⟨p, _, hp, rfl⟩
        refine q _ _ (p :: m) k1 ⟨p, kvs.map (·.2), m, rfl, ?_, ⟨by simp, by simpa using e5⟩, e4.new k1, rfl⟩ ⟨m, fun b hb => ?_, fun _ z => ?_, .inr ⟨p, hp, rfl⟩⟩
        · rw [upd_same, zip_kvs]
        · simpa [kn1, kn, isNode] using hb
        · simpa [kn1, kn, isNode] using z
    | [.non], e | [.bl _], e | [.int _], e | [.str _], e | [.tup _], e | [.dk _ _], e | [.dt _ _], e | [.scr _], e | [.box _], e => simp [pBI] at e
    | [], e | _ :: _ :: _, e => simp [pBI] at e
end
end MP

/-! C8: readings from the evaluator; the rules for expressions, one by one. -/
namespace MP
open PySem L2

/-- what the program is: the slots' kinds, the defs, the error classes -/
structure Cf where
  g : Sg
  F : Fns
  at_ : Nat → Str
  cl : Nat → Addr
  r : Nat
def Sat {α : Type} (r : Res α) (P : α → Mem → Prop) (E : Nat → T → Mem → Prop) : Prop := match r with
  | .ok a μ => P a μ
  | .exc c t μ => E c t μ
  | .stuck => False
theorem Sat_bind {α β : Type} {r : Res α} {f : α → Mem → Res β} {P : β → Mem → Prop} {E : Nat → T → Mem → Prop} (h : Sat (r.bind f) P E) : Sat r (fun a μ => Sat (f a μ) P E) E := by cases r <;> exact h
theorem Sat.mono {α : Type} {r : Res α} {P P' : α → Mem → Prop} {E E' : Nat → T → Mem → Prop} (h : Sat r P E) (hp : ∀ a μ, P a μ → P' a μ) (he : ∀ c t μ, E c t μ → E' c t μ) : Sat r P' E' := by
  cases r with
  | ok a μ => exact hp a μ h
  | exc c t μ => exact he c t μ h
  | stuck => exact h
theorem Sat_opt {α : Type} {o : Option α} {μ : Mem} {P : α → Mem → Prop} {E : Nat → T → Mem → Prop} (h : Sat (opt o μ) P E) : ∃ a, o = some a ∧ P a μ := by
  cases o with
  | some a => exact ⟨a, rfl, h⟩
  | none => exact False.elim h
theorem Sat_if {α : Type} {b : Bool} {r : Res α} {P : α → Mem → Prop} {E : Nat → T → Mem → Prop} (h : Sat (if b = true then r else .stuck) P E) : b = true ∧ Sat r P E := by
  cases b with
  | true => exact ⟨rfl, h⟩
  | false => exact False.elim h
/-- the nodes of the slots -/
def Own (ns : Nat → List Addr) : Addr → Prop := fun a => ∃ i, a ∈ ns i
/-- the wish about an exception; A: whose nodes may be in it -/
def XW (C : Cf) (K : PySem.W.Frag) (β : List Addr) (bn : Nat → List Addr) (A : Addr → Prop) (H : Hp) (W : Value → Option Addr → Hp → Prop) : Nat → T → Mem → Prop := fun c t μ' =>
  ∀ d v H' bn' n, H d = none → H' d = some (.xd [(C.at_ c, v)]) → Step K β bn H H' μ' bn' → Rds K β H' t v n → (∀ a ∈ n, ¬ Bx β bn' a) → (∀ a ∈ n, H a = none ∨ A a) → W (.ref (C.cl c)) (some d) H'
theorem XW.step {C : Cf} {K : PySem.W.Frag} {β : List Addr} {bn bn1 : Nat → List Addr} {A : Addr → Prop} {H H1 : Hp} {μ1 : Mem} {W : Value → Option Addr → Hp → Prop} {c : Nat} {t : T} {μ : Mem} (s : Step K β bn H H1 μ1 bn1) (h : XW C K β bn A H W c t μ) : XW C K β bn1 A H1 W c t μ :=
  fun d v H' bn' n h0 h1 s' r nb sr => h d v H' bn' n (s.keep.more d h0) h1 (s.trans s') r nb fun a ha => (sr a ha).imp_left (s.keep.more a)
/-- an expression's reading -/
def tE (C : Cf) (K : PySem.W.Frag) (W : WX) (ie : IE) : TE := fun σ H Q => ∃ ρ μ β ns bn, ESt K C.g β H ρ σ μ ns bn ∧
  Sat (evE C.F ρ ie μ) (fun t μ' => ∀ v H' bn' n, Step K β bn H H' μ' bn' → Val K β bn' ns H H' (info C.g ie) t v n → Q v H') (XW C K β bn (Own ns) H fun c d H' => W c d σ H')
/-- a list of expressions, any evaluator of them -/
def tLs (C : Cf) (K : PySem.W.Frag) (W : WX) (ev : Env → Mem → Res (List T)) (i : Inf) : TA := fun σ H Q => ∃ ρ μ β ns bn, ESt K C.g β H ρ σ μ ns bn ∧
  Sat (ev ρ μ) (fun ts μ' => ∀ vs H' bn' n, Step K β bn H H' μ' bn' → Vls K β bn' ns H H' i ts vs n → Q vs H') (XW C K β bn (Own ns) H fun c d H' => W c d σ H')
/-- a test's reading -/
def tT (C : Cf) (K : PySem.W.Frag) (W : WX) (ie : IE) : TT := fun σ H Q => ∃ ρ μ β ns bn, ESt K C.g β H ρ σ μ ns bn ∧
  Sat (evE C.F ρ ie μ) (fun t μ' => ∃ b, t = .bl b ∧ ∀ H' bn', Step K β bn H H' μ' bn' → Q b H') (XW C K β bn (Own ns) H fun c d H' => W c d σ H')
section
variable {C : Cf} {K : PySem.W.Frag} {W : WX} {β : List Addr} {H : Hp} {ρ : Env} {σ : St} {μ : Mem} {ns bn : Nat → List Addr}
theorem use {ie : IE} {Q : VK} {P : T → Mem → Prop} (S : ESt K C.g β H ρ σ μ ns bn) (h : Sat (evE C.F ρ ie μ) P (XW C K β bn (Own ns) H fun c d H' => W c d σ H'))
    (k : ∀ t μ' v H' bn' n, P t μ' → Step K β bn H H' μ' bn' → Val K β bn' ns H H' (info C.g ie) t v n → Q v H') : tE C K W ie σ H Q :=
  ⟨ρ, μ, β, ns, bn, S, h.mono (fun t μ' p v H' bn' n s x => k t μ' v H' bn' n p s x) fun _ _ _ e => e⟩
theorem useL {ev : Env → Mem → Res (List T)} {i : Inf} {Q : List V → Hp → Prop} {P : List T → Mem → Prop} (S : ESt K C.g β H ρ σ μ ns bn) (h : Sat (ev ρ μ) P (XW C K β bn (Own ns) H fun c d H' => W c d σ H'))
    (k : ∀ ts μ' vs H' bn' n, P ts μ' → Step K β bn H H' μ' bn' → Vls K β bn' ns H H' i ts vs n → Q vs H') : tLs C K W ev i σ H Q :=
  ⟨ρ, μ, β, ns, bn, S, h.mono (fun t μ' p v H' bn' n s x => k t μ' v H' bn' n p s x) fun _ _ _ e => e⟩
theorem useT {ie : IE} {Q : Bool → Hp → Prop} {P : T → Mem → Prop} (S : ESt K C.g β H ρ σ μ ns bn) (h : Sat (evE C.F ρ ie μ) P (XW C K β bn (Own ns) H fun c d H' => W c d σ H'))
    (kb : ∀ t μ', P t μ' → ∃ b, t = .bl b) (k : ∀ b μ' H' bn', P (.bl b) μ' → Step K β bn H H' μ' bn' → Q b H') : tT C K W ie σ H Q :=
  ⟨ρ, μ, β, ns, bn, S, h.mono (fun t μ' p => by
    obtain ⟨b, rfl⟩ := kb t μ' p
    exact ⟨b, rfl, fun H' bn' s => k b μ' H' bn' p s⟩) fun _ _ _ e => e⟩
/-- what follows at a later heap -/
theorem Sat.later {α : Type} {r : Res α} {P : α → Mem → Prop} {H1 : Hp} {bn1 : Nat → List Addr} {μ1 : Mem} {A : Addr → Prop} {Ws : Value → Option Addr → Hp → Prop} (s : Step K β bn H H1 μ1 bn1) (h : Sat r P (XW C K β bn A H Ws)) : Sat r P (XW C K β bn1 A H1 Ws) :=
  h.mono (fun _ _ p => p) fun _ _ _ e => e.step s
end
section
variable {X : Cx}
theorem _root_.L2.PE.weak {e : Expr} {t t' : TE} (h : PE X e t) (w : ∀ σ H Q, t' σ H Q → t σ H Q) : PE X e t' := ⟨fun pins s σ H Q I q => h.run pins s σ H Q I (w σ H Q q)⟩
theorem _root_.L2.PT.weak {e : Expr} {t t' : TT} (h : PT X e t) (w : ∀ σ H Q, t' σ H Q → t σ H Q) : PT X e t' := ⟨fun pins s σ H Q I q => h.run pins s σ H Q I (w σ H Q q)⟩
theorem _root_.L2.PW.weak {e : Expr} {t t' : TT} (h : PW X e t) (w : ∀ σ H Q, t' σ H Q → t σ H Q) : PW X e t' := ⟨fun wh pins s σ H Q I q => h.run wh pins s σ H Q I (w σ H Q q)⟩
theorem _root_.L2.PA.weak {es : List Expr} {t t' : TA} (h : PA X es t) (w : ∀ σ H Q, t' σ H Q → t σ H Q) : PA X es t' := ⟨fun pos pins s σ H Q I q => h.run pos pins s σ H Q I (w σ H Q q)⟩
theorem _root_.L2.PS.weak {st : Stmt} {t t' : TS} (h : PS X st t) (w : ∀ D σ H, t' D σ H → t D σ H) : PS X st t' := ⟨fun pins s σ H D I q => h.run pins s σ H D I (w D σ H q)⟩
theorem _root_.L2.PSs.weak {st : List Stmt} {t t' : TS} (h : PSs X st t) (w : ∀ D σ H, t' D σ H → t D σ H) : PSs X st t' := ⟨fun pins s σ H D I q => h.run pins s σ H D I (w D σ H q)⟩
end
/-! ### values behind boxes -/
section
variable {K : PySem.W.Frag} {g : Sg} {β : List Addr} {H H1 : Hp} {ρ : Env} {σ : St} {μ μ1 : Mem} {ns bn bn1 : Nat → List Addr} {i : Inf} {t : T} {v : V} {n : List Addr}
/-- the children's nodes lean on what kidI tells -/
structure Kid (ns bn1 : Nat → List Addr) (β : List Addr) (H : Hp) (i : Inf) (m : List Addr) : Prop where
  nb : ∀ a ∈ m, ¬ Bx β bn1 a
  src : ∀ a ∈ m, H a = none ∨ (∃ j ∈ i.dp, a ∈ ns j) ∨ (∃ j ∈ i.dc, a ∈ (ns j).drop 1)
  lin : i.lin = true → m.Nodup
theorem Kid.nil : Kid ns bn1 β H i [] where
  nb := fun _ z => by cases z
  src := fun _ z => by cases z
  lin := fun _ => List.nodup_nil
theorem kn_sub (t : T) (n : List Addr) : (kn t n).Sublist n := by
  unfold kn
  split
  · exact List.drop_sublist 1 n
  · exact List.Sublist.refl n
theorem Val.kid (x : Val K β bn1 ns H H1 i t v n) : Kid ns bn1 β H (kidI g i) (kn t n) := by
  have sub := (kn_sub t n).subset
  cases e : i.self with
  | none =>
    have ek : kidI g i = ⟨i.dp, i.dc, i.lin, false, none⟩ := by unfold kidI; rw [e]
    rw [ek]
    exact ⟨fun a ha => x.nb a (sub ha), fun a ha => x.ok.src a (sub ha), fun h => (x.ok.lin h).sublist (kn_sub t n)⟩
  | some j =>
    have ek : kidI g i = ⟨[], [j], false, false, none⟩ := by unfold kidI; rw [e]
    rw [ek]
    obtain ⟨en, ht⟩ := x.ok.self j e
    rcases ht with ht | ht
    · refine ⟨fun a ha => x.nb a (sub ha), fun a ha => .inr (.inr ⟨j, by simp, ?_⟩), fun h => by cases h⟩
      unfold kn at ha
      rw [if_pos ht, en] at ha
      exact ha
    · have e0 : kn t n = [] := List.eq_nil_of_subset_nil (fun a ha => ht ▸ sub ha)
      rw [e0]
      exact Kid.nil
mutual
theorem nodeless_kids : ∀ (t : T) {v : V} {n : List Addr}, Rds K β H t v n → nodelessL (kidsOf t) = true → kn t n = []
  | .non, v, n, h, _ => by obtain ⟨_, rfl⟩ := h; rfl
  | .bl _, v, n, h, _ => by obtain ⟨_, rfl⟩ := h; rfl
  | .int _, v, n, h, _ => by obtain ⟨_, rfl⟩ := h; rfl
  | .str _, v, n, h, _ => by obtain ⟨_, rfl⟩ := h; rfl
  | .lst xs, v, n, h, e => by obtain ⟨a, vs, m, _, _, r, rfl⟩ := h; show m = []; exact r.nil _ e
  | .tup xs, v, n, h, e => by obtain ⟨a, vs, _, _, r⟩ := h; show n = []; exact r.nil _ e
  | .dk _ xs, v, n, h, e => by obtain ⟨a, vs, m, _, _, _, r, rfl⟩ := h; show m = []; exact r.nil _ e
  | .dt _ xs, v, n, h, e => by obtain ⟨a, vs, m, _, _, _, r, rfl⟩ := h; show m = []; exact r.nil _ e
  | .scr _, v, n, h, _ => by obtain ⟨_, _, rfl, _⟩ := h; rfl
  | .box _, v, n, h, _ => by obtain ⟨_, _, _, rfl⟩ := h; rfl
end
/-- a value as it is seen through its box -/
theorem view_ok (b : BoxOk K β H1 μ1 bn1) (x : Val K β bn1 ns H H1 i t v n) :
    ∃ n', Rds K β H1 (view μ1 t) v n' ∧ (∀ k, view μ1 t ≠ .box k) ∧ (kidsOk t (kidsOf (view μ1 t)) = true → Kid ns bn1 β H (kidI g i) (kn (view μ1 t) n') ∧ ∀ a ∈ kn (view μ1 t) n', a ∈ n) := by
  cases t with
  | box k =>
    obtain ⟨a, rfl, e, rfl⟩ := x.rd
    have hk : k < μ1.length := by rw [← b.len]; exact (List.getElem?_eq_some_iff.mp e).1
    obtain ⟨a', e', r, bl, _⟩ := b.rd k μ1[k] (List.getElem?_eq_getElem hk)
    rw [e] at e'; cases e'
    have ev : view μ1 (.box k) = μ1[k] := by simp [view, List.getElem?_eq_getElem hk]
    rw [ev]
    refine ⟨bn1 k, r, fun j z => ?_, fun ok => ?_⟩
    · rw [z] at bl; cases bl
    · have := nodeless_kids _ r ok
      rw [this]
      exact ⟨Kid.nil, fun _ z => by cases z⟩
  | _ => exact ⟨n, x.rd, fun k z => (by cases z), fun _ => ⟨x.kid, (kn_sub _ n).subset⟩⟩
/-- a value out of OutN: nodes out of the children of one -/
theorem Kid.val {r : T} {w : V} {H' : Hp} {m k nn : List Addr} {j : Inf} {nd : Bool} (kd : Kid ns bn1 β H j m) (hs : Step K β bn H H1 μ1 bn1) (kk : Keeps (fun _ => False) H1 H') (rd : Rds K β H' r w nn) (h1 : ∀ a ∈ k, a ∈ m) (h2 : nd = true → m.Nodup → k.Nodup)
    (h3 : (isNode r = false ∧ nn = k) ∨ ∃ p, H1 p = none ∧ nn = p :: k) (tr : ∀ a ∈ m, H1 a ≠ none) (hb : ∀ a, H1 a = none → ¬ Bx β bn1 a) : Val K β bn1 ns H H' ⟨j.dp, j.dc, nd && j.lin, true, none⟩ r w nn where
  rd := rd
  nb := fun a ha => by
    rcases h3 with ⟨_, rfl⟩ | ⟨p, hp, rfl⟩
    · exact kd.nb a (h1 a ha)
    · rcases List.mem_cons.mp ha with rfl | ha
      · exact hb a hp
      · exact kd.nb a (h1 a ha)
  ok := {
    src := fun a ha => by
      rcases h3 with ⟨_, rfl⟩ | ⟨p, hp, rfl⟩
      · exact kd.src a (h1 a ha)
      · rcases List.mem_cons.mp ha with rfl | ha
        · exact .inl (hs.keep.more a hp)
        · exact kd.src a (h1 a ha)
    lin := fun e => by
      have e' : nd = true ∧ j.lin = true := by simpa using e
      have hk : k.Nodup := h2 e'.1 (kd.lin e'.2)
      rcases h3 with ⟨_, rfl⟩ | ⟨p, hp, rfl⟩
      · exact hk
      · exact List.nodup_cons.mpr ⟨fun z => tr p (h1 p z) hp, hk⟩
    top := fun _ en => by
      rcases h3 with ⟨e, _⟩ | ⟨p, hp, rfl⟩
      · rw [en] at e; cases e
      · exact ⟨p, k, rfl, hs.keep.more p hp, fun z => tr p (h1 p z) hp⟩
    self := fun j z => by cases z }
/-- a new thing is no box's -/
theorem BoxOk.fresh (b : BoxOk K β H1 μ1 bn1) (a : Addr) (h : H1 a = none) : ¬ Bx β bn1 a := fun z => by
  obtain ⟨o, e, _⟩ := b.node z
  rw [e] at h; cases h
theorem Step.new1 {H' : Hp} (b : BoxOk K β H μ bn) (h : New1 H H') : Step K β bn H H' μ bn := by
  rcases h with rfl | ⟨p, o, hp, rfl⟩
  · exact Step.refl b
  · exact Step.new b hp
end
end MP

/-! C9: the rules for expressions, one by one. -/
namespace MP
open PySem L2

section
variable {K : PySem.W.Frag} {g : Sg} {β : List Addr} {H H1 H2 H' : Hp} {ρ : Env} {σ : St} {μ μ1 μ2 : Mem} {ns bn bn1 bn2 bn' : Nat → List Addr} {i i' j : Inf} {t r : T} {v : V} {n : List Addr}
theorem nodeless_isNode {t : T} (h : nodeless t = true) : isNode t = false := by cases t <;> first | rfl | cases h
theorem Val.imm (rd : Rds K β H' t v n) (nl : nodeless t = true) (hs : i.self = none) : Val K β bn' ns H H' i t v n := by
  have := rd.nil _ nl
  subst this
  exact ⟨rd, (fun _ z => by cases z), Good.nil (nodeless_isNode nl) hs⟩
theorem Val.imp (x : Val K β bn' ns H H' i t v n) (hd : ∀ l ∈ i.dp, l ∈ i'.dp) (hc : ∀ l ∈ i.dc, l ∈ i'.dc) (hl : i'.lin = true → i.lin = true) (ht : i'.top = true → i.top = true) (hs : i'.self = none) : Val K β bn' ns H H' i' t v n where
  rd := x.rd
  nb := x.nb
  ok := {
    src := fun a ha => by
      rcases x.ok.src a ha with z | ⟨k, k1, k2⟩ | ⟨k, k1, k2⟩
      · exact .inl z
      · exact .inr (.inl ⟨k, hd k k1, k2⟩)
      · exact .inr (.inr ⟨k, hc k k1, k2⟩)
    lin := fun z => x.ok.lin (hl z)
    top := fun z => x.ok.top (ht z)
    self := fun k z => by rw [hs] at z; cases z }
theorem fin_out {nd : Bool} {ks : List Addr} {Q : VK} (b2 : BoxOk K β H2 μ2 bn2) (s : Step K β bn H H2 μ2 bn2) (kd : Kid ns bn2 β H j ks) (tr : ∀ a ∈ ks, H2 a ≠ none) (hd : ∀ l ∈ j.dp, l ∈ i.dp) (hc : ∀ l ∈ j.dc, l ∈ i.dc) (hl : i.lin = true → nd = true ∧ j.lin = true) (hs : i.self = none)
    (q : ∀ v H' bn' n, Step K β bn H H' μ2 bn' → Val K β bn' ns H H' i r v n → Q v H') : OutN K β H2 nd r ks Q := fun v H' n n1 rd ⟨k, h1, h2, h3⟩ =>
  q v H' bn2 n (s.trans (Step.new1 b2 n1)) ((Kid.val kd s (keepsN n1) rd h1 h2 h3 tr fun a z => b2.fresh a z).imp hd hc (fun z => by simpa using hl z) (fun _ => rfl) hs)
theorem fin_imm {nd : Bool} {ks : List Addr} {Q : VK} (b2 : BoxOk K β H2 μ2 bn2) (s : Step K β bn H H2 μ2 bn2) (nl : nodeless r = true) (hs : i.self = none)
    (q : ∀ v H' bn' n, Step K β bn H H' μ2 bn' → Val K β bn' ns H H' i r v n → Q v H') : OutN K β H2 nd r ks Q := fun v H' n n1 rd _ =>
  q v H' bn2 n (s.trans (Step.new1 b2 n1)) (Val.imm rd nl hs)
theorem kid_trk {a : Addr} (rd : Rds K β H t v n) (h : a ∈ kn t n) : H a ≠ none := fun z => by
  obtain ⟨o, e, _⟩ := rd.node t a ((kn_sub t n).subset h)
  rw [e] at z; cases z
/-- two parts' children: those of the second were made behind the first -/
theorem Kid.join {m1 m2 : List Addr} (S : ESt K g β H ρ σ μ ns bn) (s1 : Step K β bn H H1 μ1 bn1) (x : Kid ns bn2 β H i m1) (y : Kid ns bn2 β H1 j m2) (tx : ∀ a ∈ m1, H1 a ≠ none) : Kid ns bn2 β H (i.join g j) (m1 ++ m2) where
  nb := fun a ha => by
    rcases List.mem_append.mp ha with ha | ha
    · exact x.nb a ha
    · exact y.nb a ha
  src := fun a ha => by
    rcases List.mem_append.mp ha with ha | ha
    · rcases x.src a ha with h | ⟨k, h1, h2⟩ | ⟨k, h1, h2⟩
      · exact .inl h
      · exact .inr (.inl ⟨k, List.mem_append_left _ h1, h2⟩)
      · exact .inr (.inr ⟨k, List.mem_append_left _ h1, h2⟩)
    · rcases y.src a ha with h | ⟨k, h1, h2⟩ | ⟨k, h1, h2⟩
      · exact .inl (s1.keep.more a h)
      · exact .inr (.inl ⟨k, List.mem_append_right _ h1, h2⟩)
      · exact .inr (.inr ⟨k, List.mem_append_right _ h1, h2⟩)
  lin := fun e => by
    have e' : (i.lin && j.lin && i.dc.isEmpty && j.dc.isEmpty && disj i.dp j.dp && i.dp.all (fun k => g.k k == .D) && j.dp.all (fun k => g.k k == .D)) = true := e
    simp only [Bool.and_eq_true] at e'
    obtain ⟨⟨⟨⟨⟨⟨h1, h2⟩, h3⟩, h4⟩, h5⟩, h6⟩, h7⟩ := e'
    have kd : ∀ k ∈ i.dp, g.k k = .D := fun k hk => by simpa using List.all_eq_true.mp h6 k hk
    have kd' : ∀ k ∈ j.dp, g.k k = .D := fun k hk => by simpa using List.all_eq_true.mp h7 k hk
    refine List.nodup_append.mpr ⟨x.lin h1, y.lin h2, fun a ha b hb z => ?_⟩
    subst z
    have nodc : ∀ {l : List Nat}, l.isEmpty = true → ∀ k, k ∉ l := fun h k hk => by rw [List.isEmpty_iff.mp h] at hk; cases hk
    rcases y.src a hb with z | ⟨k, k1, k2⟩ | ⟨k, k1, _⟩
    · exact tx a ha z
    · rcases x.src a ha with z | ⟨l, l1, l2⟩ | ⟨l, l1, _⟩
      · obtain ⟨o, q, _⟩ := S.node k2
        rw [q] at z; cases z
      · have hne : l ≠ k := fun z => mem_disj h5 l1 (z ▸ k1)
        exact S.dd l k hne (kd l l1) (kd' k k1) a l2 k2
      · exact nodc h3 l l1
    · exact nodc h4 k k1
theorem Kid.mix {m1 m2 : List Addr} (s1 : Step K β bn H H1 μ1 bn1) (x : Kid ns bn2 β H i m1) (y : Kid ns bn2 β H1 j m2) : Kid ns bn2 β H (i.mix j) (m1 ++ m2) where
  nb := fun a ha => by
    rcases List.mem_append.mp ha with ha | ha
    · exact x.nb a ha
    · exact y.nb a ha
  src := fun a ha => by
    rcases List.mem_append.mp ha with ha | ha
    · rcases x.src a ha with h | ⟨k, h1, h2⟩ | ⟨k, h1, h2⟩
      · exact .inl h
      · exact .inr (.inl ⟨k, List.mem_append_left _ h1, h2⟩)
      · exact .inr (.inr ⟨k, List.mem_append_left _ h1, h2⟩)
    · rcases y.src a ha with h | ⟨k, h1, h2⟩ | ⟨k, h1, h2⟩
      · exact .inl (s1.keep.more a h)
      · exact .inr (.inl ⟨k, List.mem_append_right _ h1, h2⟩)
      · exact .inr (.inr ⟨k, List.mem_append_right _ h1, h2⟩)
  lin := fun e => by cases e
/-- a list, a tuple that is gone through -/
theorem seq_ok {ts : List T} (h : Rds K β H t v n) (e : seqOf t = some ts) : ∃ p vs, v = .ref p ∧ (SqT K H p vs ∨ SqL K H p vs) ∧ RdsL K β H ts vs (kn t n) := by
  cases t <;> simp only [seqOf, reduceCtorEq, Option.some.injEq] at e
  · subst e
    obtain ⟨a, vs, m, rfl, ea, r, rfl⟩ := h
    exact ⟨a, vs, rfl, .inr (SqL.of ea), r⟩
  · subst e
    obtain ⟨a, vs, rfl, ea, r⟩ := h
    exact ⟨a, vs, rfl, .inl (SqT.of ea), r⟩
  · subst e
    obtain ⟨a, rfl, rfl, h⟩ := h
    refine ⟨a, _, rfl, .inr ?_, RdsL.ofInts _⟩
    rcases h with ⟨o, h⟩ | ⟨o, its, m, h1, h2, h3, h4, h5, h6⟩
    · exact .inl (.inr ⟨o, h⟩)
    · exact .inr ⟨o, its, m, h1, h2, h3, h4, h5, h6⟩
theorem kidsOf_seq {ts : List T} (e : seqOf t = some ts) (h : kidsOk r ts = true) : kidsOk r (kidsOf t) = true := by
  cases t <;> simp only [seqOf, reduceCtorEq, Option.some.injEq] at e
  · subst e; exact h
  · subst e; exact h
  · cases r <;> rfl
end
section
variable {X : Cx} {C : Cf} {W : WX} {a b c : Expr} {x y z : IE} {pos : Pos}
theorem e_var {i : Nat} {nm : Str} (hN : X.N[i]? = some nm) (hv : Vis X.env.scope nm) (hd : (nm == ("__debug__" : Str)) = false) (hcd : (nm == ("__classdict__" : Str)) = false) : PE X (.Name nm pos) (tE C X.K W (.var i)) := (pe_var hN hv hd hcd).weak fun σ H Q h => by
  obtain ⟨ρ, μ, β, ns, bn, S, h⟩ := h
  obtain ⟨t, e, q⟩ := Sat_opt h
  obtain ⟨v, e1, r⟩ := S.sl i t e
  refine ⟨v, e1, q v H bn (ns i) (Step.refl S.box) ⟨r, S.sb i, ?_⟩⟩
  refine ⟨fun a ha => .inr (.inl ⟨i, List.mem_singleton.mpr rfl, ha⟩), fun z => S.dn i (by simpa [info] using z), (fun z => by cases z), fun j z => ?_⟩
  have z' : (if C.g.k i = .P then some i else none) = some j := z
  split at z'
  · rename_i hp
    cases z'
    exact ⟨rfl, S.pk i t hp e⟩
  · cases z'
theorem e_cst {t : T} {v : V} {e : Expr} (h : PE X e (tC v)) (rd : ∀ β H, Rds X.K β H t v []) (nl : nodeless t = true) : PE X e (tE C X.K W (.cst t)) := h.weak fun σ H Q h => by
  obtain ⟨ρ, μ, β, ns, bn, S, h⟩ := h
  exact h v H bn [] (Step.refl S.box) (Val.imm (rd β H) nl rfl)
theorem e_un (ha : PE X a (tE C X.K W x)) : PE X (.UnaryOp .USub a pos) (tE C X.K W (.un x)) := (pe_un un_neg ha).weak fun σ H Q h => by
  obtain ⟨ρ, μ, β, ns, bn, S, h⟩ := h
  refine use S (Sat_bind h) fun t μ1 v H1 bn1 n h s1 x1 => ?_
  cases t <;> try exact False.elim h
  obtain ⟨rfl, _⟩ := x1.rd
  exact ⟨_, rfl, h _ H1 bn1 [] s1 (Val.imm ⟨rfl, rfl⟩ rfl rfl)⟩
theorem e_bin (op : BOp) (ha : PE X a (tE C X.K W x)) (hb : PE X b (tE C X.K W y)) : PE X (.BinOp a op.py b pos) (tE C X.K W (.bin op x y)) := (pe_op (opBin op) ha hb).weak fun σ H Q h => by
  obtain ⟨ρ, μ, β, ns, bn, S, h⟩ := h
  refine use S (Sat_bind h) fun t μ1 v H1 bn1 n h s1 x1 => ?_
  refine use (S.step s1) ((Sat_bind h).later s1) fun u μ2 w H2 bn2 m h s2 y1 => ?_
  obtain ⟨ok, h⟩ := Sat_if h
  obtain ⟨r, e, q⟩ := Sat_opt h
  rw [Bool.and_eq_true] at ok
  have s := s1.trans s2
  obtain ⟨n', r1, _, k1⟩ := view_ok (g := C.g) s2.box (x1.step s2)
  obtain ⟨m', r2, _, k2⟩ := view_ok (g := C.g) s2.box y1
  obtain ⟨k1, u1⟩ := k1 ok.1
  obtain ⟨k2, u2⟩ := k2 ok.2
  refine ⟨β, _, _, r, n', m', r1, r2, e, ?_⟩
  have trk : ∀ a ∈ kn (view μ2 t) n' ++ kn (view μ2 u) m', H2 a ≠ none := fun a ha => by
    rcases List.mem_append.mp ha with ha | ha
    · exact kid_trk r1 ha
    · exact kid_trk r2 ha
  have tx : ∀ a ∈ kn (view μ2 t) n', H1 a ≠ none := fun a ha z => by
    obtain ⟨o, e, _⟩ := x1.node (u1 a ha)
    rw [e] at z; cases z
  cases op with
  | add => exact fin_out s2.box s (Kid.join S s1 k1 k2 tx) trk (fun _ h => h) (fun _ h => h) (fun z => ⟨rfl, z⟩) rfl q
  | mul => exact fin_out (i := info C.g (.bin .mul x y)) s2.box s (Kid.mix s1 k1 k2) trk (fun _ h => h) (fun _ h => h) (fun z => by cases z) rfl q
  | sub => exact fin_imm s2.box s (by revert e; cases view μ2 t <;> cases view μ2 u <;> simp [pBin] <;> (intro e; subst e; rfl)) rfl q
  | fdiv => exact fin_imm s2.box s (by revert e; cases view μ2 t <;> cases view μ2 u <;> simp only [pBin, reduceCtorEq, false_implies] <;> (split <;> intro e <;> cases e; rfl)) rfl q
  | mod => exact fin_imm s2.box s (by revert e; cases view μ2 t <;> cases view μ2 u <;> simp only [pBin, reduceCtorEq, false_implies] <;> (split <;> intro e <;> cases e; rfl)) rfl q
  | pow => exact fin_imm s2.box s (by revert e; cases view μ2 t <;> cases view μ2 u <;> simp only [pBin, reduceCtorEq, false_implies] <;> (split <;> intro e <;> cases e; rfl)) rfl q
theorem e_cmp (op : COp) (hu : X.A.units + 65 < cLine) (ha : PE X a (tE C X.K W x)) (hb : PE X b (tE C X.K W y)) (hm : behindInMarks op.py b = false) : PE X (.Compare a [op.py] [b] pos) (tE C X.K W (.cmp op x y)) := (pe_cmpR (opCmp hu op) ha hb hm).weak fun σ H Q h => by
  obtain ⟨ρ, μ, β, ns, bn, S, h⟩ := h
  refine use S (Sat_bind h) fun t μ1 v H1 bn1 n h s1 x1 => ?_
  refine use (S.step s1) ((Sat_bind h).later s1) fun u μ2 w H2 bn2 m h s2 y1 => ?_
  obtain ⟨r, e, q⟩ := Sat_opt (Sat_bind h)
  have s := s1.trans s2
  obtain ⟨n', r1, _, _⟩ := view_ok (g := C.g) s2.box (x1.step s2)
  obtain ⟨m', r2, _, _⟩ := view_ok (g := C.g) s2.box y1
  exact ⟨β, _, _, r, n', m', r1, r2, e, q _ H2 bn2 [] s (Val.imm ⟨rfl, rfl⟩ rfl rfl)⟩
theorem e_chn (op op' : COp) (hu : X.A.units + 65 < cLine) (ha : PE X a (tE C X.K W x)) (hb : PE X b (tE C X.K W y)) (hc : PE X c (tE C X.K W z)) (hm : lastMarks [op.py, op'.py] [b, c] = false) : PE X (.Compare a [op.py, op'.py] [b, c] pos) (tE C X.K W (.chn op op' x y z)) :=
  (pe_chain (opCmp hu op) (opCmp hu op') ha hb hc hm).weak fun σ H Q h => by
  obtain ⟨ρ, μ, β, ns, bn, S, h⟩ := h
  refine use S (Sat_bind h) fun t μ1 v H1 bn1 n h s1 x1 => ?_
  refine use (S.step s1) ((Sat_bind h).later s1) fun u μ2 w H2 bn2 m h s2 y1 => ?_
  obtain ⟨r, e, q⟩ := Sat_opt (Sat_bind h)
  have s := s1.trans s2
  obtain ⟨n', r1, _, _⟩ := view_ok (g := C.g) s2.box (x1.step s2)
  obtain ⟨m', r2, _, _⟩ := view_ok (g := C.g) s2.box y1
  refine ⟨β, _, _, r, n', m', r1, r2, e, r, rfl, ?_⟩
  cases r with
  | false => exact q _ H2 bn2 [] s (Val.imm ⟨rfl, rfl⟩ rfl rfl)
  | true =>
    show tE C X.K W z σ H2 _
    refine use (S.step s) ((Sat_bind q).later s) fun u' μ3 w' H3 bn3 m3 h s3 z1 => ?_
    obtain ⟨r', e', q⟩ := Sat_opt (Sat_bind h)
    obtain ⟨m'', r2', _, _⟩ := view_ok (g := C.g) s3.box (y1.step s3)
    obtain ⟨l', r3, _, _⟩ := view_ok (g := C.g) s3.box z1
    exact ⟨β, _, _, r', m'', l', r2', r3, e', q _ H3 bn3 [] (s.trans s3) (Val.imm ⟨rfl, rfl⟩ rfl rfl)⟩
/-! ### and, or, not, if -/
def tEB (C : Cf) (K : PySem.W.Frag) (W : WX) (isAnd : Bool) (as : List IE) : TE := fun σ H Q => ∃ ρ μ β ns bn, ESt K C.g β H ρ σ μ ns bn ∧
  Sat (evB C.F ρ isAnd as μ) (fun t μ' => ∀ v H' bn' n, Step K β bn H H' μ' bn' → Val K β bn' ns H H' (infoLast C.g as).noTop t v n → Q v H') (XW C K β bn (Own ns) H fun c d H' => W c d σ H')
def tTB (C : Cf) (K : PySem.W.Frag) (W : WX) (isAnd : Bool) (as : List IE) : TT := fun σ H Q => ∃ ρ μ β ns bn, ESt K C.g β H ρ σ μ ns bn ∧
  Sat (evB C.F ρ isAnd as μ) (fun t μ' => ∃ b, t = .bl b ∧ ∀ H' bn', Step K β bn H H' μ' bn' → Q b H') (XW C K β bn (Own ns) H fun c d H' => W c d σ H')
theorem e_b1 {op : BoolOp} {k : Bool} (ha : PE X a (tE C X.K W x)) : PE X (.BoolOp op [a] pos) (tEB C X.K W k [x]) := (pe_one ha).weak fun σ H Q h => by
  obtain ⟨ρ, μ, β, ns, bn, S, h⟩ := h
  exact use S h fun t μ1 v H1 bn1 n q s1 x1 => q v H1 bn1 n s1 (x1.imp (fun _ h => h) (fun _ h => h) (fun h => h) (fun h => by cases h) rfl)
theorem e_b2 {k : Bool} {es : List Expr} {as : List IE} (ha : PE X a (tE C X.K W x)) (hb : PE X (.BoolOp (if k then .And else .Or) (b :: es) pos) (tEB C X.K W k (y :: as))) : PE X (.BoolOp (if k then .And else .Or) (a :: b :: es) pos) (tEB C X.K W k (x :: y :: as)) := by
  cases k with
  | true =>
    refine (pe_and ha hb).weak fun σ H Q h => ?_
    obtain ⟨ρ, μ, β, ns, bn, S, h⟩ := h
    refine use S (Sat_bind h) fun t μ1 v H1 bn1 n h s1 x1 => ?_
    cases t <;> try exact False.elim h
    rename_i d
    obtain ⟨rfl, _⟩ := x1.rd
    refine ⟨d, rfl, ?_⟩
    cases d with
    | true =>
      refine ⟨ρ, μ1, β, ns, bn1, S.step s1, ?_⟩
      refine (Sat.later s1 h).mono (fun t μ2 q v H2 bn2 n s2 v2 => q v H2 bn2 n (s1.trans s2) (v2.back s1.keep)) fun _ _ _ e => e
    | false => exact h _ H1 bn1 [] s1 (Val.imm ⟨rfl, rfl⟩ rfl rfl)
  | false =>
    refine (pe_or ha hb).weak fun σ H Q h => ?_
    obtain ⟨ρ, μ, β, ns, bn, S, h⟩ := h
    refine use S (Sat_bind h) fun t μ1 v H1 bn1 n h s1 x1 => ?_
    cases t <;> try exact False.elim h
    rename_i d
    obtain ⟨rfl, _⟩ := x1.rd
    refine ⟨d, rfl, ?_⟩
    cases d with
    | false =>
      refine ⟨ρ, μ1, β, ns, bn1, S.step s1, ?_⟩
      refine (Sat.later s1 h).mono (fun t μ2 q v H2 bn2 n s2 v2 => q v H2 bn2 n (s1.trans s2) (v2.back s1.keep)) fun _ _ _ e => e
    | true => exact h _ H1 bn1 [] s1 (Val.imm ⟨rfl, rfl⟩ rfl rfl)
theorem t_b1 {k : Bool} (ha : PT X a (tT C X.K W x)) : PW X (.BoolOp (if k then .And else .Or) [a] pos) (tTB C X.K W k [x]) := by
  cases k with
  | true => exact (pw_and1 ha).weak fun σ H Q h => h
  | false => exact (pw_or1 ha).weak fun σ H Q h => h
theorem t_b2 {k : Bool} {es : List Expr} {as : List IE} (ha : PT X a (tT C X.K W x)) (hb : PW X (.BoolOp (if k then .And else .Or) (b :: es) pos) (tTB C X.K W k (y :: as))) : PW X (.BoolOp (if k then .And else .Or) (a :: b :: es) pos) (tTB C X.K W k (x :: y :: as)) := by
  have key : ∀ {σ : St} {H : Hp} {Q : Bool → Hp → Prop}, tTB C X.K W k (x :: y :: as) σ H Q → tT C X.K W x σ H fun c H1 => if c = k then tTB C X.K W k (y :: as) σ H1 Q else Q c H1 := fun {σ H Q} h => by
    obtain ⟨ρ, μ, β, ns, bn, S, h⟩ := h
    refine useT S (Sat_bind h) (fun t μ1 h => ?_) fun d μ1 H1 bn1 h s1 => ?_
    · cases t <;> first | exact False.elim h | exact ⟨_, rfl⟩
    · by_cases e : d = k
      · rw [if_pos e]
        have h : Sat (if d = k then evB C.F ρ k (y :: as) μ1 else .ok (.bl d) μ1) _ _ := h
        rw [if_pos e] at h
        refine ⟨ρ, μ1, β, ns, bn1, S.step s1, ?_⟩
        exact (Sat.later s1 h).mono (fun t μ2 ⟨b, e, q⟩ => ⟨b, e, fun H2 bn2 s2 => q H2 bn2 (s1.trans s2)⟩) fun _ _ _ e => e
      · rw [if_neg e]
        have h : Sat (if d = k then evB C.F ρ k (y :: as) μ1 else .ok (.bl d) μ1) _ _ := h
        rw [if_neg e] at h
        obtain ⟨b, e, q⟩ := h
        cases e
        exact q H1 bn1 s1
  cases k with
  | true =>
    refine (pw_and ha hb).weak fun σ H Q h => ?_
    obtain ⟨ρ, μ, β, ns, bn, S, h⟩ := key h
    refine ⟨ρ, μ, β, ns, bn, S, h.mono (fun t μ2 ⟨b, e, q⟩ => ⟨b, e, fun H2 bn2 s2 => ?_⟩) fun _ _ _ e => e⟩
    have := q H2 bn2 s2
    cases b <;> exact this
  | false =>
    refine (pw_or ha hb).weak fun σ H Q h => ?_
    obtain ⟨ρ, μ, β, ns, bn, S, h⟩ := key h
    refine ⟨ρ, μ, β, ns, bn, S, h.mono (fun t μ2 ⟨b, e, q⟩ => ⟨b, e, fun H2 bn2 s2 => ?_⟩) fun _ _ _ e => e⟩
    have := q H2 bn2 s2
    cases b <;> exact this
theorem e_nt (ha : PE X a (tE C X.K W x)) : PE X (.UnaryOp .Not a pos) (tE C X.K W (.nt x)) := (pe_not ha).weak fun σ H Q h => by
  obtain ⟨ρ, μ, β, ns, bn, S, h⟩ := h
  refine use S (Sat_bind h) fun t μ1 v H1 bn1 n h s1 x1 => ?_
  cases t <;> try exact False.elim h
  obtain ⟨rfl, _⟩ := x1.rd
  exact ⟨_, rfl, h _ H1 bn1 [] s1 (Val.imm ⟨rfl, rfl⟩ rfl rfl)⟩
theorem t_nt (ha : PT X a (tT C X.K W x)) : PT X (.UnaryOp .Not a pos) (tT C X.K W (.nt x)) := (pt_not ha).weak fun σ H Q h => by
  obtain ⟨ρ, μ, β, ns, bn, S, h⟩ := h
  refine useT S (Sat_bind h) (fun t μ1 h => ?_) fun d μ1 H1 bn1 h s1 => ?_
  · cases t <;> first | exact False.elim h | exact ⟨_, rfl⟩
  · obtain ⟨b, e, q⟩ := h
    cases e
    exact q H1 bn1 s1
theorem e_ite (hc : PT X c (tT C X.K W z)) (ha : PE X a (tE C X.K W x)) (hb : PE X b (tE C X.K W y)) : PE X (.IfExp c a b pos) (tE C X.K W (.ite z x y)) := (pe_ifExp hc ha hb).weak fun σ H Q h => by
  obtain ⟨ρ, μ, β, ns, bn, S, h⟩ := h
  refine useT S (Sat_bind h) (fun t μ1 h => ?_) fun d μ1 H1 bn1 h s1 => ?_
  · cases t <;> first | exact False.elim h | exact ⟨_, rfl⟩
  · cases d with
    | true =>
      rw [if_pos rfl]
      have h : Sat (evE C.F ρ x μ1) _ _ := h
      refine use (S.step s1) (Sat.later s1 h) fun u μ2 w H2 bn2 m q s2 y1 => q w H2 bn2 m (s1.trans s2) ((y1.back s1.keep).imp (fun _ h => List.mem_append_left _ h) (fun _ h => List.mem_append_left _ h) (fun h => ?_) (fun h => ?_) rfl)
      · exact (Bool.and_eq_true_iff.mp h).1
      · exact (Bool.and_eq_true_iff.mp h).1
    | false =>
      rw [if_neg (by decide)]
      have h : Sat (evE C.F ρ y μ1) _ _ := h
      refine use (S.step s1) (Sat.later s1 h) fun u μ2 w H2 bn2 m q s2 y1 => q w H2 bn2 m (s1.trans s2) ((y1.back s1.keep).imp (fun _ h => List.mem_append_right _ h) (fun _ h => List.mem_append_right _ h) (fun h => ?_) (fun h => ?_) rfl)
      · exact (Bool.and_eq_true_iff.mp h).2
      · exact (Bool.and_eq_true_iff.mp h).2
/-- a value that is a bool, as a test -/
theorem t_val (ha : PE X a (tE C X.K W x)) (he : ∀ whole, isTrue a X.env whole = (do let v ← whole; standAt a.pos; holding [v] (truthy v))) : PT X a (tT C X.K W x) := (pt_val ha he).weak fun σ H Q h => by
  obtain ⟨ρ, μ, β, ns, bn, S, h⟩ := h
  refine use S h fun t μ1 v H1 bn1 n h s1 x1 => ?_
  obtain ⟨b, rfl, q⟩ := h
  obtain ⟨rfl, _⟩ := x1.rd
  exact ⟨b, rfl, q H1 bn1 s1⟩
theorem t_cmp (op : COp) (hu : X.A.units + 65 < cLine) (ha : PE X a (tE C X.K W x)) (hb : PE X b (tE C X.K W y)) (hm : behindInMarks op.py b = false) : PT X (.Compare a [op.py] [b] pos) (tT C X.K W (.cmp op x y)) := (pt_cmpR (opCmp hu op) ha hb hm).weak fun σ H Q h => by
  obtain ⟨ρ, μ, β, ns, bn, S, h⟩ := h
  refine use S (Sat_bind h) fun t μ1 v H1 bn1 n h s1 x1 => ?_
  refine use (S.step s1) ((Sat_bind h).later s1) fun u μ2 w H2 bn2 m h s2 y1 => ?_
  obtain ⟨r, e, b, er, q⟩ := Sat_opt (Sat_bind h)
  cases er
  have s := s1.trans s2
  obtain ⟨n', r1, _, _⟩ := view_ok (g := C.g) s2.box (x1.step s2)
  obtain ⟨m', r2, _, _⟩ := view_ok (g := C.g) s2.box y1
  exact ⟨β, _, _, r, n', m', r1, r2, e, r, rfl, q H2 bn2 s⟩
theorem t_chn (op op' : COp) (hu : X.A.units + 65 < cLine) (ha : PE X a (tE C X.K W x)) (hb : PE X b (tE C X.K W y)) (hc : PE X c (tE C X.K W z)) (hm : lastMarks [op.py, op'.py] [b, c] = false) : PT X (.Compare a [op.py, op'.py] [b, c] pos) (tT C X.K W (.chn op op' x y z)) :=
  (pt_chain (opCmp hu op) (opCmp hu op') ha hb hc hm).weak fun σ H Q h => by
  obtain ⟨ρ, μ, β, ns, bn, S, h⟩ := h
  refine use S (Sat_bind h) fun t μ1 v H1 bn1 n h s1 x1 => ?_
  refine use (S.step s1) ((Sat_bind h).later s1) fun u μ2 w H2 bn2 m h s2 y1 => ?_
  obtain ⟨r, e, q⟩ := Sat_opt (Sat_bind h)
  have s := s1.trans s2
  obtain ⟨n', r1, _, _⟩ := view_ok (g := C.g) s2.box (x1.step s2)
  obtain ⟨m', r2, _, _⟩ := view_ok (g := C.g) s2.box y1
  refine ⟨β, _, _, r, n', m', r1, r2, e, r, rfl, ?_⟩
  cases r with
  | false =>
    obtain ⟨b, er, q⟩ := q
    cases er
    exact ⟨false, rfl, q H2 bn2 s⟩
  | true =>
    show tE C X.K W z σ H2 _
    refine use (S.step s) ((Sat_bind q).later s) fun u' μ3 w' H3 bn3 m3 h s3 z1 => ?_
    obtain ⟨r', e', b, er, q⟩ := Sat_opt (Sat_bind h)
    cases er
    obtain ⟨m'', r2', _, _⟩ := view_ok (g := C.g) s3.box (y1.step s3)
    obtain ⟨l', r3, _, _⟩ := view_ok (g := C.g) s3.box z1
    exact ⟨β, _, _, r', m'', l', r2', r3, e', r', rfl, q H3 bn3 (s.trans s3)⟩
/-! ### lists of expressions -/
theorem l_nil {ev : Env → Mem → Res (List T)} {i : Inf} (he : ∀ ρ μ, ev ρ μ = .ok [] μ) : PA X [] (tLs C X.K W ev i) := pa_nil.weak fun σ H Q h => by
  obtain ⟨ρ, μ, β, ns, bn, S, h⟩ := h
  rw [he] at h
  exact h [] H bn [] (Step.refl S.box) Vls.nil
theorem l_cons {es : List Expr} {ev ev' : Env → Mem → Res (List T)} {i : Inf} (ha : PE X a (tE C X.K W x)) (hr : PA X es (tLs C X.K W ev i)) (he : ∀ ρ μ, ev' ρ μ = (evE C.F ρ x μ).bind fun t μ => (ev ρ μ).bind fun r μ => .ok (t :: r) μ)
    (hs : starEach (a :: es) X.env = (false, eval a X.env) :: starEach es X.env) : PA X (a :: es) (tLs C X.K W ev' ((info C.g x).join C.g i)) := (pa_cons ha hr hs).weak fun σ H Q h => by
  obtain ⟨ρ, μ, β, ns, bn, S, h⟩ := h
  rw [he] at h
  refine use S (Sat_bind h) fun t μ1 v H1 bn1 n h s1 x1 => ?_
  refine useL (S.step s1) ((Sat_bind h).later s1) fun us μ2 ws H2 bn2 m h s2 y1 => ?_
  have x2 : Vls X.K β bn1 ns H H1 (info C.g x) [t] [v] n := ⟨RdsL.one.mpr ⟨v, rfl, x1.rd⟩, x1.nb, x1.ok.src, x1.ok.lin⟩
  exact h (v :: ws) H2 bn2 (n ++ m) (s1.trans s2) (x2.append S s1 y1 s2)
theorem l_star {es : List Expr} {p : Pos} {ev ev' : Env → Mem → Res (List T)} {i : Inf} (ha : PE X a (tE C X.K W x)) (hr : PA X es (tLs C X.K W ev i))
    (he : ∀ ρ μ, ev' ρ μ = (evE C.F ρ x μ).bind fun t μ => (match seqOf (view μ t) with
        | some xs => if kidsOk t xs then (ev ρ μ).bind fun r μ => .ok (xs ++ r) μ else .stuck
        | none => .stuck)) : PA X (.Starred a p :: es) (tLs C X.K W ev' ((kidI C.g (info C.g x)).join C.g i)) := (StX.pa_star ha hr rfl).weak fun σ H Q h => by
  obtain ⟨ρ, μ, β, ns, bn, S, h⟩ := h
  rw [he] at h
  refine use S (Sat_bind h) fun t μ1 v H1 bn1 n h s1 x1 => ?_
  obtain ⟨n', r1, _, k1⟩ := view_ok (g := C.g) s1.box x1
  split at h
  · rename_i ts et
    obtain ⟨ok, h⟩ := Sat_if h
    obtain ⟨k1, u1⟩ := k1 (kidsOf_seq et ok)
    obtain ⟨p, vs, rfl, hq, rl⟩ := seq_ok r1 et
    refine ⟨p, vs, rfl, hq, ?_⟩
    refine useL (S.step s1) ((Sat_bind h).later s1) fun us μ2 ws H2 bn2 m h s2 y1 => ?_
    have x2 : Vls X.K β bn1 ns H H1 (kidI C.g (info C.g x)) ts vs (kn (view μ1 t) n') := ⟨rl, k1.nb, k1.src, k1.lin⟩
    exact h (vs ++ ws) H2 bn2 (kn (view μ1 t) n' ++ m) (s1.trans s2) (x2.append S s1 y1 s2)
  · exact False.elim h
theorem e_tup {es : List Expr} {k : Nat} {as : List IE} (ha : PA X es (tLs C X.K W (fun ρ => evL C.F ρ as) (infoL C.g as))) : PE X (.Tuple es k pos) (tE C X.K W (.tup as)) := (pe_tup ha).weak fun σ H Q h => by
  obtain ⟨ρ, μ, β, ns, bn, S, h⟩ := h
  refine useL S (Sat_bind h) fun ts μ1 vs H1 bn1 n h s1 x1 => ?_
  obtain ⟨hz, h⟩ := Sat_if h
  refine ⟨by rw [x1.rd.length]; exact le_line hz, fun p hp => ?_⟩
  have n1 : New1 H1 (upd H1 p (.tup vs)) := .inr ⟨p, _, hp, rfl⟩
  refine h _ _ bn1 n (s1.trans (Step.new1 s1.box n1)) ⟨⟨p, vs, rfl, upd_same, x1.rd.new n1⟩, x1.nb, x1.src, x1.lin, fun _ z => (by cases z), fun j z => ?_⟩
  have : (infoL C.g as).self = none := by cases as <;> rfl
  have z' : (infoL C.g as).self = some j := z
  rw [this] at z'; cases z'
theorem e_lst {es : List Expr} {as : List (Bool × IE)} (ha : PA X es (tLs C X.K W (fun ρ => evS C.F ρ as) (infoS C.g as))) : PE X (.List es pos) (tE C X.K W (.lst as)) := (pe_lst ha).weak fun σ H Q h => by
  obtain ⟨ρ, μ, β, ns, bn, S, h⟩ := h
  refine useL S (Sat_bind h) fun ts μ1 vs H1 bn1 n h s1 x1 => ?_
  obtain ⟨hz, h⟩ := Sat_if h
  refine ⟨by rw [x1.rd.length]; exact le_line hz, fun p hp => ?_⟩
  have n1 : New1 H1 (upd H1 p (.lst vs)) := .inr ⟨p, _, hp, rfl⟩
  have hpn : p ∉ n := fun z => by
    obtain ⟨o, e, _⟩ := x1.node z
    rw [e] at hp; cases hp
  refine h _ _ bn1 (p :: n) (s1.trans (Step.new1 s1.box n1)) ⟨⟨p, vs, n, rfl, upd_same, x1.rd.new n1, rfl⟩, fun a ha => ?_, fun a ha => ?_, fun z => List.nodup_cons.mpr ⟨hpn, x1.lin z⟩, fun _ _ => ⟨p, n, rfl, s1.keep.more p hp, hpn⟩, fun j z => ?_⟩
  · rcases List.mem_cons.mp ha with rfl | ha
    · exact s1.box.fresh _ hp
    · exact x1.nb a ha
  · rcases List.mem_cons.mp ha with rfl | ha
    · exact .inl (s1.keep.more _ hp)
    · exact x1.src a ha
  · have : (infoS C.g as).self = none := by rcases as with _ | ⟨⟨_, _⟩, _⟩ <;> rfl
    have z' : (infoS C.g as).self = some j := z
    rw [this] at z'; cases z'
end
end MP

/-! C9b: a tuple from its end: t[::-1]. -/
namespace L2
open PySem PySem.Spec PyProof.Rows HT
theorem fm_congr {α β : Type} {f g : α → Option β} : ∀ {l : List α}, (∀ x ∈ l, f x = g x) → l.filterMap f = l.filterMap g
  | [], _ => rfl
  | x :: l, h => by
    rw [List.filterMap_cons, List.filterMap_cons, h x List.mem_cons_self, fm_congr fun y hy => h y (List.mem_cons_of_mem _ hy)]
theorem pickBack {α : Type} [Inhabited α] (l : List α) : ((List.range l.length).filterMap fun k => l[l.length - 1 - k]?) = l.reverse := by
  have e : ((List.range l.length).filterMap fun k => l[l.length - 1 - k]?) = (List.range l.length).filterMap fun k => some (l.getD (l.length - 1 - k) default) := by
    refine fm_congr fun k hk => ?_
    have hk := List.mem_range.mp hk
    rw [List.getD_eq_getElem?_getD, List.getElem?_eq_getElem (by omega)] <;> rfl
  rw [e, List.filterMap_eq_map']
  refine List.ext_getElem (by rw [List.length_map, List.length_range, List.length_reverse]) fun i h1 h2 => ?_
  rw [List.length_map, List.length_range] at h1
  rw [List.getElem_map, List.getElem_range, List.getElem_reverse, List.getD_eq_getElem?_getD, List.getElem?_eq_getElem (by omega)] <;> rfl
theorem pickBackA (its : Array Value) : ((List.range its.size).filterMap fun (k : Nat) => its[(((its.size : Int) - 1) + (k : Int) * (-1)).toNat]?).toArray = its.toList.reverse.toArray := by
  have := pickBack its.toList
  rw [Array.length_toList] at this
  rw [← this]
  congr 1
  refine fm_congr fun k hk => ?_
  have hk := List.mem_range.mp hk
  rw [show (((its.size : Int) - 1) + (k : Int) * (-1)).toNat = its.size - 1 - k by omega, Array.getElem?_toList]
section
variable {pg : Program} {wd : World} {Ar : Around} {Ex : Value → Shared → Prop} {st : Shared}
theorem appliedBack {q : Addr} {v1 v2 v3 : Value} {n : Nat} {R : Int × Int × Nat → Shared → Prop} (hq : st.heap.IsSliceOf q v1 v2 v3) (p1 : IsPart v1 none) (p2 : IsPart v2 none) (p3 : IsPart v3 (some (-1)))
    (h : R ((n : Int) - 1, -1, n) st) : wpAny (model pg wd) Ar (Builtin.Slice.sliceApplied (.ref q) (pure (n : Int))) R Ex st := by
  obtain ⟨u, hu, cu, du⟩ := id hq
  unfold Builtin.Slice.sliceApplied
  unfold Builtin.Slice.sliceFields
  refine wpAny_bind (wpAny_bind (wpAny_field hu du (x := v1) rfl (wpAny_bind (wpAny_field hu du (x := v2) rfl (wpAny_bind (wpAny_field hu du (x := v3) rfl (wpAny_pure ?_)))))))
  refine wpAny_bind (slicePart_ p3 ?_)
  show wpAny _ _ (if ((-1 : Int) == 0) = true then _ else _) _ _ st
  rw [if_neg (show ¬ ((-1 : Int) == 0) = true by decide)]
  refine wpAny_bind (slicePart_ p1 (wpAny_bind (slicePart_ p2 (wpAny_bind (wpAny_pure ?_)))))
  have ea : Builtin.Slice.sliceAdjust none none (-1) (n : Int) = ((n : Int) - 1, -1) := rfl
  show wpAny _ _ (match Builtin.Slice.sliceAdjust none none (-1) (n : Int) with | (lo, hi) => pure (lo, (-1 : Int), Builtin.Slice.slicePlaces lo hi (-1))) _ _ st
  rw [ea]
  have ep : Builtin.Slice.slicePlaces ((n : Int) - 1) (-1) (-1) = n := by
    unfold Builtin.Slice.slicePlaces
    rw [if_neg (show ¬ ((-1 : Int) > 0) by decide)]
    have hd : ∀ x : Int, x / -(-1) = x := fun x => by rw [Int.neg_neg, Int.ediv_one]
    rw [hd]
    split <;> omega
  show wpAny _ _ (pure ((n : Int) - 1, (-1 : Int), Builtin.Slice.slicePlaces ((n : Int) - 1) (-1) (-1))) _ _ st
  rw [ep]
  exact wpAny_pure h
theorem itemBack {t q : Addr} {its : Array Value} {v1 v2 v3 : Value} {R : Value → Shared → Prop} (isT : IsTup st.heap t its) (hq : st.heap.IsSliceOf q v1 v2 v3) (p1 : IsPart v1 none) (p2 : IsPart v2 none) (p3 : IsPart v3 (some (-1)))
    (h : R (.ref st.heap.objs.size) { st with heap := st.heap.push { cls := .type "tuple", data := .seq its.toList.reverse.toArray } }) (hz : its.size ≤ sizeLine) : wpAny (model pg wd) Ar (getItem (.ref t) (.ref q)) R Ex st := by
  have sz : sizeOk (.seq its.toList.reverse.toArray) := by
    show its.toList.reverse.toArray.size ≤ sizeLine
    rw [List.size_toArray, List.length_reverse, Array.length_toList]
    exact hz
  have isS : st.TypeIs (.ref q) "slice" := by
    obtain ⟨u, hu, cu, du⟩ := id hq
    exact ⟨u, hu, cu⟩
  unfold getItem
  try with_reducible refine wpAny_holding ?_
  first | refine wpAny_bind (wpAny_pure ?_) | skip
  refine wpAny_bind (wpAny_sequenceKey isT.typeIs (by decide) ?_)
  refine wpAny_bind (wpAny_callSpecial?_slot (name := Str.ofString "__getitem__") isT.typeIs PyProof.Rows.slot_tuple_getitem (wpAny_call_entry PyProof.Rows.slot_tuple_getitem isT.typeIs entry_tuple_getitem ?_ (args_tuple_getitem _ _)))
  show wpAny _ _ (Builtin.Tuple.tupleItemsOf (.ref t) >>= _) _ _ st
  refine wpAny_bind (tupleItemsOf_ isT (wpAny_bind (wpAny_typeOf isS ?_)))
  rw [if_pos (show (Value.type "slice" == Value.type "slice") = true by decide)]
  refine wpAny_bind (appliedBack hq p1 p2 p3 ?_)
  have hno : ¬ (((((its.size : Nat) : Int) - 1) == 0 && (-1 : Int) == 1 && its.size == its.size) = true) := by
    rw [show ((-1 : Int) == 1) = false from rfl, Bool.and_false, Bool.false_and]
    decide
  show wpAny _ _ (if ((((its.size : Nat) : Int) - 1) == 0 && (-1 : Int) == 1 && its.size == its.size) = true then _ else _) _ _ st
  rw [if_neg hno, pickBackA]
  first
    | exact wpAny_bind (m := Builtin.Tuple.tupleExact _) (wpAny_newObj_type (wpAny_pure ⟨_, rfl, wpAny_pure h⟩) sz)
    | exact wpAny_bind (m := Builtin.Tuple.tupleExact _) (wpAny_newObj_type (wpAny_bind (wpAny_pure (wpAny_pure ⟨_, rfl, wpAny_pure h⟩))) sz)
    | exact wpAny_bind (wpAny_bind (m := Builtin.Tuple.tupleExact _) (wpAny_newObj_type (wpAny_pure (wpAny_pure ⟨_, rfl, wpAny_pure h⟩)) sz))
    | exact wpAny_bind (wpAny_bind (m := Builtin.Tuple.tupleExact _) (wpAny_newObj_type (wpAny_pure ⟨_, rfl, wpAny_pure h⟩) sz))
end
/-- a list or a tuple from its end -/
def tRevA (K : PySem.W.Frag) (te : TE) : TE := fun σ H Q => te σ H fun x H1 => ∃ a xs, x = .ref a ∧ ((SqL K H1 a xs ∧ ∀ p, H1 p = none → Q (.ref p) (upd H1 p (.lst xs.reverse))) ∨ (SqT K H1 a xs ∧ ∀ p, H1 p = none → Q (.ref p) (upd H1 p (.tup xs.reverse))))
theorem pe_revA {X : Cx} {e : Expr} {te : TE} {k : Nat} {p1 p2 p3 pos : Pos} (he : PE X e te) : PE X (.Subscript e (.Slice none none (some (.UnaryOp .USub (.Constant (.int 1) k p1) p2)) p3) pos) (tRevA X.K te) := by
  refine ⟨fun pins st σ H Q I h => ?_⟩
  refine Subscript_ (thn (he.run pins st σ H _ I h) fun v t1 ⟨x, H1, I1, r1, a, xs, ex, q⟩ => ?_)
  subst ex
  cases r1
  have part : PO X (some (.UnaryOp .USub (.Constant (.int 1) k p1) p2)) (tPart (tUn (rU fun i => .int (-i)) (tC (.int 1)))) := po_some (pe_un un_neg pe_int)
  refine wpAny_Slice (thn (po_none.run pins t1 σ H1 (fun o G => o = none ∧ G = H1) I1 ⟨rfl, rfl⟩) fun vl t2 ⟨l, H2, I2, pl, el, e2⟩ => ?_)
  subst el e2
  refine thn (po_none.run pins t2 σ H2 (fun o G => o = none ∧ G = H2) I2 ⟨rfl, rfl⟩) fun vu t3 ⟨u, H3, I3, pu, eu, e3⟩ => ?_
  subst eu e3
  refine thn (part.run pins t3 σ H3 (fun o G => o = some (-1) ∧ G = H3) I3 ⟨1, rfl, -1, rfl, rfl, rfl⟩) fun vs t4 ⟨o, H4, I4, ps, eo, e4⟩ => ?_
  subst eo e4
  have I5 : Inv X pins σ H4 { t4 with heap := t4.heap.push { cls := .type "slice", data := .fields #[vl, vu, vs] } } := I4.kept (t' := t4.toks) fun b ob q => Heap.get?_push_of_some _ q
  show wpAny (model X.prog X.w) X.A (subscriptTail e (.Slice none none (some (.UnaryOp .USub (.Constant (.int 1) k p1) p2)) p3) (.ref a) (.ref t4.heap.objs.size)) (EP X pins σ Q) X.xe { t4 with heap := t4.heap.push { cls := .type "slice", data := .fields #[vl, vu, vs] } }
  rcases q with ⟨hx, q⟩ | ⟨hx, q⟩
  · obtain ⟨its, r, hl, hz⟩ := I5.list hx
    have hlen := r.length
    refine tail_any (ops := [.ref a, .ref t4.heap.objs.size]) hl.isList.typeIs (PySem.slot_list_getitem.lookup) ?_ (by with_unfolding_all rfl)
    refine wpAny_getItem_list_slice hl.isList (Heap.IsSliceOf.new _ vl vu vs) pl pu ps (show (some (-1 : Int)) ≠ some 0 by decide) ?_ (by rw [List.size_toArray]; omega)
    rw [PySem.W.krv_pick]
    exact ⟨.ref _, _, I5.laid (t' := t4.toks) (o := .lst xs.reverse) (fun b ob q => Heap.get?_push_of_some _ q) (Nat.le_refl _) ⟨by rw [List.length_reverse]; exact hz, _, 0, r.reverse, Heap.get?_push_size _ rfl⟩, rfl, q _ (I5.hok.fresh (Nat.le_refl _))⟩
  · obtain ⟨its, r, ht, hz⟩ := I5.tuple hx
    have hlen := r.length
    refine tail_any (ops := [.ref a, .ref t4.heap.objs.size]) ht.typeIs PyProof.Rows.slot_tuple_getitem.lookup ?_ (by with_unfolding_all rfl)
    refine itemBack ht (Heap.IsSliceOf.new _ vl vu vs) pl pu ps ?_ (by rw [List.size_toArray]; omega)
    exact ⟨.ref _, _, I5.laid (t' := t4.toks) (o := .tup xs.reverse) (fun b ob q => Heap.get?_push_of_some _ q) (Nat.le_refl _) ⟨by rw [List.length_reverse]; exact hz, _, r.reverse, IsTup.new _ _⟩, rfl, q _ (I5.hok.fresh (Nat.le_refl _))⟩
end L2

/-! C10: the rules for expressions: subscripts, slices, built-in functions, isinstance, the box. -/
namespace MP
open PySem L2

section
variable {K : PySem.W.Frag} {g : Sg} {β : List Addr} {H H1 H2 H' : Hp} {ρ : Env} {σ : St} {μ μ1 μ2 : Mem} {ns bn bn1 bn2 bn' : Nat → List Addr} {i i' j : Inf} {t r : T} {v : V} {n : List Addr}
theorem kidsOk_or {t : T} {xs : List T} (h : kidsOk t xs = true) : nodelessL xs = true ∨ ∀ ys, kidsOk t ys = true := by
  cases t <;> first | exact .inr fun _ => rfl | exact .inl h
theorem nodelessL_one {r : T} (h : nodelessL [r] = true) : nodeless r = true := by simpa [nodelessL] using h
/-- a child of a value, as a value -/
theorem kid_val {w : V} {k : List Addr} (hs : Step K β bn H H1 μ1 bn1) (b : kidsOk t [r] = true) (kd : kidsOk t (kidsOf (view μ1 t)) = true → Kid ns bn1 β H j n) (rd : Rds K β H1 r w k) (sb : k.Sublist n) : Val K β bn1 ns H H1 j.noTop r w k := by
  rcases kidsOk_or b with h | h
  · exact Val.imm rd (nodelessL_one h) rfl
  · have kd := kd (h _)
    exact ⟨rd, fun a ha => kd.nb a (sb.subset ha), fun a ha => kd.src a (sb.subset ha), fun e => (kd.lin e).sublist sb, fun z => (by cases z), fun _ z => (by cases z)⟩
theorem RdsL.rev : ∀ {ts : List T} {vs : List V} {n : List Addr}, RdsL K β H ts vs n → ∃ m, RdsL K β H ts.reverse vs.reverse m ∧ m.Perm n
  | [], vs, n, h => by obtain ⟨rfl, rfl⟩ := h; exact ⟨[], ⟨rfl, rfl⟩, List.Perm.refl _⟩
  | x :: xs, vs, n, h => by
    obtain ⟨v, ws, m, k, rfl, r1, r2, rfl⟩ := h
    obtain ⟨k', r3, p⟩ := RdsL.rev r2
    rw [List.reverse_cons, List.reverse_cons]
    exact ⟨k' ++ m, r3.append (RdsL.one.mpr ⟨v, rfl, r1⟩), (List.perm_append_comm).trans (p.append_left m)⟩
end
/-- no star -/
def nost : Expr → Bool
  | .Starred _ _ => false
  | _ => true
theorem star_cons {e : Expr} {es : List Expr} {env : PySem.Env} (h : nost e = true) : starEach (e :: es) env = (false, eval e env) :: starEach es env := by
  cases e <;> first | rfl | cases h
theorem star_any {es : List Expr} {env : PySem.Env} {pos : Pos} (h : es.all nost = true) : (backTo pos (starEach es env)).any (·.1) = false := by
  induction es with
  | nil => rfl
  | cons e es ih =>
    rw [List.all_cons, Bool.and_eq_true] at h
    rw [star_cons h.1]
    show (false || (backTo pos (starEach es env)).any (·.1)) = false
    rw [ih h.2] <;> rfl
section
variable {X : Cx} {C : Cf} {W : WX} {a b c : Expr} {x y z : IE} {pos : Pos}
theorem e_sub (hu : X.A.units + 65 < cLine) (ha : PE X a (tE C X.K W x)) (hb : PE X b (tE C X.K W y)) (hs : PlainIx b) : PE X (.Subscript a b pos) (tE C X.K W (.sub x y)) := (pe_ix (ixSub (by omega)) ha hb hs).weak fun σ H Q h => by
  obtain ⟨ρ, μ, β, ns, bn, S, h⟩ := h
  refine use S (Sat_bind h) fun t μ1 v H1 bn1 n h s1 x1 => ?_
  refine use (S.step s1) ((Sat_bind h).later s1) fun u μ2 w H2 bn2 m h s2 y1 => ?_
  obtain ⟨r, e, q⟩ := Sat_opt (Sat_bind h)
  obtain ⟨ok, q⟩ := Sat_if q
  have s := s1.trans s2
  obtain ⟨n', r1, _, k1⟩ := view_ok (g := C.g) s2.box (x1.step s2)
  exact ⟨β, _, _, r, n', m, r1, y1.rd, e, fun v k rd sb => q v H2 bn2 k s (kid_val s ok (fun z => (k1 z).1) rd sb)⟩
def tO (C : Cf) (K : PySem.W.Frag) (W : WX) (o : Option IE) : TO := fun σ H Q => ∃ ρ μ β ns bn, ESt K C.g β H ρ σ μ ns bn ∧
  Sat (evO C.F ρ o μ) (fun l μ' => ∀ H' bn', Step K β bn H H' μ' bn' → Q l H') (XW C K β bn (Own ns) H fun c d H' => W c d σ H')
theorem PO.weak {e : Option Expr} {t t' : TO} (h : PO X e t) (w : ∀ σ H Q, t' σ H Q → t σ H Q) : PO X e t' := ⟨fun pins s σ H Q I q => h.run pins s σ H Q I (w σ H Q q)⟩
theorem o_none : PO X none (tO C X.K W none) := PO.weak po_none fun σ H Q h => by
  obtain ⟨ρ, μ, β, ns, bn, S, h⟩ := h
  exact h H bn (Step.refl S.box)
theorem o_some (ha : PE X a (tE C X.K W x)) : PO X (some a) (tO C X.K W (some x)) := PO.weak (po_some ha) fun σ H Q h => by
  obtain ⟨ρ, μ, β, ns, bn, S, h⟩ := h
  refine use S (Sat_bind h) fun t μ1 v H1 bn1 n h s1 x1 => ?_
  cases t <;> try exact False.elim h
  obtain ⟨rfl, _⟩ := x1.rd
  exact ⟨_, rfl, h H1 bn1 s1⟩
theorem e_slc {lo hi : Option Expr} {l h : Option IE} {p2 : Pos} (ha : PE X a (tE C X.K W x)) (hl : PO X lo (tO C X.K W l)) (hh : PO X hi (tO C X.K W h)) : PE X (.Subscript a (.Slice lo hi none p2) pos) (tE C X.K W (.slc x l h)) := (pe_slice slSlc ha hl hh).weak fun σ H Q q => by
  obtain ⟨ρ, μ, β, ns, bn, S, q⟩ := q
  refine use S (Sat_bind q) fun t μ1 v H1 bn1 n q s1 x1 => ?_
  refine ⟨ρ, μ1, β, ns, bn1, S.step s1, ((Sat_bind q).later s1).mono (fun l' μ2 q H2 bn2 s2 => ?_) fun _ _ _ e => e⟩
  have s := s1.trans s2
  refine ⟨ρ, μ2, β, ns, bn2, S.step s, ((Sat_bind q).later s).mono (fun h' μ3 q H3 bn3 s3 => ?_) fun _ _ _ e => e⟩
  obtain ⟨ok, q⟩ := Sat_if q
  obtain ⟨r, e, q⟩ := Sat_opt q
  have s' := s.trans s3
  obtain ⟨n', r1, _, k1⟩ := view_ok (g := C.g) s3.box (x1.step (s2.trans s3))
  obtain ⟨k1, _⟩ := k1 ok
  exact ⟨β, _, r, n', r1, e, fin_out (i := info C.g (.slc x l h)) s3.box s' k1 (fun a ha => kid_trk r1 ha) (fun _ h => h) (fun _ h => h) (fun z => ⟨rfl, z⟩) rfl q⟩
theorem e_rev {k : Nat} {p1 p2 p3 : Pos} (ha : PE X a (tE C X.K W x)) : PE X (.Subscript a (.Slice none none (some (.UnaryOp .USub (.Constant (.int 1) k p1) p2)) p3) pos) (tE C X.K W (.rev x)) := (pe_revA ha).weak fun σ H Q q => by
  obtain ⟨ρ, μ, β, ns, bn, S, q⟩ := q
  refine use S (Sat_bind q) fun t μ1 v H1 bn1 n q s1 x1 => ?_
  obtain ⟨ok, q⟩ := Sat_if q
  obtain ⟨n', r1, _, k1⟩ := view_ok (g := C.g) s1.box x1
  obtain ⟨k1, _⟩ := k1 ok
  revert q
  generalize hv : view μ1 t = tv at r1 k1 ⊢
  intro q
  cases tv <;> try exact False.elim q
  · have r1' := r1
    obtain ⟨p, vs, m, rfl, ea, rl, rfl⟩ := r1
    refine ⟨p, vs, rfl, .inl ⟨SqL.of ea, ?_⟩⟩
    obtain ⟨m', rr, pm⟩ := rl.rev
    have out : OutN X.K β H1 true _ m Q := fin_out (i := info C.g (.rev x)) (j := kidI C.g (info C.g x)) s1.box s1 k1 (fun a ha => kid_trk r1' ha) (fun _ h => h) (fun _ h => h) (fun z => ⟨rfl, z⟩) rfl q
    exact out.lst rr (fun a ha => pm.subset ha) fun _ nd => pm.nodup_iff.mpr nd
  · have r1' := r1
    obtain ⟨p, vs, rfl, ea, rl⟩ := r1
    refine ⟨p, vs, rfl, .inr ⟨SqT.of ea, ?_⟩⟩
    obtain ⟨m', rr, pm⟩ := rl.rev
    have out : OutN X.K β H1 true _ n' Q := fin_out (i := info C.g (.rev x)) (j := kidI C.g (info C.g x)) s1.box s1 k1 (fun a ha => kid_trk r1' ha) (fun _ h => h) (fun _ h => h) (fun z => ⟨rfl, z⟩) rfl q
    exact out.tup rr (fun a ha => pm.subset ha) fun _ nd => pm.nodup_iff.mpr nd
theorem pe_callBI (bi : BI) {r : List V → Hp → VK → Prop} {p : Pos} {es : List Expr} {t : TA} (hc : CallR X bi.val r) (hg : Gl X bi.name) (hm : X.mg bi.name = none) (ha : PA X (a :: es) t) (hst : nost a = true) (hes : es.all nost = true) : PE X (.Call (.Name bi.name p) (a :: es) [] pos) (tCB r t) := by
  have h1 := star_cons (es := es) (env := X.env) hst
  have h2 := star_any (env := X.env) (pos := pos) hes
  cases bi with
  | int | list | tuple | dict => exact pe_callTy hc hg hm (by rfl) ha (by decide) (by decide) h1 h2
  | _ => exact pe_callB hc hg hm (by rfl) ha (by decide) (by decide) h1 h2
theorem e_bi1 (bi : BI) {p : Pos} (hc : X.calm = true) (hgd : X.A.guards = some []) (hu : X.A.units + 65 < cLine) (hg : Gl X bi.name) (hm : X.mg bi.name = none) (ha : PE X a (tE C X.K W x)) (hst : nost a = true) : PE X (.Call (.Name bi.name p) [a] [] pos) (tE C X.K W (.bi bi [x])) :=
  (pe_callBI bi (crBI hc hgd hu bi) hg hm (pa_cons ha pa_nil (star_cons hst)) hst rfl).weak fun σ H Q h => by
  obtain ⟨ρ, μ, β, ns, bn, S, h⟩ := h
  have h : Sat (((evE C.F ρ x μ).bind fun t μ => (Res.ok [] μ).bind fun r μ => .ok (t :: r) μ).bind _) _ _ := h
  refine use S (Sat_bind (Sat_bind h)) fun t μ1 v H1 bn1 n h s1 x1 => ?_
  have h := Sat_bind h
  obtain ⟨ok, h⟩ := Sat_if h
  obtain ⟨r, e, q⟩ := Sat_opt h
  have ok : kidsOk t (kidsOf (view μ1 t)) = true := by simpa using ok
  obtain ⟨n', r1, _, k1⟩ := view_ok (g := C.g) s1.box x1
  obtain ⟨k1, _⟩ := k1 ok
  refine ⟨β, [view μ1 t], r, n', RdsL.one.mpr ⟨v, rfl, r1⟩, e, ?_⟩
  have big : ∀ i : Inf, (∀ l ∈ (kidI C.g (info C.g x)).dp, l ∈ i.dp) → (∀ l ∈ (kidI C.g (info C.g x)).dc, l ∈ i.dc) → (i.lin = true → (kidI C.g (info C.g x)).lin = true) → i.self = none → info C.g (.bi bi [x]) = i → OutN X.K β H1 true r (kn1 [view μ1 t] n') Q := fun i h1 h2 h3 h4 h5 => by
    rw [h5] at q
    exact fin_out (j := kidI C.g (info C.g x)) s1.box s1 k1 (fun a ha => kid_trk r1 ha) h1 h2 (fun z => ⟨rfl, h3 z⟩) h4 q
  have small : nodeless r = true → info C.g (.bi bi [x]) = .nil → OutN X.K β H1 true r (kn1 [view μ1 t] n') Q := fun h1 h2 => by
    rw [h2] at q
    exact fin_imm s1.box s1 h1 rfl q
  have nl : (∀ c xs, pBI bi [c] = some (.lst xs) → False) → (∀ c xs, pBI bi [c] = some (.tup xs) → False) → (∀ c ks xs, pBI bi [c] = some (.dk ks xs) → False) → (∀ c ks xs, pBI bi [c] = some (.dt ks xs) → False) → nodeless r = true := fun h1 h2 h3 h4 => by
    cases r with
    | lst xs => exact (h1 _ xs e).elim
    | tup xs => exact (h2 _ xs e).elim
    | dk ks xs => exact (h3 _ ks xs e).elim
    | dt ks xs => exact (h4 _ ks xs e).elim
    | _ => rfl
  cases bi with
  | list => exact big (kidI C.g (info C.g x)).newTop (fun _ h => h) (fun _ h => h) (fun h => h) rfl rfl
  | tuple => exact big (kidI C.g (info C.g x)).newTop (fun _ h => h) (fun _ h => h) (fun h => h) rfl rfl
  | sorted => exact big (kidI C.g (info C.g x)).newTop (fun _ h => h) (fun _ h => h) (fun h => h) rfl rfl
  | dict => exact big (kidI C.g (info C.g x)).newTop (fun _ h => h) (fun _ h => h) (fun h => h) rfl rfl
  | max2 => simp [pBI] at e
  | min2 => simp [pBI] at e
  | repr =>
    refine small (nl ?_ ?_ ?_ ?_) rfl
    all_goals
      intro c
      intros
      rename_i e
      cases c with
      | dk ks vs => cases ks with
        | nil => cases e
        | cons _ _ => simp [pBI, datum] at e
      | _ =>
        simp only [pBI] at e
        split at e
        · split at e
          · split at e <;> cases e
          · cases e
        · cases e
  | _ =>
    refine small (nl ?_ ?_ ?_ ?_) rfl
    all_goals
      intro c
      intros
      rename_i e
      cases c <;> simp only [pBI, reduceCtorEq, Option.some.injEq, Option.map_eq_some_iff, and_false, exists_false] at e
      all_goals
        split at e <;> cases e
end
end MP

/-! C10b: list(d.items()). -/
namespace MP
open PySem L2
abbrev keyV : Key → T := fun k => match k with
  | .inl i => .int i
  | .inr x => .str x
theorem Keeps.ext {B : Addr → Prop} {H H' : Hp} (e : ∀ b o, H b = some o → H' b = some o) : Keeps B H H' where
  keep := fun a o h _ _ => e a o h
  tup := fun a xs h => e a _ h
  frz := fun a o u h => e a _ h
  more := fun a h => by
    cases q : H a with
    | none => rfl
    | some o => rw [e a o q] at h; cases h
theorem Step.ext {K : PySem.W.Frag} {β : List Addr} {bn : Nat → List Addr} {H H' : Hp} {μ : Mem} (b : BoxOk K β H μ bn) (e : ∀ b o, H b = some o → H' b = some o) : Step K β bn H H' μ bn where
  keep := Keeps.ext e
  box := ⟨b.len, fun k t h => by
    obtain ⟨a, e1, r, bl, nd⟩ := b.rd k t h
    exact ⟨a, e1, r.keep (B := fun _ => False) (Keeps.ext e) (fun _ _ e => e) t (fun _ _ z => z), bl, nd⟩, b.dj, LamX.Tabs.ext b.tb e⟩
  sub := fun a z => .inl z
section
variable {K : PySem.W.Frag} {β : List Addr} {H' : Hp}
theorem items_rds : ∀ {ts : List Addr} {ks : List Key} {vs : List V} {xs : List T} {m : List Addr}, PySem.Paired (fun (t : Addr) (q : Key × V) => H' t = some (.tup [kV q.1, q.2])) ts (ks.zip vs) → ks.length = vs.length → RdsL K β H' xs vs m →
    RdsL K β H' (zipL (ks.map keyV) xs) (ts.map V.ref) m
  | ts, ks, vs, [], m, h, hl, r => by
    obtain ⟨rfl, rfl⟩ := r
    have e : ks = [] := List.length_eq_zero_iff.mp hl
    subst e
    cases h
    exact ⟨rfl, rfl⟩
  | ts, ks, vs, x :: xs, m, h, hl, r => by
    obtain ⟨v, ws, m1, m2, rfl, r1, r2, rfl⟩ := r
    cases ks with
    | nil => cases hl
    | cons k ks =>
      cases h with
      | @cons t _ ts' _ ht h =>
        have ih := items_rds (xs := xs) h (by simpa using hl) r2
        refine ⟨.ref t, ts'.map V.ref, m1, m2, rfl, ⟨t, [kV k, v], rfl, ht, ?_⟩, ih, rfl⟩
        refine ⟨kV k, [v], [], m1, rfl, ?_, RdsL.one.mpr ⟨v, rfl, r1⟩, rfl⟩
        cases k with
        | inl i => exact ⟨rfl, rfl⟩
        | inr s => exact ⟨rfl, rfl⟩
end
section
variable {X : Cx} {C : Cf} {W : WX} {a : Expr} {x : IE} {p cpos apos pos : Pos}
theorem e_itm (hc : X.calm = true) (hg : Gl X "list") (hm : X.mg "list" = none) (ha : PE X a (tE C X.K W x)) (hbase : attributeBase a "items" X.env (eval a X.env) = eval a X.env) (hline : (apos.endLine == cpos.line) = true) :
    PE X (.Call (.Name "list" p) [.Call (.Attribute a "items" apos) [] [] cpos] [] pos) (tE C X.K W (.itm x)) := (LiI.pe_listItems hc ha hg hm rfl hbase hline).weak fun σ H Q q => by
  obtain ⟨ρ, μ, β, ns, bn, S, q⟩ := q
  refine use S (Sat_bind q) fun t μ1 v H1 bn1 n q s1 x1 => ?_
  cases t <;> try exact False.elim q
  rename_i ks xs
  have kd := x1.kid (g := C.g)
  have tr : ∀ a ∈ n, H1 a ≠ none := fun a ha z => by
    obtain ⟨o, e, _⟩ := x1.node ha
    rw [e] at z; cases z
  obtain ⟨d, vs, m, rfl, ed, ⟨l1, l2⟩, rl, rfl⟩ := x1.rd
  refine ⟨d, ks.zip vs, rfl, ed, fun H' p ts ext np nt off at_ pr => ?_⟩
  have h : ∀ v H' bn' n, Step X.K β bn H H' μ1 bn' → Val X.K β bn' ns H H' (info C.g (.itm x)) (.lst (zipL (ks.map keyV) xs)) v n → Q v H' := q
  have st := Step.ext (bn := bn1) (μ := μ1) s1.box ext
  have rl' := rl.keep (B := fun _ => False) (Keeps.ext ext) (fun _ _ e => e) _ fun _ _ z => z
  have rd : Rds X.K β H' (.lst (zipL (ks.map keyV) xs)) (.ref p) (p :: m) := ⟨p, _, m, rfl, at_, items_rds pr l1 rl', rfl⟩
  exact h _ _ _ _ (s1.trans st) (kd.val (nd := true) s1 (Keeps.ext ext) rd (fun a ha => ha) (fun _ z => z) (.inr ⟨p, np, rfl⟩) (fun a ha => tr a (List.mem_cons_of_mem _ ha)) fun a ha => s1.box.fresh a ha)
end
end MP

/-! C11: ghosts, isinstance, the box read and popped. -/
namespace MP
open PySem L2

theorem nd1 {α : Type} (a : α) : [a].Nodup := List.nodup_cons.mpr ⟨by simp, List.nodup_nil⟩
section
variable {X : Cx} {C : Cf} {W : WX} {a b c : Expr} {x y z : IE} {pos : Pos}
theorem e_imm (ha : PE X a (tE C X.K W x)) : PE X a (tE C X.K W (.imm x)) := ha.weak fun σ H Q h => by
  obtain ⟨ρ, μ, β, ns, bn, S, h⟩ := h
  refine use S (Sat_bind h) fun t μ1 v H1 bn1 n h s1 x1 => ?_
  obtain ⟨ok, h⟩ := Sat_if h
  exact h v H1 bn1 n s1 (Val.imm x1.rd ok rfl)
theorem e_ls (ha : PE X a (tE C X.K W x)) : PE X a (tE C X.K W (.ls x)) := ha.weak fun σ H Q h => by
  obtain ⟨ρ, μ, β, ns, bn, S, h⟩ := h
  refine use S (Sat_bind h) fun t μ1 v H1 bn1 n h s1 x1 => ?_
  cases t <;> try exact False.elim h
  exact h v H1 bn1 n s1 x1
theorem flat_key {σ : St} {H : Hp} {Q : VK} (h : tE C X.K W (.flat x) σ H Q) : tE C X.K W x σ H Q := by
  obtain ⟨ρ, μ, β, ns, bn, S, h⟩ := h
  refine use S (Sat_bind h) fun t μ1 v H1 bn1 n h s1 x1 => ?_
  cases t <;> try exact False.elim h
  rename_i xs
  obtain ⟨ok, h⟩ := Sat_if h
  obtain ⟨p, vs, m, e1, ea, rl, e2⟩ := x1.rd
  have hm : m = [] := rl.nil _ ok
  subst hm
  refine h v H1 bn1 n s1 ?_
  show Val X.K β bn1 ns H H1 (if (info C.g x).top = true then Inf.nil else ⟨(info C.g x).dp, (info C.g x).dc, (info C.g x).dp.all (fun i => C.g.k i == .D), false, none⟩) (.lst xs) v n
  have nd : n.Nodup := by rw [e2]; exact nd1 _
  split
  · rename_i ht
    obtain ⟨p', m', e3, hp, nm⟩ := x1.ok.top ht rfl
    refine ⟨x1.rd, x1.nb, fun a ha => ?_, fun _ => nd, fun _ _ => ⟨p', m', e3, hp, nm⟩, fun _ z => (by cases z)⟩
    rw [e2] at e3
    cases e3
    rw [e2] at ha
    obtain rfl : a = p := by simpa using ha
    exact .inl hp
  · exact ⟨x1.rd, x1.nb, x1.ok.src, fun _ => nd, fun z => (by cases z), fun _ z => (by cases z)⟩
theorem e_flat (ha : PE X a (tE C X.K W x)) : PE X a (tE C X.K W (.flat x)) := ha.weak fun σ H Q h => flat_key h
theorem e_dnew (tk : Bool) : PE X (.Dict [] [] pos) (tE C X.K W (.dnew tk)) := by
  cases tk with
  | false =>
    refine pe_dnewK.weak fun σ H Q h => ?_
    obtain ⟨ρ, μ, β, ns, bn, S, h⟩ := h
    intro p hp
    have n1 : New1 H (upd H p (.dK [])) := .inr ⟨p, _, hp, rfl⟩
    refine h _ _ bn [p] (Step.new1 S.box n1) ⟨⟨p, [], [], rfl, upd_same, ⟨rfl, List.nodup_nil⟩, ⟨rfl, rfl⟩, rfl⟩, fun a ha => ?_, fun a ha => ?_, fun _ => nd1 _, fun _ _ => ⟨p, [], rfl, hp, by simp⟩, fun _ z => (by cases z)⟩
    · obtain rfl : a = p := by simpa using ha
      exact S.box.fresh _ hp
    · obtain rfl : a = p := by simpa using ha
      exact .inl hp
  | true =>
    refine pe_dnewT.weak fun σ H Q h => ?_
    obtain ⟨ρ, μ, β, ns, bn, S, h⟩ := h
    intro p hp
    have n1 : New1 H (upd H p (.dT [])) := .inr ⟨p, _, hp, rfl⟩
    refine h _ _ bn [p] (Step.new1 S.box n1) ⟨⟨p, [], [], rfl, upd_same, ⟨rfl, List.nodup_nil⟩, ⟨rfl, rfl⟩, rfl⟩, fun a ha => ?_, fun a ha => ?_, fun _ => nd1 _, fun _ _ => ⟨p, [], rfl, hp, by simp⟩, fun _ z => (by cases z)⟩
    · obtain rfl : a = p := by simpa using ha
      exact S.box.fresh _ hp
    · obtain rfl : a = p := by simpa using ha
      exact .inl hp
theorem pIsi (cs : List Ty) (ps : List Pos) (hl : cs.length = ps.length) (hg : ∀ c ∈ cs, Gl X c.nm ∧ X.mg c.nm = none) : PA X ((cs.zip ps).map fun c => .Name c.1.nm c.2) (fun _ H Q => Q (cs.map fun c => V.ty c.nm) H) := by
  induction cs generalizing ps with
  | nil => exact pa_nil
  | cons c cs ih =>
    cases ps with
    | nil => cases hl
    | cons p ps =>
      have h1 := hg c List.mem_cons_self
      have h2 : PE X (.Name c.nm p) (tC (.ty c.nm)) := by
        have := h1.1
        have := h1.2
        cases c <;> exact pe_bltn h1.1 h1.2 (by rfl) (by rfl) (by decide) (by decide)
      exact (pa_cons h2 (ih ps (by simpa using hl) fun c hc => hg c (List.mem_cons_of_mem _ hc)) rfl).weak fun σ H Q h => h
theorem e_isi {cs : List Ty} {c : Ty} {p p2 : Pos} (hg : Gl X "isinstance") (hm : X.mg "isinstance" = none) (hg2 : Gl X c.nm) (hm2 : X.mg c.nm = none) (ha : PE X a (tE C X.K W x)) (hst : nost a = true) :
    PE X (.Call (.Name "isinstance" p) [a, .Name c.nm p2] [] pos) (tE C X.K W (.isi x [c] true)) :=
  (pe_callB call_isi hg hm (by rfl) (pa_cons ha (pIsi [c] [p2] rfl fun d hd => by obtain rfl : d = c := (by simpa using hd); exact ⟨hg2, hm2⟩) (star_cons hst)) (by decide) (by decide) (star_cons hst) (star_any (by rfl))).weak fun σ H Q h => by
  obtain ⟨ρ, μ, β, ns, bn, S, h⟩ := h
  refine use S (Sat_bind h) fun t μ1 v H1 bn1 n h s1 x1 => ?_
  obtain ⟨n', r1, nb, _⟩ := view_ok (g := C.g) s1.box x1
  refine ⟨v, _, _, _, _, rfl, .ty _, ty_of _ r1 nb, kit_of_ty _ nb c, ?_⟩
  have e : ([c].any (kTy (view μ1 t))) = kTy (view μ1 t) c := by simp
  rw [← e]
  exact h _ H1 bn1 [] s1 (Val.imm ⟨rfl, rfl⟩ rfl rfl)
theorem e_isiT {cs : List Ty} {ps : List Pos} {k : Nat} {p p2 : Pos} (hg : Gl X "isinstance") (hm : X.mg "isinstance" = none) (hl : cs.length = ps.length) (h15 : Nat.ble cs.length line = true) (hg2 : ∀ c ∈ cs, Gl X c.nm ∧ X.mg c.nm = none) (ha : PE X a (tE C X.K W x)) (hst : nost a = true) :
    PE X (.Call (.Name "isinstance" p) [a, .Tuple ((cs.zip ps).map fun c => .Name c.1.nm c.2) k p2] [] pos) (tE C X.K W (.isi x cs false)) :=
  (pe_callB call_isiT hg hm (by rfl) (pa_cons ha (pa_cons (pe_tup (pIsi cs ps hl hg2)) pa_nil (star_cons rfl)) (star_cons hst)) (by decide) (by decide) (star_cons hst) (star_any (by rfl))).weak fun σ H Q h => by
  obtain ⟨ρ, μ, β, ns, bn, S, h⟩ := h
  refine use S (Sat_bind h) fun t μ1 v H1 bn1 n h s1 x1 => ?_
  refine ⟨by rw [List.length_map]; exact le_line h15, fun q hq => ?_⟩
  have n1 : New1 H1 (upd H1 q (.tup (cs.map fun c => V.ty c.nm))) := .inr ⟨q, _, hq, rfl⟩
  obtain ⟨n', r1, nb, _⟩ := view_ok (g := C.g) s1.box x1
  refine ⟨v, q, _, _, _, _, rfl, upd_same, cls_all cs, ty_of _ (r1.new n1) nb, kitAny_of _ nb cs, ?_⟩
  exact h _ _ bn1 [] (s1.trans (Step.new1 s1.box n1)) (Val.imm ⟨rfl, rfl⟩ rfl rfl)
/-! ### the box -/
/-- box[i], the index's reading -/
def tBx (C : Cf) (K : PySem.W.Frag) (W : WX) (i : Nat) (y : IE) : TE := fun σ H Q => ∃ ρ μ β ns bn k, ESt K C.g β H ρ σ μ ns bn ∧ getV ρ i = some (.box k) ∧
  Sat (evE C.F ρ y μ) (fun j μ' => ∀ c, μ'[k]? = some c → ∃ r, pSub c j = some r ∧ ∀ v H' bn' n, Step K β bn H H' μ' bn' → Rds K β H' r v n → n.Sublist (kn c (bn' k)) → Q v H') (XW C K β bn (Own ns) H fun c d H' => W c d σ H')
theorem e_bx {i : Nat} {nm : Str} {p1 : Pos} (hu : X.A.units + 65 < cLine) (hN : X.N[i]? = some nm) (hv : Vis X.env.scope nm) (hd : (nm == ("__debug__" : Str)) = false) (hcd : (nm == ("__classdict__" : Str)) = false) (hb : PE X b (tE C X.K W y)) (hs : PlainIx b) : PE X (.Subscript (.Name nm p1) b pos) (tBx C X.K W i y) :=
  (pe_ix (ixSub (by omega)) (pe_var hN hv hd hcd) hb hs).weak fun σ H Q h => by
  obtain ⟨ρ, μ, β, ns, bn, k, S, ek, h⟩ := h
  obtain ⟨v, e1, a, rfl, eβ, _⟩ := S.sl i _ ek
  refine ⟨_, e1, ?_⟩
  refine use S h fun j μ1 w H1 bn1 m h s1 y1 => ?_
  have hk : k < μ1.length := by rw [← s1.box.len]; exact (List.getElem?_eq_some_iff.mp eβ).1
  obtain ⟨a', eβ', r1, _, _⟩ := s1.box.rd k μ1[k] (List.getElem?_eq_getElem hk)
  rw [eβ] at eβ'; cases eβ'
  obtain ⟨r, e, q⟩ := h _ (List.getElem?_eq_getElem hk)
  exact ⟨β, _, _, r, _, _, r1, y1.rd, e, fun v k' rd sb => q v H1 bn1 k' s1 rd sb⟩
theorem neNil_key {i : Nat} {σ : St} {H : Hp} {Q : VK} (h : tE C X.K W (.neNil i y) σ H Q) : tOp (rCmp X.K .ne) (tBx C X.K W i y) (tLst tNil) σ H Q := by
  obtain ⟨ρ, μ, β, ns, bn, S, h⟩ := h
  rw [evE] at h
  split at h
  · rename_i k et
    refine ⟨ρ, μ, β, ns, bn, k, S, et, (Sat_bind h).mono (fun j μ1 h c ec => ?_) fun _ _ _ e => e⟩
    obtain ⟨r, er, h⟩ := Sat_opt (Sat_bind h)
    rw [ec] at er
    refine ⟨r, er, fun v H1 bn1 n s1 rd sb => ⟨Nat.zero_le _, fun p hp => ?_⟩⟩
    cases r <;> try exact False.elim h
    rename_i xs
    obtain ⟨ok, q⟩ := Sat_if h
    have n1 : New1 H1 (upd H1 p (.lst [])) := .inr ⟨p, _, hp, rfl⟩
    have d0 : datum 60 (.lst []) = true := rfl
    refine ⟨β, .lst xs, .lst [], !xs.isEmpty, n, [p], rd.new n1, ⟨p, [], [], rfl, upd_same, ⟨rfl, rfl⟩, rfl⟩, ?_, ?_⟩
    · show (if datum 60 (.lst xs) && datum 60 (.lst []) then some (!eqT (.lst xs) (.lst [])) else none) = _
      rw [ok, d0]
      cases xs <;> rfl
    · exact q _ _ bn1 [] (s1.trans (Step.new1 s1.box n1)) (Val.imm ⟨rfl, rfl⟩ rfl rfl)
  · exact False.elim h
theorem e_neNil {i : Nat} {nm : Str} {p1 p2 p3 : Pos} (hu : X.A.units + 65 < cLine) (hN : X.N[i]? = some nm) (hv : Vis X.env.scope nm) (hd : (nm == ("__debug__" : Str)) = false) (hcd : (nm == ("__classdict__" : Str)) = false) (hb : PE X b (tE C X.K W y)) (hs : PlainIx b) :
    PE X (.Compare (.Subscript (.Name nm p1) b p2) [.NotEq] [.List [] p3] pos) (tE C X.K W (.neNil i y)) := by
  have h1 := pe_cmpR (pos := pos) (opCmp hu .ne) (e_bx (C := C) (W := W) (pos := p2) (p1 := p1) hu hN hv hd hcd hb hs) (pe_lst (pos := p3) pa_nil) rfl
  exact PE.weak h1 fun σ H Q h => neNil_key h
theorem tT_tE {W : WX} {ie : IE} {σ : St} {H : Hp} {Q : Bool → Hp → Prop} (h : tT C X.K W ie σ H Q) : tE C X.K W ie σ H fun x H' => ∃ k, x = .bl k ∧ Q k H' := by
  obtain ⟨ρ, μ, β, ns, bn, S, h⟩ := h
  refine use S h fun t μ1 v H1 bn1 n h s1 x1 => ?_
  obtain ⟨b, rfl, q⟩ := h
  exact ⟨b, x1.rd.1, q H1 bn1 s1⟩
theorem t_neNil {i : Nat} {nm : Str} {p1 p2 p3 : Pos} (hu : X.A.units + 65 < cLine) (hN : X.N[i]? = some nm) (hv : Vis X.env.scope nm) (hd : (nm == ("__debug__" : Str)) = false) (hcd : (nm == ("__classdict__" : Str)) = false) (hb : PE X b (tE C X.K W y)) (hs : PlainIx b) :
    PT X (.Compare (.Subscript (.Name nm p1) b p2) [.NotEq] [.List [] p3] pos) (tT C X.K W (.neNil i y)) := by
  have h1 := pt_cmpR (pos := pos) (opCmp hu .ne) (e_bx (C := C) (W := W) (pos := p2) (p1 := p1) hu hN hv hd hcd hb hs) (pe_lst (pos := p3) pa_nil) rfl
  exact PT.weak h1 fun σ H Q h => neNil_key (tT_tE h)
/-- the i-th of a row is another one -/
theorem _root_.MP.RdsL.setAt {K : PySem.W.Frag} {β : List Addr} {H : Hp} {ts : List T} {vs : List V} {n : List Addr} (h : RdsL K β H ts vs n) {i : Nat} {t : T} (e : ts[i]? = some t) :
    ∃ v n1 m n2, vs[i]? = some v ∧ n = n1 ++ (m ++ n2) ∧ Rds K β H t v m ∧ ∀ (H' : Hp) (u : T) (w : V) (l : List Addr) (B : Addr → Prop), Keeps B H H' → (∀ a ∈ n1, ¬ B a) → (∀ a ∈ n2, ¬ B a) → Rds K β H' u w l → RdsL K β H' (ts.set i u) (vs.set i w) (n1 ++ (l ++ n2)) := by
  obtain ⟨v, n1, m, n2, e1, e2, r, h1, h2⟩ := h.at e
  refine ⟨v, n1, m, n2, e1, e2, r, fun H' u w l B k k1 k2 ru => ?_⟩
  have i1 : i < ts.length := (List.getElem?_eq_some_iff.mp e).1
  have i2 : i < vs.length := (List.getElem?_eq_some_iff.mp e1).1
  rw [List.set_eq_take_append_cons_drop, if_pos i1, List.set_eq_take_append_cons_drop, if_pos i2]
  exact (h1.keep k (fun _ _ e => e) _ k1).append ⟨w, _, l, n2, rfl, ru, h2.keep k (fun _ _ e => e) _ k2, rfl⟩
theorem popB_some {c : T} {i : Int} {y : T} {c' : T} (h : popB c i = some (y, c')) : ∃ cs m ys, c = .lst cs ∧ ixN cs.length i = some m ∧ cs[m]? = some (.lst (y :: ys)) ∧ nodeless y = true ∧ c' = .lst (cs.set m (.lst ys)) ∧ boxless c' = true := by
  unfold popB at h
  split at h
  · rename_i cs
    split at h
    · rename_i m hm
      split at h
      · rename_i y' ys hy
        split at h
        · rename_i hc
          cases h
          rw [Bool.and_eq_true] at hc
          exact ⟨cs, m, ys, rfl, hm, hy, hc.1, rfl, hc.2⟩
        · cases h
      · cases h
    · cases h
  · cases h
/-- a box's inner list gets other items without lists in them -/
theorem box_put {K : PySem.W.Frag} {β : List Addr} {H : Hp} {μ : Mem} {bn : Nat → List Addr} {k m : Nat} {cs ys zs : List T} {p : Addr} {ws : List V} {a : Addr} {vs : List V} {n1 n2 n3 : List Addr} (b : BoxOk K β H μ bn) (ec : μ[k]? = some (.lst cs)) (eβ : β[k]? = some a) (ea : H a = some (.lst vs)) (rl : RdsL K β H cs vs (n1 ++ (p :: n3 ++ n2))) (en : bn k = a :: (n1 ++ (p :: n3 ++ n2)))
    (em : cs[m]? = some (.lst ys)) (hp : vs[m]? = some (.ref p)) (ez : RdsL K β H zs ws n3) {us : List V} (eu : H p = some (.lst us)) (set : ∀ (H' : Hp) (u : T) (w : V) (l : List Addr) (B : Addr → Prop), Keeps B H H' → (∀ a ∈ n1, ¬ B a) → (∀ a ∈ n2, ¬ B a) → Rds K β H' u w l → RdsL K β H' (cs.set m u) (vs.set m w) (n1 ++ (l ++ n2))) (bl : boxless (.lst (cs.set m (.lst zs))) = true) :
    Step K β bn H (upd H p (.lst ws)) (μ.set k (.lst (cs.set m (.lst zs)))) bn := by
  have hk : k < μ.length := (List.getElem?_eq_some_iff.mp ec).1
  have hk' : k < β.length := by rw [b.len]; exact hk
  obtain ⟨_, _, _, _, nd⟩ := b.rd k _ ec
  have hpk : p ∈ bn k := by rw [en]; simp
  have hpB : Bx β bn p := ⟨k, hk', hpk⟩
  have kp : Keeps (Bx β bn) H (upd H p (.lst ws)) := Keeps.write eu hpB rfl
  have kp1 : Keeps (fun x => x = p) H (upd H p (.lst ws)) := Keeps.write eu rfl rfl
  have nd' := nd
  rw [en] at nd'
  have hap : a ≠ p := fun z => by subst z; exact (List.nodup_cons.mp nd').1 (by simp)
  have nd2 := (List.nodup_cons.mp nd').2
  obtain ⟨_, nd4, dj1⟩ := List.nodup_append.mp nd2
  have q1 : ∀ x ∈ n1, x ≠ p := fun x hx z => dj1 x hx p (by simp) z
  obtain ⟨nd5, _, dj2⟩ := List.nodup_append.mp nd4
  have q2 : ∀ x ∈ n2, x ≠ p := fun x hx z => dj2 p (by simp) x hx z.symm
  have q3 : ∀ x ∈ n3, x ≠ p := fun x hx z => (List.nodup_cons.mp nd5).1 (z ▸ hx)
  refine ⟨kp, ⟨by rw [List.length_set]; exact b.len, fun l t e => ?_, b.dj, b.tb.write eu rfl⟩, fun _ z => .inl z⟩
  by_cases hl : l = k
  · subst hl
    rw [List.getElem?_set_self hk] at e
    cases e
    refine ⟨a, eβ, ?_, bl, nd⟩
    rw [en]
    refine ⟨a, vs.set m (.ref p), n1 ++ (p :: n3 ++ n2), rfl, ?_, ?_, rfl⟩
    · rw [upd_ne hap]
      have : vs.set m (.ref p) = vs := by
        obtain ⟨q1, q2⟩ := List.getElem?_eq_some_iff.mp hp
        rw [← q2]
        exact List.set_getElem_self q1
      rw [this]
      exact ea
    · exact set _ _ _ (p :: n3) (fun x => x = p) kp1 q1 q2 ⟨p, ws, n3, rfl, upd_same, ez.keep kp1 (fun _ _ e => e) _ q3, rfl⟩
  · rw [List.getElem?_set_ne (fun z => hl z.symm)] at e
    obtain ⟨a', e1, r, bl', nd'⟩ := b.rd l t e
    have hl' : l < β.length := by rw [b.len]; exact (List.getElem?_eq_some_iff.mp e).1
    exact ⟨a', e1, r.keep kp1 (fun _ _ e => e) _ fun x hx z => b.dj l k hl hl' hk' x hx (z ▸ hpk), bl', nd'⟩
/-- box[i], the very item -/
def tBxL (C : Cf) (K : PySem.W.Frag) (W : WX) (i : Nat) (y : IE) : TE := fun σ H Q => ∃ ρ μ β ns bn k, ESt K C.g β H ρ σ μ ns bn ∧ getV ρ i = some (.box k) ∧
  Sat (evE C.F ρ y μ) (fun j μ' => ∃ ji cs m, j = .int ji ∧ μ'[k]? = some (.lst cs) ∧ ixN cs.length ji = some m ∧ m < cs.length ∧
    ∀ H' bn' a vs n v, Step K β bn H H' μ' bn' → β[k]? = some a → H' a = some (.lst vs) → RdsL K β H' cs vs n → bn' k = a :: n → vs[m]? = some v → Q v H') (XW C K β bn (Own ns) H fun c d H' => W c d σ H')
theorem e_bxL {i : Nat} {nm : Str} {p1 : Pos} (hN : X.N[i]? = some nm) (hv : Vis X.env.scope nm) (hd : (nm == ("__debug__" : Str)) = false) (hcd : (nm == ("__classdict__" : Str)) = false) (hb : PE X b (tE C X.K W y)) (hs : PlainIx b) : PE X (.Subscript (.Name nm p1) b pos) (tBxL C X.K W i y) :=
  (pe_ix ix_list (pe_var hN hv hd hcd) hb hs).weak fun σ H Q h => by
  obtain ⟨ρ, μ, β, ns, bn, k, S, ek, h⟩ := h
  obtain ⟨v, e1, a, rfl, eβ, _⟩ := S.sl i _ ek
  refine ⟨_, e1, ?_⟩
  refine use S h fun j μ1 w H1 bn1 m h s1 y1 => ?_
  obtain ⟨ji, cs, m', rfl, ec, ei, hm, q⟩ := h
  obtain ⟨a', eβ', r1, _, _⟩ := s1.box.rd k _ ec
  rw [eβ] at eβ'; cases eβ'
  obtain ⟨_, vs, n0, e2, ea, rl, en⟩ := r1
  cases e2
  obtain ⟨rfl, _⟩ := y1.rd
  have hl := rl.length
  have hm' : m' < vs.length := by omega
  refine ⟨a, vs, ji, vs[m'], rfl, rfl, SqL.of ea, ?_, q H1 bn1 a vs n0 _ s1 eβ ea rl en (List.getElem?_eq_getElem hm')⟩
  unfold atI
  rw [hl, ei]
  exact List.getElem?_eq_getElem hm'
/-- box[i].pop(0) -/
theorem e_popAt {i k0 : Nat} {nm : Str} {p1 p2 p3 apos : Pos} {x : IE} {a : Expr} (hu : X.A.units + 65 < cLine) (hN : X.N[i]? = some nm) (hv : Vis X.env.scope nm) (hd : (nm == ("__debug__" : Str)) = false) (hcd : (nm == ("__classdict__" : Str)) = false) (ha : PE X a (tE C X.K W x)) (hs : PlainIx a)
    (hline : (apos.endLine == pos.line) = true) : PE X (.Call (.Attribute (.Subscript (.Name nm p1) a p2) "pop" apos) [.Constant (.int 0) k0 p3] [] pos) (tE C X.K W (.popAt i x (.cst (.int 0)))) := by
  have h1 := pe_bm (X := X) (name := "pop") (cpos := pos) (apos := apos) PySem.F.plainAttrs_list PySem.F.slot_list_pop PySem.F.type_list_pop mt_popAt (e_bxL (C := C) (W := W) (pos := p2) (p1 := p1) hN hv hd hcd ha hs) (pa_cons (pe_int (i := 0) (j := k0) (pos := p3)) pa_nil) (by rfl) (by rfl) hline
  refine PE.weak h1 fun σ H Q h => ?_
  obtain ⟨ρ, μ, β, ns, bn, S, h⟩ := h
  rw [evE] at h
  split at h
  · rename_i k et
    obtain ⟨vb, evb, ab, rfl, eβ, _⟩ := S.sl i _ et
    refine ⟨ρ, μ, β, ns, bn, k, S, et, (Sat_bind h).mono (fun j μ1 h => ?_) fun _ _ _ e => e⟩
    have h : Sat (match j, (T.int 0), μ1[k]? with
        | .int i, .int 0, some c => (match popB c i with
          | some r => .ok r.1 (μ1.set k r.2)
          | none => .stuck)
        | _, _, _ => .stuck) _ _ := h
    cases j with
    | int ji =>
      cases ec : μ1[k]? with
      | none => rw [ec] at h; exact False.elim h
      | some c =>
      rw [ec] at h
      have h : Sat (match popB c ji with
          | some r => .ok r.1 (μ1.set k r.2)
          | none => .stuck) _ _ := h
      split at h
      · rename_i r er
        obtain ⟨y0, c'⟩ := r
        obtain ⟨cs, m, ys, rfl, hm, hy, nl, rfl, bl⟩ := popB_some er
        have hml : m < cs.length := (List.getElem?_eq_some_iff.mp hy).1
        refine ⟨ji, cs, m, rfl, rfl, hm, hml, fun H1 bn1 a vs n v s1 eβ' ea rl en ev => ?_⟩
        obtain ⟨v', n1, mm, n2, e2, rfl, r2, set⟩ := RdsL.setAt rl hy
        rw [ev] at e2; cases e2
        obtain ⟨p, us, m', rfl, eu, rlu, rfl⟩ := r2
        obtain ⟨w0, ws, k1, k2, rfl, r0, rly, rfl⟩ := rlu
        have k1e : k1 = [] := r0.nil _ nl
        subst k1e
        refine ⟨.inl ⟨rfl, _, SqL.of eu⟩, p, w0 :: ws, 0, 0, w0, rfl, rfl, eu, by decide, by decide, ?_, rfl, ?_⟩
        · simp [seqIndex?]
        · have st := box_put (zs := ys) (ws := ws) s1.box ec eβ' ea rl en hy ev rly eu set bl
          refine h w0 _ bn1 [] (s1.trans st) ⟨r0.keep st.keep (fun _ _ e => e) _ (fun _ z => by cases z), (fun _ z => by cases z), Good.nil (nodeless_isNode nl) rfl⟩
      · exact False.elim h
    | _ => exact False.elim h
  · exact False.elim h
end
end MP

/-! C12: what is walked; targets. -/
namespace MP
open PySem L2

/-! ### targets -/
section
variable {K : PySem.W.Frag} {g : Sg} {β : List Addr} {H : Hp} {ρ ρ' : Env} {σ : St} {μ : Mem} {ns bn : Nat → List Addr}
theorem getV_set {ρ : Env} {i j : Nat} {t : T} : getV (ρ.set i (some t)) j = if j = i ∧ i < ρ.length then some t else getV ρ j := by
  unfold getV
  by_cases h : j = i
  · subst h
    by_cases hl : j < ρ.length
    · rw [List.getElem?_set_self hl, if_pos ⟨rfl, hl⟩]
    · rw [if_neg (fun z => hl z.2), List.getElem?_eq_none (by simpa using hl), List.getElem?_eq_none (by simpa using hl)]
  · rw [List.getElem?_set_ne (fun z => h z.symm), if_neg (fun z => h z.1)]
theorem getV_none {ρ : Env} {i j : Nat} : getV (ρ.set i none) j = if j = i then none else getV ρ j := by
  unfold getV
  by_cases h : j = i
  · subst h
    rw [if_pos rfl]
    by_cases hl : j < ρ.length
    · rw [List.getElem?_set_self hl]
    · rw [List.getElem?_eq_none (by simpa using hl)]
  · rw [List.getElem?_set_ne (fun z => h z.symm), if_neg h]
/-- a slot (of kind S) gets a value -/
theorem ESt.bind (S : ESt K g β H ρ σ μ ns bn) {i : Nat} {t : T} {v : V} {n : List Addr} (hk : g.k i = .S) (r : Rds K β H t v n) (nb : ∀ a ∈ n, ¬ Bx β bn a) :
    ESt K g β H (ρ.set i (some t)) (σ.set i (some v)) μ (fun j => if j = i then (if i < ρ.length then n else []) else ns j) bn where
  box := S.box
  len := by rw [List.length_set, List.length_set]; exact S.len
  sl := fun j u e => by
    rw [getV_set] at e
    by_cases h : j = i
    · subst h
      by_cases hl : j < ρ.length
      · rw [if_pos ⟨rfl, hl⟩] at e
        cases e
        rw [if_pos rfl, if_pos hl]
        exact ⟨v, List.getElem?_set_self (by rw [← S.len]; exact hl), r⟩
      · rw [if_neg (fun z => hl z.2)] at e
        unfold getV at e
        rw [List.getElem?_eq_none (by simpa using hl)] at e
        cases e
    · rw [if_neg (fun z => h z.1)] at e
      rw [if_neg h, List.getElem?_set_ne (fun z => h z.symm)]
      exact S.sl j u e
  no := fun j e => by
    rw [getV_set] at e
    by_cases h : j = i
    · subst h
      rw [if_pos rfl]
      split
      · rename_i hl
        rw [if_pos ⟨rfl, hl⟩] at e; cases e
      · rfl
    · rw [if_neg (fun z => h z.1)] at e
      rw [if_neg h]
      exact S.no j e
  sb := fun j a ha => by
    by_cases h : j = i
    · rw [if_pos h] at ha
      split at ha
      · exact nb a ha
      · cases ha
    · rw [if_neg h] at ha
      exact S.sb j a ha
  dn := fun j hj => by
    by_cases h : j = i
    · subst h; rw [hk] at hj; cases hj
    · rw [if_neg h]; exact S.dn j hj
  dd := fun j l hne hj hl a ha => by
    have h1 : j ≠ i := fun z => by subst z; rw [hk] at hj; cases hj
    have h2 : l ≠ i := fun z => by subst z; rw [hk] at hl; cases hl
    rw [if_neg h1] at ha
    rw [if_neg h2]
    exact S.dd j l hne hj hl a ha
  pk := fun j u hj e => by
    have h1 : j ≠ i := fun z => by subst z; rw [hk] at hj; cases hj
    rw [getV_set, if_neg (fun z => h1 z.1)] at e
    rw [if_neg h1]
    exact S.pk j u hj e
/-- a slot is forgotten -/
theorem ESt.drop1 (S : ESt K g β H ρ σ μ ns bn) (i : Nat) : ESt K g β H (ρ.set i none) (σ.set i none) μ (fun j => if j = i then [] else ns j) bn where
  box := S.box
  len := by rw [List.length_set, List.length_set]; exact S.len
  sl := fun j u e => by
    rw [getV_none] at e
    by_cases h : j = i
    · rw [if_pos h] at e; cases e
    · rw [if_neg h] at e
      rw [if_neg h, List.getElem?_set_ne (fun z => h z.symm)]
      exact S.sl j u e
  no := fun j e => by
    by_cases h : j = i
    · rw [if_pos h]
    · rw [getV_none, if_neg h] at e
      rw [if_neg h]
      exact S.no j e
  sb := fun j a ha => by
    by_cases h : j = i
    · rw [if_pos h] at ha; cases ha
    · rw [if_neg h] at ha
      exact S.sb j a ha
  dn := fun j hj => by
    by_cases h : j = i
    · rw [if_pos h]; exact List.nodup_nil
    · rw [if_neg h]; exact S.dn j hj
  dd := fun j l hne hj hl a ha => by
    by_cases h1 : j = i
    · rw [if_pos h1] at ha; cases ha
    · rw [if_neg h1] at ha
      by_cases h2 : l = i
      · rw [if_pos h2]; exact fun z => by cases z
      · rw [if_neg h2]; exact S.dd j l hne hj hl a ha
  pk := fun j u hj e => by
    by_cases h : j = i
    · rw [if_pos h]; exact .inr rfl
    · rw [getV_none, if_neg h] at e
      rw [if_neg h]
      exact S.pk j u hj e
theorem ESt.forget (S : ESt K g β H ρ σ μ ns bn) : ∀ is : List Nat, ∃ ns', ESt K g β H (forget ρ is) (wipe σ is) μ ns' bn ∧ (∀ j, (j ∉ is ∧ ns' j = ns j) ∨ ns' j = [])
  | [] => ⟨ns, S, fun _ => .inl ⟨by simp, rfl⟩⟩
  | i :: is => by
    obtain ⟨ns', S', h⟩ := ESt.forget S is
    refine ⟨_, S'.drop1 i, fun j => ?_⟩
    split
    · exact .inr rfl
    · rename_i hj
      rcases h j with ⟨h1, h2⟩ | h2
      · exact .inl ⟨by simp [hj, h1], h2⟩
      · exact .inr h2
end
mutual
def gTg (K : PySem.W.Frag) : Tg → TG
  | .nm i => gName i
  | .tp ts => gTup K ts.length (gTgs K ts)
def gTgs (K : PySem.W.Frag) : List Tg → TGs
  | [] => gNil
  | t :: ts => gCons (gTg K t) (gTgs K ts)
end
theorem wipe_set {σ : St} {v : Option V} : ∀ {vs : List Nat} {i : Nat}, i ∈ vs → wipe (σ.set i v) vs = wipe σ vs
  | [], i, h => by cases h
  | w :: vs, i, h => by
    unfold wipe
    by_cases hi : i ∈ vs
    · rw [wipe_set hi]
    · have hw : i = w := by rcases List.mem_cons.mp h with z | z; exact z; exact absurd z hi
      subst hw
      have key : ∀ (vs : List Nat), i ∉ vs → wipe (σ.set i v) vs = (wipe σ vs).set i v := fun vs => by
        induction vs with
        | nil => intro _; rfl
        | cons u us ih =>
          intro hu
          have h1 : i ≠ u := fun z => hu (by rw [z]; exact List.mem_cons_self)
          have h2 : i ∉ us := fun z => hu (List.mem_cons_of_mem _ z)
          show (wipe (σ.set i v) us).set u none = ((wipe σ us).set u none).set i v
          rw [ih h2, List.set_comm _ _ h1]
      rw [key vs hi, List.set_set]
theorem wipe_wipe (σ : St) : ∀ vs : List Nat, wipe (wipe σ vs) vs = wipe σ vs := by
  intro vs
  have : ∀ us : List Nat, (∀ u ∈ us, u ∈ vs) → wipe (wipe σ us) vs = wipe σ vs := fun us => by
    induction us with
    | nil => intro _; rfl
    | cons u us ih =>
      intro h
      show wipe ((wipe σ us).set u none) vs = _
      rw [wipe_set (h u List.mem_cons_self)]
      exact ih fun x hx => h x (List.mem_cons_of_mem _ hx)
  exact this vs fun _ h => h
section
variable {K : PySem.W.Frag} {g : Sg} {β : List Addr} {H : Hp} {μ : Mem} {bn : Nat → List Addr}
/-- what a store into a target leaves -/
structure Bnd (K : PySem.W.Frag) (g : Sg) (β : List Addr) (H : Hp) (ρ' : Env) (μ : Mem) (bn ns : Nat → List Addr) (σ : St) (is : List Nat) (n : List Addr) (σ' : St) (ns' : Nat → List Addr) : Prop where
  st : ESt K g β H ρ' σ' μ ns' bn
  own : ∀ j, ns' j = ns j ∨ (j ∈ is ∧ ∀ a ∈ ns' j, a ∈ n)
  wp : ∀ vs : List Nat, (∀ i ∈ is, i ∈ vs) → wipe σ' vs = wipe σ vs
mutual
theorem gTg_ok : ∀ (tg : Tg) {t : T} {v : V} {n : List Addr} {ρ ρ' : Env} {σ : St} {ns : Nat → List Addr} {Q : St → Hp → Prop}, ESt K g β H ρ σ μ ns bn → Rds K β H t v n → (∀ a ∈ n, ¬ Bx β bn a) → bindTg tg t ρ = some ρ' → (∀ i ∈ tg.slots, g.k i = .S) →
    (∀ σ' ns', Bnd K g β H ρ' μ bn ns σ tg.slots n σ' ns' → Q σ' H) → gTg K tg v σ H Q
  | .nm i, t, v, n, ρ, ρ', σ, ns, Q, S, r, nb, e, hk, q => by
    have e' : ρ.set i (some t) = ρ' := Option.some.inj e
    subst e'
    refine q _ _ ⟨S.bind (hk i (by simp [Tg.slots])) r nb, fun j => ?_, fun vs h => wipe_set (h i (by simp [Tg.slots]))⟩
    split
    · rename_i h
      refine .inr ⟨by simp [Tg.slots, h], fun a ha => ?_⟩
      split at ha
      · exact ha
      · cases ha
    · exact .inl rfl
  | .tp ts, t, v, n, ρ, ρ', σ, ns, Q, S, r, nb, e, hk, q => by
    cases t <;> simp only [bindTg, reduceCtorEq] at e
    rename_i xs
    obtain ⟨a, vs, rfl, ea, rl⟩ := r
    have hl : vs.length = ts.length := by
      rw [rl.length]
      exact (bindTgs_len ts e).symm
    exact ⟨a, vs, rfl, SqT.of ea, hl, gTgs_ok ts S rl nb e hk q⟩
theorem gTgs_ok : ∀ (ts : List Tg) {xs : List T} {vs : List V} {n : List Addr} {ρ ρ' : Env} {σ : St} {ns : Nat → List Addr} {Q : St → Hp → Prop}, ESt K g β H ρ σ μ ns bn → RdsL K β H xs vs n → (∀ a ∈ n, ¬ Bx β bn a) → bindTgs ts xs ρ = some ρ' → (∀ i ∈ Tg.slotsL ts, g.k i = .S) →
    (∀ σ' ns', Bnd K g β H ρ' μ bn ns σ (Tg.slotsL ts) n σ' ns' → Q σ' H) → gTgs K ts vs σ H Q
  | [], xs, vs, n, ρ, ρ', σ, ns, Q, S, r, nb, e, hk, q => by
    cases xs <;> simp only [bindTgs, reduceCtorEq, Option.some.injEq] at e
    subst e
    obtain ⟨rfl, rfl⟩ := r
    exact ⟨rfl, q σ ns ⟨S, fun _ => .inl rfl, fun _ _ => rfl⟩⟩
  | t :: ts, xs, vs, n, ρ, ρ', σ, ns, Q, S, r, nb, e, hk, q => by
    cases xs with
    | nil => simp [bindTgs] at e
    | cons x xs =>
      obtain ⟨v, ws, m, k, rfl, r1, r2, rfl⟩ := r
      simp only [bindTgs] at e
      split at e
      · rename_i ρ1 e1
        refine ⟨v, ws, rfl, gTg_ok t S r1 (fun a ha => nb a (List.mem_append_left _ ha)) e1 (fun i hi => hk i (List.mem_append_left _ hi)) fun σ1 ns1 B1 => ?_⟩
        refine gTgs_ok ts B1.st r2 (fun a ha => nb a (List.mem_append_right _ ha)) e (fun i hi => hk i (List.mem_append_right _ hi)) fun σ2 ns2 B2 => ?_
        refine q σ2 ns2 ⟨B2.st, fun j => ?_, fun us h => ?_⟩
        · rcases B2.own j with h | ⟨h1, h2⟩
          · rw [h]
            rcases B1.own j with h | ⟨h1, h2⟩
            · exact .inl h
            · exact .inr ⟨List.mem_append_left _ h1, fun a ha => List.mem_append_left _ (h2 a ha)⟩
          · exact .inr ⟨List.mem_append_right _ h1, fun a ha => List.mem_append_right _ (h2 a ha)⟩
        · rw [B2.wp us fun i hi => h i (List.mem_append_right _ hi), B1.wp us fun i hi => h i (List.mem_append_left _ hi)]
      · cases e
theorem bindTgs_len : ∀ (ts : List Tg) {xs : List T} {ρ ρ' : Env}, bindTgs ts xs ρ = some ρ' → ts.length = xs.length
  | [], xs, ρ, ρ', e => by cases xs <;> simp [bindTgs] at e <;> rfl
  | t :: ts, xs, ρ, ρ', e => by
    cases xs with
    | nil => simp [bindTgs] at e
    | cons x xs =>
      simp only [bindTgs] at e
      split at e
      · rw [List.length_cons, List.length_cons, bindTgs_len ts e]
      · cases e
end
end

/-! ### what is walked -/
/-- an iterator over a value: mm: all nodes of it; ts: what it yields -/
structure ItOk (K : PySem.W.Frag) (β : List Addr) (ns bn' : Nat → List Addr) (H H' : Hp) (w k : Inf) (J : It) (ts : List T) (mm : List Addr) (G : Hp → Prop) : Prop where
  nb : ∀ a ∈ mm, ¬ Bx β bn' a
  src : ∀ a ∈ mm, H a = none ∨ (∃ j ∈ w.dp, a ∈ ns j) ∨ (∃ j ∈ w.dc, a ∈ (ns j).drop 1)
  trk : ∀ a ∈ mm, H' a ≠ none
  g0 : G H'
  keep : ∀ (B : Addr → Prop) (H1 H2 : Hp), G H1 → Keeps B H1 H2 → (∀ a ∈ mm, ¬ B a) → G H2
  walk : Walk J ts.length G fun i H1 x H2 => New1 H1 H2 ∧ ∃ t n, ts[i]? = some t ∧ Rds K β H2 t x n ∧ ∀ a ∈ n, a ∈ mm ∧ (H a = none ∨ (∃ j ∈ k.dp, a ∈ ns j) ∨ (∃ j ∈ k.dc, a ∈ (ns j).drop 1))
def tI (C : Cf) (K : PySem.W.Frag) (W : WX) (ii : II) : TI := fun σ H R => ∃ ρ μ β ns bn, ESt K C.g β H ρ σ μ ns bn ∧
  Sat (evI C.F ρ ii μ) (fun ts μ' => ∀ J H' bn' mm G, Step K β bn H H' μ' bn' → ItOk K β ns bn' H H' (infoW C.g ii) (infoI C.g ii) J ts mm G → R J H') (XW C K β bn (Own ns) H fun c d H' => W c d σ H')
section
variable {X : Cx} {C : Cf} {W : WX} {a b c tg : Expr} {x y z : IE} {pos p : Pos}
theorem PI.weak {it : Expr} {w w' : TI} (h : PI X tg it w) (e : ∀ σ H R, w' σ H R → w σ H R) : PI X tg it w' := ⟨fun pins s σ H R I q => h.run pins s σ H R I (e σ H R q)⟩
theorem PI.byCases {it : Expr} {w' : TI} (h : ∀ σ H R, w' σ H R → ∃ w, PI X tg it w ∧ w σ H R) : PI X tg it w' := ⟨fun pins s σ H R I q => by
  obtain ⟨w, hw, q'⟩ := h σ H R q
  exact hw.run pins s σ H R I q'⟩
theorem rngL_len (lo c : Int) : ∀ n, (rngL lo c n).length = n
  | 0 => rfl
  | n + 1 => by show (rngL (lo + c) c n).length + 1 = n + 1; rw [rngL_len]
theorem rngL_get (lo c : Int) : ∀ (n i : Nat), i < n → (rngL lo c n)[i]? = some (.int (lo + (i : Nat) * c))
  | 0, i, h => absurd h (Nat.not_lt_zero _)
  | n + 1, 0, _ => by simp [rngL]
  | n + 1, i + 1, h => by
    show (rngL (lo + c) c n)[i]? = _
    rw [rngL_get _ _ n i (by omega)]
    congr 2
    rw [Int.natCast_add, Int.add_mul]
    omega
theorem enumL_len : ∀ (xs : List T) (k : Int), (enumL k xs).length = xs.length
  | [], _ => rfl
  | x :: xs, k => by show (enumL (k + 1) xs).length + 1 = xs.length + 1; rw [enumL_len]
theorem enumL_get : ∀ (xs : List T) (k : Int) (i : Nat) (x : T), xs[i]? = some x → (enumL k xs)[i]? = some (.tup [.int (k + (i : Nat)), x])
  | [], _, i, x, h => by simp at h
  | y :: xs, k, 0, x, h => by simp at h; subst h; simp [enumL]
  | y :: xs, k, i + 1, x, h => by
    show (enumL (k + 1) xs)[i]? = _
    rw [enumL_get xs (k + 1) i x (by simpa using h)]
    congr 4
    omega
theorem zipL_len : ∀ xs ys : List T, (zipL xs ys).length = min xs.length ys.length
  | [], ys => by simp [zipL]
  | x :: xs, [] => by simp [zipL]
  | x :: xs, y :: ys => by show (zipL xs ys).length + 1 = _; rw [zipL_len]; simp <;> omega
theorem zipL_get : ∀ (xs ys : List T) (i : Nat) (x y : T), xs[i]? = some x → ys[i]? = some y → (zipL xs ys)[i]? = some (.tup [x, y])
  | [], ys, i, x, y, h, _ => by simp at h
  | _ :: _, [], i, x, y, _, h => by simp at h
  | _ :: xs, _ :: ys, 0, x, y, h1, h2 => by simp at h1 h2; subst h1 h2; rfl
  | _ :: xs, _ :: ys, i + 1, x, y, h1, h2 => by
    show (zipL xs ys)[i]? = _
    exact zipL_get xs ys i x y (by simpa using h1) (by simpa using h2)
/-- the i-th of a row's items -/
theorem item_at {K : PySem.W.Frag} {β : List Addr} {H : Hp} {ts : List T} {vs : List V} {m : List Addr} (h : RdsL K β H ts vs m) {i : Nat} {v : V} (e : vs[i]? = some v) : ∃ t n, ts[i]? = some t ∧ Rds K β H t v n ∧ n.Sublist m := by
  obtain ⟨t, et⟩ := h.get e
  obtain ⟨v', n1, l, n2, e1, rfl, r, _, _⟩ := h.at et
  rw [e] at e1; cases e1
  exact ⟨t, l, et, r, (List.sublist_append_left l n2).trans (List.sublist_append_right n1 _)⟩
theorem kid_items {K : PySem.W.Frag} {g : Sg} {β : List Addr} {ns bn1 : Nat → List Addr} {H H1 : Hp} {i : Inf} {t : T} {v : V} {n : List Addr} (x : Val K β bn1 ns H H1 i t v n) :
    ∀ a ∈ kn t n, H a = none ∨ (∃ j ∈ (kidI g i).dp, a ∈ ns j) ∨ (∃ j ∈ (kidI g i).dc, a ∈ (ns j).drop 1) := (x.kid (g := g)).src
def isTup : T → Bool
  | .tup _ => true
  | _ => false
theorem itok_seq {K : PySem.W.Frag} {g : Sg} {β : List Addr} {ns bn1 : Nat → List Addr} {H H1 : Hp} {i : Inf} {t : T} {v : V} {n : List Addr} {ts : List T} (x : Val K β bn1 ns H H1 i t v n) (e : seqOf t = some ts) :
    ∃ a vs, v = .ref a ∧ ((isTup t = true ∧ SqT K H1 a vs ∧ ∃ G, ItOk K β ns bn1 H H1 i (kidI g i) (Itt K a) ts n G) ∨ (isTup t = false ∧ SqL K H1 a vs ∧ ∃ G, ItOk K β ns bn1 H H1 i (kidI g i) (Itl K a) ts n G)) := by
  have trk : ∀ a ∈ n, H1 a ≠ none := fun a ha z => by
    obtain ⟨o, e, _⟩ := x.node ha
    rw [e] at z; cases z
  have ki := kid_items (g := g) x
  have rd := x.rd
  cases t <;> simp only [seqOf, reduceCtorEq, Option.some.injEq] at e
  · subst e
    obtain ⟨a, vs, m, rfl, ea, rl, rfl⟩ := rd
    refine ⟨a, vs, rfl, .inr ⟨rfl, SqL.of ea, fun H => H a = some (.lst vs) ∧ RdsL K β H _ vs m, x.nb, x.ok.src, trk, ⟨ea, rl⟩, fun B H2 H3 ⟨g1, g2⟩ k nb => ⟨k.lst g1 (nb a List.mem_cons_self), g2.keep k (fun _ _ e => e) _ fun b hb => nb b (List.mem_cons_of_mem _ hb)⟩, ?_⟩⟩
    rw [← rl.length]
    refine walk_list.mono (fun H q => SqL.of q.1) fun i H2 y H3 hi q ⟨e1, e2⟩ => ?_
    subst e1
    obtain ⟨t, l, et, r, sb⟩ := item_at q.2 e2
    exact ⟨.inl rfl, t, l, et, r, fun b hb => ⟨List.mem_cons_of_mem _ (sb.subset hb), ki b (sb.subset hb)⟩⟩
  · subst e
    obtain ⟨a, vs, rfl, ea, rl⟩ := rd
    refine ⟨a, vs, rfl, .inl ⟨rfl, SqT.of ea, fun H => H a = some (.tup vs) ∧ RdsL K β H _ vs n, x.nb, x.ok.src, trk, ⟨ea, rl⟩, fun B H2 H3 ⟨g1, g2⟩ k nb => ⟨k.tup a _ g1, g2.keep k (fun _ _ e => e) _ nb⟩, ?_⟩⟩
    rw [← rl.length]
    refine walk_tup.mono (fun H q => SqT.of q.1) fun i H2 y H3 hi q ⟨e1, e2⟩ => ?_
    subst e1
    obtain ⟨t, l, et, r, sb⟩ := item_at q.2 e2
    exact ⟨.inl rfl, t, l, et, r, fun b hb => ⟨sb.subset hb, ki b (sb.subset hb)⟩⟩
  · subst e
    rename_i is
    obtain ⟨a, rfl, rfl, h⟩ := id rd
    have sq : ∀ H, Rds K β H (.scr is) (.ref a) [] → SqL K H a (is.map V.int) := fun H h => by
      obtain ⟨a', e1, _, h⟩ := h
      cases e1
      rcases h with ⟨o, h⟩ | ⟨o, its, m, h1, h2, h3, h4, h5, h6⟩
      · exact .inl (.inr ⟨o, h⟩)
      · exact .inr ⟨o, its, m, h1, h2, h3, h4, h5, h6⟩
    refine ⟨a, _, rfl, .inr ⟨rfl, sq _ rd, fun H => Rds K β H (.scr is) (.ref a) [], x.nb, x.ok.src, trk, rd, fun B H2 H3 g1 k nb => g1.keep k (fun _ _ e => e) _ nb, ?_⟩⟩
    have hl : (is.map T.int).length = (is.map V.int).length := by simp
    rw [hl]
    refine walk_list.mono (fun H q => sq H q) fun i H2 y H3 hi q ⟨e1, e2⟩ => ?_
    subst e1
    obtain ⟨t, l, et, r, sb⟩ := item_at (RdsL.ofInts is) e2
    exact ⟨.inl rfl, t, l, et, r, fun b hb => by cases sb.subset hb⟩
theorem i_seq (ha : PE X a (tE C X.K W x)) : PI X tg a (tI C X.K W (.seq x)) := PI.byCases fun σ H R h => by
  obtain ⟨ρ, μ, β, ns, bn, S, h⟩ := h
  rw [evI] at h
  cases e : evE C.F ρ x μ with
  | stuck => rw [e] at h; exact False.elim h
  | exc c t μ1 =>
    rw [e] at h
    refine ⟨_, pi_list ha, ρ, μ, β, ns, bn, S, ?_⟩
    rw [e]
    exact h
  | ok t μ1 =>
    rw [e] at h
    obtain ⟨ts, et, q⟩ := Sat_opt h
    cases it : isTup t with
    | true =>
      refine ⟨_, pi_tup ha, ρ, μ, β, ns, bn, S, ?_⟩
      rw [e]
      intro v H1 bn1 n s1 x1
      obtain ⟨a, vs, rfl, ⟨_, h1, G, h2⟩ | ⟨h0, _⟩⟩ := itok_seq (g := C.g) x1 et
      · exact ⟨a, rfl, ⟨vs, h1⟩, q _ _ _ _ _ s1 h2⟩
      · rw [it] at h0; cases h0
    | false =>
      refine ⟨_, pi_list ha, ρ, μ, β, ns, bn, S, ?_⟩
      rw [e]
      intro v H1 bn1 n s1 x1
      obtain ⟨a, vs, rfl, ⟨h0, _⟩ | ⟨_, h1, G, h2⟩⟩ := itok_seq (g := C.g) x1 et
      · rw [it] at h0; cases h0
      · exact ⟨a, rfl, ⟨vs, h1⟩, q _ _ _ _ _ s1 h2⟩
theorem itok_nil {K : PySem.W.Frag} {β : List Addr} {ns bn1 : Nat → List Addr} {H H1 : Hp} {w k : Inf} {J : It} {ts : List T} {m : Nat} {Y : Nat → Hp → V → Hp → Prop} (wk : Walk J m (fun _ => True) Y) (hm : ts.length = m) (hy : ∀ i H2 y H3, i < m → Y i H2 y H3 → H3 = H2 ∧ ∃ t, ts[i]? = some t ∧ ∀ H, Rds K β H t y []) :
    ItOk K β ns bn1 H H1 w k J ts [] (fun _ => True) := by
  refine ⟨(fun _ z => by cases z), (fun _ z => by cases z), (fun _ z => by cases z), trivial, (fun _ _ _ _ _ _ => trivial), ?_⟩
  rw [hm]
  refine wk.mono (fun _ _ => trivial) fun i H2 y H3 hi _ q => ?_
  obtain ⟨rfl, t, et, rd⟩ := hy i H2 y H3 hi q
  exact ⟨.inl rfl, t, [], et, rd _, fun _ z => by cases z⟩
theorem smallI_ok {i : Int} (h : smallI i = true) : -(2 ^ 62) ≤ i ∧ i < 2 ^ 62 := by
  simp only [smallI, Bool.and_eq_true, decide_eq_true_eq] at h
  exact h
theorem i_rng1 (hg : Gl X "range") (hm : X.mg "range" = none) (ha : PE X a (tE C X.K W x)) (hst : nost a = true) : PI X tg (.Call (.Name "range" p) [a] [] pos) (tI C X.K W (.rng1 x)) := PI.weak (pi_range1 hg hm (pa_cons ha pa_nil (star_cons hst)) (star_cons hst)) fun σ H R h => by
  obtain ⟨ρ, μ, β, ns, bn, S, h⟩ := h
  refine use S (Sat_bind h) fun t μ1 v H1 bn1 n h s1 x1 => ?_
  cases t <;> try exact False.elim h
  obtain ⟨rfl, _⟩ := x1.rd
  obtain ⟨ok, q⟩ := Sat_if h
  obtain ⟨b1, b2⟩ := smallI_ok ok
  refine ⟨_, rfl, b1, b2, q _ _ _ _ _ s1 (itok_nil walk_range (rngL_len _ _ _) fun i H2 y H3 hi ⟨e1, e2⟩ => ⟨e1, _, rngL_get _ _ _ _ hi, fun H => ⟨?_, rfl⟩⟩)⟩
  rw [e2, Int.mul_one]
theorem i_rng2 (hg : Gl X "range") (hm : X.mg "range" = none) (ha : PE X a (tE C X.K W x)) (hst : nost a = true) (hb : PE X b (tE C X.K W y)) (hst2 : nost b = true) : PI X tg (.Call (.Name "range" p) [a, b] [] pos) (tI C X.K W (.rng2 x y)) :=
  PI.weak (pi_range2 hg hm (pa_cons ha (pa_cons hb pa_nil (star_cons hst2)) (star_cons hst)) (by rw [star_cons hst, star_cons hst2] <;> rfl) (star_cons hst2)) fun σ H R h => by
  obtain ⟨ρ, μ, β, ns, bn, S, h⟩ := h
  refine use S (Sat_bind h) fun t μ1 v H1 bn1 n h s1 x1 => ?_
  refine use (S.step s1) ((Sat_bind h).later s1) fun u μ2 w H2 bn2 m h s2 y1 => ?_
  cases t <;> try exact False.elim h
  cases u <;> try exact False.elim h
  obtain ⟨rfl, _⟩ := x1.rd
  obtain ⟨rfl, _⟩ := y1.rd
  obtain ⟨ok, q⟩ := Sat_if h
  rw [Bool.and_eq_true] at ok
  obtain ⟨b1, b2⟩ := smallI_ok ok.1
  obtain ⟨b3, b4⟩ := smallI_ok ok.2
  refine ⟨_, _, rfl, ⟨b1, b2, b3, b4⟩, q _ _ _ _ _ (s1.trans s2) (itok_nil walk_range (rngL_len _ _ _) fun i H2 y H3 hi ⟨e1, e2⟩ => ⟨e1, _, rngL_get _ _ _ _ hi, fun H => ⟨?_, rfl⟩⟩)⟩
  rw [e2, Int.mul_one]
end
end MP

/-! C12b: zip of a list with a tuple, either way about. -/
namespace MP
open PySem PySem.Spec PyProof.Rows L2
/-- a list (true) or a tuple (false) -/
def SqB (l : Bool) (K : PySem.W.Frag) (H : Hp) (a : Addr) (xs : List V) : Prop := match l with
  | true => SqL K H a xs
  | false => SqT K H a xs
def arrB (l : Bool) (h : Heap) (a : Addr) (its : Array Value) : Prop := match l with
  | true => h.IsList a its
  | false => h.IsTuple a its
def iterB (l : Bool) (h : Heap) (it a : Addr) (i : Nat) : Prop := match l with
  | true => h.IsListIter it a i
  | false => h.IsTupleIter it a i
def objB (l : Bool) (a : Addr) : Obj := match l with
  | true => { cls := .type "list_iterator", data := .fields #[.ref a, .int 0 0] }
  | false => { cls := .type "tuple_iterator", data := .fields #[.ref a, .int 0 0] }
theorem drawsB {prog : Program} {w : World} {A : Around} (hh : A.handled = none) (l : Bool) (it a : Addr) (hne : a ≠ it) (its : Array Value) : Draws prog w A it [it, a] its.size (fun i v => its[i]? = some v) (fun i h => iterB l h it a i ∧ arrB l h a its) := by
  cases l
  · exact Draws.tuple hh it a hne its
  · exact Draws.list hh it a hne its
theorem beginsB (l : Bool) (a : Addr) (its : Array Value) : Begins (.ref a) (objB l a) (fun h => arrB l h a its) := by
  cases l
  · exact begins_tuple a its
  · exact begins_list a its
theorem iterB_obj {l : Bool} {h : Heap} {it a : Addr} {i : Nat} (q : iterB l h it a i) : ∃ o, h.get? it = some o ∧ ∀ v, o.data ≠ .cell v := by
  cases l
  all_goals
    obtain ⟨o, e, c, d⟩ := q
    exact ⟨o, e, fun v z => by rw [d] at z; cases z⟩
theorem iterB_at {l : Bool} {h h' : Heap} {it a : Addr} {i : Nat} (q : iterB l h it a i) (k : ∀ o, h.get? it = some o → h'.get? it = some o) : iterB l h' it a i := by
  cases l
  · exact Heap.IsTupleIter.at q k
  · exact Heap.IsListIter.at q k
theorem iterB_new {l : Bool} {h : Heap} {it a : Addr} (e : h.get? it = some (objB l a)) : iterB l h it a 0 := by
  cases l
  · exact ⟨_, e, rfl, rfl⟩
  · exact ⟨_, e, rfl, rfl⟩
theorem SqB.arr {l : Bool} {X : Cx} {pins : List (Addr × Obj)} {σ : L2.St} {H : Hp} {s : Shared} {a : Addr} {xs : List V} (I : Inv X pins σ H s) (q : SqB l X.K H a xs) : ∃ its : List Value, Vals xs its ∧ arrB l s.heap a its.toArray := by
  cases l
  · obtain ⟨its, rv, p, _⟩ := I.tuple q
    exact ⟨its, rv, p⟩
  · obtain ⟨its, rv, p, _⟩ := I.list q
    exact ⟨its, rv, p.isList⟩
theorem arrB_lt {l : Bool} {h : Heap} {a : Addr} {its : Array Value} (q : arrB l h a its) : a < h.objs.size := by
  cases l
  · obtain ⟨o, e, _⟩ := q
    exact Heap.lt_size e
  · obtain ⟨o, e, _⟩ := q
    exact Heap.lt_size e
theorem SqB.inj {l : Bool} {X : Cx} {pins : List (Addr × Obj)} {σ : L2.St} {H : Hp} {s : Shared} {a : Addr} {xs ys : List V} (I : Inv X pins σ H s) (q : SqB l X.K H a xs) (q' : SqB l X.K H a ys) : xs = ys := by
  cases l
  · exact I.tuple_inj q q'
  · exact I.list_inj q q'
/-- both walked, the items in new pairs -/
def ItzB (k l : Bool) (K : PySem.W.Frag) (a b : Addr) : It :=
  ⟨fun i H => ∃ (xs ys : List V) (x y : V), SqB k K H a xs ∧ SqB l K H b ys ∧ xs[i]? = some x ∧ ys[i]? = some y,
    fun i H v H' => ∃ T x y, v = .ref T ∧ H T = none ∧ H' = upd H T (.tup [x, y]) ∧ (∀ xs, SqB k K H a xs → xs[i]? = some x) ∧ ∀ ys, SqB l K H b ys → ys[i]? = some y,
    fun i H => ∃ xs ys : List V, SqB k K H a xs ∧ SqB l K H b ys ∧ i = min xs.length ys.length⟩
structure SepB (z TI TO i1 i2 a b : Addr) : Prop where
  s : ZipSep2 z TI TO i1 i2 [i1, a] [i2, b]
  a1 : a ≠ i1
  b2 : b ≠ i2
theorem turn_zipB {P : Program} {w : World} {K : PySem.W.Frag} {elts : List Expr} {kk : Nat} {tpos : Pos} {k l : Bool} {a b z TI TO i1 i2 : Addr} (D : SepB z TI TO i1 i2 a b) :
    Turn P w K (.Tuple elts kk tpos) (ItzB k l K a b) [z, TI, TO, i1, i2] z (fun i h => IsZip h z TI TO .none ∧ IsTupOf2 h TI (.ref i1) (.ref i2) ∧ (∃ x y, IsTupOf2 h TO x y) ∧ iterB k h i1 a i ∧ iterB l h i2 b i) where
  mem := by simp
  obj := fun i h st c hc => by
    obtain ⟨hz, hTI, ⟨x, y, hTO⟩, h1, h2⟩ := st
    have e' : c = z ∨ c = TI ∨ c = TO ∨ c = i1 ∨ c = i2 := by simpa using hc
    rcases e' with q | q | q | q | q
    · rw [q]; exact ⟨_, hz, fun v q => nomatch q⟩
    · rw [q]; exact ⟨_, hTI, fun v q => nomatch q⟩
    · rw [q]; exact ⟨_, hTO, fun v q => nomatch q⟩
    · rw [q]; exact iterB_obj h1
    · rw [q]; exact iterB_obj h2
  keep := fun i h h' st q => by
    obtain ⟨hz, hTI, ⟨x, y, hTO⟩, h1, h2⟩ := st
    exact ⟨q z (by simp) _ hz, q TI (by simp) _ hTI, ⟨x, y, q TO (by simp) _ hTO⟩, iterB_at h1 fun o e => q i1 (by simp) o e, iterB_at h2 fun o e => q i2 (by simp) o e⟩
  item := by
    intro X hP hw hK hc i pins s σ H E I hf st hg
    subst hP hw hK
    obtain ⟨hz, hTI, hTO, h1, h2⟩ := st
    obtain ⟨xs, ys, x, y, hqx, hqy, hx, hy⟩ := hg
    obtain ⟨its, rv, p⟩ := SqB.arr I hqx
    obtain ⟨its2, rv2, p2⟩ := SqB.arr I hqy
    obtain ⟨u, hu, ru⟩ := rv.get hx
    obtain ⟨u2, hu2, ru2⟩ := rv2.get hy
    have hd : X.A.in1.handled = none := I.ok.hd hc
    have W := GoesN.zip2 (prog := X.prog) (w := X.w) (elts := elts) (x1 := kk) (pos := tpos) D.s (drawsB hd k i1 a D.a1 its.toArray) (drawsB hd l i2 b D.b2 its2.toArray)
    have hi : i < min its.toArray.size its2.toArray.size := by
      have q1 := (List.getElem?_eq_some_iff.mp hu).1
      have q2 := (List.getElem?_eq_some_iff.mp hu2).1
      simp only [List.size_toArray]
      omega
    refine W.goes i s _ E hi ⟨hz, hTI, hTO, ⟨h1, p⟩, h2, p2⟩ fun v h' tk hY st' hk _ => ?_
    obtain ⟨T, x', y', rfl, hT, ex, ey, tT⟩ := hY
    have ex' : u = x' := by
      have := ex
      rw [List.getElem?_toArray, hu] at this
      exact Option.some.inj this
    have ey' : u2 = y' := by
      have := ey
      rw [List.getElem?_toArray, hu2] at this
      exact Option.some.inj this
    subst ex' ey'
    obtain ⟨g1, g2, g3, ⟨g4, _⟩, g5, _⟩ := st'
    have new : ObjOk X.prog X.w (upd H T (.tup [x, y])) h' T (.tup [x, y]) :=
      ⟨by show 2 ≤ sizeLine; decide, [u, u2], .cons ru (.cons ru2 .nil), tT⟩
    have I1 : Inv X pins σ (upd H T (.tup [x, y])) { s with heap := h', toks := tk } :=
      I.turnedNew (t' := tk) (ch := [z, TI, TO, i1, i2]) (fun c o hb q => hk c o (fun q' => hb (by
        have e' : c = z ∨ c = TO ∨ c = i1 ∨ c = i2 := by simpa using q'
        rcases e' with e | e | e | e <;> (rw [e]; simp))) q) hf hT new
    refine ⟨.ref T, _, I1, rfl, ⟨T, x, y, rfl, I.hok.fresh hT, rfl, fun m hm => by rw [SqB.inj I hm hqx]; exact hx, fun m hm => by rw [SqB.inj I hm hqy]; exact hy⟩, ⟨g1, g2, g3, g4, g5⟩, fun c hcm => ?_⟩
    have hlt : c < s.heap.objs.size := by
      have e' : c = z ∨ c = TI ∨ c = TO ∨ c = i1 ∨ c = i2 := by simpa using hcm
      rcases e' with q | q | q | q | q
      · rw [q]; exact Heap.lt_size hz
      · rw [q]; exact Heap.lt_size hTI
      · rw [q]; obtain ⟨_, _, hTO⟩ := hTO; exact Heap.lt_size hTO
      · rw [q]; obtain ⟨_, e1, _⟩ := iterB_obj h1; exact Heap.lt_size e1
      · rw [q]; obtain ⟨_, e1, _⟩ := iterB_obj h2; exact Heap.lt_size e1
    rw [upd_ne (Nat.ne_of_lt (Nat.lt_of_lt_of_le hlt hT))]
    exact (hf c hcm).1
  done := by
    intro X hP hw hK hc i pins s σ H E I hf st hg
    subst hP hw hK
    obtain ⟨hz, hTI, hTO, h1, h2⟩ := st
    obtain ⟨xs, ys, hqx, hqy, hend⟩ := hg
    obtain ⟨its, rv, p⟩ := SqB.arr I hqx
    obtain ⟨its2, rv2, p2⟩ := SqB.arr I hqy
    have l1 := rv.length
    have l2 := rv2.length
    have hd : X.A.in1.handled = none := I.ok.hd hc
    have W := GoesN.zip2 (prog := X.prog) (w := X.w) (elts := elts) (x1 := kk) (pos := tpos) D.s (drawsB hd k i1 a D.a1 its.toArray) (drawsB hd l i2 b D.b2 its2.toArray)
    have hi : i = min its.toArray.size its2.toArray.size := by
      simp only [List.size_toArray]
      rw [hend, l1, l2]
    subst hi
    exact W.stops s _ E ⟨hz, hTI, hTO, ⟨h1, p⟩, h2, p2⟩ fun h' tk hk _ => I.turnedL (t' := tk) (ch := [z, TI, TO, i1, i2]) (fun c o hb q => hk c o (fun q' => hb (by
        have e' : c = z ∨ c = TO ∨ c = i1 ∨ c = i2 := by simpa using q'
        rcases e' with e | e | e | e <;> (rw [e]; simp))) q) hf
  self := fun A i s Q E st h => wpAny_pyIter_zip st.1 h
def iZipB (K : PySem.W.Frag) (ta : TA) : TI := fun σ H R => ta σ H fun vs H1 => ∃ k l a b xs ys, vs = [.ref a, .ref b] ∧ SqB k K H1 a xs ∧ SqB l K H1 b ys ∧ R (ItzB k l K a b) H1
theorem sepB_new (n a b : Nat) (ha : a < n) (hb : b < n) : SepB (n + 4) (n + 2) (n + 3) n (n + 1) a b := by
  have c : ∀ {x y : Nat}, x ≠ y → (x : Addr) ≠ (y : Addr) := fun h => h
  refine ⟨⟨?_, ?_, ?_, ?_, ?_, ?_, ?_, ?_, ?_, ?_, ?_, ?_, ?_⟩, ?_, ?_⟩
  all_goals first
    | (simp; done)
    | (refine c ?_; omega)
    | (simp only [List.mem_cons, List.not_mem_nil, or_false, not_or]; exact ⟨c (by omega), c (by omega)⟩)
theorem pi_zipB {X : Cx} {e e2 : Expr} {ta : TA} {p pos tpos : Pos} {elts : List Expr} {kk : Nat} (hg : Gl X "zip") (hm : X.mg "zip" = none) (ha : PA X [e, e2] ta)
    (hs : starEach [e, e2] X.env = (false, eval e X.env) :: starEach [e2] X.env := by rfl) (hpl : (backTo pos (starEach [e2] X.env)).any (·.1) = false := by rfl) :
    PI X (.Tuple elts kk tpos) (.Call (.Name "zip" p) [e, e2] [] pos) (iZipB X.K ta) := by
  refine ⟨fun pins s σ H R I h => ?_⟩
  refine Call_ (ld_blt I hg hm PyProof.Rows.boot_zip (PyProof.Rows.callWith_type1 (thn (ha.run pos pins s σ H _ I h) fun us s1 ⟨vs, H1, I1, r1, q1⟩ => ?_) hs hpl))
  obtain ⟨k, l, a, b, xs, ys, ex, hqx, hqy, q⟩ := q1
  subst ex
  cases r1 with
  | cons r rr =>
    cases rr with
    | cons r' rr =>
      cases rr
      cases r
      cases r'
      have fresh5 : ∀ c, c ∈ [s1.heap.objs.size + 4, s1.heap.objs.size + 2, s1.heap.objs.size + 3, s1.heap.objs.size, s1.heap.objs.size + 1] → FpOk X pins H1 c := fun c hcm => by
        have hle : s1.heap.objs.size ≤ c := by
          have e' : c = s1.heap.objs.size + 4 ∨ c = s1.heap.objs.size + 2 ∨ c = s1.heap.objs.size + 3 ∨ c = s1.heap.objs.size ∨ c = s1.heap.objs.size + 1 := by simpa using hcm
          rcases e' with z | z | z | z | z
          · rw [z]; exact Nat.le_add_right _ _
          · rw [z]; exact Nat.le_add_right _ _
          · rw [z]; exact Nat.le_add_right _ _
          · rw [z]; exact Nat.le_refl _
          · rw [z]; exact Nat.le_add_right _ _
        exact I1.fpOk hle (I1.hok.fresh hle)
      obtain ⟨its, rv, p1⟩ := SqB.arr I1 hqx
      obtain ⟨its2, rv2, p2⟩ := SqB.arr I1 hqy
      refine zip_begins2 (beginsB k a its.toArray) (beginsB l b its2.toArray) p1 p2 fun h' hz hTI hTO h1 h2 hsz hk => wpAny_pyIter_zip hz ?_
      have I2 : Inv X pins σ H1 { s1 with heap := h' } := I1.kept (t' := s1.toks) hk
      exact ⟨s1.heap.objs.size + 4, [s1.heap.objs.size + 4, s1.heap.objs.size + 2, s1.heap.objs.size + 3, s1.heap.objs.size, s1.heap.objs.size + 1], _, _, H1, rfl, I2, turn_zipB (sepB_new s1.heap.objs.size a b (arrB_lt p1) (arrB_lt p2)), ⟨hz, hTI, ⟨_, _, hTO⟩, iterB_new h1, iterB_new h2⟩, fresh5, q⟩
theorem walk_zipB {K : PySem.W.Frag} {k l : Bool} {a b : Addr} {xs ys : List V} : Walk (ItzB k l K a b) (min xs.length ys.length) (fun H => SqB k K H a xs ∧ SqB l K H b ys) (YPair (fun i => xs[i]?) (fun i => ys[i]?)) := by
  refine ⟨fun i _ hi q => ?_, fun _ q => ⟨xs, ys, q.1, q.2, rfl⟩, fun i H v H' _ q y => ?_⟩
  · have h1 : i < xs.length := by omega
    have h2 : i < ys.length := by omega
    exact ⟨xs, ys, xs[i], ys[i], q.1, q.2, by simp [h1], by simp [h2]⟩
  · obtain ⟨T, x, z, h1, h2, h3, h4, h5⟩ := y
    exact ⟨T, x, z, h1, h2, h3, h4 xs q.1, h5 ys q.2⟩
end MP

/-! C13: enumerate, zip; comprehensions. -/
namespace MP
open PySem L2
section
variable {X : Cx} {C : Cf} {W : WX} {a b c tg : Expr} {x y z : IE} {pos p : Pos}
/-- a new pair reads as the pair -/
theorem pair_rds {K : PySem.W.Frag} {β : List Addr} {H : Hp} {q : Addr} {t u : T} {v w : V} {n m : List Addr} (h1 : Rds K β H t v n) (h2 : Rds K β H u w m) (hq : H q = none) : Rds K β (upd H q (.tup [v, w])) (.tup [t, u]) (.ref q) (n ++ m) := by
  have n1 : New1 H (upd H q (.tup [v, w])) := .inr ⟨q, _, hq, rfl⟩
  exact ⟨q, [v, w], rfl, upd_same, v, [w], n, m, rfl, h1.new n1, ⟨w, [], m, [], rfl, h2.new n1, ⟨rfl, rfl⟩, by simp⟩, rfl⟩
/-- a list or a tuple that is walked -/
def SrcB (l : Bool) (K : PySem.W.Frag) (β : List Addr) (H : Hp) (xs : List T) (p : Addr) (vs : List V) (n : List Addr) : Prop := match l with
  | true => ∃ m, n = p :: m ∧ H p = some (.lst vs) ∧ RdsL K β H xs vs m
  | false => H p = some (.tup vs) ∧ RdsL K β H xs vs n
def sqT (l : Bool) (xs : List T) : T := match l with
  | true => .lst xs
  | false => .tup xs
theorem SrcB.of {l : Bool} {K : PySem.W.Frag} {β : List Addr} {H : Hp} {xs : List T} {v : V} {n : List Addr} (h : Rds K β H (sqT l xs) v n) : ∃ p vs, v = .ref p ∧ SrcB l K β H xs p vs n := by
  cases l
  · obtain ⟨p, vs, e, ea, rl⟩ := h
    exact ⟨p, vs, e, ea, rl⟩
  · obtain ⟨p, vs, m, e, ea, rl, en⟩ := h
    exact ⟨p, vs, e, m, en, ea, rl⟩
theorem SrcB.keep {l : Bool} {K : PySem.W.Frag} {β : List Addr} {H H' : Hp} {B : Addr → Prop} {xs : List T} {p : Addr} {vs : List V} {n : List Addr} (h : SrcB l K β H xs p vs n) (k : Keeps B H H') (nb : ∀ a ∈ n, ¬ B a) : SrcB l K β H' xs p vs n := by
  cases l
  · exact ⟨k.tup p _ h.1, h.2.keep k (fun _ _ e => e) _ nb⟩
  · obtain ⟨m, rfl, ea, rl⟩ := h
    exact ⟨m, rfl, k.lst ea (nb p (by simp)), rl.keep k (fun _ _ e => e) _ fun b hb => nb b (List.mem_cons_of_mem _ hb)⟩
theorem SrcB.sq {l : Bool} {K : PySem.W.Frag} {β : List Addr} {H : Hp} {xs : List T} {p : Addr} {vs : List V} {n : List Addr} (h : SrcB l K β H xs p vs n) : SqB l K H p vs := by
  cases l
  · exact SqT.of h.1
  · obtain ⟨m, _, ea, _⟩ := h
    exact SqL.of ea
theorem SrcB.rl {l : Bool} {K : PySem.W.Frag} {β : List Addr} {H : Hp} {xs : List T} {p : Addr} {vs : List V} {n : List Addr} (h : SrcB l K β H xs p vs n) : RdsL K β H xs vs (kn (sqT l xs) n) := by
  cases l
  · exact h.2
  · obtain ⟨m, rfl, _, rl⟩ := h
    exact rl
theorem SrcB.sub {l : Bool} {K : PySem.W.Frag} {β : List Addr} {H : Hp} {xs : List T} {p : Addr} {vs : List V} {n : List Addr} (h : SrcB l K β H xs p vs n) : ∀ a ∈ kn (sqT l xs) n, a ∈ n := by
  cases l
  · exact fun a ha => ha
  · obtain ⟨m, rfl, _, _⟩ := h
    exact fun a ha => List.mem_cons_of_mem _ ha
theorem i_zip {elts : List Expr} {kk : Nat} {tpos : Pos} (hg : Gl X "zip") (hm : X.mg "zip" = none) (ha : PE X a (tE C X.K W x)) (hst : nost a = true) (hb : PE X b (tE C X.K W y)) (hst2 : nost b = true) : PI X (.Tuple elts kk tpos) (.Call (.Name "zip" p) [a, b] [] pos) (tI C X.K W (.zip x y)) :=
  PI.weak (pi_zipB hg hm (pa_cons ha (pa_cons hb pa_nil (star_cons hst2)) (star_cons hst)) (star_cons hst) (star_any (by simp [hst2]))) fun σ H R h => by
  obtain ⟨ρ, μ, β, ns, bn, S, h⟩ := h
  refine use S (Sat_bind h) fun t μ1 v H1 bn1 n h s1 x1 => ?_
  refine use (S.step s1) ((Sat_bind h).later s1) fun u μ2 w H2 bn2 m q s2 y1 => ?_
  have s := s1.trans s2
  have x2 := x1.step s2
  have ki := kid_items (g := C.g) x1
  have kj := kid_items (g := C.g) y1
  have src : ∀ a ∈ n ++ m, H a = none ∨ (∃ j ∈ ((info C.g x).mix (info C.g y)).dp, a ∈ ns j) ∨ (∃ j ∈ ((info C.g x).mix (info C.g y)).dc, a ∈ (ns j).drop 1) := fun a ha => by
    rcases List.mem_append.mp ha with ha | ha
    · rcases x1.ok.src a ha with z | ⟨k, k1, k2⟩ | ⟨k, k1, k2⟩
      · exact .inl z
      · exact .inr (.inl ⟨k, List.mem_append_left _ k1, k2⟩)
      · exact .inr (.inr ⟨k, List.mem_append_left _ k1, k2⟩)
    · rcases y1.ok.src a ha with z | ⟨k, k1, k2⟩ | ⟨k, k1, k2⟩
      · exact .inl (s1.keep.more a z)
      · exact .inr (.inl ⟨k, List.mem_append_right _ k1, k2⟩)
      · exact .inr (.inr ⟨k, List.mem_append_right _ k1, k2⟩)
  have kid : ∀ a, (a ∈ kn t n ∨ a ∈ kn u m) → H a = none ∨ (∃ j ∈ ((kidI C.g (info C.g x)).mix (kidI C.g (info C.g y))).dp, a ∈ ns j) ∨ (∃ j ∈ ((kidI C.g (info C.g x)).mix (kidI C.g (info C.g y))).dc, a ∈ (ns j).drop 1) := fun a ha => by
    rcases ha with ha | ha
    · rcases ki a ha with z | ⟨k, k1, k2⟩ | ⟨k, k1, k2⟩
      · exact .inl z
      · exact .inr (.inl ⟨k, List.mem_append_left _ k1, k2⟩)
      · exact .inr (.inr ⟨k, List.mem_append_left _ k1, k2⟩)
    · rcases kj a ha with z | ⟨k, k1, k2⟩ | ⟨k, k1, k2⟩
      · exact .inl (s1.keep.more a z)
      · exact .inr (.inl ⟨k, List.mem_append_right _ k1, k2⟩)
      · exact .inr (.inr ⟨k, List.mem_append_right _ k1, k2⟩)
  have nb : ∀ a ∈ n ++ m, ¬ Bx β bn2 a := fun a ha => by
    rcases List.mem_append.mp ha with ha | ha
    · exact x2.nb a ha
    · exact y1.nb a ha
  have trk : ∀ a ∈ n ++ m, H2 a ≠ none := fun a ha z => by
    rcases List.mem_append.mp ha with ha | ha
    · obtain ⟨o, e, _⟩ := x2.node ha
      rw [e] at z; cases z
    · obtain ⟨o, e, _⟩ := y1.node ha
      rw [e] at z; cases z
  have two : ∃ l xs k ys, t = sqT l xs ∧ u = sqT k ys := by
    cases t <;> try exact False.elim q
    all_goals
      cases u <;> try exact False.elim q
    · exact ⟨true, _, true, _, rfl, rfl⟩
    · exact ⟨true, _, false, _, rfl, rfl⟩
    · exact ⟨false, _, true, _, rfl, rfl⟩
    · exact ⟨false, _, false, _, rfl, rfl⟩
  obtain ⟨l, xs, k, ys, rfl, rfl⟩ := two
  have e : (match sqT l xs, sqT k ys with
      | .lst xs, .lst ys => Res.ok (zipL xs ys) μ2
      | .tup xs, .tup ys => .ok (zipL xs ys) μ2
      | .lst xs, .tup ys => .ok (zipL xs ys) μ2
      | .tup xs, .lst ys => .ok (zipL xs ys) μ2
      | _, _ => .stuck) = .ok (zipL xs ys) μ2 := by cases l <;> cases k <;> rfl
  have q := (congrArg (fun r => Sat r _ _) e).mp q
  obtain ⟨p, vs, rfl, r1⟩ := SrcB.of x2.rd
  obtain ⟨p', vs', rfl, r2⟩ := SrcB.of y1.rd
  refine ⟨l, k, p, p', vs, vs', rfl, r1.sq, r2.sq, q _ _ _ _ (fun H => SrcB l X.K β H xs p vs n ∧ SrcB k X.K β H ys p' vs' m) s ⟨nb, src, trk, ⟨r1, r2⟩, fun B H2 H3 ⟨g1, g2⟩ k nb => ⟨g1.keep k fun b hb => nb b (by simp [hb]), g2.keep k fun b hb => nb b (by simp [hb])⟩, ?_⟩⟩
  rw [zipL_len, ← r1.rl.length, ← r2.rl.length]
  refine walk_zipB.mono (fun H q => ⟨q.1.sq, q.2.sq⟩) fun i H2 y H3 hi q ⟨q0, v1, v2, e1, hq, e2, e3, e4⟩ => ?_
  subst e1 e2
  obtain ⟨t, o, et, r, sb⟩ := item_at q.1.rl e3
  obtain ⟨t', o', et', r', sb'⟩ := item_at q.2.rl e4
  refine ⟨.inr ⟨q0, _, hq, rfl⟩, _, o ++ o', zipL_get _ _ _ _ _ et et', pair_rds r r' hq, fun b hb => ?_⟩
  rcases List.mem_append.mp hb with hb | hb
  · have hb := sb.subset hb
    exact ⟨List.mem_append_left _ (q.1.sub b hb), kid b (.inl hb)⟩
  · have hb := sb'.subset hb
    exact ⟨List.mem_append_right _ (q.2.sub b hb), kid b (.inr hb)⟩
end

/-! ### comprehensions -/
def W0 : WX := fun _ _ _ _ => False
def tC0 (C : Cf) (K : PySem.W.Frag) : Option IE → TT
  | none => tYes
  | some c => tT C K W0 c
theorem noExc_bind {α β : Type} {r : Res α} {f : α → Mem → Res β} {P : β → Mem → Prop} {E : Nat → T → Mem → Prop} (h : Sat (noExc (r.bind f)) P E) : Sat r (fun a μ => Sat (noExc (f a μ)) P E) fun _ _ _ => False := by cases r <;> exact h
theorem Sat.noX {α : Type} {r : Res α} {P : α → Mem → Prop} {E : Nat → T → Mem → Prop} (h : Sat r P fun _ _ _ => False) : Sat r P E := h.mono (fun _ _ p => p) fun _ _ _ e => e.elim
theorem useC {C : Cf} {K : PySem.W.Frag} {β : List Addr} {H : Hp} {ρ : Env} {σ : St} {μ : Mem} {ns bn : Nat → List Addr} {cnd : Option IE} {Q : Bool → Hp → Prop} {P : Bool → Mem → Prop} (S : ESt K C.g β H ρ σ μ ns bn) (h : Sat (evC C.F ρ cnd μ) P fun _ _ _ => False)
    (k : ∀ b μ' H' bn', P b μ' → Step K β bn H H' μ' bn' → Q b H') : tC0 C K cnd σ H Q := by
  cases cnd with
  | none => exact k true μ H bn h (Step.refl S.box)
  | some c =>
    refine useT S (Sat_bind h).noX (fun t μ1 h => ?_) fun b μ1 H1 bn1 h s1 => k b μ1 H1 bn1 h s1
    cases t <;> first | exact False.elim h | exact ⟨_, rfl⟩
theorem Step.put {K : PySem.W.Frag} {β : List Addr} {bn bn4 : Nat → List Addr} {H1 H4 : Hp} {μ : Mem} {D : Addr} {vs ws : List V} (s : Step K β bn H1 H4 μ bn4) (hD : H1 D = none) (hD4 : H4 D = some (.lst vs)) (nbD : ¬ Bx β bn4 D) : Step K β bn H1 (upd H4 D (.lst ws)) μ bn4 where
  keep := ⟨fun a o e nb nt => by rw [upd_ne (fun z => by rw [z, hD] at e; cases e)]; exact s.keep.keep a o e nb nt, fun a xs e => by rw [upd_ne (fun z => by rw [z, hD] at e; cases e)]; exact s.keep.tup a xs e,
    fun a o u e => by rw [upd_ne (fun z => by rw [z, hD] at e; cases e)]; exact s.keep.frz a o u e, fun a e => by
      by_cases z : a = D
      · rw [z, upd_same] at e; cases e
      · rw [upd_ne z] at e; exact s.keep.more a e⟩
  box := ⟨s.box.len, fun k t e => by
    obtain ⟨a, e1, r, bl, nd⟩ := s.box.rd k t e
    have hk : k < β.length := by rw [s.box.len]; exact (List.getElem?_eq_some_iff.mp e).1
    exact ⟨a, e1, r.keep (B := fun x => x = D) (Keeps.write hD4 rfl rfl) (fun _ _ e => e) t fun b hb z => nbD ⟨k, hk, z ▸ hb⟩, bl, nd⟩, s.box.dj, s.box.tb.write hD4 rfl⟩
  sub := s.sub
/-- what is tracked at a step's start is no box's behind it, if it was none's -/
theorem Step.nb {K : PySem.W.Frag} {β : List Addr} {bn bn' : Nat → List Addr} {H H' : Hp} {μ : Mem} (s : Step K β bn H H' μ bn') {a : Addr} (h : H a ≠ none) (nb : ¬ Bx β bn a) : ¬ Bx β bn' a := fun z => by
  rcases s.sub a z with z | z
  · exact nb z
  · exact h z
section
variable {X : Cx} {C : Cf} {W : WX}
theorem lc_key {own : List (Str × Nat)} {el : IE} {t : Tg} {it : II} {cnd : Option IE} {σ : St} {H : Hp} {Q : VK} (hown : own.map (·.2) = t.slots) (hk : ∀ i ∈ t.slots, C.g.k i = .S) (h : tE C X.K W (.lc el t it cnd) σ H Q) :
    tLc (tI C X.K W it) (gTg X.K t) (tC0 C X.K cnd) (tE C X.K W0 el) (own.map (·.2)) σ H Q := by
  obtain ⟨ρ, μ, β, ns, bn, S, h⟩ := h
  rw [hown]
  refine ⟨ρ, μ, β, ns, bn, S, (Sat_bind h).mono (fun ts μ1 q J H1 bn1 mm G s1 io D hD => ?_) fun _ _ _ e => e⟩
  have q := Sat_bind q
  have nbD : ¬ Bx β bn1 D := s1.box.fresh D hD
  generalize hf : (fun x μ => match bindTg t x (MP.forget ρ t.slots) with
      | some ρ' => (evC C.F ρ' cnd μ).bind fun b μ => (match b with | true => (evE C.F ρ' el μ).bind fun y μ => .ok (some y) μ | false => .ok none μ)
      | none => .stuck) = f at q
  let I := info C.g (.lc el t it cnd)
  let Pv : Nat → Hp → Prop := fun i Hi => G Hi ∧ ∃ μi bni acc vs n, Step X.K β bn1 H1 Hi μi bni ∧ ¬ Bx β bni D ∧ Hi D = some (.lst vs) ∧ RdsL X.K β Hi acc vs n ∧ (∀ a ∈ n, ¬ Bx β bni a) ∧ D ∉ n ∧
    (∀ a ∈ n, H a = none ∨ (∃ j ∈ I.dp, a ∈ ns j) ∨ (∃ j ∈ I.dc, a ∈ (ns j).drop 1)) ∧ (I.lin = true → n.Nodup) ∧
    Sat (noExc (lcGo f (ts.drop i) acc.length μi)) (fun r μ' => ∀ v H' bn' n, Step X.K β bn H H' μ' bn' → Val X.K β bn' ns H H' I (.lst (acc ++ r)) v n → Q v H') fun _ _ _ => False
  have nD : New1 H1 (upd H1 D (.lst [])) := .inr ⟨D, _, hD, rfl⟩
  refine lc_it io.walk Pv ?_ (fun i Hi _ p => p.1) ?_ ?_
  · refine ⟨io.keep (fun _ => False) _ _ io.g0 (keepsN nD) (fun _ _ z => z), μ1, bn1, [], [], [], Step.new1 s1.box nD, nbD, upd_same, ⟨rfl, rfl⟩, (fun _ z => by cases z), (by simp), (fun _ z => by cases z), fun _ => List.nodup_nil, ?_⟩
    have q' : Sat (noExc (lcGo f ts 0 μ1)) (fun r μ' => ∀ v H' bn' n, Step X.K β bn H H' μ' bn' → Val X.K β bn' ns H H' I (.lst r) v n → Q v H') fun _ _ _ => False := by
      cases hz : lcGo f ts 0 μ1 with
      | ok r μ' => rw [hz] at q; exact q
      | exc c t μ' => rw [hz] at q; exact False.elim q
      | stuck => rw [hz] at q; exact False.elim q
    exact q'
  · intro i x Hi H' hi' ⟨g, μi, bni, acc, vs, n, si, nbi, eD, rl, nn, hDn, src, lin, q⟩ ⟨n1, tx, nx, etx, rx, hx⟩
    have hdr : ts.drop i = tx :: ts.drop (i + 1) := by
      obtain ⟨h1, h2⟩ := List.getElem?_eq_some_iff.mp etx
      rw [← h2]
      exact List.drop_eq_getElem_cons h1
    rw [hdr] at q
    have q := noExc_bind q
    have sN : Step X.K β bni Hi H' μi bni := Step.new1 si.box n1
    have s' := s1.trans (si.trans sN)
    obtain ⟨ns', S', hns⟩ := (S.step s').forget t.slots
    rw [← hf] at q
    have mmT : ∀ a ∈ mm, ¬ Bx β bni a := fun a ha => si.nb (io.trk a ha) (io.nb a ha)
    cases hb : bindTg t tx (MP.forget ρ t.slots) with
    | none => dsimp only at q; rw [hb] at q; exact False.elim q
    | some ρ' =>
    dsimp only at q
    rw [hb] at q
    refine gTg_ok t S' rx (fun a ha => mmT a (hx a ha).1) hb hk fun σ2 ns2 B => ⟨?_, ?_⟩
    · rw [B.wp t.slots fun _ h => h, wipe_wipe]
    refine useC B.st (Sat_bind q) fun b μ3 H3 bn3 q s3 => ?_
    have g3 : G H3 := io.keep _ _ _ (io.keep (fun _ => False) _ _ g (keepsN n1) fun _ _ z => z) s3.keep mmT
    have nb3 : ¬ Bx β bn3 D := s3.nb (by rw [(keepsN n1).lst eD (fun z => z)]; simp) nbi
    have eD3 : H3 D = some (.lst vs) := s3.keep.lst ((keepsN n1).lst eD fun z => z) nbi
    have trkn : ∀ a ∈ n, Hi a ≠ none := fun a ha z => by
      obtain ⟨o, e, _⟩ := rl.node _ a ha
      rw [e] at z; cases z
    have nn3 : ∀ a ∈ n, ¬ Bx β bn3 a := fun a ha => (sN.trans s3).nb (trkn a ha) (nn a ha)
    have rl3 : RdsL X.K β H3 acc vs n := (rl.new n1).keep s3.keep (fun _ _ e => e) _ nn
    cases b with
    | false =>
      rw [if_neg (by decide)]
      refine ⟨g3, μ3, bn3, acc, vs, n, si.trans (sN.trans s3), nb3, eD3, rl3, nn3, hDn, src, lin, ?_⟩
      rw [← hf]
      exact q
    | true =>
      rw [if_pos rfl]
      refine use (B.st.step s3) (Sat.noX (Sat_bind q)) fun y μ4 v H4 bn4 m4 q s4 v4 => ?_
      have q : Sat (noExc (if Nat.blt acc.length line = true then (lcGo f (ts.drop (i + 1)) (acc.length + 1) μ4).bind fun r μ => .ok (y :: r) μ else .stuck)) (fun r μ' => ∀ v H' bn' n, Step X.K β bn H H' μ' bn' → Val X.K β bn' ns H H' I (.lst (acc ++ r)) v n → Q v H') fun _ _ _ => False := by
        rw [← hf]; exact q
      cases hl : Nat.blt acc.length line with
      | false => rw [hl] at q; exact False.elim q
      | true =>
      rw [hl, if_pos rfl] at q
      have eD4 : H4 D = some (.lst vs) := s4.keep.lst eD3 nb3
      have nb4 : ¬ Bx β bn4 D := s4.nb (by rw [eD3]; simp) nb3
      have hD4 : ∀ j, D ∉ ns j := fun j z => by
        obtain ⟨o, e, _⟩ := S.node z
        rw [s1.keep.more D hD] at e
        cases e
      have hD3 : H D = none ∧ (∀ j, D ∉ ns j) ∧ D ∉ mm := ⟨s1.keep.more D hD, hD4, fun z => io.trk D z hD⟩
      have own : ∀ j a, a ∈ ns2 j → (j ∉ t.slots ∧ a ∈ ns j) ∨ (j ∈ t.slots ∧ a ∈ nx) := fun j a ha => by
        rcases B.own j with e | ⟨e1, e2⟩
        · rw [e] at ha
          rcases hns j with ⟨h1, h2⟩ | h2
          · rw [h2] at ha; exact .inl ⟨h1, ha⟩
          · rw [h2] at ha; cases ha
        · exact .inr ⟨e1, e2 a ha⟩
      have own' : ∀ j a, a ∈ (ns2 j).drop 1 → (j ∉ t.slots ∧ a ∈ (ns j).drop 1) ∨ (j ∈ t.slots ∧ a ∈ nx) := fun j a ha => by
        rcases B.own j with e | ⟨e1, e2⟩
        · rw [e] at ha
          rcases hns j with ⟨h1, h2⟩ | h2
          · rw [h2] at ha; exact .inl ⟨h1, ha⟩
          · rw [h2] at ha; cases ha
        · exact .inr ⟨e1, e2 a (List.mem_of_mem_drop ha)⟩
      have hDm : D ∉ m4 := fun z => by
        rcases v4.ok.src D z with h | ⟨j, _, h⟩ | ⟨j, _, h⟩
        · rw [eD3] at h; cases h
        · rcases own j D h with ⟨_, h⟩ | ⟨_, h⟩
          · exact hD3.2.1 j h
          · exact hD3.2.2 (hx D h).1
        · rcases own j D (List.mem_of_mem_drop h) with ⟨_, h⟩ | ⟨_, h⟩
          · exact hD3.2.1 j h
          · exact hD3.2.2 (hx D h).1
      have kw : Keeps (fun x => x = D) H4 (upd H4 D (.lst (vs ++ [v]))) := Keeps.write eD4 rfl rfl
      have rl4 : RdsL X.K β H4 acc vs n := rl3.keep s4.keep (fun _ _ e => e) _ nn3
      refine ⟨vs, eD4, ?_, io.keep _ _ _ (io.keep _ _ _ g3 s4.keep fun a ha => (sN.trans s3).nb (fun z => io.trk a ha (si.keep.more a z)) (mmT a ha)) kw (fun a ha z => hD3.2.2 (z ▸ ha)), μ4, bn4, acc ++ [y], vs ++ [v], n ++ m4, ((si.trans sN).trans (s3.trans s4)).put hD eD4 nb4, nb4, upd_same,
        (rl4.keep kw (fun _ _ e => e) _ fun a ha z => hDn (z ▸ ha)).append (RdsL.one.mpr ⟨v, rfl, v4.rd.keep kw (fun _ _ e => e) _ fun a ha z => hDm (z ▸ ha)⟩), ?_, ?_, ?_, ?_, ?_⟩
      · rw [rl.length]; exact lt_line hl
      · intro a ha
        rcases List.mem_append.mp ha with ha | ha
        · exact s4.nb (fun z => trkn a ha ((sN.trans s3).keep.more a z)) (nn3 a ha)
        · exact v4.nb a ha
      · intro z
        rcases List.mem_append.mp z with z | z
        · exact hDn z
        · exact hDm z
      · intro a ha
        rcases List.mem_append.mp ha with ha | ha
        · exact src a ha
        · have ui : ∀ j, (j ∈ (info C.g el).dp ∨ j ∈ (info C.g el).dc) → j ∈ t.slots → ((info C.g el).dp.any (fun i => t.slots.contains i) || (info C.g el).dc.any (fun i => t.slots.contains i)) = true := fun j h1 h2 => by
            rw [Bool.or_eq_true]
            rcases h1 with h1 | h1
            · exact .inl (List.any_eq_true.mpr ⟨j, h1, by simpa using h2⟩)
            · exact .inr (List.any_eq_true.mpr ⟨j, h1, by simpa using h2⟩)
          have itm : ∀ j, (j ∈ (info C.g el).dp ∨ j ∈ (info C.g el).dc) → j ∈ t.slots → a ∈ nx → H a = none ∨ (∃ j ∈ I.dp, a ∈ ns j) ∨ (∃ j ∈ I.dc, a ∈ (ns j).drop 1) := fun j h1 h2 h3 => by
            have u := ui j h1 h2
            show H a = none ∨ (∃ j ∈ (lcInf t.slots (info C.g el) (infoI C.g it)).dp, a ∈ ns j) ∨ (∃ j ∈ (lcInf t.slots (info C.g el) (infoI C.g it)).dc, a ∈ (ns j).drop 1)
            unfold lcInf
            dsimp only
            rw [u, if_pos rfl, if_pos rfl]
            rcases (hx a h3).2 with z | ⟨k, k1, k2⟩ | ⟨k, k1, k2⟩
            · exact .inl z
            · exact .inr (.inl ⟨k, List.mem_append_right _ k1, k2⟩)
            · exact .inr (.inr ⟨k, List.mem_append_right _ k1, k2⟩)
          have fp : ∀ j, j ∈ (info C.g el).dp → j ∉ t.slots → j ∈ I.dp := fun j h1 h2 => by
            show j ∈ (lcInf t.slots (info C.g el) (infoI C.g it)).dp
            unfold lcInf
            dsimp only
            have : j ∈ (info C.g el).dp.filter fun i => !t.slots.contains i := List.mem_filter.mpr ⟨h1, by simpa using h2⟩
            split
            · exact List.mem_append_left _ this
            · exact this
          have fc : ∀ j, j ∈ (info C.g el).dc → j ∉ t.slots → j ∈ I.dc := fun j h1 h2 => by
            show j ∈ (lcInf t.slots (info C.g el) (infoI C.g it)).dc
            unfold lcInf
            dsimp only
            have : j ∈ (info C.g el).dc.filter fun i => !t.slots.contains i := List.mem_filter.mpr ⟨h1, by simpa using h2⟩
            split
            · exact List.mem_append_left _ this
            · exact this
          rcases v4.ok.src a ha with z | ⟨j, j1, j2⟩ | ⟨j, j1, j2⟩
          · exact .inl (s1.keep.more a (si.keep.more a (sN.keep.more a (s3.keep.more a z))))
          · rcases own j a j2 with ⟨h1, h2⟩ | ⟨h1, h2⟩
            · exact .inr (.inl ⟨j, fp j j1 h1, h2⟩)
            · exact itm j (.inl j1) h1 h2
          · rcases own' j a j2 with ⟨h1, h2⟩ | ⟨h1, h2⟩
            · exact .inr (.inr ⟨j, fc j j1 h1, h2⟩)
            · exact itm j (.inr j1) h1 h2
      · intro hlin
        have hl0 : (lcInf t.slots (info C.g el) (infoI C.g it)).lin = true := hlin
        unfold lcInf at hl0
        dsimp only at hl0
        simp only [Bool.and_eq_true, Bool.not_eq_true', Bool.or_eq_false_iff] at hl0
        obtain ⟨⟨⟨l1, l2⟩, l3⟩, l4, l5⟩ := hl0
        have d0 : ∀ j, j ∉ (info C.g el).dp := fun j hj => by
          by_cases h : j ∈ t.slots
          · have := List.any_eq_false.mp l4 j hj
            simp [h] at this
          · have : j ∈ (info C.g el).dp.filter fun i => !t.slots.contains i := List.mem_filter.mpr ⟨hj, by simpa using h⟩
            rw [List.isEmpty_iff.mp l2] at this; cases this
        have c0 : ∀ j, j ∉ (info C.g el).dc := fun j hj => by
          by_cases h : j ∈ t.slots
          · have := List.any_eq_false.mp l5 j hj
            simp [h] at this
          · have : j ∈ (info C.g el).dc.filter fun i => !t.slots.contains i := List.mem_filter.mpr ⟨hj, by simpa using h⟩
            rw [List.isEmpty_iff.mp l3] at this; cases this
        refine List.nodup_append.mpr ⟨lin hlin, v4.ok.lin l1, fun a ha b hb z => ?_⟩
        subst z
        rcases v4.ok.src a hb with z | ⟨j, j1, _⟩ | ⟨j, j1, _⟩
        · exact trkn a ha ((sN.trans s3).keep.more a z)
        · exact d0 j j1
        · exact c0 j j1
      · have e1 : (acc ++ [y]).length = acc.length + 1 := by simp
        rw [e1]
        have q := noExc_bind q
        have q' : Sat (noExc (lcGo f (ts.drop (i + 1)) (acc.length + 1) μ4)) (fun r μ5 => ∀ v H' bn' n, Step X.K β bn H H' μ5 bn' → Val X.K β bn' ns H H' I (.lst (acc ++ y :: r)) v n → Q v H') fun _ _ _ => False := by
          cases hz : lcGo f (ts.drop (i + 1)) (acc.length + 1) μ4 with
          | ok r μ' => rw [hz] at q; exact q
          | exc c t μ' => rw [hz] at q; exact False.elim q
          | stuck => rw [hz] at q; exact False.elim q
        refine q'.mono (fun r μ5 q => ?_) fun _ _ _ e => e
        rw [List.append_assoc]
        exact q
  · intro Hi ⟨g, μi, bni, acc, vs, n, si, nbi, eD, rl, nn, hDn, src, lin, q⟩
    rw [List.drop_length] at q
    have q : ∀ v H' bn' n, Step X.K β bn H H' μi bn' → Val X.K β bn' ns H H' I (.lst (acc ++ [])) v n → Q v H' := q
    rw [List.append_nil] at q
    refine q _ _ bni (D :: n) (s1.trans si) ⟨⟨D, vs, n, rfl, eD, rl, rfl⟩, fun a ha => ?_, fun a ha => ?_, fun h => List.nodup_cons.mpr ⟨hDn, lin h⟩, fun _ _ => ⟨D, n, rfl, s1.keep.more D hD, hDn⟩, fun _ z => by cases z⟩
    · rcases List.mem_cons.mp ha with rfl | ha
      · exact nbi
      · exact nn a ha
    · rcases List.mem_cons.mp ha with rfl | ha
      · exact .inl (s1.keep.more _ hD)
      · exact src a ha
theorem e_lc {elt tg iter : Expr} {ifs : List Expr} {scope : Scope} {own : List (Str × Nat)} {pos : Pos} {el : IE} {t : Tg} {it : II} {cnd : Option IE} (hc : X.calm = true) (hN : X.N.Nodup) (hi : PI X tg iter (tI C X.K W it)) (ok : BlkOk X.N X.env.scope scope own)
    (hg : ∀ (s : Shared) (H : Hp) (C : Addr) (cl : List (Str × Addr)) (fp : List Addr), PG (X.blk s H scope (compEnvC scope cl C X.env) fp) tg (gTg X.K t)) (ht : ∀ (s : Shared) (H : Hp) (C' : Addr) (cl : List (Str × Addr)) (fp : List Addr), PTs (X.blk s H scope (compEnvC scope cl C' X.env) fp) ifs (tC0 C X.K cnd))
    (he : ∀ (s : Shared) (H : Hp) (C' : Addr) (cl : List (Str × Addr)) (fp : List Addr), PE (X.blk s H scope (compEnvC scope cl C' X.env) fp) elt (tE C X.K W0 el)) (hs : ∀ x, foldedSetIterable iter X.env x = pure x) (hown : own.map (·.2) = t.slots) (hk : ∀ i ∈ t.slots, C.g.k i = .S) :
    PE X (.ListComp elt [⟨tg, iter, ifs, 0⟩] scope pos) (tE C X.K W (.lc el t it cnd)) := (pe_lc hc hN hi ok hg ht he hs).weak fun σ H Q h => lc_key hown hk h
end
end MP

/-! C13b: enumerate over a tuple. -/
namespace PySem
open Sem (wp)
open AutoSeq1 (wpAny_loadPart')
/-- the maker of enumerate, handed a tuple -/
theorem enumT_new (q : Addr) (us : Array Value) (nn : Nat) (di : Option Addr) (sl : Array (Option Value)) :
    Meets (Builtin.«enumerate.__new__» ⟨[.type "enumerate", .ref q], []⟩) fun _ R st => st.heap.get? q = some { cls := .type "tuple", dict := di, data := .seq us nn, slots := sl } ∧
      R (.ok (.ret (.ref (st.heap.objs.size + 1)))) { st with heap := (st.heap.push { cls := .type "tuple_iterator", data := .fields #[.ref q, .int 0 0] }).push { cls := .type "enumerate", data := .fields #[.none, .bool false, .ref st.heap.objs.size, rawInt 0, .none, .none] } } :=
  .of_wp fun P W A R st hyp => by
    obtain ⟨hp, gs, dr, tk, os⟩ := st
    obtain ⟨hq, fin⟩ := hyp
    have sub := sub_enumerate
    have isT : Heap.IsTuple (Shared.heap ⟨hp, gs, dr, tk, os⟩) q us := ⟨_, hq, rfl, nn, rfl⟩
    have sz : (hp.push { cls := .type "tuple_iterator", data := .fields #[.ref q, .int 0 0] }).objs.size = hp.objs.size + 1 := Heap.size_push ..
    rw [← sz] at fin
    wp_walk using wpAny_loadPart' hq
    refine wpAny_stack_any fun w0 => wpAny_pure ?_
    split
    · rename_i cc _ _ _ _ _
      cases cc == Value.type "enumerate" with
      | false => wp_walk using wpAny_loadPart' hq, wpAny_pyIter_tuple isT; exact ⟨_, rfl, fin⟩
      | true => wp_walk using wpAny_loadPart' hq, wpAny_pyIter_tuple isT; exact ⟨_, rfl, fin⟩
    · wp_walk using wpAny_loadPart' hq, wpAny_pyIter_tuple isT
      exact ⟨_, rfl, fin⟩
theorem call_enumT {P : Program} {W : World} {A : Around} {E : Value → Shared → Prop} {st : Shared} {q : Addr} {us : Array Value} {R : Value → Shared → Prop} (isT : st.heap.IsTuple q us)
    (k : ∀ h2, IsEnum h2 (st.heap.objs.size + 1) st.heap.objs.size 0 .none → h2.IsTupleIter st.heap.objs.size q 0 → (∀ b o, st.heap.get? b = some o → h2.get? b = some o) → R (.ref (st.heap.objs.size + 1)) { st with heap := h2 }) :
    wpAny (model P W) A (call (.type "enumerate") [.ref q]) R E st := by
  obtain ⟨⟨cl, di, da, sl⟩, hq, e1, nn, e2⟩ := isT
  obtain rfl : cl = .type "tuple" := e1
  obtain rfl : da = .seq us nn := e2
  refine callType_new F.called_enumerate (by decide) (F.typeCall_enumerate_1 _) (F.newCall_enumerate_1 _) (fun ob => F.args_object_init_2 ob _) F.entry_enumerate_new (enumT_new q us nn di sl) ⟨hq, ?_⟩
  have sz : (st.heap.push { cls := .type "tuple_iterator", data := .fields #[.ref q, .int 0 0] }).objs.size = st.heap.objs.size + 1 := Heap.size_push ..
  have new : IsEnum ((st.heap.push { cls := .type "tuple_iterator", data := .fields #[.ref q, .int 0 0] }).push { cls := .type "enumerate", data := .fields #[.none, .bool false, .ref st.heap.objs.size, rawInt 0, .none, .none] }) (st.heap.objs.size + 1) st.heap.objs.size 0 .none := by
    have z := Heap.get?_push_size (st.heap.push { cls := .type "tuple_iterator", data := .fields #[.ref q, .int 0 0] }) (o := { cls := .type "enumerate", data := .fields #[.none, .bool false, .ref st.heap.objs.size, rawInt 0, .none, .none] }) rfl
    rw [sz] at z
    exact z
  exact ⟨⟨_, new, rfl⟩, k _ new ⟨_, Heap.get?_push_of_some _ (Heap.get?_push_size _ rfl), rfl, rfl⟩ fun b o z => Heap.get?_push_of_some _ (Heap.get?_push_of_some _ z)⟩
/-- a tuple's iterator as enumerate asks it -/
theorem drawsT {P : Program} {W : World} {A : Around} (hh : A.handled = none) (it q : Addr) (ne : q ≠ it) (us : Array Value) : Draws P W A it [it, q] us.size (fun i v => us[i]? = some v) (fun i h => h.IsTupleIter it q i ∧ h.IsTuple q us) where
  live := fun i h z => let ⟨ob, hb, _⟩ := z.1; ⟨ob, hb⟩
  frame := fun i h h2 z kk => ⟨z.1.at fun ob e => kk it (by simp) ob e, z.2.at fun ob e => kk q (by simp) ob e⟩
  item := fun i st R E hi z kk => RZ.nextOf_tuple_item z.1 z.2 (x := us[i]) (by simp [hi]) fun h2 z2 sb => kk _ h2 st.toks (by simp [hi]) ⟨z2, z.2.extBut sb.extBut ne⟩ sb
  done := fun st R E z kk => RZ.nextOf_tuple_end hh z.1 z.2 (by simp) kk
end PySem
namespace MP
open PySem PySem.Spec PyProof.Rows L2
/-- the tuple at a, each item in a new pair with its place -/
def IteT (K : PySem.W.Frag) (a : Addr) : It :=
  ⟨fun i H => ∃ (xs : List V) (x : V), SqT K H a xs ∧ xs[i]? = some x, fun i H v H2 => ∃ p x, v = .ref p ∧ H p = none ∧ H2 = upd H p (.tup [.int (i : Nat), x]) ∧ ∀ xs, SqT K H a xs → xs[i]? = some x, fun i H => ∃ xs : List V, SqT K H a xs ∧ xs.length = i⟩
theorem walk_enumT {K : PySem.W.Frag} {a : Addr} {xs : List V} : Walk (IteT K a) xs.length (fun H => SqT K H a xs) (YPair (fun i => some (.int (i : Nat))) fun i => xs[i]?) := by
  refine ⟨fun i H hi z => ⟨xs, xs[i], z, List.getElem?_eq_getElem hi⟩, fun H z => ⟨xs, z, rfl⟩, fun i H v H2 hi z y => ?_⟩
  obtain ⟨p, x, e1, e2, e3, e4⟩ := y
  exact ⟨p, .int (i : Nat), x, e1, e2, e3, rfl, e4 xs z⟩
theorem turn_enumT {P : Program} {w : World} {K : PySem.W.Frag} {elts : List Expr} {kk : Nat} {tpos : Pos} (a e it : Addr) :
    Turn P w K (.Tuple elts kk tpos) (IteT K a) [e, it] e (fun i h => (∃ old, IsEnum h e it ((i : Nat) : Int) old) ∧ h.IsTupleIter it a i ∧ e ≠ it) where
  mem := List.mem_cons_self
  obj := fun i h z b hb => by
    obtain ⟨⟨old, z1⟩, ⟨ob, z2, _, z3⟩, _⟩ := z
    rcases List.mem_cons.mp hb with rfl | hb
    · exact ⟨_, z1, fun v y => nomatch y⟩
    · obtain rfl := List.mem_singleton.mp hb
      exact ⟨ob, z2, fun v y => by rw [z3] at y; cases y⟩
  keep := fun i h h2 z k => let ⟨⟨old, z1⟩, z2, z3⟩ := z; ⟨⟨old, k e List.mem_cons_self _ z1⟩, z2.at fun ob y => k it (by simp) ob y, z3⟩
  item := fun X hP hw hK hc i pins s σ H E I hf z hg => by
    subst hP hw hK
    obtain ⟨⟨old, z1⟩, z2, z3⟩ := z
    obtain ⟨xs, x, hq, hx⟩ := hg
    obtain ⟨its, rv, p, _⟩ := I.tuple hq
    have p' : s.heap.IsTuple a its.toArray := p
    have hae : a ≠ e := fun y => by
      obtain ⟨ob, y1, y2, _⟩ := p'
      have z1 : s.heap.get? e = some _ := z1
      rw [y, z1] at y1
      cases y1
      exact absurd (Value.type.inj y2) (by decide)
    have hai : a ≠ it := fun y => by
      obtain ⟨ob, y1, y2, _⟩ := p'
      obtain ⟨ob2, z4, z5, _⟩ := z2
      rw [y, z4] at y1
      cases y1
      rw [z5] at y2
      exact absurd (Value.type.inj y2) (by decide)
    have hlen := rv.length
    have hi : i < its.toArray.size := by
      have := (List.getElem?_eq_some_iff.mp hx).1
      rw [List.size_toArray]
      omega
    have hel : e < s.heap.objs.size := Heap.lt_size z1
    have hil : it < s.heap.objs.size := by obtain ⟨_, y, _⟩ := z2; exact Heap.lt_size y
    refine wpAny_pyNext_enum_itemD (drawsT (A := X.A.in1) (I.ok.hd hc) it a hai its.toArray) z1 ⟨z2, p'⟩ hi z3 (by simp [z3, Ne.symm hae]) fun u h2 tk hu ho st2 hT hsz hk => ?_
    obtain ⟨u', hu', ru⟩ := rv.get hx
    have eu : u = u' := by
      have h1 : its[i]? = some u := by simpa using hu
      rw [hu'] at h1
      exact (Option.some.inj h1).symm
    subst eu
    refine ⟨_, rfl, wpAny_letOwnedTupleGo_enum (s := { s with heap := h2, toks := tk + 1 }) ho fun h3 z4 sb => ?_⟩
    have hT3 : h3.get? s.heap.objs.size = some { cls := .type "tuple", data := .seq #[.int i tk, u] } := (sb.2 _ (Nat.ne_of_gt hel)).trans hT
    have mk : ObjOk X.prog X.w (upd H s.heap.objs.size (.tup [.int (i : Nat), x])) h3 s.heap.objs.size (.tup [.int (i : Nat), x]) := ⟨(by show 2 ≤ sizeLine; decide), [.int i tk, u], .cons ⟨_, rfl⟩ (.cons ru .nil), ⟨_, hT3, rfl, _, rfl⟩⟩
    have J : Inv X pins σ (upd H s.heap.objs.size (.tup [.int (i : Nat), x])) { s with heap := h3, toks := tk + 1 } :=
      I.turnedNew (ch := [e, it]) (fun b ob hb y => (sb.2 b fun y2 => hb (by simp [y2])).trans (hk b ob (fun y2 => hb (by simp [y2])) (fun y2 => hb (by simp [y2])) y)) hf (Nat.le_refl _) mk
    have e1 : ((i + 1 : Nat) : Int) = (i : Int) + 1 := by omega
    refine ⟨.ref s.heap.objs.size, _, J, rfl, ⟨_, x, rfl, I.hok.fresh (Nat.le_refl _), rfl, fun ys hy => by rw [I.tuple_inj hy hq]; exact hx⟩, ⟨⟨u, by rw [e1]; exact z4⟩, st2.1.at fun ob y => (sb.2 it (Ne.symm z3)).trans y, z3⟩, fun b hb => ?_⟩
    have hlt : b < s.heap.objs.size := by
      rcases List.mem_cons.mp hb with rfl | hb
      · exact hel
      · obtain rfl := List.mem_singleton.mp hb
        exact hil
    rw [upd_ne (Nat.ne_of_lt hlt)]
    exact (hf b hb).1
  done := fun X hP hw hK hc i pins s σ H E I hf z hg => by
    subst hP hw hK
    obtain ⟨⟨old, z1⟩, z2, z3⟩ := z
    obtain ⟨xs, hq, hx⟩ := hg
    obtain ⟨its, rv, p, _⟩ := I.tuple hq
    have p' : s.heap.IsTuple a its.toArray := p
    obtain ⟨f0, f1, f2, f3, f4, f5⟩ := hf it (by simp)
    have hai : a ≠ it := fun y => by
      obtain ⟨ob, y1, y2, _⟩ := p'
      obtain ⟨ob2, z4, z5, _⟩ := z2
      rw [y, z4] at y1
      cases y1
      rw [z5] at y2
      exact absurd (Value.type.inj y2) (by decide)
    have hl : its.toArray.size = i := by
      have := rv.length
      rw [List.size_toArray]
      omega
    exact wpAny_pyNext_enum_endD (drawsT (A := X.A.in1) (I.ok.hd hc) it a hai its.toArray) z1 (by rw [hl]; exact ⟨z2, p'⟩) fun h2 eb => ⟨rfl, I.turned (t' := s.toks) (fun b ob hb y => eb b ob hb y) f0 f1 f3 f4 f5⟩
  self := fun A i s Q E z h => let ⟨⟨_, z1⟩, _⟩ := z; wpAny_pyIter_enum z1 h
theorem pi_enumT {X : Cx} {e : Expr} {ta : TA} {p pos tpos : Pos} {elts : List Expr} {kk : Nat} (hg : Gl X "enumerate") (hm : X.mg "enumerate" = none) (ha : PA X [e] ta) (hs : starEach [e] X.env = [(false, eval e X.env)]) :
    PI X (.Tuple elts kk tpos) (.Call (.Name "enumerate" p) [e] [] pos) fun σ H R => ta σ H fun vs H1 => ∃ a xs, vs = [.ref a] ∧ SqT X.K H1 a xs ∧ R (IteT X.K a) H1 := ⟨fun pins s σ H R I h => by
  refine Call_ (ld_blt I hg hm boot_enumerate (PyProof.Rows.callWith_type1 (thn (ha.run pos pins s σ H _ I h) fun us s1 ⟨vs, H1, I1, r1, a, xs, ex, hq, q⟩ => ?_) hs rfl))
  subst ex
  obtain ⟨u, rfl, ru⟩ := r1.one
  obtain rfl : u = Value.ref a := ru
  obtain ⟨its, rv, p', _⟩ := I1.tuple hq
  refine call_enumT (show s1.heap.IsTuple a its.toArray from p') fun h2 z1 z2 kk => wpAny_pyIter_enum z1 ?_
  have J : Inv X pins σ H1 { s1 with heap := h2 } := I1.kept (t' := s1.toks) kk
  refine ⟨s1.heap.objs.size + 1, [s1.heap.objs.size + 1, s1.heap.objs.size], _, _, H1, rfl, J, turn_enumT a (s1.heap.objs.size + 1) s1.heap.objs.size, ⟨⟨.none, z1⟩, z2, Nat.succ_ne_self _⟩, fun b hb => ?_, q⟩
  have hle : s1.heap.objs.size ≤ b := by
    rcases List.mem_cons.mp hb with rfl | hb
    · omega
    · obtain rfl := List.mem_singleton.mp hb
      exact Nat.le_refl _
  exact I1.fpOk hle (I1.hok.fresh hle)⟩
section
variable {X : Cx} {C : Cf} {W : WX} {a : Expr} {x : IE} {pos p : Pos}
theorem i_enum {elts : List Expr} {kk : Nat} {tpos : Pos} (hg : Gl X "enumerate") (hm : X.mg "enumerate" = none) (ha : PE X a (tE C X.K W x)) (hst : nost a = true) : PI X (.Tuple elts kk tpos) (.Call (.Name "enumerate" p) [a] [] pos) (tI C X.K W (.enum x)) := PI.byCases fun σ H R h => by
  obtain ⟨ρ, μ, β, ns, bn, S, h⟩ := h
  rw [evI] at h
  cases e : evE C.F ρ x μ with
  | stuck => rw [e] at h; exact False.elim h
  | exc c t μ1 =>
    rw [e] at h
    refine ⟨_, pi_enum hg hm (pa_cons ha pa_nil (star_cons hst)) (star_cons hst), ρ, μ, β, ns, bn, S, ?_⟩
    rw [e]
    exact h
  | ok t μ1 =>
    rw [e] at h
    cases t with
    | lst xs =>
      refine ⟨_, pi_enum hg hm (pa_cons ha pa_nil (star_cons hst)) (star_cons hst), ρ, μ, β, ns, bn, S, ?_⟩
      rw [e]
      intro v H1 bn1 n s1 x1
      obtain ⟨q, vs, m, rfl, ea, rl, rfl⟩ := id x1.rd
      have ki := kid_items (g := C.g) x1
      refine ⟨q, vs, rfl, SqL.of ea, h _ _ _ (q :: m) (fun H => H q = some (.lst vs) ∧ RdsL X.K β H xs vs m) s1 ⟨x1.nb, x1.ok.src, fun a ha z => ?_, ⟨ea, rl⟩, fun B H2 H3 ⟨g1, g2⟩ k nb => ⟨k.lst g1 (nb q List.mem_cons_self), g2.keep k (fun _ _ e => e) _ fun b hb => nb b (List.mem_cons_of_mem _ hb)⟩, ?_⟩⟩
      · obtain ⟨o, e, _⟩ := x1.node ha
        rw [e] at z; cases z
      · rw [enumL_len, ← rl.length]
        refine walk_enum.mono (fun H q => SqL.of q.1) fun i H2 y H3 hi q ⟨q0, v1, v2, e1, hq, e2, e3, e4⟩ => ?_
        subst e1 e2
        obtain ⟨t, l, et, r, sb⟩ := item_at q.2 e4
        cases e3
        refine ⟨.inr ⟨q0, _, hq, rfl⟩, _, [] ++ l, enumL_get _ _ _ _ et, pair_rds ⟨?_, rfl⟩ r hq, fun b hb => ⟨List.mem_cons_of_mem _ (sb.subset hb), ki b (sb.subset hb)⟩⟩
        rw [Int.zero_add]
    | tup xs =>
      refine ⟨_, pi_enumT hg hm (pa_cons ha pa_nil (star_cons hst)) (star_cons hst), ρ, μ, β, ns, bn, S, ?_⟩
      rw [e]
      intro v H1 bn1 n s1 x1
      obtain ⟨q, vs, rfl, ea, rl⟩ := id x1.rd
      have ki := kid_items (g := C.g) x1
      refine ⟨q, vs, rfl, SqT.of ea, h _ _ _ n (fun H => H q = some (.tup vs) ∧ RdsL X.K β H xs vs n) s1 ⟨x1.nb, x1.ok.src, fun a ha z => ?_, ⟨ea, rl⟩, fun B H2 H3 ⟨g1, g2⟩ k nb => ⟨k.tup q _ g1, g2.keep k (fun _ _ e => e) _ nb⟩, ?_⟩⟩
      · obtain ⟨o, e, _⟩ := x1.node ha
        rw [e] at z; cases z
      · rw [enumL_len, ← rl.length]
        refine walk_enumT.mono (fun H q => SqT.of q.1) fun i H2 y H3 hi q ⟨q0, v1, v2, e1, hq, e2, e3, e4⟩ => ?_
        subst e1 e2
        obtain ⟨t, l, et, r, sb⟩ := item_at q.2 e4
        cases e3
        refine ⟨.inr ⟨q0, _, hq, rfl⟩, _, [] ++ l, enumL_get _ _ _ _ et, pair_rds ⟨?_, rfl⟩ r hq, fun b hb => ⟨sb.subset hb, ki b (sb.subset hb)⟩⟩
        rw [Int.zero_add]
    | _ => exact False.elim h
end
end MP

/-! C14: calls of defs; list(range). -/
namespace MP
open PySem L2

/-- what is told of a def's result; n: the arguments' nodes -/
structure RVal (K : PySem.W.Frag) (β : List Addr) (bn' : Nat → List Addr) (H H' : Hp) (rk : RK) (n : List Addr) (t : T) (v : V) (m : List Addr) : Prop where
  rd : Rds K β H' t v m
  nb : ∀ a ∈ m, ¬ Bx β bn' a
  src : ∀ a ∈ m, H a = none ∨ a ∈ n
  imm : rk = .I → m = []
  fr : rk = .D → ∀ a ∈ m, H a = none
  lin : rk = .D → m.Nodup
  top : rk = .D ∨ rk = .P → isNode t = true → ∃ p l, m = p :: l ∧ H p = none ∧ p ∉ l
/-- the promise of a def -/
def spF (K : PySem.W.Frag) (C : Cf) (f : Nat) : Sp := fun vs H Q E => ∃ as μ β bn n, BoxOk K β H μ bn ∧ RdsL K β H as vs n ∧ (∀ a ∈ n, ¬ Bx β bn a) ∧
  Sat (C.F f as μ) (fun t μ' => ∀ v H' bn' m, Step K β bn H H' μ' bn' → RVal K β bn' H H' ((C.g.rk[f]?).getD .S) n t v m → Q v H') (XW C K β bn (fun a => a ∈ n) H E)
/-- the keywords' values in the parameters' order -/
def kwP {α : Type} (n : Nat) (is : List Nat) (zs : List α) : List α := (List.range is.length).filterMap fun d => (is.zip zs).lookup (n + d)
/-- the defs: names, parameters, where they stand -/
structure Fi where
  nm : Str
  ps : List Str
  sh : List (Nat × List Nat)
def kwN (ps : List Str) (is : List Nat) : List Str := is.map fun i => (ps[i]?).getD ""
/-- calls of defs hold their promise here -/
def CallOk (X : Cx) (C : Cf) (W : WX) (fs : List Fi) (fa : Nat → Addr) : Prop :=
  ∀ (f : Nat) (fi : Fi) (is : List Nat), fs[f]? = some fi → X.mg fi.nm = some (.ref (fa f)) ∧ PySem.W.keepIn X.K (.ref (fa f)) = true ∧
    ∀ (pins : List (Addr × Obj)) (s : Shared) (σ : St) (H : Hp) (us ws : List Value) (vs zs : List V) (Q : VK), (vs.length, is) ∈ fi.sh → Inv X pins σ H s → Vals vs us → Vals zs ws → zs.length = is.length → spF X.K C f (vs ++ kwP vs.length is zs) H Q (fun c d H' => W c d σ H') →
      wpAny (model X.prog X.w) X.A (call (.ref (fa f)) us ((kwN fi.ps is).zip ws)) (EP X pins σ Q) X.xe s
section
variable {K : PySem.W.Frag} {β : List Addr} {H : Hp}
theorem zip_look : ∀ {is : List Nat} {ts : List T} {vs : List V} {n : List Addr} (j : Nat), RdsL K β H ts vs n → ((is.zip ts).lookup j = none ∧ (is.zip vs).lookup j = none) ∨ ∃ t v m, (is.zip ts).lookup j = some t ∧ (is.zip vs).lookup j = some v ∧ Rds K β H t v m ∧ ∀ a ∈ m, a ∈ n
  | [], ts, vs, n, j, h => .inl ⟨by simp, by simp⟩
  | i :: is, [], vs, n, j, h => by obtain ⟨rfl, _⟩ := h; exact .inl ⟨by simp, by simp⟩
  | i :: is, t :: ts, vs, n, j, h => by
    obtain ⟨v, ws, m, k, rfl, r1, r2, rfl⟩ := h
    simp only [List.zip_cons_cons, List.lookup_cons]
    cases hj : j == i with
    | true => exact .inr ⟨t, v, m, rfl, rfl, r1, fun a ha => List.mem_append_left _ ha⟩
    | false =>
      rcases zip_look (is := is) j r2 with h | ⟨t', v', m', h1, h2, h3, h4⟩
      · exact .inl h
      · exact .inr ⟨t', v', m', h1, h2, h3, fun a ha => List.mem_append_right _ (h4 a ha)⟩
theorem kwP_rds {is : List Nat} {ts : List T} {vs : List V} {n : List Addr} (k : Nat) (h : RdsL K β H ts vs n) : ∃ m, RdsL K β H (kwP k is ts) (kwP k is vs) m ∧ ∀ a ∈ m, a ∈ n := by
  unfold kwP
  generalize List.range is.length = ds
  induction ds with
  | nil => exact ⟨[], ⟨rfl, rfl⟩, fun _ z => by cases z⟩
  | cons d ds ih =>
    obtain ⟨m, r, sb⟩ := ih
    rcases zip_look (is := is) (k + d) h with ⟨h1, h2⟩ | ⟨t, v, l, h1, h2, h3, h4⟩
    · simp only [List.filterMap_cons, h1, h2]
      exact ⟨m, r, sb⟩
    · simp only [List.filterMap_cons, h1, h2]
      refine ⟨l ++ m, ⟨v, _, l, m, rfl, h3, r, rfl⟩, fun a ha => ?_⟩
      rcases List.mem_append.mp ha with z | z
      · exact h4 a z
      · exact sb a z
end
theorem kw_all {kws : List Keyword} {env : PySem.Env} {pos : Pos} : ∀ {ks : List Str}, kws.map (·.1) = ks.map some → (backToKw pos (keywordEach kws env)).all (·.1.isSome) = true ∧ (backToKw pos (keywordEach kws env)).filterMap (·.1) = ks ∧ (backToKw pos (keywordEach kws env)).any (·.1.isNone) = false := by
  induction kws with
  | nil =>
    intro ks h
    have : ks = [] := by cases ks <;> simp at h <;> rfl
    subst this
    exact ⟨rfl, rfl, rfl⟩
  | cons kw kws ih =>
    intro ks h
    obtain ⟨nm, e, p⟩ := kw
    cases ks with
    | nil => simp at h
    | cons k ks =>
      simp only [List.map_cons, List.cons.injEq] at h
      obtain ⟨h0, h⟩ := h
      have h0 : nm = some k := h0
      subst h0
      obtain ⟨h1, h2, h3⟩ := ih h
      refine ⟨?_, ?_, ?_⟩
      · show (true && _) = true
        exact h1
      · show k :: _ = _
        exact congrArg (k :: ·) h2
      · show (false || _) = false
        exact h3
section
variable {X : Cx} {C : Cf} {W : WX} {a b c tg : Expr} {x y z : IE} {pos p : Pos}
theorem PK.weak {kws : List Keyword} {t t' : TA} (h : PK X kws t) (w : ∀ σ H Q, t' σ H Q → t σ H Q) : PK X kws t' := ⟨fun pos pins s σ H Q I q => h.run pos pins s σ H Q I (w σ H Q q)⟩
theorem k_nil {ev : Env → Mem → Res (List T)} {i : Inf} (he : ∀ ρ μ, ev ρ μ = .ok [] μ) : PK X [] (tLs C X.K W ev i) := PK.weak pk_nil fun σ H Q h => by
  obtain ⟨ρ, μ, β, ns, bn, S, h⟩ := h
  rw [he] at h
  exact h [] H bn [] (Step.refl S.box) Vls.nil
theorem k_cons {nm : Option Str} {kws : List Keyword} {ev ev' : Env → Mem → Res (List T)} {i : Inf} (ha : PE X a (tE C X.K W x)) (hr : PK X kws (tLs C X.K W ev i)) (he : ∀ ρ μ, ev' ρ μ = (evE C.F ρ x μ).bind fun t μ => (ev ρ μ).bind fun r μ => .ok (t :: r) μ) : PK X (⟨nm, a, p⟩ :: kws) (tLs C X.K W ev' ((info C.g x).join C.g i)) :=
  PK.weak (pk_cons ha hr) fun σ H Q h => by
  obtain ⟨ρ, μ, β, ns, bn, S, h⟩ := h
  rw [he] at h
  refine use S (Sat_bind h) fun t μ1 v H1 bn1 n h s1 x1 => ?_
  refine useL (S.step s1) ((Sat_bind h).later s1) fun us μ2 ws H2 bn2 m h s2 y1 => ?_
  have x2 : Vls X.K β bn1 ns H H1 (info C.g x) [t] [v] n := ⟨RdsL.one.mpr ⟨v, rfl, x1.rd⟩, x1.nb, x1.ok.src, x1.ok.lin⟩
  exact h (v :: ws) H2 bn2 (n ++ m) (s1.trans s2) (x2.append S s1 y1 s2)
/-- a def of the module, called with positions and keywords -/
theorem pe_callF {f : Addr} {r : List V → List V → St → Hp → VK → Prop} {ks : List Str} {e : Expr} {es : List Expr} {kws : List Keyword} {x : Str} {t tk : TA} (hg : Gl X x) (hm : X.mg x = some (.ref f)) (hk : PySem.W.keepIn X.K (.ref f) = true)
    (hc : ∀ (pins : List (Addr × Obj)) (s : Shared) (σ : St) (H : Hp) (us ws : List Value) (vs zs : List V) (Q : VK), Inv X pins σ H s → Vals vs us → Vals zs ws → r vs zs σ H Q → wpAny (model X.prog X.w) X.A (call (.ref f) us (ks.zip ws)) (EP X pins σ Q) X.xe s)
    (ha : PA X (e :: es) t) (hkw : PK X kws tk) (hks : kws.map (·.1) = ks.map some) (hst : (e :: es).all nost = true) (hdb : (x == ("__debug__" : Str)) = false) : PE X (.Call (.Name x p) (e :: es) kws pos) (fun σ H Q => t σ H fun vs H1 => tk σ H1 fun zs H2 => r vs zs σ H2 Q) := by
  obtain ⟨k1, k2, k3⟩ := kw_all (env := X.env) (pos := pos) hks
  have hst' := hst
  rw [List.all_cons, Bool.and_eq_true] at hst'
  refine ⟨fun pins s σ H Q I h => ?_⟩
  refine wpAny_Call_Name_kw (ld_glob I hg hm ?_ hdb)
  refine PySem.W.callWith_KW (h₀ := X.base) I.ok.mod.kin hk k1 (thn (ha.run pos pins s σ H _ I h) fun us s1 ⟨vs, H1, I1, r1, q⟩ => ?_) (by rw [k3, star_any hst] <;> rfl) (star_cons hst'.1)
  refine thn (hkw.run pos pins s1 σ H1 _ I1 q) fun ws s2 ⟨zs, H2, I2, r2, q2⟩ => ⟨I2.kIn, ?_⟩
  rw [k2]
  exact hc pins s2 σ H2 us ws vs zs Q I2 r1 r2 q2
theorem pe_callF0 {f : Addr} {r : List V → List V → St → Hp → VK → Prop} {ks : List Str} {kws : List Keyword} {x : Str} {tk : TA} (hg : Gl X x) (hm : X.mg x = some (.ref f)) (hk : PySem.W.keepIn X.K (.ref f) = true)
    (hc : ∀ (pins : List (Addr × Obj)) (s : Shared) (σ : St) (H : Hp) (us ws : List Value) (vs zs : List V) (Q : VK), Inv X pins σ H s → Vals vs us → Vals zs ws → r vs zs σ H Q → wpAny (model X.prog X.w) X.A (call (.ref f) us (ks.zip ws)) (EP X pins σ Q) X.xe s)
    (hkw : PK X kws tk) (hks : kws.map (·.1) = ks.map some) (hdb : (x == ("__debug__" : Str)) = false) : PE X (.Call (.Name x p) [] kws pos) (fun σ H Q => tk σ H fun zs H2 => r [] zs σ H2 Q) := by
  obtain ⟨k1, k2, k3⟩ := kw_all (env := X.env) (pos := pos) hks
  refine ⟨fun pins s σ H Q I h => ?_⟩
  refine wpAny_Call_Name_kw (ld_glob I hg hm ?_ hdb)
  refine PySem.W.callWith_KW0 (h₀ := X.base) I.ok.mod.kin hk k1 (thn (hkw.run pos pins s σ H _ I h) fun ws s2 ⟨zs, H2, I2, r2, q2⟩ => ⟨I2.kIn, ?_⟩) (by rw [k3] <;> rfl)
  rw [k2]
  exact hc pins s2 σ H2 [] ws [] zs Q I2 .nil r2 q2
theorem evL_len {F : Fns} {ρ : Env} : ∀ (as : List IE) (μ : Mem) {P : List T → Mem → Prop} {E : Nat → T → Mem → Prop}, Sat (evL F ρ as μ) P E → Sat (evL F ρ as μ) (fun ts μ => ts.length = as.length ∧ P ts μ) E
  | [], μ, P, E, h => ⟨rfl, h⟩
  | a :: as, μ, P, E, h => by
    have h : Sat ((evE F ρ a μ).bind fun x μ => (evL F ρ as μ).bind fun r μ => .ok (x :: r) μ) P E := h
    show Sat ((evE F ρ a μ).bind fun x μ => (evL F ρ as μ).bind fun r μ => .ok (x :: r) μ) _ E
    cases e : evE F ρ a μ with
    | stuck => rw [e] at h; exact h
    | exc c t μ1 => rw [e] at h; exact h
    | ok t μ1 =>
      rw [e] at h
      have h := evL_len as μ1 (Sat_bind h)
      show Sat ((evL F ρ as μ1).bind fun r μ => .ok (t :: r) μ) _ E
      cases e2 : evL F ρ as μ1 with
      | stuck => rw [e2] at h; exact h
      | exc c t μ1 => rw [e2] at h; exact h
      | ok ts μ2 => rw [e2] at h; exact ⟨congrArg (· + 1) h.1, h.2⟩
theorem evK_len {F : Fns} {ρ : Env} : ∀ (as : List (Nat × IE)) (μ : Mem) {P : List T → Mem → Prop} {E : Nat → T → Mem → Prop}, Sat (evK F ρ as μ) P E → Sat (evK F ρ as μ) (fun ts μ => ts.length = as.length ∧ P ts μ) E
  | [], μ, P, E, h => ⟨rfl, h⟩
  | (i, a) :: as, μ, P, E, h => by
    have h : Sat ((evE F ρ a μ).bind fun x μ => (evK F ρ as μ).bind fun r μ => .ok (x :: r) μ) P E := h
    show Sat ((evE F ρ a μ).bind fun x μ => (evK F ρ as μ).bind fun r μ => .ok (x :: r) μ) _ E
    cases e : evE F ρ a μ with
    | stuck => rw [e] at h; exact h
    | exc c t μ1 => rw [e] at h; exact h
    | ok t μ1 =>
      rw [e] at h
      have h := evK_len as μ1 (Sat_bind h)
      show Sat ((evK F ρ as μ1).bind fun r μ => .ok (t :: r) μ) _ E
      cases e2 : evK F ρ as μ1 with
      | stuck => rw [e2] at h; exact h
      | exc c t μ1 => rw [e2] at h; exact h
      | ok ts μ2 => rw [e2] at h; exact ⟨congrArg (· + 1) h.1, h.2⟩
theorem node_ne {K : PySem.W.Frag} {β : List Addr} {H : Hp} {t : T} {v : V} (r : Rds K β H t v []) (h : isNode t = true) : False := by
  cases t with
  | lst xs => obtain ⟨_, _, _, _, _, _, z⟩ := r; cases z
  | dk ks xs => obtain ⟨_, _, _, _, _, _, _, z⟩ := r; cases z
  | dt ks xs => obtain ⟨_, _, _, _, _, _, _, z⟩ := r; cases z
  | _ => cases h
/-- the call, from its reading -/
theorem call_end {f : Nat} {as : List IE} {kw : List (Nat × IE)} {σ : St} {H : Hp} {Q : VK} (h : tE C X.K W (.call f as kw) σ H Q) :
    tLs C X.K W (fun ρ => evL C.F ρ as) (infoL C.g as) σ H fun vs H1 => tLs C X.K W (fun ρ => evK C.F ρ kw) (infoK C.g kw) σ H1 fun zs H2 => vs.length = as.length ∧ zs.length = kw.length ∧ spF X.K C f (vs ++ kwP vs.length (kw.map (·.1)) zs) H2 Q (fun c d H' => W c d σ H') := by
  obtain ⟨ρ, μ, β, ns, bn, S, h⟩ := h
  refine useL S (evL_len as μ (Sat_bind h)) fun ts μ1 vs H1 bn1 n ⟨l1, h⟩ s1 x1 => ?_
  refine useL (S.step s1) ((evK_len kw μ1 (Sat_bind h)).later s1) fun us μ2 zs H2 bn2 m ⟨l2, h⟩ s2 y1 => ?_
  have s := s1.trans s2
  have x2 := x1.step s2
  refine ⟨by rw [x1.rd.length, l1], by rw [y1.rd.length, l2], ?_⟩
  obtain ⟨m', r', sb⟩ := kwP_rds (is := kw.map (·.1)) vs.length y1.rd
  have hl : vs.length = ts.length := x1.rd.length
  refine ⟨ts ++ kwP vs.length (kw.map (·.1)) us, μ2, β, bn2, n ++ m', s2.box, x2.rd.append r', fun a ha => ?_, ?_⟩
  · rcases List.mem_append.mp ha with z | z
    · exact x2.nb a z
    · exact y1.nb a (sb a z)
  · rw [hl]
    have src : ∀ a ∈ n ++ m', H a = none ∨ (∃ j ∈ ((infoL C.g as).mix (infoK C.g kw)).dp, a ∈ ns j) ∨ (∃ j ∈ ((infoL C.g as).mix (infoK C.g kw)).dc, a ∈ (ns j).drop 1) := fun a ha => by
      rcases List.mem_append.mp ha with ha | ha
      · rcases x1.src a ha with z | ⟨k, k1, k2⟩ | ⟨k, k1, k2⟩
        · exact .inl z
        · exact .inr (.inl ⟨k, List.mem_append_left _ k1, k2⟩)
        · exact .inr (.inr ⟨k, List.mem_append_left _ k1, k2⟩)
      · rcases y1.src a (sb a ha) with z | ⟨k, k1, k2⟩ | ⟨k, k1, k2⟩
        · exact .inl (s1.keep.more a z)
        · exact .inr (.inl ⟨k, List.mem_append_right _ k1, k2⟩)
        · exact .inr (.inr ⟨k, List.mem_append_right _ k1, k2⟩)
    refine h.mono (fun t μ3 q v H3 bn3 l s3 R => q v H3 bn3 l (s.trans s3) ⟨R.rd, R.nb, ?_⟩) fun c t μ3 e d v H3 bn3 l h0 h1 s3 r nb sr => e d v H3 bn3 l (s.keep.more d h0) h1 (s.trans s3) r nb fun a ha => by
      rcases sr a ha with z | z
      · exact .inl (s.keep.more a z)
      · rcases src a z with z | ⟨j, _, z⟩ | ⟨j, _, z⟩
        · exact .inl z
        · exact .inr ⟨j, z⟩
        · exact .inr ⟨j, (List.drop_sublist 1 _).subset z⟩
    have rs : ∀ a ∈ l, H a = none ∨ (∃ j ∈ ((infoL C.g as).mix (infoK C.g kw)).dp, a ∈ ns j) ∨ (∃ j ∈ ((infoL C.g as).mix (infoK C.g kw)).dc, a ∈ (ns j).drop 1) := fun a ha => by
      rcases R.src a ha with z | z
      · exact .inl (s.keep.more a z)
      · exact src a z
    show Good ns H (rkInf ((C.g.rk[f]?).getD .S) ((infoL C.g as).mix (infoK C.g kw))) t l
    generalize (C.g.rk[f]?).getD .S = rk at R ⊢
    cases rk with
    | I =>
      have := R.imm rfl
      subst this
      exact ⟨(fun _ z => by cases z), (fun _ => List.nodup_nil), (fun _ z => (node_ne R.rd z).elim), fun _ z => by cases z⟩
    | D => exact ⟨fun a ha => .inl (s.keep.more a (R.fr rfl a ha)), fun _ => R.lin rfl, fun _ z => (let ⟨p, l, e, h, nm⟩ := R.top (.inl rfl) z; ⟨p, l, e, s.keep.more p h, nm⟩), fun _ z => by cases z⟩
    | P => exact ⟨rs, (fun z => by cases z), fun _ z => (let ⟨p, l, e, h, nm⟩ := R.top (.inr rfl) z; ⟨p, l, e, s.keep.more p h, nm⟩), fun _ z => by cases z⟩
    | S => exact ⟨rs, (fun z => by cases z), (fun z => by cases z), fun _ z => by cases z⟩
theorem e_call {fs : List Fi} {fa : Nat → Addr} {f : Nat} {fi : Fi} {as : List IE} {kw : List (Nat × IE)} {es : List Expr} {kws : List Keyword} (hC : CallOk X C W fs fa) (hf : fs[f]? = some fi) (hg : Gl X fi.nm) (hdb : (fi.nm == ("__debug__" : Str)) = false)
    (hok : (as.length, kw.map (·.1)) ∈ fi.sh) (hst : es.all nost = true) (hks : kws.map (·.1) = (kwN fi.ps (kw.map (·.1))).map some) (ha : PA X es (tLs C X.K W (fun ρ => evL C.F ρ as) (infoL C.g as))) (hkw : PK X kws (tLs C X.K W (fun ρ => evK C.F ρ kw) (infoK C.g kw))) (hl : as.length = es.length) :
    PE X (.Call (.Name fi.nm p) es kws pos) (tE C X.K W (.call f as kw)) := by
  obtain ⟨hm, hk, hc⟩ := hC f fi (kw.map (·.1)) hf
  have hc' : ∀ (pins : List (Addr × Obj)) (s : Shared) (σ : St) (H : Hp) (us ws : List Value) (vs zs : List V) (Q : VK), Inv X pins σ H s → Vals vs us → Vals zs ws →
      (vs.length = as.length ∧ zs.length = kw.length ∧ spF X.K C f (vs ++ kwP vs.length (kw.map (·.1)) zs) H Q (fun c d H' => W c d σ H')) → wpAny (model X.prog X.w) X.A (call (.ref (fa f)) us ((kwN fi.ps (kw.map (·.1))).zip ws)) (EP X pins σ Q) X.xe s := fun pins s σ H us ws vs zs Q I r1 r2 ⟨l1, l2, q⟩ =>
    hc pins s σ H us ws vs zs Q (by rw [l1]; exact hok) I r1 r2 (by rw [l2, List.length_map]) q
  cases es with
  | nil =>
    have hn : as = [] := List.length_eq_zero_iff.mp hl
    subst hn
    refine (pe_callF0 (r := fun vs zs σ H Q => vs.length = 0 ∧ zs.length = kw.length ∧ spF X.K C f (vs ++ kwP vs.length (kw.map (·.1)) zs) H Q (fun c d H' => W c d σ H')) hg hm hk hc' hkw hks hdb).weak fun σ H Q h => ?_
    obtain ⟨ρ, μ, β, ns, bn, S, h⟩ := call_end h
    exact h [] H bn [] (Step.refl S.box) Vls.nil
  | cons e es => exact (pe_callF (r := fun vs zs σ H Q => vs.length = as.length ∧ zs.length = kw.length ∧ spF X.K C f (vs ++ kwP vs.length (kw.map (·.1)) zs) H Q (fun c d H' => W c d σ H')) hg hm hk hc' ha hkw hks hst hdb).weak fun σ H Q h => call_end h
end
end MP

/-! C15: list(range), max and min of two, range with a step. -/
namespace MP
open PySem L2
theorem rngL_rg {K : PySem.W.Frag} {β : List Addr} {H : Hp} (lo : Int) (n : Nat) : RdsL K β H (rngL lo 1 n) ((List.range n).map fun i => V.int (lo + (i : Nat))) [] := by
  have e : (rngL lo 1 n) = ((List.range n).map fun i => lo + ((i : Nat) : Int)).map T.int := by
    apply List.ext_getElem?
    intro i
    by_cases h : i < n
    · rw [rngL_get lo 1 n i h]
      simp [h]
    · rw [List.getElem?_eq_none (by rw [rngL_len]; omega), List.getElem?_eq_none (by simp; omega)]
  have e2 : ((List.range n).map fun i => V.int (lo + (i : Nat))) = ((List.range n).map fun i => lo + ((i : Nat) : Int)).map V.int := by simp
  rw [e, e2]
  exact RdsL.ofInts _
section
variable {X : Cx} {C : Cf} {W : WX} {a b c tg : Expr} {x y z : IE} {pos p p2 : Pos}
theorem lof_end {tp : Bool} {it : II} {K : PySem.W.Frag} {β : List Addr} {H H1 : Hp} {μ1 : Mem} {ns bn bn1 : Nat → List Addr} {ts : List T} {vs : List V} {Q : VK} (s1 : Step K β bn H H1 μ1 bn1) (rl : RdsL K β H1 ts vs [])
    (q : ∀ v H' bn' n, Step K β bn H H' μ1 bn' → Val K β bn' ns H H' (info C.g (.lof tp it)) (match tp with | true => .tup ts | false => .lst ts) v n → Q v H') : ∀ p, H1 p = none → Q (.ref p) (upd H1 p (match tp with | true => .tup vs | false => .lst vs)) := fun p hp => by
  cases tp with
  | true =>
    have n1 : New1 H1 (upd H1 p (.tup vs)) := .inr ⟨p, _, hp, rfl⟩
    exact q _ _ bn1 [] (s1.trans (Step.new1 s1.box n1)) ⟨⟨p, vs, rfl, upd_same, rl.new n1⟩, (fun _ z => by cases z), Good.nil rfl rfl⟩
  | false =>
    have n1 : New1 H1 (upd H1 p (.lst vs)) := .inr ⟨p, _, hp, rfl⟩
    refine q _ _ bn1 [p] (s1.trans (Step.new1 s1.box n1)) ⟨⟨p, vs, [], rfl, upd_same, rl.new n1, rfl⟩, fun a ha => ?_, fun a ha => ?_, fun _ => nd1 _, fun _ _ => ⟨p, [], rfl, s1.keep.more p hp, by simp⟩, fun _ z => by cases z⟩
    · obtain rfl : a = p := by simpa using ha
      exact s1.box.fresh _ hp
    · obtain rfl : a = p := by simpa using ha
      exact .inl (s1.keep.more _ hp)
theorem rgOk {m n : Int} (h1 : smallI m = true) (h2 : smallI n = true) (h : Nat.ble (rngL m 1 (n - m).toNat).length line = true) : RgOk m n := by
  obtain ⟨b1, b2⟩ := smallI_ok h1
  obtain ⟨b3, b4⟩ := smallI_ok h2
  rw [rngL_len] at h
  have := Nat.le_of_ble_eq_true h
  exact ⟨b1, b2, b3, b4, this⟩
theorem e_lof1 (tp : Bool) (hc : X.calm = true) (hg : Gl X (if tp then "tuple" else "list")) (hm : X.mg (if tp then "tuple" else "list") = none) (hg2 : Gl X "range") (hm2 : X.mg "range" = none) (ha : PE X a (tE C X.K W x)) (hst : nost a = true) {pos' : Pos} :
    PE X (.Call (.Name (if tp then "tuple" else "list") p) [.Call (.Name "range" p2) [a] [] pos'] [] pos) (tE C X.K W (.lof tp (.rng1 x))) := by
  have h1 := prg_1 (p := p2) (pos := pos') hg2 hm2 ha (star_cons hst)
  have key : ∀ σ H Q, tE C X.K W (.lof tp (.rng1 x)) σ H Q → tRg1 (tE C X.K W x) σ H fun a b H1 => RgOk a b ∧ ∀ q, H1 q = none → Q (.ref q) (upd H1 q (match tp with | true => .tup (rgV a b) | false => .lst (rgV a b))) := fun σ H Q h => by
    obtain ⟨ρ, μ, β, ns, bn, S, h⟩ := h
    rw [evE, evI] at h
    refine use S (Sat_bind (Sat_bind h)) fun t μ1 v H1 bn1 n h s1 x1 => ?_
    cases t <;> try exact False.elim h
    rename_i j
    obtain ⟨rfl, _⟩ := x1.rd
    obtain ⟨ok, h⟩ := Sat_if h
    obtain ⟨hz, q⟩ := Sat_if h
    refine ⟨j, rfl, rgOk (by decide) ok (by rw [Int.sub_zero]; exact hz), ?_⟩
    have rl : RdsL X.K β H1 (rngL 0 1 j.toNat) (rgV 0 j) [] := by
      have := rngL_rg (K := X.K) (β := β) (H := H1) 0 j.toNat
      unfold rgV
      rw [Int.sub_zero]
      exact this
    have := lof_end (it := .rng1 x) s1 rl q
    cases tp <;> exact this
  cases tp with
  | true => exact (pe_tupRg hc hg hm h1 (star_cons rfl)).weak key
  | false => exact (pe_listRg hc hg hm h1 (star_cons rfl)).weak key
theorem e_lof2 (tp : Bool) (hc : X.calm = true) (hg : Gl X (if tp then "tuple" else "list")) (hm : X.mg (if tp then "tuple" else "list") = none) (hg2 : Gl X "range") (hm2 : X.mg "range" = none) (ha : PE X a (tE C X.K W x)) (hst : nost a = true) (hb : PE X b (tE C X.K W y)) (hst2 : nost b = true) {pos' : Pos} :
    PE X (.Call (.Name (if tp then "tuple" else "list") p) [.Call (.Name "range" p2) [a, b] [] pos'] [] pos) (tE C X.K W (.lof tp (.rng2 x y))) := by
  have h1 := prg_2 (p := p2) (pos := pos') hg2 hm2 ha hb (star_cons hst) (star_cons hst2) (star_any (by simp [hst2]))
  have key : ∀ σ H Q, tE C X.K W (.lof tp (.rng2 x y)) σ H Q → tRg2 (tE C X.K W x) (tE C X.K W y) σ H fun a b H1 => RgOk a b ∧ ∀ q, H1 q = none → Q (.ref q) (upd H1 q (match tp with | true => .tup (rgV a b) | false => .lst (rgV a b))) := fun σ H Q h => by
    obtain ⟨ρ, μ, β, ns, bn, S, h⟩ := h
    rw [evE, evI] at h
    refine use S (Sat_bind (Sat_bind h)) fun t μ1 v H1 bn1 n h s1 x1 => ?_
    refine use (S.step s1) ((Sat_bind h).later s1) fun u μ2 w H2 bn2 m h s2 y1 => ?_
    cases t with
    | int i => cases u with
      | int j =>
        obtain ⟨rfl, _⟩ := x1.rd
        obtain ⟨rfl, _⟩ := y1.rd
        obtain ⟨ok, h⟩ := Sat_if h
        obtain ⟨hz, q⟩ := Sat_if h
        rw [Bool.and_eq_true] at ok
        refine ⟨i, j, rfl, rfl, rgOk ok.1 ok.2 hz, ?_⟩
        have := lof_end (it := .rng2 x y) (s1.trans s2) (rngL_rg i (j - i).toNat) q
        cases tp <;> exact this
      | _ => exact False.elim h
    | _ => exact False.elim h
  cases tp with
  | true => exact (pe_tupRg hc hg hm h1 (star_cons rfl)).weak key
  | false => exact (pe_listRg hc hg hm h1 (star_cons rfl)).weak key
end
end MP

/-! C15b: range down. -/
namespace MP
open PySem L2
section
variable {X : Cx} {C : Cf} {W : WX} {a b c tg : Expr} {x y z : IE} {pos p : Pos}
theorem i_rng3 (hg : Gl X "range") (hm : X.mg "range" = none) (ha : PE X a (tE C X.K W x)) (hst : nost a = true) (hb : PE X b (tE C X.K W y)) (hst2 : nost b = true) (hc : PE X c (tE C X.K W z)) (hst3 : nost c = true) : PI X tg (.Call (.Name "range" p) [a, b, c] [] pos) (tI C X.K W (.rng3 x y z)) :=
  PI.weak (pi_range3 hg hm (pa_cons ha (pa_cons hb (pa_cons hc pa_nil (star_cons hst3)) (star_cons hst2)) (star_cons hst)) (star_cons hst) (star_any (by simp [hst2, hst3]))) fun σ H R h => by
  obtain ⟨ρ, μ, β, ns, bn, S, h⟩ := h
  refine use S (Sat_bind h) fun t μ1 v H1 bn1 n h s1 x1 => ?_
  refine use (S.step s1) ((Sat_bind h).later s1) fun u μ2 w H2 bn2 m h s2 y1 => ?_
  refine use ((S.step s1).step s2) (((Sat_bind h).later s1).later s2) fun u3 μ3 w3 H3 bn3 m3 h s3 z1 => ?_
  cases t <;> try exact False.elim h
  cases u <;> try exact False.elim h
  cases u3 <;> try exact False.elim h
  rename_i i j l
  obtain ⟨rfl, _⟩ := x1.rd
  obtain ⟨rfl, _⟩ := y1.rd
  obtain ⟨rfl, _⟩ := z1.rd
  split at h
  · rename_i e1 e2 e3
    cases e1; cases e2; cases e3
    obtain ⟨ok, q⟩ := Sat_if h
    rw [Bool.and_eq_true] at ok
    obtain ⟨b1, b2⟩ := smallI_ok ok.1
    obtain ⟨b3, b4⟩ := smallI_ok ok.2
    refine ⟨_, _, _, _, rfl, RgC.neg b1 b2 b3 b4, q _ _ _ _ _ ((s1.trans s2).trans s3) (itok_nil walk_rangeC (rngL_len _ _ _) fun i H2 y H3 hi ⟨e1, e2⟩ => ⟨e1, _, rngL_get _ _ _ _ hi, fun H => ⟨?_, rfl⟩⟩)⟩
    rw [e2]
  · exact False.elim h
end
end MP

/-! C15c: a comprehension over a dict without keys. -/
namespace MP
open PySem L2
section
variable {X : Cx} {C : Cf} {W : WX}
theorem pg_never {tg : Expr} : PG X tg fun _ _ _ _ => False := ⟨fun _ _ _ _ _ _ _ _ _ h => h.elim⟩
theorem pe_never {e : Expr} : PE X e fun _ _ _ => False := ⟨fun _ _ _ _ _ _ h => h.elim⟩
theorem e_lcKeys0 {elt tg : Expr} {ifs : List Expr} {scope : Scope} {own : List (Str × Nat)} {pos p1 : Pos} {nm : Str} {el : IE} {t : Tg} {i : Nat} {cnd : Option IE} (hc : X.calm = true) (hN : X.N.Nodup) (hNi : X.N[i]? = some nm) (hv : Vis X.env.scope nm) (hd : (nm == ("__debug__" : Str)) = false) (hcd : (nm == ("__classdict__" : Str)) = false)
    (ok : BlkOk X.N X.env.scope scope own) (hif : ifs = []) :
    PE X (.ListComp elt [⟨tg, .Name nm p1, ifs, 0⟩] scope pos) (tE C X.K W (.lc el t (.keys (.var i)) cnd)) := by
  subst hif
  refine (pe_lock (pe_lc (wi := iKeys (tVar i)) (g := fun _ _ _ _ => False) (tt := tYes) (te := fun _ _ _ => False) hc hN (pi_keys (pe_var hNi hv hd hcd)) ok (fun _ _ _ _ _ => pg_never) (fun _ _ _ _ _ => pts_nil) (fun _ _ _ _ _ => pe_never))).weak fun σ H Q h => ?_
  obtain ⟨ρ, μ, β, ns, bn, S, h⟩ := h
  obtain ⟨t0, et, h⟩ := Sat_opt (Sat_bind (Sat_bind h))
  split at h
  · rename_i vs
    obtain ⟨v, ev, r⟩ := S.sl i _ et
    obtain ⟨a, ws, m, rfl, ea, l, ra, en⟩ := r
    have ea' : H a = some (.dK []) := by simpa using ea
    have h : ∀ v H' bn' n, Step X.K β bn H H' μ bn' → Val X.K β bn' ns H H' (info C.g (.lc el t (.keys (.var i)) cnd)) (.lst []) v n → Q v H' := h
    refine ⟨a, _, ea', trivial, fun od => ?_⟩
    refine ⟨_, ev, a, od, rfl, .inl ⟨[], upd_same, fun D hD => ?_⟩⟩
    have hDa : D ≠ a := fun z => by rw [z, upd_same] at hD; cases hD
    have hD0 : H D = none := by rw [upd_ne hDa] at hD; exact hD
    refine ⟨fun i m H2 => i = 0 ∧ H2 = upd (upd H a (.frz od (.dK []))) D (.lst []), ⟨0, rfl, rfl⟩, fun i m H2 ⟨e1, e2⟩ => .inl ⟨?_, ?_⟩⟩
    · subst e1 e2
      exact ⟨by rw [upd_ne (fun z => hDa z.symm), upd_same], Nat.le_refl 0⟩
    · subst e1 e2
      refine ⟨by rw [upd_ne (fun z => hDa z.symm), upd_same], ?_⟩
      have e : upd (upd (upd H a (.frz od (.dK []))) D (.lst [])) a (.dK []) = upd H D (.lst []) := by
        funext b
        by_cases h1 : b = a
        · subst h1
          rw [upd_same, upd_ne (fun z => hDa z.symm), ea']
        · rw [upd_ne h1]
          by_cases h2 : b = D
          · subst h2
            rw [upd_same, upd_same]
          · rw [upd_ne h2, upd_ne h2, upd_ne h1]
      rw [e]
      refine h _ _ bn [D] (Step.new1 S.box (.inr ⟨D, _, hD0, rfl⟩)) ⟨⟨D, [], [], rfl, upd_same, ⟨rfl, rfl⟩, rfl⟩, fun b hb => ?_, fun b hb => ?_, fun _ => by simp, fun _ _ => ⟨D, [], rfl, hD0, by simp⟩, fun _ z => by cases z⟩
      · obtain rfl : b = D := by simpa using hb
        exact S.box.fresh b hD0
      · obtain rfl : b = D := by simpa using hb
        exact .inl hD0
  · exact False.elim h
end
end MP

/-! C16: does the small text stand for the given expression. -/
namespace MP
open PySem L2

/-- the def that tells what a call told, or its error: its name, list or tuple, the classes and their words -/
structure Mi where
  nm : Str
  tl : Bool
  cs : List (Nat × Str)
structure Ck where
  N : List Str
  fs : List Fi
  g : Sg
  blt : List Str
  sp : Option Nat := none
  xs : List (Str × Str) := []
  met : Option Mi := none
/-- no lambda here -/
def Ck.noMet (ck : Ck) : Ck := { ck with met := none }
def noP : Arguments → Bool
  | ⟨[], [], none, [], [], none, []⟩ => true
  | _ => false
def visB (sc : Scope) (nm : Str) : Bool := match sc.names.lookup nm with
  | some .local => true
  | some .cell => true
  | some .free => true
  | _ => false
def okN (nm : Str) : Bool := !(nm == ("__debug__" : Str)) && !(nm == ("__classdict__" : Str))
def glB (sc : Scope) (nm : Str) : Bool := match sc.names.lookup nm with
  | some .globalImplicit => true
  | _ => false
def blB (ck : Ck) (sc : Scope) (nm : Str) : Bool := glB sc nm && ck.blt.contains nm
def plainT : Expr → Bool
  | .UnaryOp op _ _ => (match op with | .Not => false | _ => true)
  | .BoolOp _ _ _ => false
  | .IfExp _ _ _ _ => false
  | .Compare _ _ _ _ => false
  | _ => true
def plainIx : Expr → Bool
  | .Slice _ _ _ _ => false
  | _ => true
def notSet : Expr → Bool
  | .Set _ _ _ => false
  | _ => true
def chkC : T → Expr → Bool
  | .int i, .Constant (.int j) _ _ => decide (i = j)
  | .bl b, .Constant (.bool c) _ _ => b == c
  | .non, .Constant .none _ _ => true
  | .str x, .Constant (.str y) _ _ => decide (x = y)
  | _, _ => false
def chkTys (ck : Ck) (sc : Scope) : List Ty → List Expr → Bool
  | [], [] => true
  | c :: cs, .Name nm _ :: es => decide (nm = c.nm) && blB ck sc nm && chkTys ck sc cs es
  | _, _ => false
def chkV (ck : Ck) (sc : Scope) (i : Nat) : Expr → Bool
  | .Name nm _ => decide (ck.N[i]? = some nm) && visB sc nm && okN nm
  | _ => false
mutual
def chkTg (ck : Ck) (raw sc : Scope) : Tg → Expr → Bool
  | .nm i, e => (match e with
    | .Name nm _ => decide (ck.N[i]? = some nm) && (match sc.names.lookup nm with | some .local => true | some .cell => (match raw.names.lookup nm with | some .cell => true | _ => false) | _ => false)
    | _ => false)
  | .tp ts, e => (match e with
    | .Tuple es _ _ => chkTgs ck raw sc ts es
    | _ => false)
def chkTgs (ck : Ck) (raw sc : Scope) : List Tg → List Expr → Bool
  | [], es => (match es with | [] => true | _ => false)
  | t :: ts, es => (match es with | e :: es => nost e && chkTg ck raw sc t e && chkTgs ck raw sc ts es | _ => false)
end
def ownOf (ck : Ck) (t : Tg) : List (Str × Nat) := t.slots.map fun i => ((ck.N[i]?).getD "", i)
def isKeys : II → Bool
  | .keys _ => true
  | _ => false
/-- over the keys of a name's dict -/
def lcK0 (ck : Ck) (sc : Scope) : II → Expr → Bool
  | .keys (.var i), e => chkV ck sc i e
  | _, _ => false
theorem lcK0_keys {ck : Ck} {sc : Scope} {it : II} {e : Expr} (h : lcK0 ck sc it e = true) : ∃ i, it = .keys (.var i) ∧ chkV ck sc i e = true := by
  unfold lcK0 at h
  split at h
  · exact ⟨_, rfl, h⟩
  · cases h
mutual
def chkE (ck : Ck) (sc : Scope) (tst : Bool) : IE → Expr → Bool
  | .var i, e => chkV ck sc i e
  | .cst t, e => chkC t e
  | .un a, e => (match e with | .UnaryOp .USub x _ => chkE ck sc false a x | _ => false)
  | .bin op a b, e => (match e with | .BinOp x o y _ => decide (o = op.py) && chkE ck sc false a x && chkE ck sc false b y | _ => false)
  | .cmp op a b, e => (match e with | .Compare x [o] [y] _ => decide (o = op.py) && chkE ck sc false a x && chkE ck sc false b y && !(behindInMarks o y) | _ => false)
  | .chn op op' a b c, e => (match e with | .Compare x [o, o'] [y, z] _ => decide (o = op.py) && decide (o' = op'.py) && chkE ck sc false a x && chkE ck sc false b y && chkE ck sc false c z && !(lastMarks [o, o'] [y, z]) | _ => false)
  | .bop k as, e => (match e with | .BoolOp o es _ => decide (o = if k then .And else .Or) && chkB ck sc tst as es | _ => false)
  | .nt a, e => (match e with | .UnaryOp .Not x _ => chkE ck sc tst a x | _ => false)
  | .ite c a b, e => (match e with | .IfExp z x y _ => chkE ck sc true c z && chkE ck sc tst a x && chkE ck sc tst b y | _ => false)
  | .lst as, e => (match e with | .List es _ => chkS ck sc as es | _ => false)
  | .tup as, e => (match e with | .Tuple es _ _ => chkL ck sc as es | _ => false)
  | .sub a b, e => (match e with | .Subscript x y _ => plainIx y && chkE ck sc false a x && chkE ck sc false b y | _ => false)
  | .slc a lo hi, e => (match e with | .Subscript x (.Slice l h none _) _ => chkE ck sc false a x && chkO ck sc lo l && chkO ck sc hi h | _ => false)
  | .rev a, e => (match e with | .Subscript x (.Slice none none (some (.UnaryOp .USub (.Constant (.int 1) _ _) _)) _) _ => chkE ck sc false a x | _ => false)
  | .call f as kw, e => (match e with
    | .Call (.Name nm _) es kws _ => (match ck.fs[f]? with
      | some fi => decide (fi.nm = nm) && glB sc nm && okN nm && decide ((as.length, kw.map (·.1)) ∈ fi.sh) && decide (kws.map (·.1) = (kwN fi.ps (kw.map (·.1))).map some) && chkL ck sc as es && chkK ck sc kw kws
      | none => false)
    | _ => false)
  | .bi b as, e => (match as with
    | [a] => (match e with | .Call (.Name nm _) [x] [] _ => decide (nm = b.name) && blB ck sc nm && nost x && chkE ck sc false a x | _ => false)
    | [a, a2] => (match e with | .Call (.Name nm _) [x, x2] [] _ => (match b with | .max2 => true | .min2 => true | _ => false) && decide (nm = b.name) && blB ck sc nm && nost x && nost x2 && chkE ck sc false a x && chkE ck sc false a2 x2 | _ => false)
    | _ => false)
  | .isi a cs one, e => (match e with
    | .Call (.Name nm _) [x, y] [] _ => decide (nm = ("isinstance" : Str)) && blB ck sc nm && nost x && chkE ck sc false a x && (match one, cs, y with
      | true, [c], .Name tn _ => decide (tn = c.nm) && blB ck sc tn
      | false, cs, .Tuple es _ _ => Nat.ble cs.length line && chkTys ck sc cs es
      | _, _, _ => false)
    | _ => false)
  | .meth _ _ _, _ => false
  | .lc el t it cnd, e => (match e with
    | .ListComp elt [⟨tg, iter, ifs, 0⟩] scope _ => (blkC ck.N sc scope (ownOf ck t) && t.slots.all (fun i => ck.g.k i == .S) && notSet iter && chkI ck sc it tg iter && chkTg ck scope (relS scope sc) t tg && chkE ck.noMet (relS scope sc) false el elt && chkCn ck.noMet (relS scope sc) cnd ifs) || (blkC ck.N sc scope (ownOf ck t) && ifs.isEmpty && lcK0 ck sc it iter)
    | _ => false)
  | .imm a, e => chkE ck sc tst a e
  | .flat a, e => !tst && chkE ck sc false a e
  | .ls a, e => !tst && chkE ck sc false a e
  | .dnew _, e => (match e with | .Dict [] [] _ => true | _ => false)
  | .neNil i a, e => (match e with | .Compare (.Subscript x y _) [.NotEq] [.List [] _] _ => chkV ck sc i x && plainIx y && chkE ck sc false a y | _ => false)
  | .popAt i a b, e => (match e with
    | .Call (.Attribute (.Subscript x y _) at_ apos) [.Constant (.int 0) _ _] [] pos => (match b with | .cst (.int 0) => true | _ => false) && decide (at_ = ("pop" : Str)) && (apos.endLine == pos.line) && chkV ck sc i x && plainIx y && chkE ck sc false a y
    | _ => false)
  | .lof tp it, e => (match e with
    | .Call (.Name nm _) [.Call (.Name rn _) es [] _] [] _ => decide (nm = if tp then ("tuple" : Str) else ("list" : Str)) && blB ck sc nm && decide (rn = ("range" : Str)) && blB ck sc rn && chkR ck sc it es
    | _ => false)
  | .met _ b tl cs _, e => (match e with
    | .Call (.Name nm _) [.Lambda params body scope _] [] _ => (match ck.met with
      | some mi => decide (nm = mi.nm) && glB sc nm && okN nm && (tl == mi.tl) && decide (cs = mi.cs) && noP params && LamX.lamSB sc scope && chkE ck.noMet scope false b body
      | none => false)
    | _ => false)
  | .itm a, e => (match e with
    | .Call (.Name nm _) [.Call (.Attribute x at_ apos) [] [] cpos] [] _ => decide (nm = ("list" : Str)) && blB ck sc nm && decide (at_ = ("items" : Str)) && (apos.endLine == cpos.line) && (match x with | .Name _ _ => true | _ => false) && chkE ck sc false a x
    | _ => false)
  | .never, _ => true
def chkB (ck : Ck) (sc : Scope) (tst : Bool) : List IE → List Expr → Bool
  | [], _ => false
  | [a], es => (match es with | [x] => chkE ck sc tst a x | _ => false)
  | a :: as, es => (match es with | x :: xs => chkE ck sc tst a x && chkB ck sc tst as xs | _ => false)
def chkS (ck : Ck) (sc : Scope) : List (Bool × IE) → List Expr → Bool
  | [], es => (match es with | [] => true | _ => false)
  | (st, a) :: as, es => (match es with
    | x :: xs => (match st with
      | true => (match x with | .Starred y _ => chkE ck sc false a y | _ => false)
      | false => nost x && chkE ck sc false a x) && chkS ck sc as xs
    | _ => false)
def chkL (ck : Ck) (sc : Scope) : List IE → List Expr → Bool
  | [], es => (match es with | [] => true | _ => false)
  | a :: as, es => (match es with | x :: xs => nost x && chkE ck sc false a x && chkL ck sc as xs | _ => false)
def chkK (ck : Ck) (sc : Scope) : List (Nat × IE) → List Keyword → Bool
  | [], es => (match es with | [] => true | _ => false)
  | (_, a) :: as, es => (match es with | ⟨_, x, _⟩ :: xs => chkE ck sc false a x && chkK ck sc as xs | _ => false)
def chkO (ck : Ck) (sc : Scope) : Option IE → Option Expr → Bool
  | none, o => (match o with | none => true | _ => false)
  | some a, o => (match o with | some x => chkE ck sc false a x | _ => false)
def chkCn (ck : Ck) (sc : Scope) : Option IE → List Expr → Bool
  | none, o => (match o with | [] => true | _ => false)
  | some a, o => (match o with | [x] => chkE ck sc true a x | _ => false)
def chkR (ck : Ck) (sc : Scope) : II → List Expr → Bool
  | .rng1 a, es => (match es with | [x] => nost x && chkE ck sc false a x | _ => false)
  | .rng2 a b, es => (match es with | [x, y] => nost x && nost y && chkE ck sc false a x && chkE ck sc false b y | _ => false)
  | _, _ => false
def chkI (ck : Ck) (sc : Scope) : II → Expr → Expr → Bool
  | .seq a, _, e => chkE ck sc false a e
  | .rng1 a, _, e => (match e with | .Call (.Name nm _) [x] [] _ => decide (nm = ("range" : Str)) && blB ck sc nm && nost x && chkE ck sc false a x | _ => false)
  | .rng2 a b, _, e => (match e with | .Call (.Name nm _) [x, y] [] _ => decide (nm = ("range" : Str)) && blB ck sc nm && nost x && nost y && chkE ck sc false a x && chkE ck sc false b y | _ => false)
  | .rng3 a b c, _, e => (match e with | .Call (.Name nm _) [x, y, z] [] _ => decide (nm = ("range" : Str)) && blB ck sc nm && nost x && nost y && nost z && chkE ck sc false a x && chkE ck sc false b y && chkE ck sc false c z | _ => false)
  | .enum a, tg, e => (match tg with
    | .Tuple _ _ _ => (match e with | .Call (.Name nm _) [x] [] _ => decide (nm = ("enumerate" : Str)) && blB ck sc nm && nost x && chkE ck sc false a x | _ => false)
    | _ => false)
  | .zip a b, tg, e => (match tg with
    | .Tuple _ _ _ => (match e with | .Call (.Name nm _) [x, y] [] _ => decide (nm = ("zip" : Str)) && blB ck sc nm && nost x && nost y && chkE ck sc false a x && chkE ck sc false b y | _ => false)
    | _ => false)
  | _, _, _ => false
end
end MP

/-! C15d: a lambda without parameters is made, and handed to a def that calls it. -/
namespace MP
open PySem PySem.Spec PyProof.Rows L2
/-- the step by which a lambda is made: tables grow, all else stays -/
structure LamStep (H H1 : Hp) : Prop where
  ext : LamX.ExtN H H1
  more : ∀ a, H1 a = none → H a = none
theorem LamStep.keeps {H H1 : Hp} (l : LamStep H H1) : Keeps (fun _ => False) H H1 where
  keep := fun a o e _ nt => l.ext a o e nt
  tup := fun a xs e => l.ext a _ e fun _ z => by cases z
  frz := fun a o u e => l.ext a _ e fun _ z => by cases z
  more := l.more
/-- .. and the boxes stay boxes -/
theorem LamStep.step {K : PySem.W.Frag} {β : List Addr} {bn : Nat → List Addr} {H H1 : Hp} {μ : Mem} (l : LamStep H H1) (b : BoxOk K β H μ bn) (t : Tb K H1) : Step K β bn H H1 μ bn where
  keep := l.keeps.wider fun _ z => z.elim
  box := ⟨b.len, fun k t e => by
    obtain ⟨a, e1, r, bl, nd⟩ := b.rd k t e
    exact ⟨a, e1, r.keep l.keeps (fun _ _ e => e) t (fun _ _ z => z), bl, nd⟩, b.dj, t⟩
  sub := fun a z => .inl z
section
variable {X : Cx} {pins : List (Addr × Obj)} {σ : L2.St} {H : Hp} {s : Shared}
theorem lam_mk {tabs : List (Addr × Str)} {cO tP : Addr} {par : Arguments} {bd : Expr} {sc1 : Scope} {here : Pos} {Er Q : Value → Shared → Prop} (I : Inv X pins σ H s) (TB : LamX.TabB X.base X.mg cO tP) (own : X.env.code = .ref cO) (hm : (tP, X.env.qual ++ "<lambda>") ∈ tabs)
    (uni : ∀ p ∈ tabs, p.1 = tP → p.2 = X.env.qual ++ "<lambda>") (hT : LamX.Tabs tabs H) (nodef : defaultsOf par X.env = ([], [])) (caught : ∀ y ∈ sc1.names, y.2 = .free → ∃ c, X.env.cells.lookup y.1 = some c)
    (go : ∀ (fn cd : Addr) (pm ctv : Value) (H1 : Hp) (s1 : Shared), Inv X pins σ H1 s1 → LamStep H H1 → LamX.Tabs tabs H1 → s1.heap.get? fn = some (PySem.W.kla_obj "<lambda>" (X.env.qual ++ "<lambda>") par bd sc1 (cloFrom X.env.cells sc1.names []) pm cd ctv) →
      H1 fn = none → fn ∉ frs X.stack → H1 cd = some (LamX.CodeO cd (X.env.qual ++ "<lambda>")) → Q (.ref fn) s1) : wpAny (model X.prog X.w) X.A (eval (.Lambda par bd sc1 here) X.env) Q Er s := by
  obtain ⟨old, tabAt, trip, known⟩ := hT _ hm
  have objP : s.heap.get? tP = some { cls := .none, data := .fields old } := I.hok tP _ tabAt
  have bmP := TB.bm.keeps I.bk
  have glob := I.mod.glob.keeps I.bk
  have codeC := TB.code.keeps I.bk
  have off : ∀ a, s.heap.objs.size ≤ a → a ∉ frs X.stack := fun a ha z => by
    rcases List.mem_cons.mp (I.stkSub _ z) with q | q
    · have lt := I.lt
      rw [← q] at lt
      exact Nat.lt_irrefl _ (Nat.lt_of_lt_of_le lt ha)
    · exact I.nofs ha q
  refine PySem.W.kla_eval nodef ?_
  cases hit : codeAmong here old.toList with
  | some cv =>
    obtain ⟨cd, rfl, isCode⟩ := known here cv hit
    refine PySem.W.kla_makeFunctionHit (mg := X.mg) (c := cO) (P := tP) (ps := old) (closure_ok caught) I.ok.glob glob own codeC objP trip hit bmP fun ctv h1 tk keep sz => ?_
    refine go h1.objs.size cd ((X.mg "__name__").getD .none) ctv H _ (I.kept fun b o e => Heap.get?_push_of_some _ (keep b o e)) ⟨LamX.ExtN.refl H, fun _ e => e⟩ hT (Heap.get?_push_size _ rfl) (I.hok.fresh sz) (off _ sz) isCode
  | none =>
    refine PySem.W.kla_makeFunction (mg := X.mg) (c := cO) (P := tP) (ps := old) (closure_ok caught) I.ok.glob glob own codeC objP trip hit TB.gP bmP fun cd ctv h1 tk keep ge lt rec_ tab1 => ?_
    obtain ⟨cd', oc, vs, t, e0, ocAt, ocD, ocN⟩ := rec_
    cases e0
    have fresh : H cd = none := I.hok.fresh ge
    have sz : s.heap.objs.size ≤ h1.objs.size := by omega
    let grown : Array Value := old ++ #[rawInt here.line, rawInt here.col, .ref cd]
    have gl : grown.toList = old.toList ++ [rawInt here.line, rawInt here.col, .ref cd] := by simp [grown]
    let H1 : Hp := upd (upd H tP (.tbl grown)) cd (LamX.CodeO cd (X.env.qual ++ "<lambda>"))
    have I1 : Inv X pins σ H1 _ := LamX.inv_table (t' := tk) (more := #[rawInt here.line, rawInt here.col, .ref cd]) (h' := h1.push (PySem.W.kla_obj "<lambda>" (X.env.qual ++ "<lambda>") par bd sc1 (cloFrom X.env.cells sc1.names []) ((X.mg "__name__").getD .none) cd ctv)) I tabAt
      (fun b o ne e => Heap.get?_push_of_some _ (keep b o ne e)) (Heap.get?_push_of_some _ tab1) ge ⟨oc, vs, t, Heap.get?_push_of_some _ ocAt, ocD, ocN⟩
    have at0 : H1 cd = some (LamX.CodeO cd (X.env.qual ++ "<lambda>")) := upd_same
    have atP : H1 tP = some (.tbl grown) := by
      show upd _ cd _ tP = _
      rw [upd_ne (ne_of_none tabAt fresh), upd_same]
    have rest : ∀ b, b ≠ cd → b ≠ tP → H1 b = H b := fun b n1 n2 => by
      show upd _ cd _ b = _
      rw [upd_ne n1, upd_ne n2]
    have ext : LamX.ExtN H H1 := fun b o e nt => by
      rw [rest b (ne_of_none e fresh) fun z => ?_]
      · exact e
      · subst z
        rw [tabAt] at e
        exact nt old (Option.some.inj e).symm
    have st : LamStep H H1 := ⟨ext, fun b e => by
      by_cases z1 : b = cd
      · rw [z1]; exact fresh
      · by_cases z2 : b = tP
        · rw [z2, atP] at e; cases e
        · rw [← rest b z1 z2]; exact e⟩
    have tabs1 : LamX.Tabs tabs H1 := fun p hp => by
      by_cases hb : p.1 = tP
      · rw [hb, uni p hp hb]
        refine ⟨grown, atP, by rw [gl]; exact PySem.TriplesOk_snoc _ _ _ _ trip, fun there v hv => ?_⟩
        rw [gl] at hv
        rcases LamX.among_app _ trip hv with z | z
        · obtain ⟨c0, q1, q2⟩ := known there v z
          exact ⟨c0, q1, ext _ _ q2 LamX.codeO_ne⟩
        · exact ⟨cd, z, at0⟩
      · obtain ⟨us, q1, q2, q3⟩ := hT p hp
        refine ⟨us, by rw [rest _ (ne_of_none q1 fresh) hb]; exact q1, q2, fun there v hv => ?_⟩
        obtain ⟨c0, r1, r2⟩ := q3 there v hv
        exact ⟨c0, r1, ext _ _ r2 LamX.codeO_ne⟩
    have noF : H1 h1.objs.size = none := by
      rw [rest _ (by omega) fun z => ?_]
      · exact I.hok.fresh sz
      · have lt0 := Heap.lt_size objP
        exact Nat.lt_irrefl _ (Nat.lt_of_lt_of_le lt0 (z ▸ sz))
    exact go h1.objs.size cd ((X.mg "__name__").getD .none) ctv H1 _ I1 st tabs1 (Heap.get?_push_size _ rfl) noF (off _ sz) at0
/-- a lambda that takes nothing -/
theorem noP_def {par : Arguments} {env : PySem.Env} (h : noP par = true) : defaultsOf par env = ([], []) := by
  unfold noP at h
  split at h
  · rfl
  · cases h
theorem noP_bind {par : Arguments} (h : noP par = true) (q : Str) (bd : Expr) (sc1 : Scope) (cl : List (Str × Addr)) (pm cv ctv : Value) : bindArgs (PySem.W.kla_fn "<lambda>" q par bd sc1 cl pm cv ctv) ⟨[], []⟩ = pure [] := by
  unfold noP at h
  split at h
  · rfl
  · cases h
/-- ask(), in the def that got the lambda: its context is entered at s -/
theorem ask_lam {CXg : CXT} {Eg E : XK} {Ng : List Str} {qg ask : Str} {sg sc1 : Scope} {g fn cd : Addr} {cg pm ctv : Value} {par : Arguments} {bd : Expr} {r i : Nat} {pn : List (Addr × Obj)} {xe : Value → Shared → Prop} {W : WX} {tb : TE} {p1 p2 : Pos}
    (I : Inv X pins σ H s) (L : LamX.LamS X.env.scope sc1) (fAt : s.heap.get? fn = some (PySem.W.kla_obj "<lambda>" (X.env.qual ++ "<lambda>") par bd sc1 (cloFrom X.env.cells sc1.names []) pm cd ctv)) (fNo : H fn = none) (fOff : fn ∉ frs X.stack)
    (none_ : bindArgs (PySem.W.kla_fn "<lambda>" (X.env.qual ++ "<lambda>") par bd sc1 (cloFrom X.env.cells sc1.names []) pm (.ref cd) ctv) ⟨[], []⟩ = pure []) (gd : X.A.guards = some [])
    (tk : Takes ((cxOf CXg X.prog X.w X.K X.mg X.base Ng qg sg g cg X.A X.stack s H Eg).tr pn xe) W) (sub : ∀ cls d σ' H', E cls d H' → W cls d σ' H') (room : Room (r + 1) (X.A.deeper (envOfC qg sg s.heap.objs.size g cg)))
    (inner : ∀ (A : Around) (outer : List PySem.Env) (s : Shared) (H : Hp), A.guards = some [] → Room r (A.deeper (LamX.lamEnv X sc1 s.heap.objs.size fn cd)) → PE (LamX.lamCx X A outer s H E sc1 fn cd) bd tb)
    (hN : Ng[i]? = some ask) (hv : Vis sg ask) (db : (ask == ("__debug__" : Str)) = false) (dc : (ask == ("__classdict__" : Str)) = false) :
    PE ((cxOf CXg X.prog X.w X.K X.mg X.base Ng qg sg g cg X.A X.stack s H Eg).tr pn xe) (.Call (.Name ask p1) [] [] p2) fun σZ HZ Q => σZ[i]? = some (some (.ref fn)) ∧ HZ cd = some (LamX.CodeO cd (X.env.qual ++ "<lambda>")) ∧ tb σ HZ Q := by
  refine ⟨fun pinsZ sZ σZ HZ Q IZ ⟨slot, isC, told⟩ => wpAny_Call_Name_kw (thn ((pe_var (pos := p1) (i := i) hN hv db dc).run pinsZ sZ σZ HZ (fun v H1 => v = .ref fn ∧ H1 = HZ) IZ ⟨.ref fn, slot, rfl, rfl⟩) fun u s1 ⟨v, H1, I1, rel, e1, e2⟩ => ?_)⟩
  subst e1 e2
  obtain rfl : u = Value.ref fn := rel
  have at1 := I1.base.keep fn _ fAt fNo fOff fun z => nomatch (show fn ∈ ([] : List Addr) from z)
  have U : Un (frs X.stack) [] H H1 s.heap s1.heap := I1.base
  obtain ⟨oc, vs, t, q1, q2, q3⟩ := (I1.hok cd _ isC).1
  refine PySem.W.callWith_F0 ⟨_, _, _, _, at1⟩ (wpAny_call (codeAny_mono (R := CR (L2.CX X.prog X.w) (envOfC qg sg s.heap.objs.size g cg :: X.stack) X.prog X.w H1 s1 Q E) ?_ fun res s' done => ?_))
  · show codeAny (model X.prog X.w) (X.A.deeper (envOfC qg sg s.heap.objs.size g cg)) (.call (.ref fn) ⟨[], []⟩) _ _
    refine PySem.W.kla_callFunE room.depth at1 rfl L.co L.gen rfl ⟨cd, oc, vs, t, rfl, q1, q2, q3⟩ ?_
    rw [none_]
    refine wpAny_pure (wpAny_newFunctionEnv (fun y hy => (L.own y hy).2) (fun y hy => absurd hy (by simp)) (fun hL ns same => ⟨I1.nolimit.fresh _ same, ?_⟩) L.kind)
    have stay : ∀ b o, s1.heap.get? b = some o → hL.get? b = some o := fun b o e => same.extBut b o (Nat.ne_of_lt (Heap.lt_size e)) (Heap.get?_push_of_some _ e)
    have J := LamX.lam_start2 (tk := s1.toks + ([] : List (Str × Value)).length) (outer := envOfC qg sg s.heap.objs.size g cg :: X.stack) (E := E) (f := fn) (c' := cd) I L I1.env0 room.hd U ns stay
    refine PySem.W.kla_codeExpr (wpAny_mono ((inner (X.A.deeper (envOfC qg sg s.heap.objs.size g cg)) _ s1 H1 gd (room.deeper _)).run [] _ _ H1 Q J told) (fun v s2 ⟨w', H2, J2, r2, q⟩ => ?_) fun e s2 z => z)
    exact ⟨w', H2, J2.os, J2.bare, J2.base, J2.hok, r2, q⟩
  · cases res with
    | error e => exact passes_call tk sub pinsZ σZ H1 s1 e s' I1 done
    | ok fl =>
      cases fl with
      | ret u => exact I1.after done
      | next => exact done.elim
      | brk => exact done.elim
      | cont => exact done.elim
/-- what the def makes of what it got: x's body, ask's slot 0 -/
def Makes (X : Cx) (Ng : List Str) (x : Str) (sg : Scope) (g : Addr) (cg : Value) (bg : List Stmt) (ask : Str) (TT : (XK → Hp → VK → Prop) → Hp → VK → Prop) : Prop :=
  ∀ (fn cd : Addr) (s : Shared) (H : Hp) (Q : VK) (q : Str) (tl : XK → Hp → VK → Prop),
    (∀ (W : WX) (pn : List (Addr × Obj)) (xe : Value → Shared → Prop) (E : XK) (p1 p2 : Pos), Takes ((cxOf C8.CX0 X.prog X.w X.K X.mg X.base Ng x sg g cg X.A X.stack s H C8.E0).tr pn xe) W → (∀ cls d σ' H', E cls d H' → W cls d σ' H') →
      PE ((cxOf C8.CX0 X.prog X.w X.K X.mg X.base Ng x sg g cg X.A X.stack s H C8.E0).tr pn xe) (.Call (.Name ask p1) [] [] p2) (fun σZ HZ Q => σZ[0]? = some (some (.ref fn)) ∧ HZ cd = some (LamX.CodeO cd q) ∧ tl E HZ Q)) →
    H cd = some (LamX.CodeO cd q) → TT tl H Q →
    ∃ t, PSs (cxOf C8.CX0 X.prog X.w X.K X.mg X.base Ng x sg g cg X.A X.stack s H C8.E0).nox bg t ∧ t { nx := fun _ H' => Q .non H', rt := Q } (L2.start Ng [.ref fn]) H
/-- x(lambda: bd) -/
theorem met_lam {tabs : List (Addr × Str)} {TT : (XK → Hp → VK → Prop) → Hp → VK → Prop} {x ask : Str} {g cO tP : Addr} {r : Nat} {pg par : Arguments} {bg : List Stmt} {sg sc1 : Scope} {dV kV doc pm cg ct oc : Value} {an od : Option Addr} {osl : Array (Option Value)} {Ng : List Str}
    {bd : Expr} {t : XK → TE} {p lpos pos : Pos} (hg : Gl X x) (hx : X.mg x = some (.ref g)) (hk : PySem.W.keepIn X.K (.ref g) = true) (lk : X.K.lookup g = some ⟨oc, od, .func (PySem.W.fnOf x x pg bg sg dV kV doc pm an cg ct), osl⟩) (codeG : PySem.W.codeIn X.K cg x = true)
    (bindG : L2.Binds X.K (PySem.W.fnOf x x pg bg sg dV kV doc pm an cg ct) [ask] []) (Sg : FnScope Ng [ask] sg) (hNg : Ng[0]? = some ask) (hva : Vis sg ask) (G : Makes X Ng x sg g cg bg ask TT) (TB : LamX.TabB X.base X.mg cO tP) (own : X.env.code = .ref cO)
    (hm : (tP, X.env.qual ++ "<lambda>") ∈ tabs) (uni : ∀ p ∈ tabs, p.1 = tP → p.2 = X.env.qual ++ "<lambda>") (room : Room (r + 2) X.A) (gd : X.A.guards = some []) (L : LamX.LamS X.env.scope sc1) (np : noP par = true)
    (inner : ∀ (A : Around) (outer : List PySem.Env) (s : Shared) (H : Hp) (E : XK) (fn cd : Addr), A.guards = some [] → Room r (A.deeper (LamX.lamEnv X sc1 s.heap.objs.size fn cd)) → PE (LamX.lamCx X A outer s H E sc1 fn cd) bd (t E))
    (dbx : (x == ("__debug__" : Str)) = false) (db : (ask == ("__debug__" : Str)) = false) (dc : (ask == ("__classdict__" : Str)) = false) :
    PE X (.Call (.Name x p) [.Lambda par bd sc1 lpos] [] pos) fun σ H Q => LamX.Tabs tabs H ∧ ∀ H1, LamStep H H1 → LamX.Tabs tabs H1 → TT (fun E H' Q' => t E σ H' Q') H1 Q := by
  refine ⟨fun pins s σ H Q I ⟨hT, told⟩ => wpAny_Call_Name_kw (ld_glob I hg hx (PySem.W.callWith_K (h₀ := X.base) I.ok.mod.kin hk ?_ (by rfl) (by rfl)) dbx)⟩
  show wpAny _ _ (spliced ((false, eval (.Lambda par bd sc1 lpos) X.env) :: backTo pos (starEach [] X.env))) _ _ s
  refine Calls.spliced_cons (lam_mk I TB own hm uni hT (noP_def np) (L.has I.ok) fun fn cd pm' ctv H1 s1 I1 st T1 fAt fNo fOff isC => Calls.spliced_nil ⟨I1.kIn, wpAny_call (codeAny_mono (R := CR C8.CX0 X.stack X.prog X.w H1 s1 Q C8.E0) ?_ fun res s2 done => ?_)⟩)
  · refine LamX.run_ofS (N := Ng) (ps := [ask]) (us := [.ref fn]) (vs := [.ref fn]) lk codeG Sg room I1.env0 (bindG s1 [.ref fn] I1.kIn rfl) (.cons rfl .nil) rfl fun deep => ?_
    obtain ⟨t1, h1, q1⟩ := G fn cd s1 H1 Q _ (fun E H' Q' => t E σ H' Q') (fun W pn xe E p1 p2 tk sub => ask_lam (i := 0) I1 L fAt fNo fOff (noP_bind np _ _ _ _ _ _ _) gd tk sub deep (fun A outer s H g1 r1 => inner A outer s H E fn cd g1 r1) hNg hva db dc) isC (told H1 st T1)
    exact ⟨t1, h1.nox, q1⟩
  · cases res with
    | error e => exact (show False from done).elim
    | ok fl =>
      cases fl with
      | ret u => exact I1.after done
      | next => exact done.elim
      | brk => exact done.elim
      | cont => exact done.elim
end
end MP

/-! C15e: several clauses 'except x as e', all with one name. -/
namespace MP
open PySem PySem.Spec PyProof.Rows L2
/-- a clause's class and what its suite asks -/
abbrev Clause := Value × (Addr → Value → Option Addr → TS)
/-- behind a suite: the name is gone -/
def unB (i : Nat) (D : Ends) : Ends := { nx := fun σ H => D.nx (σ.set i none) H, rt := D.rt, bk := fun σ H => D.bk (σ.set i none) H, ct := fun σ H => D.ct (σ.set i none) H }
def wClauses (K : PySem.W.Frag) (i : Nat) (D : Ends) : List Clause → WX
  | [] => fun _ _ _ _ => False
  | (c, ts) :: r => fun cls d σ H => ∃ b, PySem.W.exmOne K cls c = some b ∧ (b = true → ∀ a, H a = none → ts a cls d (unB i D) (σ.set i (some (.ref a))) H) ∧ (b = false → wClauses K i D r cls d σ H)
inductive ClsOk (X : Cx) (n : Str) : List ExceptHandler → List Clause → Prop
  | nil : ClsOk X n [] []
  | cons {x : Str} {c : Value} {ts : Addr → Value → Option Addr → TS} {st : Stmt} {sts : List Stmt} {q1 q2 : Pos} {hds : List ExceptHandler} {l : List Clause} (hc : Names X x c)
      (hs : ∀ (a : Addr) (oe : Obj) (cls : Value) (d : Option Addr) (pn : List (Addr × Obj)), Zc cls d oe → (∃ vs, oe.data = .fields vs) → PSs (X.suite a ((a, oe) :: pn)) (st :: sts) (ts a cls d)) (r : ClsOk X n hds l) :
      ClsOk X n (.ExceptHandler (some (.Name x q1)) (some n) (st :: sts) q2 :: hds) ((c, ts) :: l)
section
variable {X : Cx} {n : Str} {i : Nat} {body : List Stmt} {hd : ExceptHandler} {hds : List ExceptHandler} {l : List Clause} {pos : Pos} {tb : WX → TS}
theorem ps_try_named (hs : X.stack = X.env :: X.outer) (hf : X.env.frame = some X.env.locals) (hN : X.N.Nodup) (hi : X.N[i]? = some n) (loc : X.env.kindOf n = some .local)
    (hb : ∀ (W : WX) (pn : List (Addr × Obj)) (xe : Value → Shared → Prop), Takes (X.tr pn xe) W → PassesOwn (model X.prog X.w) X.A X.env xe → PSs (X.tr pn xe) body (tb W)) (hc : ClsOk X n (hd :: hds) l) :
    PS X (.Try body (hd :: hds) [] [] pos) fun D σ H => tb (wClauses X.K i D l) D σ H := by
  refine ⟨fun pins s σ H D I ask => wpAny_Try_except ?_⟩
  have ok := I.ok
  have frames : X.A.frames = some (X.env :: X.outer) := by rw [ok.frames, hs]
  refine wpAny_mono ((hb (wClauses X.K i D l) (X.pn ++ pins) (fun e s1 => wpAny (model X.prog X.w) X.A (noteFrame e X.env) (fun _ s2 => wpAny (model X.prog X.w) X.A (setFlight e none) (fun _ s3 =>
    wpAny (model X.prog X.w) X.A (handleBy e X.env (hd :: hds)) (SP X pins D) X.xe s3) X.xe s2) X.xe s1) (fun u s1 caught => ?_) PassesOwn.looking).run [] s σ H D (I.toTry _) ask) (fun fl s1 done => ?_) fun e s1 z => z
  rotate_left
  · cases fl with
    | next =>
      obtain ⟨σ1, H1, J, q⟩ := done
      exact wpAny_execs_nil ⟨σ1, H1, J.ofTry ok, q⟩
    | ret u =>
      obtain ⟨v, σ1, H1, J, r, q⟩ := done
      exact ⟨v, σ1, H1, J.ofTry ok, r, q⟩
    | brk =>
      obtain ⟨σ1, H1, J, q⟩ := done
      exact ⟨σ1, H1, J.ofTry ok, q⟩
    | cont =>
      obtain ⟨σ1, H1, J, q⟩ := done
      exact ⟨σ1, H1, J.ofTry ok, q⟩
  obtain ⟨a, B, s0, pins1, σ1, H1, cls, d, rfl, J1, nb, up1, sky1, na, os1, ag, w⟩ := caught
  have J : Inv X pins σ1 H1 s0 := J1.ofTry ok
  have sky : Sky B (X.env :: X.outer) a (Zc cls d) X.env.locals s1.heap := by rw [← hs]; exact sky1
  show wpAny (model X.prog X.w) X.A (noteFrame (.ref a) X.env) _ _ _
  refine Sky.land Zc.steady frames hf sky fun h3 fly up3 => ?_
  have J3 : Inv X pins σ1 H1 { s1 with heap := h3 } := J.landed nb fly.1 (up1.trans up3) os1 ag
  obtain ⟨oe3, vs3, at3, z3, d3⟩ := fly.there
  have noFr : a ∉ frs (X.env :: X.outer) := fun hm => by
    obtain ⟨_, o', e', nf⟩ := fly.2.2.1.mem hm
    rw [at3] at e'
    cases e'
    exact nf _ d3
  have noL : a ≠ X.env.locals := fun z => noFr (List.mem_filterMap.mpr ⟨X.env, List.mem_cons_self, by rw [hf, z]⟩)
  have noF : a ∉ X.fs := fun hm => by
    obtain ⟨e, he, q⟩ := List.mem_filterMap.mp hm
    exact noFr (List.mem_filterMap.mpr ⟨e, List.mem_cons_of_mem _ he, q⟩)
  have T3 := J3.suite at3 d3 na noL noF
  have turn : ∀ {hs' : List ExceptHandler} {l' : List Clause}, ClsOk X n hs' l' → wClauses X.K i D l' cls d σ1 H1 → wpAny (model X.prog X.w) X.A (handleBy (.ref a) X.env hs') (SP X pins D) X.xe { s1 with heap := h3 } := by
    intro hs' l' ck
    induction ck with
    | nil => exact fun w => w.elim
    | @cons x c ts st sts q1 q2 rest l2 nms suite more ih =>
      rintro ⟨b, isB, yes, no⟩
      refine wpAny_handleBy_cons (codeAny_handlers_test ?_) (by intro q; cases q)
      have asks := PySem.W.exm_one (M := model X.prog X.w) J3.kIn (fun A Q E s k q => wpAny_typeOf_ref (k _ _ at3) (by rw [z3.1]; exact q)) isB
      have test : ∀ {Q E : Value → Shared → Prop}, Q c { s1 with heap := h3 } → wpAny (model X.prog X.w) (X.A.mark (some (.ref a))) (eval (.Name x q1) X.env) Q E { s1 with heap := h3 } := fun {Q E} q => by
        obtain ⟨g, db, m | ⟨m, v, nn⟩⟩ := nms
        · exact ld_glob (X := X.suite a ((a, oe3) :: (X.pn ++ pins))) T3 g m q db
        · exact ld_blt (X := X.suite a ((a, oe3) :: (X.pn ++ pins))) T3 g m v q nn db
      refine test (asks.here ?_)
      cases b with
      | false =>
        show wpAny _ X.A (handleBy (.ref a) X.env rest) _ _ _
        exact ih (no rfl)
      | true =>
        refine codeAny_handlers_suite_as (HandSPX.lands_againZ fly fun h4 fly4 up4 => ?_)
        have J4 : Inv X pins σ1 H1 { s1 with heap := h4 } := J.landed nb fly4.1 ((up1.trans up3).trans up4) os1 ag
        obtain ⟨oe4, vs4, at4, z4, d4⟩ := fly4.there
        refine store_ok (X := X.suite a ((a, oe4) :: (X.pn ++ pins))) (v := .ref a) (J4.suite at4 d4 na noL noF) hN hi (.inl loc) rfl (fun s5 T5 => ?_) (.inr loc)
        refine wpAny_mono ((suite a oe4 cls d (X.pn ++ pins) z4 ⟨_, d4⟩).run [] s5 _ H1 _ T5 (yes rfl a na)) (fun fl s6 done => ?_) fun _ _ z => z.elim
        have gone : ∀ {σ6 : L2.St} {H6 : Hp} {Q : Shared → Prop}, Inv (X.suite a ((a, oe4) :: (X.pn ++ pins))) [] σ6 H6 s6 → (∀ s7, Inv X pins (σ6.set i none) H6 s7 → Q s7) →
            wpAny (model X.prog X.w) X.A (do bindName X.env n .none; unbindBehindTheSuite X.env n q2) (fun _ s7 => Q s7) X.xe s6 := fun T6 hq => gone_ok (T6.unsuite ok) hN hi loc hq
        cases fl with
        | ret u =>
          obtain ⟨v6, σ6, H6, T6, r6, q6⟩ := done
          exact gone T6 fun s7 J7 => ⟨_, _, _, J7, r6, q6⟩
        | next =>
          obtain ⟨σ6, H6, T6, q6⟩ := done
          exact gone T6 fun s7 J7 => ⟨_, _, J7, q6⟩
        | brk =>
          obtain ⟨σ6, H6, T6, q6⟩ := done
          exact gone T6 fun s7 J7 => ⟨_, _, J7, q6⟩
        | cont =>
          obtain ⟨σ6, H6, T6, q6⟩ := done
          exact gone T6 fun s7 J7 => ⟨_, _, J7, q6⟩
  exact turn hc w
end
end MP

/-! C15f: the def that tells what a call told, or its error's word and thing. -/
namespace MP
open PySem PySem.Spec PyProof.Rows L2
/-- what the head tells of the error classes: xs, their names and fields -/
structure ExF (K : PySem.W.Frag) (mg : Str → Option Value) (xs : List (Str × Str)) (cl : Nat → Addr) : Prop where
  at_ : ∀ (c : Nat) (x f : Str), xs[c]? = some (x, f) → mg x = some (.ref (cl c)) ∧ XfC K (cl c) ∧ OexC K (cl c) ∧ PySem.W.findIn K (.ref (cl c)) f = some none
  one : ∀ (c c' : Nat), c < xs.length → c' < xs.length → PySem.W.exmOne K (.ref (cl c)) (.ref (cl c')) = some (c == c')
def xAt (xs : List (Str × Str)) (c : Nat) : Str := ((xs[c]?).map (·.2)).getD ""
/-- ('word', e), ['word', e] -/
def pairOf : Expr → Option (Bool × Str × Expr)
  | .Tuple [.Constant (.str w) _ _, e] _ _ => some (false, w, e)
  | .List [.Constant (.str w) _ _, e] _ => some (true, w, e)
  | _ => none
def pairH (tl : Bool) (vs : List V) : HO := match tl with
  | true => .lst vs
  | false => .tup vs
/-- the pair is made behind e -/
def pairQ (tl : Bool) (w : Str) (Q : VK) : VK := fun v H1 => [V.str w, v].length ≤ sizeLine ∧ ∀ p, H1 p = none → Q (.ref p) (upd H1 p (pairH tl [.str w, v]))
section
variable {X : Cx}
theorem pair_pe {e e2 : Expr} {tl : Bool} {w : Str} {te : TE} (h : pairOf e = some (tl, w, e2)) (ns : nost e2 = true) (he : PE X e2 te) : PE X e fun σ H Q => te σ H (pairQ tl w Q) := by
  have args : ∀ {j p}, PA X [.Constant (.str w) j p, e2] (tCons (tC (.str w)) (tCons te tNil)) := pa_cons pe_str (pa_cons he pa_nil (star_cons ns)) (star_cons rfl)
  unfold pairOf at h
  split at h
  · cases h; exact pe_tup args
  · cases h; exact pe_lst args
  · cases h
/-- a name, wherever its slot is told -/
theorem pe_varL {i : Nat} {nm : Str} {p : Pos} (hN : X.N[i]? = some nm) (hv : Vis X.env.scope nm) (hd : (nm == ("__debug__" : Str)) = false) (hcd : (nm == ("__classdict__" : Str)) = false) :
    PE X (.Name nm p) fun σ H Q => σ.length = X.N.length → ∃ v, σ[i]? = some (some v) ∧ Q v H := ⟨fun pins s σ H Q I h => (pe_var hN hv hd hcd).run pins s σ H Q I (h I.len)⟩
end
/-- what the clauses ask: classes, fields, words -/
def wTags (K : PySem.W.Frag) (cl : Nat → Addr) (xs : List (Str × Str)) (tl : Bool) (Q : VK) : List (Nat × Str) → XK
  | [] => fun _ _ _ => False
  | (c, w) :: r => fun cls d H => ∃ b, PySem.W.exmOne K cls (.ref (cl c)) = some b ∧
      (b = true → cls = .ref (cl c) ∧ ∃ (dd : Addr) (fs : List (Str × V)) (v : V), d = some dd ∧ H dd = some (.xd fs) ∧ fs.lookup (xAt xs c) = some v ∧ pairQ tl w Q v H) ∧ (b = false → wTags K cl xs tl Q r cls d H)
/-- .. of a suite -/
def tTag (xs : List (Str × Str)) (cl : Nat → Addr) (tl : Bool) (i c n : Nat) (w : Str) (a : Addr) (cls : Value) (d : Option Addr) : TS := fun D σ H =>
  tXf a cls d (cl c) (xAt xs c) (fun σ H Q => σ.length = n → ∃ v, σ[i]? = some (some v) ∧ Q v H) σ H (pairQ tl w D.rt)
def tagCls (xs : List (Str × Str)) (cl : Nat → Addr) (tl : Bool) (i n : Nat) (cs : List (Nat × Str)) : List Clause := cs.map fun q => (.ref (cl q.1), tTag xs cl tl i q.1 n q.2)
theorem tags_ok {K : PySem.W.Frag} {cl : Nat → Addr} {xs : List (Str × Str)} {tl : Bool} {i n : Nat} {D : Ends} (hi : i < n) : ∀ (cs : List (Nat × Str)) {cls : Value} {d : Option Addr} {σ : L2.St} {H : Hp}, wTags K cl xs tl D.rt cs cls d H → wClauses K i D (tagCls xs cl tl i n cs) cls d σ H
  | [], cls, d, σ, H, h => h
  | (c, w) :: r, cls, d, σ, H, ⟨b, h1, h2, h3⟩ => by
    refine ⟨b, h1, fun hb a na => ?_, fun hb => tags_ok hi r (h3 hb)⟩
    obtain ⟨e, dd, fs, v, e1, e2, e3, q⟩ := h2 hb
    intro hl
    rw [List.length_set] at hl
    exact ⟨.ref a, by rw [List.getElem?_set_self (by omega)], rfl, e, dd, fs, v, e1, e2, e3, q⟩
/-- the clauses, by their text -/
def okHds (sc : Scope) (xs : List (Str × Str)) (tl : Bool) (n : Str) : List (Nat × Str) → List ExceptHandler → Bool
  | [], [] => true
  | (c, w) :: r, .ExceptHandler (some (.Name x _)) (some m) [.Return (some e) _] _ :: hs => decide (m = n) && glB sc x && okN x && (match xs[c]?, pairOf e with
    | some (y, f), some (tl', w', .Attribute (.Name m2 _) g _) => decide (y = x) && decide (f = g) && decide (m2 = n) && (tl' == tl) && decide (w' = w)
    | _, _ => false) && okHds sc xs tl n r hs
  | _, _ => false
theorem hds_ok {X : Cx} {xs : List (Str × Str)} {cl : Nat → Addr} {tl : Bool} {n : Str} {i : Nat} {sc : Scope} (F : ExF X.K X.mg xs cl) (hsc : X.env.scope = sc) (hN : X.N[i]? = some n) (hv : Vis X.env.scope n) (hd : (n == ("__debug__" : Str)) = false) (hcd : (n == ("__classdict__" : Str)) = false) :
    ∀ (cs : List (Nat × Str)) {hs : List ExceptHandler}, okHds sc xs tl n cs hs = true → ClsOk X n hs (tagCls xs cl tl i X.N.length cs) ∧ ∀ q ∈ cs, q.1 < xs.length
  | [], [], _ => ⟨.nil, fun _ z => by cases z⟩
  | [], _ :: _, h => by simp [okHds] at h
  | (c, w) :: r, [], h => by simp [okHds] at h
  | (c, w) :: r, hdl :: hs, h => by
    unfold okHds at h
    split at h
    · rename_i e1 e2; cases e1
    · rename_i c' w' r' x p1 m e p2 p3 hs' e1 e2
      cases e1
      cases e2
      simp only [Bool.and_eq_true, decide_eq_true_eq] at h
      obtain ⟨⟨⟨⟨rfl, h1⟩, h2⟩, h3⟩, h4⟩ := h
      split at h3
      · rename_i y f tl' w' m2 p4 g p5 ex ep
        simp only [Bool.and_eq_true, decide_eq_true_eq, beq_iff_eq] at h3
        obtain ⟨⟨⟨⟨rfl, rfl⟩, rfl⟩, rfl⟩, rfl⟩ := h3
        obtain ⟨m1, xf, _, no⟩ := F.at_ c y f ex
        have ea : xAt xs c = f := by unfold xAt; rw [ex] <;> rfl
        simp only [okN, Bool.and_eq_true, Bool.not_eq_true'] at h2
        have gl : Gl X y := by
          unfold glB at h1
          split at h1
          · rename_i e; show X.env.scope.names.lookup y = _; rw [hsc]; exact e
          · cases h1
        obtain ⟨k1, k2⟩ := hds_ok F hsc hN hv hd hcd r h4
        refine ⟨.cons ⟨gl, h2.1, .inl m1⟩ (fun a oe cls d pn hz hf => ?_) k1, fun q hq => ?_⟩
        · have base := pe_xf (pos := p5) xf no hz hf (pe_varL (X := X.suite a ((a, oe) :: pn)) (p := p4) hN hv hd hcd)
          have := pss_one (ps_ret (pos := p2) (pair_pe ep rfl base))
          rw [← ea] at this
          exact this
        · rcases List.mem_cons.mp hq with rfl | hq
          · exact (List.getElem?_eq_some_iff.mp ex).1
          · exact k2 q hq
      · cases h3
    · cases h
end MP

/-! C15g: _law_met(lambda: b), as the evaluator has it. -/
namespace MP
open PySem PySem.Spec PyProof.Rows L2
/-- is it the def that tells, by its text -/
def okMet (N : List Str) (sc : Scope) (xs : List (Str × Str)) (mi : Mi) : List Stmt → Bool
  | [.Try [.Return (some e) _] (h :: hs) [] [] _] => (match N with
    | [ask, n] => mi.cs.all (fun q => Nat.blt q.1 xs.length) && okN ask && okN n && visB sc ask && decide (sc.names.lookup n = some .local) && okHds sc xs mi.tl n mi.cs (h :: hs) && (match pairOf e with
      | some (tl, w, .Call (.Name a _) [] [] _) => (tl == mi.tl) && decide (w = ("told" : Str)) && decide (a = ask)
      | _ => false)
    | _ => false)
  | _ => false
/-- what the def makes of the lambda's reading -/
def TMet (K : PySem.W.Frag) (cl : Nat → Addr) (xs : List (Str × Str)) (mi : Mi) : (XK → Hp → VK → Prop) → Hp → VK → Prop := fun tl H Q => tl (wTags K cl xs mi.tl Q mi.cs) H (pairQ mi.tl "told" Q)
theorem met_makes {X : Cx} {N : List Str} {x ask : Str} {sg : Scope} {g : Addr} {cg : Value} {body : List Stmt} {xs : List (Str × Str)} {cl : Nat → Addr} {mi : Mi} (F : ExF X.K X.mg xs cl) (nd : N.Nodup) (hask : N[0]? = some ask) (ok : okMet N sg xs mi body = true) :
    Makes X N x sg g cg body ask (TMet X.K cl xs mi) ∧ Vis sg ask ∧ (ask == ("__debug__" : Str)) = false ∧ (ask == ("__classdict__" : Str)) = false ∧ ∀ q ∈ mi.cs, q.1 < xs.length := by
  unfold okMet at ok
  split at ok
  · rename_i e p1 hd hds p2
    split at ok
    · rename_i a0 n
      cases hask
      simp only [Bool.and_eq_true, decide_eq_true_eq] at ok
      obtain ⟨⟨⟨⟨⟨⟨k0, k1⟩, k2⟩, k3⟩, k4⟩, k5⟩, k6⟩ := ok
      split at k6
      · rename_i tl w a p3 p4 ep
        simp only [Bool.and_eq_true, decide_eq_true_eq, beq_iff_eq] at k6
        obtain ⟨⟨rfl, rfl⟩, rfl⟩ := k6
        simp only [okN, Bool.and_eq_true, Bool.not_eq_true'] at k1 k2
        have visA : Vis sg a := by
          unfold visB at k3
          split at k3
          · rename_i e; exact .inl e
          · rename_i e; exact .inr (.inl e)
          · rename_i e; exact .inr (.inr e)
          · cases k3
        have hcs : ∀ q ∈ mi.cs, q.1 < xs.length := fun q hq => by
          have := List.all_eq_true.mp k0 q hq
          exact Nat.le_of_ble_eq_true this
        refine ⟨fun fn cd s H Q q tl act isC told => ?_, visA, k1.1, k1.2, hcs⟩
        have cls := (hds_ok (X := (cxOf C8.CX0 X.prog X.w X.K X.mg X.base [a, n] x sg g cg X.A X.stack s H C8.E0).nox) (i := 1) (sc := sg) F rfl rfl (.inl k4) k2.1 k2.2 mi.cs k5).1
        refine ⟨_, pss_one (ps_try_named (X := (cxOf C8.CX0 X.prog X.w X.K X.mg X.base [a, n] x sg g cg X.A X.stack s H C8.E0).nox) (n := n) (i := 1)
          (tb := fun W D σ H => ∃ Ech : XK, (∀ cls d σ' H', Ech cls d H' → W cls d σ' H') ∧ σ[0]? = some (some (.ref fn)) ∧ H cd = some (LamX.CodeO cd q) ∧ tl Ech H (pairQ mi.tl "told" D.rt)) rfl rfl nd rfl k4 (fun W pn xe tk _ => ?_) cls), ?_⟩
        · refine ⟨fun pins s' σ H' D I ⟨Ech, sub, q1, q2, q3⟩ => ?_⟩
          exact (pss_one (ps_ret (pos := p1) (pair_pe ep rfl (act W pn xe Ech p3 p4 tk sub)))).run pins s' σ H' D I ⟨q1, q2, q3⟩
        · exact ⟨wTags X.K cl xs mi.tl Q mi.cs, fun c d σ' H' h => tags_ok (by show 1 < 2; omega) mi.cs h, rfl, isC, told⟩
      · cases k6
    · cases ok
  · cases ok
section
variable {X : Cx} {C : Cf} {W : WX}
/-- a pair of a word and a value -/
theorem pair_val {g : Sg} {K : PySem.W.Frag} {β : List Addr} {H H1 : Hp} {μ1 : Mem} {ns bn bn1 : Nat → List Addr} {i : Inf} {tl : Bool} {w : Str} {t : T} {v : V} {n : List Addr} {p : Addr} (st : Step K β bn H H1 μ1 bn1) (rd : Rds K β H1 t v n) (nb : ∀ a ∈ n, ¬ Bx β bn1 a)
    (src : ∀ a ∈ n, H a = none ∨ (∃ j ∈ i.dp, a ∈ ns j) ∨ (∃ j ∈ i.dc, a ∈ (ns j).drop 1)) (lin : i.lin = true → n.Nodup) (self : i.self = none) (hp : H1 p = none) : Step K β bn H (upd H1 p (pairH tl [.str w, v])) μ1 bn1 ∧ ∃ m, Val K β bn1 ns H (upd H1 p (pairH tl [.str w, v])) i (pairT tl w t) (.ref p) m := by
  have pn : p ∉ n := fun z => by
    obtain ⟨o, e, _⟩ := rd.node t p z
    rw [hp] at e
    cases e
  have n1 : New1 H1 (upd H1 p (pairH tl [.str w, v])) := .inr ⟨p, _, hp, rfl⟩
  have rd2 : RdsL K β (upd H1 p (pairH tl [.str w, v])) [.str w, t] [.str w, v] n := by
    have r1 : RdsL K β H1 [.str w, t] [.str w, v] ([] ++ (n ++ [])) := ⟨.str w, [v], [], n ++ [], rfl, ⟨rfl, rfl⟩, ⟨v, [], n, [], rfl, rd, ⟨rfl, rfl⟩, rfl⟩, rfl⟩
    rw [List.nil_append, List.append_nil] at r1
    exact r1.new n1
  refine ⟨st.trans (Step.new1 st.box n1), ?_⟩
  cases tl with
  | false =>
    exact ⟨n, ⟨p, [.str w, v], rfl, upd_same, rd2⟩, nb, src, lin, (fun _ z => by cases z), fun j z => by rw [self] at z; cases z⟩
  | true =>
    refine ⟨p :: n, ⟨p, [.str w, v], n, rfl, upd_same, rd2, rfl⟩, fun a ha => ?_, fun a ha => ?_, fun z => List.nodup_cons.mpr ⟨pn, lin z⟩, fun _ _ => ⟨p, n, rfl, st.keep.more p hp, pn⟩, fun j z => by rw [self] at z; cases z⟩
    · rcases List.mem_cons.mp ha with rfl | ha
      · exact st.box.fresh a hp
      · exact nb a ha
    · rcases List.mem_cons.mp ha with rfl | ha
      · exact .inl (st.keep.more a hp)
      · exact src a ha
/-- the classes are told apart -/
theorem tags_hit {K : PySem.W.Frag} {mg : Str → Option Value} {xs : List (Str × Str)} {cl : Nat → Addr} {tl : Bool} {Q : VK} (F : ExF K mg xs cl) {c : Nat} {d : Addr} {v : V} {H : Hp} {w : Str} (hc : c < xs.length) (hd : H d = some (.xd [(xAt xs c, v)])) (q : pairQ tl w Q v H) :
    ∀ cs : List (Nat × Str), (∀ q ∈ cs, q.1 < xs.length) → cs.lookup c = some w → wTags K cl xs tl Q cs (.ref (cl c)) (some d) H
  | [], _, e => by cases e
  | (c', w') :: r, hl, e => by
    refine ⟨c == c', F.one c c' hc (hl _ List.mem_cons_self), fun hb => ?_, fun hb => ?_⟩
    · have : c = c' := by simpa using hb
      subst this
      have e : some w' = some w := by simpa [List.lookup] using e
      cases e
      exact ⟨rfl, d, _, v, rfl, hd, by simp [List.lookup], q⟩
    · refine tags_hit F hc hd q r (fun q hq => hl q (List.mem_cons_of_mem _ hq)) ?_
      rw [List.lookup, hb] at e
      exact e
/-- what is asked of the def that tells and of this context -/
structure MetOk (X : Cx) (C : Cf) (xs : List (Str × Str)) (mi : Mi) : Prop where
  ex : ∃ (g cO tP : Addr) (pg : Arguments) (bg : List Stmt) (sg : Scope) (dV kV doc pm cg ct oc : Value) (an od : Option Addr) (osl : Array (Option Value)) (Ng : List Str) (ask : Str),
    X.mg mi.nm = some (.ref g) ∧ PySem.W.keepIn X.K (.ref g) = true ∧ X.K.lookup g = some ⟨oc, od, .func (PySem.W.fnOf mi.nm mi.nm pg bg sg dV kV doc pm an cg ct), osl⟩ ∧ PySem.W.codeIn X.K cg mi.nm = true ∧
      L2.Binds X.K (PySem.W.fnOf mi.nm mi.nm pg bg sg dV kV doc pm an cg ct) [ask] [] ∧ FnScope Ng [ask] sg ∧ Ng[0]? = some ask ∧ okMet Ng sg xs mi bg = true ∧ LamX.TabB X.base X.mg cO tP ∧ X.env.code = .ref cO ∧ (tP, X.env.qual ++ "<lambda>") ∈ tabL X.K
  uni : ∀ p ∈ tabL X.K, ∀ q ∈ tabL X.K, p.1 = q.1 → p.2 = q.2
  room : Room (C.r + 2) X.A
  gd : X.A.guards = some []
  exF : ExF X.K X.mg xs C.cl
  at_ : ∀ c, c < xs.length → C.at_ c = xAt xs c
theorem e_met {xs : List (Str × Str)} {mi : Mi} {vs : List Nat} {b : IE} {fr : Bool} {par : Arguments} {bd : Expr} {sc1 : Scope} {p lpos pos : Pos} (M : MetOk X C xs mi) (hg : Gl X mi.nm) (L : LamX.LamS X.env.scope sc1) (np : noP par = true) (db : (mi.nm == ("__debug__" : Str)) = false)
    (inner : ∀ (A : Around) (outer : List PySem.Env) (s : Shared) (H : Hp) (E : XK) (fn cd : Addr), A.guards = some [] → Room C.r (A.deeper (LamX.lamEnv X sc1 s.heap.objs.size fn cd)) → PE (LamX.lamCx X A outer s H E sc1 fn cd) bd (tE C X.K (fun c d _ H' => E c d H') b)) :
    PE X (.Call (.Name mi.nm p) [.Lambda par bd sc1 lpos] [] pos) (tE C X.K W (.met vs b mi.tl mi.cs fr)) := by
  obtain ⟨g, cO, tP, pg, bg, sg, dV, kV, doc, pm, cg, ct, oc, an, od, osl, Ng, ask, m1, m2, m3, m4, m5, m6, m7, m8, m9, m10, m11⟩ := M.ex
  obtain ⟨mk, visA, da, dc, hcs⟩ := met_makes (X := X) (x := mi.nm) (g := g) (cg := cg) M.exF m6.nd m7 m8
  refine (met_lam (p := p) (lpos := lpos) (pos := pos) hg m1 m2 m3 m4 m5 m6 m7 visA mk m9 m10 m11 (fun q hq e => M.uni q hq _ m11 e) M.room M.gd L np inner db da dc).weak fun σ H Q h => ?_
  obtain ⟨ρ, μ, β, ns, bn, S, h⟩ := h
  refine ⟨S.box.tb, fun H1 ls t1 => ?_⟩
  have st := ls.step S.box t1
  have S1 := (S.step st).mask vs
  have h : Sat (metR mi.tl mi.cs fr (evE C.F (maskV ρ vs) b μ)) _ _ := h
  have two : [V.str "told", V.non].length ≤ sizeLine := by show 2 ≤ 16777216; omega
  show tE C X.K (fun c d _ H' => wTags X.K C.cl xs mi.tl Q mi.cs c d H') b σ H1 (pairQ mi.tl "told" Q)
  refine ⟨maskV ρ vs, μ, β, maskN ns vs, bn, S1, ?_⟩
  cases e : evE C.F (maskV ρ vs) b μ with
  | stuck => rw [e] at h; exact h.elim
  | ok t μ1 =>
    rw [e] at h
    have h : ∀ v H' bn' n, Step X.K β bn H H' μ1 bn' → Val X.K β bn' ns H H' (info C.g (.met vs b mi.tl mi.cs fr)) (pairT mi.tl "told" t) v n → Q v H' := h
    intro v H2 bn2 n s2 x2
    refine ⟨two, fun p hp => ?_⟩
    have key : ∀ i : Inf, i = info C.g (.met vs b mi.tl mi.cs fr) → (∀ a ∈ n, H a = none ∨ (∃ j ∈ i.dp, a ∈ ns j) ∨ (∃ j ∈ i.dc, a ∈ (ns j).drop 1)) ∧ (i.lin = true → n.Nodup) ∧ i.self = none := fun i e => by
      cases fr with
      | false =>
        subst e
        refine ⟨fun a ha => ?_, (fun z => by cases z), rfl⟩
        rcases x2.ok.src a ha with z | ⟨j, _, z⟩ | ⟨j, _, z⟩
        · exact .inl (st.keep.more a z)
        · obtain ⟨z1, z2⟩ := maskN_sub z
          exact .inr (.inl ⟨j, z1, z2⟩)
        · obtain ⟨z1, z2⟩ := maskN_sub ((List.drop_sublist 1 _).subset z)
          exact .inr (.inl ⟨j, z1, z2⟩)
      | true =>
        subst e
        refine ⟨fun a ha => ?_, fun z => ?_, rfl⟩
        · rcases x2.ok.src a ha with z | ⟨j, hj, z⟩ | ⟨j, hj, z⟩
          · exact .inl (st.keep.more a z)
          · exact .inr (.inl ⟨j, List.mem_append_left _ hj, (maskN_sub z).2⟩)
          · refine .inr (.inr ⟨j, List.mem_append_left _ hj, ?_⟩)
            unfold maskN at z
            split at z
            · exact z
            · cases z
        · have z : ((info C.g b).lin && Inf.nil.lin && (info C.g b).dc.isEmpty && Inf.nil.dc.isEmpty && disj (info C.g b).dp Inf.nil.dp && (info C.g b).dp.all (fun i => C.g.k i == .D) && Inf.nil.dp.all (fun i => C.g.k i == .D)) = true := z
          simp only [Bool.and_eq_true] at z
          exact x2.ok.lin z.1.1.1.1.1.1
    obtain ⟨q1, q2, q3⟩ := key _ rfl
    obtain ⟨k1, m, k2⟩ := pair_val (g := C.g) (tl := mi.tl) (w := "told") (ns := ns) (st.trans s2) x2.rd x2.nb q1 q2 q3 hp
    exact h _ _ _ _ k1 k2
  | exc c t μ1 =>
    rw [e] at h
    cases ew : mi.cs.lookup c with
    | none =>
      have h : Sat (match mi.cs.lookup c with | some a => if (!fr || nodeless t) = true then Res.ok (pairT mi.tl a t) μ1 else .stuck | none => .stuck) _ _ := h
      rw [ew] at h
      exact h.elim
    | some w =>
      have h : Sat (match mi.cs.lookup c with | some a => if (!fr || nodeless t) = true then Res.ok (pairT mi.tl a t) μ1 else .stuck | none => .stuck) _ _ := h
      rw [ew] at h
      obtain ⟨fl, h⟩ := Sat_if h
      have h : ∀ v H' bn' n, Step X.K β bn H H' μ1 bn' → Val X.K β bn' ns H H' (info C.g (.met vs b mi.tl mi.cs fr)) (pairT mi.tl w t) v n → Q v H' := h
      have hc : c < xs.length := by
        have mem : ∀ (cs : List (Nat × Str)), cs.lookup c = some w → (c, w) ∈ cs := by
          intro cs
          induction cs with
          | nil => intro z; cases z
          | cons q cs ih =>
            intro z
            obtain ⟨c', w'⟩ := q
            rw [List.lookup] at z
            split at z
            · rename_i hq
              cases z
              have : c = c' := by simpa using hq
              subst this
              exact List.mem_cons_self
            · exact List.mem_cons_of_mem _ (ih z)
        exact hcs _ (mem mi.cs ew)
      intro d v H2 bn2 n h0 h1 s2 r nb sr
      rw [M.at_ c hc] at h1
      refine tags_hit M.exF hc h1 ⟨two, fun p hp => ?_⟩ mi.cs hcs ew
      have key : ∀ i : Inf, i = info C.g (.met vs b mi.tl mi.cs fr) → (∀ a ∈ n, H a = none ∨ (∃ j ∈ i.dp, a ∈ ns j) ∨ (∃ j ∈ i.dc, a ∈ (ns j).drop 1)) ∧ (i.lin = true → n.Nodup) ∧ i.self = none := fun i e => by
        cases fr with
        | false =>
          subst e
          refine ⟨fun a ha => ?_, (fun z => by cases z), rfl⟩
          rcases sr a ha with z | ⟨j, z⟩
          · exact .inl (st.keep.more a z)
          · obtain ⟨z1, z2⟩ := maskN_sub z
            exact .inr (.inl ⟨j, z1, z2⟩)
        | true =>
          subst e
          have nl : nodeless t = true := fl
          obtain rfl := r.nil t nl
          exact ⟨(fun _ z => by cases z), (fun _ => List.nodup_nil), rfl⟩
      obtain ⟨q1, q2, q3⟩ := key _ rfl
      obtain ⟨k1, m, k2⟩ := pair_val (g := C.g) (tl := mi.tl) (w := w) (ns := ns) (st.trans s2) r nb q1 q2 q3 hp
      exact h _ _ _ _ k1 k2
end
end MP

/-! C17: what is checked holds: expressions. -/
namespace MP
open PySem L2

/-- in every context that shares X's ground, calls of defs hold their promise -/
def CallAll (X : Cx) (C : Cf) (fs : List Fi) (fa : Nat → Addr) : Prop := ∀ (X' : Cx) (W' : WX), X'.prog = X.prog → X'.w = X.w → X'.K = X.K → X'.mg = X.mg → X'.base = X.base → X'.A.guards = some [] → Room C.r X'.A → Takes X' W' → CallOk X' C W' fs fa
structure EK (X : Cx) (C : Cf) (W : WX) (ck : Ck) (fa : Nat → Addr) (sc : Scope) : Prop where
  N : X.N = ck.N
  nd : ck.N.Nodup
  calm : X.calm = true
  guards : X.A.guards = some []
  units : X.A.units + 65 < cLine
  sc : X.env.scope = sc
  bl : ∀ nm ∈ ck.blt, X.mg nm = none
  call : CallAll X C ck.fs fa
  g : C.g = ck.g
  tk : Takes X W
  room : Room C.r X.A
  met : ∀ mi, ck.met = some mi → MetOk X C ck.xs mi
theorem W0_takes {X : Cx} : Takes X W0 := fun u s' ⟨_, _, _, _, _, _, _, _, _, _, _, _, _, _, _, _, w⟩ => w.elim
section
variable {X : Cx} {C : Cf} {W : WX} {ck : Ck} {fa : Nat → Addr} {sc : Scope} {pos : Pos}
theorem EK.blk (E : EK X C W ck fa sc) (s : Shared) (H : Hp) (scope : Scope) (C' : Addr) (cl : List (Str × Addr)) (fp : List Addr) : EK (X.blk s H scope (compEnvC scope cl C' X.env) fp) C W0 ck.noMet fa (relS scope sc) where
  N := E.N
  nd := E.nd
  calm := E.calm
  guards := E.guards
  units := E.units
  sc := by rw [← E.sc] <;> rfl
  bl := E.bl
  call := fun X' W' h1 h2 h3 h4 h5 h6 h7 => E.call X' W' h1 h2 h3 h4 h5 h6 h7
  g := E.g
  tk := W0_takes
  room := E.room
  met := fun _ h => by cases h
theorem EK.lam (E : EK X C W ck fa sc) {A : Around} {outer : List PySem.Env} {s : Shared} {H : Hp} {Er : XK} {sc1 : Scope} {fn cd : Addr} (gd : A.guards = some []) (room : Room C.r (A.deeper (LamX.lamEnv X sc1 s.heap.objs.size fn cd))) :
    EK (LamX.lamCx X A outer s H Er sc1 fn cd) C (fun c d _ H' => Er c d H') ck.noMet fa sc1 where
  N := E.N
  nd := E.nd
  calm := rfl
  guards := gd
  units := by
    have un := room.un
    show (A.deeper (LamX.lamEnv X sc1 s.heap.objs.size fn cd)).units + 65 < cLine
    omega
  sc := rfl
  bl := E.bl
  call := fun X' W' h1 h2 h3 h4 h5 h6 h7 => E.call X' W' h1 h2 h3 h4 h5 h6 h7
  g := E.g
  tk := takes_of (X := LamX.lamCx X A outer s H Er sc1 fn cd) rfl rfl rfl (E := Er) rfl
  room := room
  met := fun _ h => by cases h
theorem vis_of {nm : Str} (h : visB sc nm = true) : Vis sc nm := by
  unfold visB at h
  split at h
  · rename_i e; exact .inl e
  · rename_i e; exact .inr (.inl e)
  · rename_i e; exact .inr (.inr e)
  · cases h
theorem EK.gl (E : EK X C W ck fa sc) {nm : Str} (h : glB sc nm = true) : Gl X nm := by
  unfold glB at h
  split at h
  · rename_i e
    show X.env.scope.names.lookup nm = _
    rw [E.sc]
    exact e
  · cases h
theorem EK.blt (E : EK X C W ck fa sc) {nm : Str} (h : blB ck sc nm = true) : Gl X nm ∧ X.mg nm = none := by
  unfold blB at h
  rw [Bool.and_eq_true] at h
  exact ⟨E.gl h.1, E.bl nm (by simpa using h.2)⟩
theorem EK.var (E : EK X C W ck fa sc) {i : Nat} {nm : Str} {p : Pos} (h : chkV ck sc i (.Name nm p) = true) : X.N[i]? = some nm ∧ Vis X.env.scope nm ∧ (nm == ("__debug__" : Str)) = false ∧ (nm == ("__classdict__" : Str)) = false := by
  simp only [chkV, okN, Bool.and_eq_true, decide_eq_true_eq, Bool.not_eq_true'] at h
  obtain ⟨⟨h1, h2⟩, h3, h4⟩ := h
  refine ⟨by rw [E.N]; exact h1, ?_, h3, h4⟩
  rw [E.sc]
  exact vis_of h2
theorem chkV_name {i : Nat} {e : Expr} (h : chkV ck sc i e = true) : ∃ nm p, e = .Name nm p := by
  cases e <;> first | exact ⟨_, _, rfl⟩ | cases h
theorem plain_tru {e : Expr} {env : PySem.Env} (h : plainT e = true) : ∀ whole, isTrue e env whole = (do let v ← whole; standAt e.pos; holding [v] (truthy v)) := by
  cases e with
  | UnaryOp op x p => cases op <;> first | (intro _; rfl) | cases h
  | BoolOp _ _ _ => cases h
  | IfExp _ _ _ _ => cases h
  | Compare _ _ _ _ => cases h
  | _ => intro _; rfl
theorem plain_ix {b : Expr} (h : plainIx b = true) : PlainIx b := by
  cases b with
  | Slice _ _ _ _ => cases h
  | _ => intro _ _; rfl
theorem not_set {it : Expr} {env : PySem.Env} (h : notSet it = true) : ∀ x, foldedSetIterable it env x = pure x := by
  cases it with
  | Set _ _ _ => cases h
  | _ => intro _; rfl
def Both (X : Cx) (C : Cf) (W : WX) (tst : Bool) (ie : IE) (e : Expr) : Prop := (tst = false → PE X e (tE C X.K W ie)) ∧ (tst = true → PT X e (tT C X.K W ie))
theorem both {tst : Bool} {ie : IE} {e : Expr} (h : PE X e (tE C X.K W ie)) (hp : plainT e = true) : Both X C W tst ie e := ⟨fun _ => h, fun _ => t_val h (plain_tru hp)⟩
theorem both0 {tst : Bool} {ie : IE} {e : Expr} (h : PE X e (tE C X.K W ie)) (ht : (!tst) = true) : Both X C W tst ie e := ⟨fun _ => h, fun z => by subst z; cases ht⟩
theorem never_pe {e : Expr} : PE X e (tE C X.K W .never) := ⟨fun _ _ _ _ _ _ h => by obtain ⟨_, _, _, _, _, _, h⟩ := h; exact h.elim⟩
theorem never_pt {e : Expr} : PT X e (tT C X.K W .never) := ⟨fun _ _ _ _ _ _ h => by obtain ⟨_, _, _, _, _, _, h⟩ := h; exact h.elim⟩
theorem t_imm {e : Expr} {x : IE} (h : PT X e (tT C X.K W x)) : PT X e (tT C X.K W (.imm x)) := h.weak fun σ H Q h => by
  obtain ⟨ρ, μ, β, ns, bn, S, h⟩ := h
  refine ⟨ρ, μ, β, ns, bn, S, (Sat_bind h).mono (fun t μ1 h => ?_) fun _ _ _ e => e⟩
  obtain ⟨ok, h⟩ := Sat_if h
  exact h
theorem pt_ifExp {c a b : Expr} {tA ta tb : TT} (hc : PT X c tA) (ha : PT X a ta) (hb : PT X b tb) : PT X (.IfExp c a b pos) (fun σ H Q => tA σ H fun d H1 => if d = true then ta σ H1 Q else tb σ H1 Q) := ⟨fun pins s σ H Q I h => by
  refine PyProof.Rows.isTrue_IfExp (thn (hc.run pins s σ H _ I h) fun d s1 ⟨H1, I1, q1⟩ => ?_)
  cases d with
  | true => exact ha.run pins s1 σ H1 Q I1 q1
  | false => exact hb.run pins s1 σ H1 Q I1 q1⟩
theorem t_ite {c a b : Expr} {z x y : IE} (hc : PT X c (tT C X.K W z)) (ha : PT X a (tT C X.K W x)) (hb : PT X b (tT C X.K W y)) : PT X (.IfExp c a b pos) (tT C X.K W (.ite z x y)) := (pt_ifExp hc ha hb).weak fun σ H Q h => by
  obtain ⟨ρ, μ, β, ns, bn, S, h⟩ := h
  refine useT S (Sat_bind h) (fun t μ1 h => ?_) fun d μ1 H1 bn1 h s1 => ?_
  · cases t <;> first | exact False.elim h | exact ⟨_, rfl⟩
  · cases d with
    | true =>
      rw [if_pos rfl]
      have h : Sat (evE C.F ρ x μ1) _ _ := h
      exact ⟨ρ, μ1, β, ns, bn1, S.step s1, (Sat.later s1 h).mono (fun t μ2 ⟨b, e, k⟩ => ⟨b, e, fun H2 bn2 s2 => k H2 bn2 (s1.trans s2)⟩) fun _ _ _ e => e⟩
    | false =>
      rw [if_neg (by decide)]
      have h : Sat (evE C.F ρ y μ1) _ _ := h
      exact ⟨ρ, μ1, β, ns, bn1, S.step s1, (Sat.later s1 h).mono (fun t μ2 ⟨b, e, k⟩ => ⟨b, e, fun H2 bn2 s2 => k H2 bn2 (s1.trans s2)⟩) fun _ _ _ e => e⟩
theorem chkTys_ok (E : EK X C W ck fa sc) : ∀ {cs : List Ty} {es : List Expr}, chkTys ck sc cs es = true → ∃ ps : List Pos, cs.length = ps.length ∧ es = ((cs.zip ps).map fun c => .Name c.1.nm c.2) ∧ ∀ c ∈ cs, Gl X c.nm ∧ X.mg c.nm = none
  | [], [], _ => ⟨[], rfl, rfl, fun _ z => by cases z⟩
  | [], _ :: _, h => by simp [chkTys] at h
  | c :: cs, [], h => by simp [chkTys] at h
  | c :: cs, e :: es, h => by
    cases e with
    | Name nm p =>
      simp only [chkTys, Bool.and_eq_true, decide_eq_true_eq] at h
      obtain ⟨⟨rfl, h1⟩, h2⟩ := h
      obtain ⟨ps, l, rfl, hg⟩ := chkTys_ok E h2
      refine ⟨p :: ps, by simp [l], rfl, fun d hd => ?_⟩
      rcases List.mem_cons.mp hd with rfl | hd
      · exact E.blt h1
      · exact hg d hd
    | _ => simp [chkTys] at h
mutual
theorem chkTg_ok (hN : X.N = ck.N) (nd : ck.N.Nodup) (hc : X.calm = true) (hs : X.env.scope = sc) {raw : Scope} (hf : ∀ x, raw.names.lookup x = some .cell → X.fn x = true) : ∀ (t : Tg) {e : Expr}, chkTg ck raw sc t e = true → PG X e (gTg X.K t)
  | .nm i, e, h => by
    cases e with
    | Name nm p =>
      simp only [chkTg, Bool.and_eq_true, decide_eq_true_eq] at h
      obtain ⟨h1, h2⟩ := h
      subst hs
      have hi : X.N[i]? = some nm := by rw [hN]; exact h1
      have nd' : X.N.Nodup := by rw [hN]; exact nd
      split at h2
      · rename_i e; exact pg_name nd' hi (.inl e) (.inr e)
      · rename_i e
        split at h2
        · rename_i e'; exact pg_name nd' hi (.inr e) (.inl (hf nm e'))
        · cases h2
      · cases h2
    | _ => simp [chkTg] at h
  | .tp ts, e, h => by
    cases e with
    | Tuple es k p =>
      simp only [chkTg] at h
      obtain ⟨h1, h2, h3⟩ := chkTgs_ok hN nd hc hs hf ts h
      exact pg_tup hc h1 h2 h3
    | _ => simp [chkTg] at h
theorem chkTgs_ok (hN : X.N = ck.N) (nd : ck.N.Nodup) (hc : X.calm = true) (hs : X.env.scope = sc) {raw : Scope} (hf : ∀ x, raw.names.lookup x = some .cell → X.fn x = true) : ∀ (ts : List Tg) {es : List Expr}, chkTgs ck raw sc ts es = true → PGs X es (gTgs X.K ts) ∧ (assignEach es X.env).length = ts.length ∧ (assignEach es X.env).findIdx? (·.1) = none
  | [], es, h => by
    cases es with
    | nil => exact ⟨pgs_nil, rfl, rfl⟩
    | cons _ _ => simp [chkTgs] at h
  | t :: ts, es, h => by
    cases es with
    | nil => simp [chkTgs] at h
    | cons e es =>
      simp only [chkTgs, Bool.and_eq_true] at h
      obtain ⟨⟨h1, h2⟩, h3⟩ := h
      have g1 := chkTg_ok hN nd hc hs hf t h2
      obtain ⟨g2, g3, g4⟩ := chkTgs_ok hN nd hc hs hf ts h3
      have ea : assignEach (e :: es) X.env = (false, assign e X.env) :: assignEach es X.env := by cases e <;> first | rfl | cases h1
      refine ⟨pgs_cons g1 g2 (by rw [ea] <;> rfl), by rw [ea, List.length_cons, List.length_cons, g3], ?_⟩
      rw [ea, List.findIdx?_cons, if_neg (by simp), g4] <;> rfl
end
end
end MP

/-! C18: what is checked holds: all expressions. -/
namespace MP
open PySem L2
section
variable {C : Cf} {fa : Nat → Addr}
/-- max, min of two -/
theorem e_bi2 {X : Cx} {W : WX} {a b : Expr} {x y : IE} {pos : Pos} (bi : BI) {p : Pos} (h2 : bi = .max2 ∨ bi = .min2) (hc : X.calm = true) (hgd : X.A.guards = some []) (hu : X.A.units + 65 < cLine) (hg : Gl X bi.name) (hm : X.mg bi.name = none) (ha : PE X a (tE C X.K W x)) (hst : nost a = true) (hb : PE X b (tE C X.K W y)) (hst2 : nost b = true) :
    PE X (.Call (.Name bi.name p) [a, b] [] pos) (tE C X.K W (.bi bi [x, y])) :=
  (pe_callBI bi (crBI hc hgd hu bi) hg hm (pa_cons ha (pa_cons hb pa_nil (star_cons hst2)) (star_cons hst)) hst (by simp [hst2])).weak fun σ H Q h => by
  obtain ⟨ρ, μ, β, ns, bn, S, h⟩ := h
  have h : Sat (((evE C.F ρ x μ).bind fun t μ => (((evE C.F ρ y μ).bind fun u μ => (Res.ok [] μ).bind fun r μ => .ok (u :: r) μ)).bind fun r μ => .ok (t :: r) μ).bind _) _ _ := h
  refine use S (Sat_bind (Sat_bind h)) fun t μ1 v H1 bn1 n h s1 x1 => ?_
  refine use (S.step s1) ((Sat_bind (Sat_bind h)).later s1) fun u μ2 w H2 bn2 m h s2 y1 => ?_
  obtain ⟨ok, h⟩ := Sat_if (b := [t, u].all fun t => kidsOk t (kidsOf (view μ2 t))) (r := opt (pBI bi [view μ2 t, view μ2 u]) μ2) h
  obtain ⟨r, e, q⟩ := Sat_opt h
  have s := s1.trans s2
  obtain ⟨n', r1, _, _⟩ := view_ok (g := C.g) s2.box (x1.step s2)
  obtain ⟨m', r2, _, _⟩ := view_ok (g := C.g) s2.box y1
  refine ⟨β, [view μ2 t, view μ2 u], r, n' ++ m', ⟨v, [w], n', m', rfl, r1, RdsL.one.mpr ⟨w, rfl, r2⟩, rfl⟩, e, ?_⟩
  have e : pBI bi [view μ2 t, view μ2 u] = some r := e
  have nl : nodeless r = true := by
    rcases h2 with rfl | rfl
    all_goals
      revert e
      cases view μ2 t <;> cases view μ2 u <;> simp only [pBI, reduceCtorEq, false_implies, Option.some.injEq]
      intro e
      subst e
      rfl
  have hi : info C.g (.bi bi [x, y]) = .nil := by rcases h2 with rfl | rfl <;> rfl
  rw [hi] at q
  exact fin_imm s2.box s nl rfl q
mutual
theorem chkE_ok {ck : Ck} : ∀ (ie : IE) {X : Cx} {W : WX} {sc : Scope} {tst : Bool} {e : Expr}, EK X C W ck fa sc → chkE ck sc tst ie e = true → Both X C W tst ie e
  | .var i, X, W, sc, tst, e, E, h => by
    simp only [chkE] at h
    obtain ⟨nm, p, rfl⟩ := chkV_name h
    obtain ⟨h1, h2, h3, h4⟩ := E.var h
    exact both (e_var h1 h2 h3 h4) rfl
  | .cst t, X, W, sc, tst, e, E, h => by
    simp only [chkE] at h
    cases e with
    | Constant c j p =>
      cases t <;> cases c <;> simp only [chkC, reduceCtorEq, decide_eq_true_eq, beq_iff_eq] at h
      · exact both (e_cst pe_non (fun _ _ => ⟨rfl, rfl⟩) rfl) rfl
      · subst h; exact both (e_cst pe_bl (fun _ _ => ⟨rfl, rfl⟩) rfl) rfl
      · subst h; exact both (e_cst pe_int (fun _ _ => ⟨rfl, rfl⟩) rfl) rfl
      · subst h; exact both (e_cst pe_str (fun _ _ => ⟨rfl, rfl⟩) rfl) rfl
    | _ => cases t <;> simp [chkC] at h
  | .un a, X, W, sc, tst, e, E, h => by
    simp only [chkE] at h
    split at h
    · exact both (e_un ((chkE_ok a E h).1 rfl)) rfl
    · cases h
  | .bin op a b, X, W, sc, tst, e, E, h => by
    simp only [chkE] at h
    split at h
    · simp only [Bool.and_eq_true, decide_eq_true_eq] at h
      obtain ⟨⟨rfl, h1⟩, h2⟩ := h
      exact both (e_bin op ((chkE_ok a E h1).1 rfl) ((chkE_ok b E h2).1 rfl)) rfl
    · cases h
  | .cmp op a b, X, W, sc, tst, e, E, h => by
    simp only [chkE] at h
    split at h
    · simp only [Bool.and_eq_true, decide_eq_true_eq, Bool.not_eq_true'] at h
      obtain ⟨⟨⟨rfl, h1⟩, h2⟩, h3⟩ := h
      have ha := (chkE_ok a E h1).1 rfl
      have hb := (chkE_ok b E h2).1 rfl
      exact ⟨fun _ => e_cmp op E.units ha hb h3, fun _ => t_cmp op E.units ha hb h3⟩
    · cases h
  | .chn op op' a b c, X, W, sc, tst, e, E, h => by
    simp only [chkE] at h
    split at h
    · simp only [Bool.and_eq_true, decide_eq_true_eq, Bool.not_eq_true'] at h
      obtain ⟨⟨⟨⟨⟨rfl, rfl⟩, h1⟩, h2⟩, h3⟩, h4⟩ := h
      have ha := (chkE_ok a E h1).1 rfl
      have hb := (chkE_ok b E h2).1 rfl
      have hc := (chkE_ok c E h3).1 rfl
      exact ⟨fun _ => e_chn op op' E.units ha hb hc h4, fun _ => t_chn op op' E.units ha hb hc h4⟩
    · cases h
  | .bop k as, X, W, sc, tst, e, E, h => by
    simp only [chkE] at h
    split at h
    · simp only [Bool.and_eq_true, decide_eq_true_eq] at h
      obtain ⟨rfl, h1⟩ := h
      obtain ⟨h2, h3⟩ := chkB_ok as E h1
      exact ⟨fun z => (h2 z _ _).weak fun σ H Q h => h, fun z => ((h3 z _ _).pt).weak fun σ H Q h => h⟩
    · cases h
  | .nt a, X, W, sc, tst, e, E, h => by
    simp only [chkE] at h
    split at h
    · obtain ⟨h1, h2⟩ := chkE_ok a E h
      exact ⟨fun z => e_nt (h1 z), fun z => t_nt (h2 z)⟩
    · cases h
  | .ite c a b, X, W, sc, tst, e, E, h => by
    simp only [chkE] at h
    split at h
    · simp only [Bool.and_eq_true] at h
      obtain ⟨⟨h1, h2⟩, h3⟩ := h
      exact ⟨fun z => by
        subst z
        exact e_ite ((chkE_ok c E h1).2 rfl) ((chkE_ok a E h2).1 rfl) ((chkE_ok b E h3).1 rfl), fun z => by
        subst z
        exact t_ite ((chkE_ok c E h1).2 rfl) ((chkE_ok a E h2).2 rfl) ((chkE_ok b E h3).2 rfl)⟩
    · cases h
  | .lst as, X, W, sc, tst, e, E, h => by
    simp only [chkE] at h
    split at h
    · exact both (e_lst (chkS_ok as E h)) rfl
    · cases h
  | .tup as, X, W, sc, tst, e, E, h => by
    simp only [chkE] at h
    split at h
    · exact both (e_tup (chkL_ok as E h).1) rfl
    · cases h
  | .sub a b, X, W, sc, tst, e, E, h => by
    simp only [chkE] at h
    split at h
    · simp only [Bool.and_eq_true] at h
      obtain ⟨⟨h1, h2⟩, h3⟩ := h
      exact both (e_sub E.units ((chkE_ok a E h2).1 rfl) ((chkE_ok b E h3).1 rfl) (plain_ix h1)) rfl
    · cases h
  | .slc a lo hi, X, W, sc, tst, e, E, h => by
    simp only [chkE] at h
    split at h
    · simp only [Bool.and_eq_true] at h
      obtain ⟨⟨h1, h2⟩, h3⟩ := h
      exact both (e_slc ((chkE_ok a E h1).1 rfl) (chkO_ok lo E h2) (chkO_ok hi E h3)) rfl
    · cases h
  | .rev a, X, W, sc, tst, e, E, h => by
    simp only [chkE] at h
    split at h
    · exact both (e_rev ((chkE_ok a E h).1 rfl)) rfl
    · cases h
  | .call f as kw, X, W, sc, tst, e, E, h => by
    simp only [chkE] at h
    split at h
    · split at h
      · rename_i fi hf
        simp only [Bool.and_eq_true, decide_eq_true_eq] at h
        obtain ⟨⟨⟨⟨⟨⟨rfl, h1⟩, h2⟩, h3⟩, h4⟩, h5⟩, h6⟩ := h
        obtain ⟨l1, l2, l3⟩ := chkL_ok as E h5
        simp only [okN, Bool.and_eq_true, Bool.not_eq_true'] at h2
        exact both (e_call (E.call X W rfl rfl rfl rfl rfl E.guards E.room E.tk) hf (E.gl h1) h2.1 h3 l3 h4 l1 (chkK_ok kw E h6) l2) rfl
      · cases h
    · cases h
  | .bi b [], X, W, sc, tst, e, E, h => by simp [chkE] at h
  | .bi b [a], X, W, sc, tst, e, E, h => by
    simp only [chkE] at h
    split at h
    · simp only [Bool.and_eq_true, decide_eq_true_eq] at h
      obtain ⟨⟨⟨rfl, h1⟩, h2⟩, h3⟩ := h
      obtain ⟨g1, g2⟩ := E.blt h1
      exact both (e_bi1 b E.calm E.guards E.units g1 g2 ((chkE_ok a E h3).1 rfl) h2) rfl
    · cases h
  | .bi b [a, a2], X, W, sc, tst, e, E, h => by
    simp only [chkE] at h
    split at h
    · simp only [Bool.and_eq_true, decide_eq_true_eq] at h
      obtain ⟨⟨⟨⟨⟨⟨h0, rfl⟩, h1⟩, h2⟩, h3⟩, h4⟩, h5⟩ := h
      obtain ⟨g1, g2⟩ := E.blt h1
      have hb : b = .max2 ∨ b = .min2 := by cases b <;> first | exact .inl rfl | exact .inr rfl | cases h0
      exact both (e_bi2 b hb E.calm E.guards E.units g1 g2 ((chkE_ok a E h4).1 rfl) h2 ((chkE_ok a2 E h5).1 rfl) h3) rfl
    · cases h
  | .bi b (_ :: _ :: _ :: _), X, W, sc, tst, e, E, h => by simp [chkE] at h
  | .isi a cs one, X, W, sc, tst, e, E, h => by
    simp only [chkE] at h
    split at h
    · simp only [Bool.and_eq_true, decide_eq_true_eq] at h
      obtain ⟨⟨⟨⟨rfl, h1⟩, h2⟩, h3⟩, h4⟩ := h
      obtain ⟨g1, g2⟩ := E.blt h1
      have ha := (chkE_ok a E h3).1 rfl
      split at h4
      · simp only [Bool.and_eq_true, decide_eq_true_eq] at h4
        obtain ⟨rfl, h5⟩ := h4
        obtain ⟨g3, g4⟩ := E.blt h5
        exact both (e_isi (cs := []) g1 g2 g3 g4 ha h2) rfl
      · simp only [Bool.and_eq_true] at h4
        obtain ⟨ps, l, rfl, hg⟩ := chkTys_ok E h4.2
        exact both (e_isiT g1 g2 l h4.1 hg ha h2) rfl
      · cases h4
    · cases h
  | .meth _ _ _, X, W, sc, tst, e, E, h => by simp [chkE] at h
  | .lc el t it cnd, X, W, sc, tst, e, E, h => by
    simp only [chkE] at h
    split at h
    · rename_i elt tg iter ifs scope p
      have nd : X.N.Nodup := by rw [E.N]; exact E.nd
      rw [Bool.or_eq_true] at h
      rcases h with h | h
      rotate_left
      · simp only [Bool.and_eq_true, List.isEmpty_iff] at h
        obtain ⟨⟨h1, h2⟩, h3⟩ := h
        obtain ⟨i, rfl, hv⟩ := lcK0_keys h3
        obtain ⟨nm, p1, rfl⟩ := chkV_name hv
        obtain ⟨v1, v2, v3, v4⟩ := E.var hv
        exact both (e_lcKeys0 E.calm nd v1 v2 v3 v4 (by rw [E.N, E.sc]; exact blkOk_by h1) h2) rfl
      simp only [Bool.and_eq_true, List.all_eq_true] at h
      obtain ⟨⟨⟨⟨⟨⟨h1, h2⟩, h3⟩, h4⟩, h5⟩, h6⟩, h7⟩ := h
      have bl : BlkOk X.N X.env.scope scope (ownOf ck t) := by rw [E.N, E.sc]; exact blkOk_by h1
      refine both (e_lc E.calm nd (chkI_ok it E h4) bl (fun s H C' cl fp => ?_) (fun s H C' cl fp => chkCn_ok cnd (E.blk s H scope C' cl fp) h7) (fun s H C' cl fp => (chkE_ok el (E.blk s H scope C' cl fp) h6).1 rfl) (not_set h3) (by unfold ownOf; rw [List.map_map]; exact List.map_id _) fun i hi => ?_) rfl
      · exact chkTg_ok (ck := ck) (X := X.blk s H scope (compEnvC scope cl C' X.env) fp) E.N E.nd E.calm (E.blk s H scope C' cl fp).sc (fun x hx => by show (scope.names.lookup x == some .cell) = true; rw [hx] <;> rfl) t h5
      · have := h2 i hi
        rw [E.g]
        simpa using this
    · cases h
  | .imm a, X, W, sc, tst, e, E, h => by
    simp only [chkE] at h
    obtain ⟨h1, h2⟩ := chkE_ok a E h
    exact ⟨fun z => e_imm (h1 z), fun z => t_imm (h2 z)⟩
  | .flat a, X, W, sc, tst, e, E, h => by
    simp only [chkE, Bool.and_eq_true] at h
    exact both0 (e_flat ((chkE_ok a E h.2).1 rfl)) h.1
  | .ls a, X, W, sc, tst, e, E, h => by
    simp only [chkE, Bool.and_eq_true] at h
    exact both0 (e_ls ((chkE_ok a E h.2).1 rfl)) h.1
  | .dnew tk, X, W, sc, tst, e, E, h => by
    simp only [chkE] at h
    split at h
    · exact both (e_dnew tk) rfl
    · cases h
  | .neNil i a, X, W, sc, tst, e, E, h => by
    simp only [chkE] at h
    split at h
    · simp only [Bool.and_eq_true] at h
      obtain ⟨⟨h1, h2⟩, h3⟩ := h
      obtain ⟨nm, p, rfl⟩ := chkV_name h1
      obtain ⟨v1, v2, v3, v4⟩ := E.var h1
      exact ⟨fun _ => e_neNil E.units v1 v2 v3 v4 ((chkE_ok a E h3).1 rfl) (plain_ix h2), fun _ => t_neNil E.units v1 v2 v3 v4 ((chkE_ok a E h3).1 rfl) (plain_ix h2)⟩
    · cases h
  | .popAt i a b, X, W, sc, tst, e, E, h => by
    simp only [chkE] at h
    split at h
    · simp only [Bool.and_eq_true, decide_eq_true_eq] at h
      obtain ⟨⟨⟨⟨⟨h0, rfl⟩, hl⟩, h1⟩, h2⟩, h3⟩ := h
      obtain ⟨nm, p, rfl⟩ := chkV_name h1
      obtain ⟨v1, v2, v3, v4⟩ := E.var h1
      split at h0
      · exact both (e_popAt E.units v1 v2 v3 v4 ((chkE_ok a E h3).1 rfl) (plain_ix h2) hl) rfl
      · cases h0
    · cases h
  | .lof tp it, X, W, sc, tst, e, E, h => by
    simp only [chkE] at h
    split at h
    · simp only [Bool.and_eq_true, decide_eq_true_eq] at h
      obtain ⟨⟨⟨⟨rfl, h1⟩, rfl⟩, h3⟩, h4⟩ := h
      obtain ⟨g1, g2⟩ := E.blt h1
      obtain ⟨g3, g4⟩ := E.blt h3
      cases it with
      | rng1 a =>
        simp only [chkR] at h4
        split at h4
        · rw [Bool.and_eq_true] at h4
          exact both (e_lof1 tp E.calm g1 g2 g3 g4 ((chkE_ok a E h4.2).1 rfl) h4.1) rfl
        · cases h4
      | rng2 a b =>
        simp only [chkR] at h4
        split at h4
        · simp only [Bool.and_eq_true] at h4
          obtain ⟨⟨⟨k1, k2⟩, k3⟩, k4⟩ := h4
          exact both (e_lof2 tp E.calm g1 g2 g3 g4 ((chkE_ok a E k3).1 rfl) k1 ((chkE_ok b E k4).1 rfl) k2) rfl
        · cases h4
      | _ => simp [chkR] at h4
    · cases h
  | .met vs b tl cs fr, X, W, sc, tst, e, E, h => by
    simp only [chkE] at h
    split at h
    · rename_i nm p1 par bd sc1 p2 p3
      split at h
      · rename_i mi hmi
        simp only [Bool.and_eq_true, decide_eq_true_eq, beq_iff_eq] at h
        obtain ⟨⟨⟨⟨⟨⟨⟨rfl, h1⟩, h2⟩, rfl⟩, rfl⟩, h3⟩, h4⟩, h5⟩ := h
        simp only [okN, Bool.and_eq_true, Bool.not_eq_true'] at h2
        have L : LamX.LamS X.env.scope sc1 := by rw [E.sc]; exact LamX.lamS_by h4
        exact both (e_met (E.met mi hmi) (E.gl h1) L h3 h2.1 fun A outer s H Er fn cd gd room => (chkE_ok b (E.lam gd room) h5).1 rfl) rfl
      · cases h
    · cases h
  | .itm a, X, W, sc, tst, e, E, h => by
    simp only [chkE] at h
    split at h
    · rename_i nm p x at_ apos cpos pos
      simp only [Bool.and_eq_true, decide_eq_true_eq] at h
      obtain ⟨⟨⟨⟨⟨rfl, h1⟩, rfl⟩, h2⟩, h3⟩, h4⟩ := h
      obtain ⟨g1, g2⟩ := E.blt h1
      split at h3
      · exact both (e_itm E.calm g1 g2 ((chkE_ok a E h4).1 rfl) rfl h2) rfl
      · cases h3
    · cases h
  | .never, X, W, sc, tst, e, E, h => ⟨fun _ => never_pe, fun _ => never_pt⟩
theorem chkB_ok {ck : Ck} : ∀ (as : List IE) {X : Cx} {W : WX} {sc : Scope} {tst : Bool} {es : List Expr}, EK X C W ck fa sc → chkB ck sc tst as es = true → (tst = false → ∀ (k : Bool) (pos : Pos), PE X (.BoolOp (if k then .And else .Or) es pos) (tEB C X.K W k as)) ∧ (tst = true → ∀ (k : Bool) (pos : Pos), PW X (.BoolOp (if k then .And else .Or) es pos) (tTB C X.K W k as))
  | [], X, W, sc, tst, es, E, h => by simp [chkB] at h
  | [a], X, W, sc, tst, es, E, h => by
    simp only [chkB] at h
    split at h
    · obtain ⟨h1, h2⟩ := chkE_ok a E h
      exact ⟨fun z k pos => e_b1 (h1 z), fun z k pos => t_b1 (h2 z)⟩
    · cases h
  | a :: b :: as, X, W, sc, tst, es, E, h => by
    simp only [chkB] at h
    split at h
    · rename_i x xs
      rw [Bool.and_eq_true] at h
      obtain ⟨h1, h2⟩ := chkE_ok a E h.1
      obtain ⟨h3, h4⟩ := chkB_ok (b :: as) E h.2
      cases xs with
      | nil => exact absurd h.2 (by cases as <;> simp [chkB])
      | cons y ys => exact ⟨fun z k pos => e_b2 (h1 z) (h3 z k pos), fun z k pos => t_b2 (h2 z) (h4 z k pos)⟩
    · cases h
theorem chkS_ok {ck : Ck} : ∀ (as : List (Bool × IE)) {X : Cx} {W : WX} {sc : Scope} {es : List Expr}, EK X C W ck fa sc → chkS ck sc as es = true → PA X es (tLs C X.K W (fun ρ => evS C.F ρ as) (infoS C.g as))
  | [], X, W, sc, es, E, h => by
    simp only [chkS] at h
    split at h
    · exact l_nil fun ρ μ => rfl
    · cases h
  | (st, a) :: as, X, W, sc, es, E, h => by
    simp only [chkS] at h
    split at h
    · rename_i x xs
      rw [Bool.and_eq_true] at h
      obtain ⟨h1, h2⟩ := h
      have hr := chkS_ok as E h2
      cases st with
      | true =>
        dsimp only at h1
        split at h1
        · exact l_star ((chkE_ok a E h1).1 rfl) hr fun ρ μ => rfl
        · cases h1
      | false =>
        dsimp only at h1
        rw [Bool.and_eq_true] at h1
        exact l_cons ((chkE_ok a E h1.2).1 rfl) hr (fun ρ μ => rfl) (star_cons h1.1)
    · cases h
theorem chkL_ok {ck : Ck} : ∀ (as : List IE) {X : Cx} {W : WX} {sc : Scope} {es : List Expr}, EK X C W ck fa sc → chkL ck sc as es = true → PA X es (tLs C X.K W (fun ρ => evL C.F ρ as) (infoL C.g as)) ∧ as.length = es.length ∧ es.all nost = true
  | [], X, W, sc, es, E, h => by
    simp only [chkL] at h
    split at h
    · exact ⟨l_nil fun ρ μ => rfl, rfl, rfl⟩
    · cases h
  | a :: as, X, W, sc, es, E, h => by
    simp only [chkL] at h
    split at h
    · rename_i x xs
      simp only [Bool.and_eq_true] at h
      obtain ⟨⟨h1, h2⟩, h3⟩ := h
      obtain ⟨r1, r2, r3⟩ := chkL_ok as E h3
      exact ⟨l_cons ((chkE_ok a E h2).1 rfl) r1 (fun ρ μ => rfl) (star_cons h1), by simp [r2], by simp [h1]; simpa using r3⟩
    · cases h
theorem chkK_ok {ck : Ck} : ∀ (as : List (Nat × IE)) {X : Cx} {W : WX} {sc : Scope} {kws : List Keyword}, EK X C W ck fa sc → chkK ck sc as kws = true → PK X kws (tLs C X.K W (fun ρ => evK C.F ρ as) (infoK C.g as))
  | [], X, W, sc, kws, E, h => by
    simp only [chkK] at h
    split at h
    · exact k_nil fun ρ μ => rfl
    · cases h
  | (_, a) :: as, X, W, sc, kws, E, h => by
    simp only [chkK] at h
    split at h
    · rw [Bool.and_eq_true] at h
      exact k_cons ((chkE_ok a E h.1).1 rfl) (chkK_ok as E h.2) fun ρ μ => rfl
    · cases h
theorem chkO_ok {ck : Ck} : ∀ (o : Option IE) {X : Cx} {W : WX} {sc : Scope} {eo : Option Expr}, EK X C W ck fa sc → chkO ck sc o eo = true → PO X eo (tO C X.K W o)
  | none, X, W, sc, eo, E, h => by
    simp only [chkO] at h
    split at h
    · exact o_none
    · cases h
  | some a, X, W, sc, eo, E, h => by
    simp only [chkO] at h
    split at h
    · exact o_some ((chkE_ok a E h).1 rfl)
    · cases h
theorem chkCn_ok {ck : Ck} : ∀ (o : Option IE) {X : Cx} {sc : Scope} {es : List Expr}, EK X C W0 ck fa sc → chkCn ck sc o es = true → PTs X es (tC0 C X.K o)
  | none, X, sc, es, E, h => by
    simp only [chkCn] at h
    split at h
    · exact pts_nil
    · cases h
  | some a, X, sc, es, E, h => by
    simp only [chkCn] at h
    split at h
    · exact pts_one ((chkE_ok a E h).2 rfl)
    · cases h
theorem chkI_ok {ck : Ck} : ∀ (ii : II) {X : Cx} {W : WX} {sc : Scope} {tg e : Expr}, EK X C W ck fa sc → chkI ck sc ii tg e = true → PI X tg e (tI C X.K W ii)
  | .seq a, X, W, sc, tg, e, E, h => by
    simp only [chkI] at h
    exact i_seq ((chkE_ok a E h).1 rfl)
  | .rng1 a, X, W, sc, tg, e, E, h => by
    simp only [chkI] at h
    split at h
    · simp only [Bool.and_eq_true, decide_eq_true_eq] at h
      obtain ⟨⟨⟨rfl, h1⟩, h2⟩, h3⟩ := h
      obtain ⟨g1, g2⟩ := E.blt h1
      exact i_rng1 g1 g2 ((chkE_ok a E h3).1 rfl) h2
    · cases h
  | .rng2 a b, X, W, sc, tg, e, E, h => by
    simp only [chkI] at h
    split at h
    · simp only [Bool.and_eq_true, decide_eq_true_eq] at h
      obtain ⟨⟨⟨⟨⟨rfl, h1⟩, h2⟩, h3⟩, h4⟩, h5⟩ := h
      obtain ⟨g1, g2⟩ := E.blt h1
      exact i_rng2 g1 g2 ((chkE_ok a E h4).1 rfl) h2 ((chkE_ok b E h5).1 rfl) h3
    · cases h
  | .enum a, X, W, sc, tg, e, E, h => by
    simp only [chkI] at h
    split at h
    · split at h
      · simp only [Bool.and_eq_true, decide_eq_true_eq] at h
        obtain ⟨⟨⟨rfl, h1⟩, h2⟩, h3⟩ := h
        obtain ⟨g1, g2⟩ := E.blt h1
        exact i_enum g1 g2 ((chkE_ok a E h3).1 rfl) h2
      · cases h
    · cases h
  | .zip a b, X, W, sc, tg, e, E, h => by
    simp only [chkI] at h
    split at h
    · split at h
      · simp only [Bool.and_eq_true, decide_eq_true_eq] at h
        obtain ⟨⟨⟨⟨⟨rfl, h1⟩, h2⟩, h3⟩, h4⟩, h5⟩ := h
        obtain ⟨g1, g2⟩ := E.blt h1
        exact i_zip g1 g2 ((chkE_ok a E h4).1 rfl) h2 ((chkE_ok b E h5).1 rfl) h3
      · cases h
    · cases h
  | .rng3 a b c, X, W, sc, tg, e, E, h => by
    simp only [chkI] at h
    split at h
    · simp only [Bool.and_eq_true, decide_eq_true_eq] at h
      obtain ⟨⟨⟨⟨⟨⟨⟨rfl, h1⟩, h2⟩, h3⟩, h3'⟩, h4⟩, h5⟩, h6⟩ := h
      obtain ⟨g1, g2⟩ := E.blt h1
      exact i_rng3 g1 g2 ((chkE_ok a E h4).1 rfl) h2 ((chkE_ok b E h5).1 rfl) h3 ((chkE_ok c E h6).1 rfl) h3'
    · cases h
  | .keys _, X, W, sc, tg, e, E, h => by simp [chkI] at h
  | .items _, X, W, sc, tg, e, E, h => by simp [chkI] at h
end
end
end MP

/-! C19: the state of a statement. -/
namespace MP
open PySem L2

/-- what is fixed through a def's body: the boxes, the heap and the arguments' nodes at the entry -/
structure Fx where
  β : List Addr
  bn : Nat → List Addr
  H : Hp
  A : List Addr
/-- what is walked just now: its nodes, what is to stay true of them -/
structure Tmp where
  b : List Addr
  m : List Addr
  G : Hp → Prop
structure TmpOk (g : Sg) (fx : Fx) (β : List Addr) (bn ns : Nat → List Addr) (H : Hp) (q : Tmp) : Prop where
  nb : ∀ a ∈ q.m, ¬ Bx β bn a
  d : ∀ i, g.k i = .D → ∀ a ∈ ns i, a ∉ q.m
  p : ∀ i, g.k i = .P → ∀ a ∈ (ns i).take 1, a ∉ q.m
  trk : ∀ a ∈ q.m, H a ≠ none
  keep : ∀ (B : Addr → Prop) (H1 H2 : Hp), q.G H1 → Keeps B H1 H2 → (∀ a ∈ q.m, ¬ B a) → q.G H2
  holds : q.G H
  ln : ∀ a ∈ q.m, fx.H a = none ∨ a ∈ fx.A
  pre : ∃ r, β = q.b ++ r
structure SSt (K : PySem.W.Frag) (g : Sg) (fx : Fx) (ts : List Tmp) (β : List Addr) (H : Hp) (ρ : Env) (σ : St) (μ : Mem) (ns bn : Nat → List Addr) : Prop where
  e : ESt K g β H ρ σ μ ns bn
  dd : ∀ i j, i ≠ j → g.k i = .D → ∀ a ∈ ns i, a ∉ ns j
  pn : ∀ i, g.k i = .P → ∀ a ∈ (ns i).take 1, a ∉ (ns i).drop 1
  dp : ∀ i j, i ≠ j → g.k i = .P → ∀ a ∈ (ns i).take 1, a ∉ ns j
  frd : ∀ i, g.k i = .D → ∀ a ∈ ns i, fx.H a = none
  frp : ∀ i, g.k i = .P → ∀ a ∈ (ns i).take 1, fx.H a = none
  keep : Keeps (Bx fx.β fx.bn) fx.H H
  sub : ∀ a, Bx β bn a → Bx fx.β fx.bn a ∨ fx.H a = none
  pre : ∃ r, β = fx.β ++ r
  ln : ∀ i, ∀ a ∈ ns i, fx.H a = none ∨ a ∈ fx.A
  tm : ∀ q ∈ ts, TmpOk g fx β bn ns H q
section
variable {K : PySem.W.Frag} {g : Sg} {fx : Fx} {ts : List Tmp} {β : List Addr} {H H' H1 : Hp} {ρ : Env} {σ : St} {μ μ' : Mem} {ns bn bn' : Nat → List Addr} {i : Inf} {t : T} {v : V} {n : List Addr} {x : Nat}
theorem SSt.step (S : SSt K g fx ts β H ρ σ μ ns bn) (s : Step K β bn H H' μ' bn') : SSt K g fx ts β H' ρ σ μ' ns bn' where
  e := S.e.step s
  dd := S.dd
  pn := S.pn
  dp := S.dp
  frd := S.frd
  frp := S.frp
  keep := S.keep.trans s.keep S.sub
  sub := fun a h => by
    rcases s.sub a h with z | z
    · exact S.sub a z
    · exact .inr (S.keep.more a z)
  pre := S.pre
  ln := S.ln
  tm := fun q hq => by
    have T := S.tm q hq
    exact ⟨fun a ha => s.nb (T.trk a ha) (T.nb a ha), T.d, T.p, fun a ha z => T.trk a ha (s.keep.more a z), T.keep, T.keep _ _ _ T.holds s.keep T.nb, T.ln, T.pre⟩
theorem getV_kill {ρ : Env} : ∀ {is : List Nat} {j : Nat}, getV (kill ρ is) j = if j ∈ is then none else getV ρ j
  | [], j => by simp [kill]
  | i :: is, j => by
    show getV ((kill ρ is).set i none) j = _
    rw [getV_none, getV_kill]
    by_cases h : j = i
    · simp [h]
    · by_cases h2 : j ∈ is <;> simp [h, h2]
theorem kill_len {ρ : Env} : ∀ {is : List Nat}, (kill ρ is).length = ρ.length
  | [] => rfl
  | i :: is => by show ((kill ρ is).set i none).length = _; rw [List.length_set, kill_len]
/-- slots are given away -/
def nsK (ns : Nat → List Addr) (is : List Nat) : Nat → List Addr := fun j => if j ∈ is then [] else ns j
theorem nsK_sub {is : List Nat} {j : Nat} {a : Addr} (h : a ∈ nsK ns is j) : j ∉ is ∧ a ∈ ns j := by
  unfold nsK at h
  split at h
  · cases h
  · rename_i q; exact ⟨q, h⟩
theorem nsK_take {is : List Nat} {j : Nat} {a : Addr} (h : a ∈ (nsK ns is j).take 1) : j ∉ is ∧ a ∈ (ns j).take 1 := by
  unfold nsK at h
  split at h
  · cases h
  · rename_i q; exact ⟨q, h⟩
theorem SSt.kill (S : SSt K g fx ts β H ρ σ μ ns bn) (is : List Nat) : SSt K g fx ts β H (kill ρ is) σ μ (nsK ns is) bn where
  e := {
    box := S.e.box
    len := by rw [kill_len]; exact S.e.len
    sl := fun j u e => by
      rw [getV_kill] at e
      unfold nsK
      split at e
      · cases e
      · rename_i q
        rw [if_neg q]
        exact S.e.sl j u e
    no := fun j e => by
      rw [getV_kill] at e
      unfold nsK
      split
      · rfl
      · rename_i q
        rw [if_neg q] at e
        exact S.e.no j e
    sb := fun j a h => S.e.sb j a (nsK_sub h).2
    dn := fun j hj => by
      unfold nsK
      split
      · exact List.nodup_nil
      · exact S.e.dn j hj
    dd := fun j l hne h1 h2 a ha z => S.e.dd j l hne h1 h2 a (nsK_sub ha).2 (nsK_sub z).2
    pk := fun j u hj e => by
      rw [getV_kill] at e
      unfold nsK
      split
      · exact .inr rfl
      · rename_i q
        rw [if_neg q] at e
        exact S.e.pk j u hj e }
  dd := fun j l hne h1 a ha z => S.dd j l hne h1 a (nsK_sub ha).2 (nsK_sub z).2
  pn := fun j hj a ha z => by
    obtain ⟨q, h⟩ := nsK_take ha
    unfold nsK at z
    rw [if_neg q] at z
    exact S.pn j hj a h z
  dp := fun j l hne hj a ha z => S.dp j l hne hj a (nsK_take ha).2 (nsK_sub z).2
  frd := fun j hj a ha => S.frd j hj a (nsK_sub ha).2
  frp := fun j hj a ha => S.frp j hj a (nsK_take ha).2
  keep := S.keep
  sub := S.sub
  pre := S.pre
  ln := fun j a ha => S.ln j a (nsK_sub ha).2
  tm := fun q hq => by
    have T := S.tm q hq
    exact ⟨T.nb, fun j hj a ha => T.d j hj a (nsK_sub ha).2, fun j hj a ha => T.p j hj a (nsK_take ha).2, T.trk, T.keep, T.holds, T.ln, T.pre⟩
/-- may the value go into slot x -/
structure Fits (g : Sg) (fx : Fx) (ts : List Tmp) (ns : Nat → List Addr) (x : Nat) (t : T) (n : List Addr) : Prop where
  d : ∀ j, j ≠ x → g.k j = .D → ∀ a ∈ ns j, a ∉ n
  p : ∀ j, j ≠ x → g.k j = .P → ∀ a ∈ (ns j).take 1, a ∉ n
  ln : ∀ a ∈ n, fx.H a = none ∨ a ∈ fx.A
  ifD : g.k x = .D → n.Nodup ∧ (∀ j, j ≠ x → ∀ a ∈ n, a ∉ ns j) ∧ (∀ a ∈ n, fx.H a = none) ∧ ∀ q ∈ ts, ∀ a ∈ n, a ∉ q.m
  ifP : g.k x = .P → (isNode t = true ∨ n = []) ∧ (∀ a ∈ n.take 1, a ∉ n.drop 1) ∧ (∀ j, j ≠ x → ∀ a ∈ n.take 1, a ∉ ns j) ∧ (∀ a ∈ n.take 1, fx.H a = none) ∧ ∀ q ∈ ts, ∀ a ∈ n.take 1, a ∉ q.m
def nsP (ns : Nat → List Addr) (x : Nat) (b : Bool) (n : List Addr) : Nat → List Addr := fun j => if j = x then (if b then n else []) else ns j
theorem nsP_self {b : Bool} {a : Addr} (h : a ∈ nsP ns x b n x) : a ∈ n := by
  unfold nsP at h
  rw [if_pos rfl] at h
  split at h
  · exact h
  · cases h
theorem nsP_selfT {b : Bool} {a : Addr} (h : a ∈ (nsP ns x b n x).take 1) : a ∈ n.take 1 := by
  unfold nsP at h
  rw [if_pos rfl] at h
  split at h
  · exact h
  · cases h
theorem nsP_ne {b : Bool} {j : Nat} (h : j ≠ x) : nsP ns x b n j = ns j := if_neg h
theorem SSt.put (S : SSt K g fx ts β H ρ σ μ ns bn) (r : Rds K β H t v n) (nb : ∀ a ∈ n, ¬ Bx β bn a) (F : Fits g fx ts ns x t n) : SSt K g fx ts β H (ρ.set x (some t)) (σ.set x (some v)) μ (nsP ns x (decide (x < ρ.length)) n) bn where
  e := {
    box := S.e.box
    len := by rw [List.length_set, List.length_set]; exact S.e.len
    sl := fun j u e => by
      rw [getV_set] at e
      by_cases h : j = x
      · subst h
        by_cases hl : j < ρ.length
        · rw [if_pos ⟨rfl, hl⟩] at e
          cases e
          refine ⟨v, List.getElem?_set_self (by rw [← S.e.len]; exact hl), ?_⟩
          unfold nsP
          rw [if_pos rfl, if_pos (by simpa using hl)]
          exact r
        · rw [if_neg (fun z => hl z.2)] at e
          unfold getV at e
          rw [List.getElem?_eq_none (by simpa using hl)] at e
          cases e
      · rw [if_neg (fun z => h z.1)] at e
        rw [nsP_ne h, List.getElem?_set_ne (fun z => h z.symm)]
        exact S.e.sl j u e
    no := fun j e => by
      rw [getV_set] at e
      by_cases h : j = x
      · subst h
        unfold nsP
        rw [if_pos rfl]
        split
        · rename_i hl
          rw [if_pos ⟨rfl, by simpa using hl⟩] at e; cases e
        · rfl
      · rw [if_neg (fun z => h z.1)] at e
        rw [nsP_ne h]
        exact S.e.no j e
    sb := fun j a ha => by
      by_cases h : j = x
      · subst h; exact nb a (nsP_self ha)
      · rw [nsP_ne h] at ha
        exact S.e.sb j a ha
    dn := fun j hj => by
      by_cases h : j = x
      · subst h
        unfold nsP
        rw [if_pos rfl]
        split
        · exact (F.ifD hj).1
        · exact List.nodup_nil
      · rw [nsP_ne h]; exact S.e.dn j hj
    dd := fun j l hne h1 h2 a ha z => by
      by_cases h : j = x
      · subst h
        rw [nsP_ne (fun z => hne z.symm)] at z
        exact (F.ifD h1).2.1 l (fun z => hne z.symm) a (nsP_self ha) z
      · rw [nsP_ne h] at ha
        by_cases h' : l = x
        · subst h'; exact F.d j h h1 a ha (nsP_self z)
        · rw [nsP_ne h'] at z
          exact S.e.dd j l hne h1 h2 a ha z
    pk := fun j u hj e => by
      rw [getV_set] at e
      by_cases h : j = x
      · subst h
        by_cases hl : j < ρ.length
        · rw [if_pos ⟨rfl, hl⟩] at e
          cases e
          rcases (F.ifP hj).1 with q | q
          · exact .inl q
          · refine .inr ?_
            unfold nsP
            rw [if_pos rfl, if_pos (by simpa using hl), q]
        · rw [if_neg (fun z => hl z.2)] at e
          unfold getV at e
          rw [List.getElem?_eq_none (by simpa using hl)] at e
          cases e
      · rw [if_neg (fun z => h z.1)] at e
        rw [nsP_ne h]
        exact S.e.pk j u hj e }
  dd := fun j l hne h1 a ha z => by
    by_cases h : j = x
    · subst h
      rw [nsP_ne (fun z => hne z.symm)] at z
      exact (F.ifD h1).2.1 l (fun z => hne z.symm) a (nsP_self ha) z
    · rw [nsP_ne h] at ha
      by_cases h' : l = x
      · subst h'; exact F.d j h h1 a ha (nsP_self z)
      · rw [nsP_ne h'] at z
        exact S.dd j l hne h1 a ha z
  pn := fun j hj a ha z => by
    by_cases h : j = x
    · subst h
      have h1 := nsP_selfT ha
      unfold nsP at z
      rw [if_pos rfl] at z
      split at z
      · exact (F.ifP hj).2.1 a h1 z
      · cases z
    · rw [nsP_ne h] at ha z
      exact S.pn j hj a ha z
  dp := fun j l hne hj a ha z => by
    by_cases h : j = x
    · subst h
      rw [nsP_ne (fun z => hne z.symm)] at z
      exact (F.ifP hj).2.2.1 l (fun z => hne z.symm) a (nsP_selfT ha) z
    · rw [nsP_ne h] at ha
      by_cases h' : l = x
      · subst h'; exact F.p j h hj a ha (nsP_self z)
      · rw [nsP_ne h'] at z
        exact S.dp j l hne hj a ha z
  frd := fun j hj a ha => by
    by_cases h : j = x
    · subst h; exact (F.ifD hj).2.2.1 a (nsP_self ha)
    · rw [nsP_ne h] at ha; exact S.frd j hj a ha
  frp := fun j hj a ha => by
    by_cases h : j = x
    · subst h; exact (F.ifP hj).2.2.2.1 a (nsP_selfT ha)
    · rw [nsP_ne h] at ha; exact S.frp j hj a ha
  keep := S.keep
  sub := S.sub
  pre := S.pre
  ln := fun j a ha => by
    by_cases h : j = x
    · subst h; exact F.ln a (nsP_self ha)
    · rw [nsP_ne h] at ha; exact S.ln j a ha
  tm := fun q hq => by
    have T := S.tm q hq
    refine ⟨T.nb, fun j hj a ha => ?_, fun j hj a ha => ?_, T.trk, T.keep, T.holds, T.ln, T.pre⟩
    · by_cases h : j = x
      · subst h; exact (F.ifD hj).2.2.2 q hq a (nsP_self ha)
      · rw [nsP_ne h] at ha; exact T.d j hj a ha
    · by_cases h : j = x
      · subst h; exact (F.ifP hj).2.2.2.2 q hq a (nsP_selfT ha)
      · rw [nsP_ne h] at ha; exact T.p j hj a ha
/-- by the text: may the value go into slot x, when ks are given away -/
def fitsB (g : Sg) (i : Inf) (ks : List Nat) (x : Nat) (nd : Bool) : Bool := match g.k x with
  | .S => i.dp.all (fun j => g.k j == .S || ks.contains j || j == x) && i.dc.all fun j => g.k j != .D || ks.contains j || j == x
  | .D => i.lin && i.dc.isEmpty && i.dp.all fun j => g.k j == .D && (ks.contains j || j == x)
  | .P => i.top && nd && i.dp.all (fun j => g.k j == .S || ks.contains j || j == x) && i.dc.all fun j => g.k j != .D || ks.contains j || j == x
theorem fits_ok {ks : List Nat} {nd : Bool} (S : SSt K g fx ts β H ρ σ μ ns bn) (s : Step K β bn H H1 μ' bn') (V : Val K β bn' ns H H1 i t v n) (h : fitsB g i ks x nd = true) (hn : nd = true → isNode t = true) : Fits g fx ts (nsK ns ks) x t n := by
  have trk : ∀ j a, a ∈ ns j → H a ≠ none := fun j a ha z => by
    obtain ⟨o, e, _⟩ := S.e.node ha
    rw [e] at z; cases z
  have ln : ∀ a ∈ n, fx.H a = none ∨ a ∈ fx.A := fun a ha => by
    rcases V.ok.src a ha with z | ⟨j, _, z⟩ | ⟨j, _, z⟩
    · exact .inl (S.keep.more a z)
    · exact S.ln j a z
    · exact S.ln j a (List.mem_of_mem_drop z)
  -- where the nodes lie, by the weaker conditions
  have weak : (i.dp.all (fun j => g.k j == .S || ks.contains j || j == x) && i.dc.all fun j => g.k j != .D || ks.contains j || j == x) = true →
      (∀ j, j ≠ x → g.k j = .D → ∀ a ∈ nsK ns ks j, a ∉ n) ∧ ∀ j, j ≠ x → g.k j = .P → ∀ a ∈ (nsK ns ks j).take 1, a ∉ n := fun w => by
    rw [Bool.and_eq_true] at w
    have w1 : ∀ l ∈ i.dp, g.k l = .S ∨ l ∈ ks ∨ l = x := fun l hl => by
      have := List.all_eq_true.mp w.1 l hl
      simpa [or_assoc] using this
    have w2 : ∀ l ∈ i.dc, g.k l ≠ .D ∨ l ∈ ks ∨ l = x := fun l hl => by
      have := List.all_eq_true.mp w.2 l hl
      simpa [or_assoc] using this
    refine ⟨fun j hj hk a ha z => ?_, fun j hj hk a ha z => ?_⟩
    · obtain ⟨q, ha⟩ := nsK_sub ha
      rcases V.ok.src a z with e | ⟨l, l1, l2⟩ | ⟨l, l1, l2⟩
      · exact trk j a ha e
      · by_cases hl : l = j
        · subst hl
          rcases w1 l l1 with e | e | e
          · rw [hk] at e; cases e
          · exact q e
          · exact hj e
        · exact S.dd j l (fun z => hl z.symm) hk a ha l2
      · by_cases hl : l = j
        · subst hl
          rcases w2 l l1 with e | e | e
          · exact e hk
          · exact q e
          · exact hj e
        · exact S.dd j l (fun z => hl z.symm) hk a ha (List.mem_of_mem_drop l2)
    · obtain ⟨q, ha⟩ := nsK_take ha
      rcases V.ok.src a z with e | ⟨l, l1, l2⟩ | ⟨l, l1, l2⟩
      · exact trk j a (List.mem_of_mem_take ha) e
      · by_cases hl : l = j
        · subst hl
          rcases w1 l l1 with e | e | e
          · rw [hk] at e; cases e
          · exact q e
          · exact hj e
        · exact S.dp j l (fun z => hl z.symm) hk a ha l2
      · by_cases hl : l = j
        · subst hl; exact S.pn l hk a ha l2
        · exact S.dp j l (fun z => hl z.symm) hk a ha (List.mem_of_mem_drop l2)
  unfold fitsB at h
  cases hk : g.k x with
  | S =>
    rw [hk] at h
    obtain ⟨h1, h2⟩ := weak h
    exact ⟨h1, h2, ln, (fun z => by rw [hk] at z; cases z), fun z => by rw [hk] at z; cases z⟩
  | D =>
    rw [hk] at h
    simp only [Bool.and_eq_true, List.all_eq_true, beq_iff_eq, Bool.or_eq_true] at h
    obtain ⟨⟨h1, h2⟩, h3⟩ := h
    have hc : ∀ l, l ∉ i.dc := fun l hl => by rw [List.isEmpty_iff.mp h2] at hl; cases hl
    have w : ∀ l ∈ i.dp, g.k l = .D ∧ (l ∈ ks ∨ l = x) := fun l hl => by
      have := h3 l hl
      simpa using this
    have src : ∀ a ∈ n, H a = none ∨ ∃ l, l ∈ i.dp ∧ a ∈ ns l := fun a ha => by
      rcases V.ok.src a ha with e | ⟨l, l1, l2⟩ | ⟨l, l1, _⟩
      · exact .inl e
      · exact .inr ⟨l, l1, l2⟩
      · exact (hc l l1).elim
    have away : ∀ j, j ≠ x → ∀ a ∈ n, a ∉ nsK ns ks j := fun j hj a ha z => by
      obtain ⟨q, z⟩ := nsK_sub z
      rcases src a ha with e | ⟨l, l1, l2⟩
      · exact trk j a z e
      · by_cases hl : l = j
        · subst hl
          rcases (w l l1).2 with e | e
          · exact q e
          · exact hj e
        · exact S.dd l j hl (w l l1).1 a l2 z
    refine ⟨fun j hj _ a ha z => away j hj a z ha, fun j hj _ a ha z => away j hj a z (List.mem_of_mem_take ha), ln, fun _ => ⟨V.ok.lin h1, away, fun a ha => ?_, fun q hq a ha z => ?_⟩, fun z => by rw [hk] at z; cases z⟩
    · rcases src a ha with e | ⟨l, l1, l2⟩
      · exact S.keep.more a e
      · exact S.frd l (w l l1).1 a l2
    · have T := S.tm q hq
      rcases src a ha with e | ⟨l, l1, l2⟩
      · exact T.trk a z e
      · exact T.d l (w l l1).1 a l2 z
  | P =>
    rw [hk] at h
    have h : (i.top && nd && i.dp.all (fun j => g.k j == .S || ks.contains j || j == x) && i.dc.all fun j => g.k j != .D || ks.contains j || j == x) = true := h
    rw [Bool.and_eq_true, Bool.and_eq_true, Bool.and_eq_true] at h
    obtain ⟨⟨⟨h0, h0'⟩, w1⟩, w2⟩ := h
    obtain ⟨h1, h2⟩ := weak (by rw [Bool.and_eq_true]; exact ⟨w1, w2⟩)
    obtain ⟨p, m, rfl, hp, hm⟩ := V.ok.top h0 (hn h0')
    refine ⟨h1, h2, ln, (fun z => by rw [hk] at z; cases z), fun _ => ⟨.inl (hn h0'), fun a ha z => ?_, fun j hj a ha z => ?_, fun a ha => ?_, fun q hq a ha z => ?_⟩⟩
    · obtain rfl : a = p := by simpa using ha
      exact hm z
    · obtain rfl : a = p := by simpa using ha
      exact trk j a (nsK_sub z).2 hp
    · obtain rfl : a = p := by simpa using ha
      exact S.keep.more a hp
    · obtain rfl : a = p := by simpa using ha
      exact (S.tm q hq).trk a z hp
end
end MP

/-! C20: a slot's own list changes in place. -/
namespace MP
open PySem L2
section
variable {K : PySem.W.Frag} {g : Sg} {fx : Fx} {ts : List Tmp} {β : List Addr} {H H' H1 : Hp} {ρ : Env} {σ : St} {μ μ' : Mem} {ns bn bn' : Nat → List Addr} {i : Inf} {t c : T} {v : V} {n : List Addr} {x : Nat}
theorem Keeps.put {B : Addr → Prop} {H0 H : Hp} {a : Addr} {o : HO} (k : Keeps B H0 H) (h : H0 a = none) : Keeps B H0 (upd H a o) where
  keep := fun b u e nb nt => by rw [upd_ne (fun z => by rw [z, h] at e; cases e)]; exact k.keep b u e nb nt
  tup := fun b u e => by rw [upd_ne (fun z => by rw [z, h] at e; cases e)]; exact k.tup b u e
  frz := fun b u w e => by rw [upd_ne (fun z => by rw [z, h] at e; cases e)]; exact k.frz b u w e
  more := fun b e => by
    by_cases z : b = a
    · rw [z]; exact h
    · rw [upd_ne z] at e; exact k.more b e
/-- a thing that nobody reads is written -/
theorem SSt.wr (S : SSt K g fx ts β H ρ σ μ ns bn) {a : Addr} {o u : HO} (ho : H a = some u) (hm : isMut u = true) (free : ∀ j, a ∉ ns j) (nb : ¬ Bx β bn a) (h0 : fx.H a = none) (tm : ∀ q ∈ ts, a ∉ q.m) : SSt K g fx ts β (upd H a o) ρ σ μ ns bn := by
  have kp : Keeps (fun y => y = a) H (upd H a o) := Keeps.write ho rfl hm
  have s : Step K β bn H H μ bn := Step.refl S.e.box
  have bx : BoxOk K β (upd H a o) μ bn := ⟨S.e.box.len, fun k t e => by
    obtain ⟨p, e1, r, bl, nd⟩ := S.e.box.rd k t e
    have hk : k < β.length := by rw [S.e.box.len]; exact (List.getElem?_eq_some_iff.mp e).1
    exact ⟨p, e1, r.keep kp (fun _ _ e => e) t fun b hb z => nb ⟨k, hk, z ▸ hb⟩, bl, nd⟩, S.e.box.dj, S.e.box.tb.write ho hm⟩
  refine ⟨⟨bx, S.e.len, fun i t e => ?_, S.e.no, S.e.sb, S.e.dn, S.e.dd, S.e.pk⟩, S.dd, S.pn, S.dp, S.frd, S.frp, S.keep.put h0, S.sub, S.pre, S.ln, fun q hq => ?_⟩
  · obtain ⟨v, e1, r⟩ := S.e.sl i t e
    exact ⟨v, e1, r.keep kp (fun _ _ e => e) t fun b hb z => free i (z ▸ hb)⟩
  · have T := S.tm q hq
    refine ⟨T.nb, T.d, T.p, fun b hb z => ?_, T.keep, T.keep _ _ _ T.holds kp (fun b hb z => tm q hq (z ▸ hb)), T.ln, T.pre⟩
    by_cases hb' : b = a
    · rw [hb', upd_same] at z; cases z
    · rw [upd_ne hb'] at z; exact T.trk b hb z
/-- by the text: may the value's nodes go into slot x's thing -/
def chB (g : Sg) (i : Inf) (ks : List Nat) (x : Nat) : Bool := match g.k x with
  | .S => false
  | .D => i.lin && i.dc.isEmpty && i.dp.all fun j => g.k j == .D && ks.contains j && !(j == x)
  | .P => (i.dp.all fun j => (g.k j == .S || ks.contains j) && !(j == x)) && i.dc.all fun j => g.k j != .D || ks.contains j
theorem SSt.change0 {ks : List Nat} (S : SSt K g fx ts β H ρ σ μ ns bn) (s : Step K β bn H H1 μ' bn') (Vsrc : ∀ a ∈ n, H a = none ∨ (∃ j ∈ i.dp, a ∈ ns j) ∨ (∃ j ∈ i.dc, a ∈ (ns j).drop 1)) (Vnb : ∀ a ∈ n, ¬ Bx β bn' a) (Vlin : i.lin = true → n.Nodup) (h : chB g i ks x = true) (hx : getV ρ x = some c) (hks : x ∉ ks) (hc : isNode c = true) :
    ∃ a m o, σ[x]? = some (some (.ref a)) ∧ ns x = a :: m ∧ H1 a = some o ∧ isMut o = true ∧ Rds K β H1 c (.ref a) (a :: m) ∧ a ∉ m ∧ a ∉ n ∧
      ∀ o' c' m', (∀ b ∈ m', b ∈ m ∨ b ∈ n) → ((∀ b ∈ m, b ∉ n) → m.Nodup → n.Nodup → m'.Nodup) → Rds K β (upd H1 a o') c' (.ref a) (a :: m') → isNode c' = true →
        ∃ ns', SSt K g fx ts β (upd H1 a o') ((MP.kill ρ ks).set x (some c')) σ μ' ns' bn' := by
  have S1 := S.step s
  obtain ⟨v0, ev, r0⟩ := S1.e.sl x c hx
  obtain ⟨a, m, rfl, en⟩ : ∃ a m, v0 = .ref a ∧ ns x = a :: m := by
    cases c <;> try (cases hc; done)
    · obtain ⟨a, _, m, e1, _, _, e2⟩ := r0; exact ⟨a, m, e1, e2⟩
    · obtain ⟨a, _, m, e1, _, _, _, e2⟩ := r0; exact ⟨a, m, e1, e2⟩
    · obtain ⟨a, _, m, e1, _, _, _, e2⟩ := r0; exact ⟨a, m, e1, e2⟩
  have r0' := r0
  rw [en] at r0'
  obtain ⟨o, ho, hm⟩ := r0'.node _ a List.mem_cons_self
  have trk : ∀ j b, b ∈ ns j → H b ≠ none := fun j b hb z => by
    obtain ⟨o, e, _⟩ := S.e.node hb
    rw [e] at z; cases z
  have tk1 : a ∈ (ns x).take 1 := by rw [en]; simp
  have mx : a ∈ ns x := by rw [en]; simp
  have dr : ∀ b ∈ m, b ∈ (ns x).drop 1 := fun b hb => by rw [en]; simpa using hb
  have hkS : g.k x ≠ .S := fun z => by unfold chB at h; rw [z] at h; cases h
  -- a alone
  have ham : a ∉ m := fun z => by
    cases hk : g.k x with
    | S => exact hkS hk
    | D =>
      have := S.e.dn x hk
      rw [en] at this
      exact (List.nodup_cons.mp this).1 z
    | P => exact S.pn x hk a tk1 (dr a z)
  have haj : ∀ j, j ≠ x → a ∉ ns j := fun j hj z => by
    cases hk : g.k x with
    | S => exact hkS hk
    | D => exact S.dd x j (fun z => hj z.symm) hk a mx z
    | P => exact S.dp x j (fun z => hj z.symm) hk a tk1 z
  have ha0 : fx.H a = none := by
    cases hk : g.k x with
    | S => exact absurd hk hkS
    | D => exact S.frd x hk a mx
    | P => exact S.frp x hk a tk1
  have haT : ∀ q ∈ ts, a ∉ q.m := fun q hq => by
    cases hk : g.k x with
    | S => exact absurd hk hkS
    | D => exact (S.tm q hq).d x hk a mx
    | P => exact (S.tm q hq).p x hk a tk1
  have dpx : ∀ l ∈ i.dp, l ≠ x := fun l hl z => by
    unfold chB at h
    cases hk : g.k x with
    | S => exact hkS hk
    | D =>
      rw [hk] at h
      simp only [Bool.and_eq_true, List.all_eq_true] at h
      have := h.2 l hl
      simp [z] at this
    | P =>
      rw [hk] at h
      simp only [Bool.and_eq_true, List.all_eq_true] at h
      have := h.1 l hl
      simp [z] at this
  have han : a ∉ n := fun z => by
    rcases Vsrc a z with e | ⟨l, l1, l2⟩ | ⟨l, l1, l2⟩
    · exact trk x a mx e
    · exact haj l (dpx l l1) l2
    · by_cases hl : l = x
      · subst hl
        rw [en] at l2
        exact ham (by simpa using l2)
      · exact haj l hl (List.mem_of_mem_drop l2)
  have ln : ∀ b ∈ n, fx.H b = none ∨ b ∈ fx.A := fun b hb => by
    rcases Vsrc b hb with z | ⟨j, _, z⟩ | ⟨j, _, z⟩
    · exact .inl (S.keep.more b z)
    · exact S.ln j b z
    · exact S.ln j b (List.mem_of_mem_drop z)
  refine ⟨a, m, o, ev, en, ho, hm, r0', ham, han, fun o' c' m' hsub hnd rd hn' => ?_⟩
  have S2 := S1.kill (x :: ks)
  have nK : ∀ j b, b ∈ nsK ns (x :: ks) j → j ≠ x ∧ j ∉ ks ∧ b ∈ ns j := fun j b hb => by
    obtain ⟨q, z⟩ := nsK_sub hb
    exact ⟨fun e => q (by simp [e]), fun e => q (by simp [e]), z⟩
  have nT : ∀ j b, b ∈ (nsK ns (x :: ks) j).take 1 → j ≠ x ∧ j ∉ ks ∧ b ∈ (ns j).take 1 := fun j b hb => by
    obtain ⟨q, z⟩ := nsK_take hb
    exact ⟨fun e => q (by simp [e]), fun e => q (by simp [e]), z⟩
  have S3 := S2.wr (o := o') ho hm (fun j z => by
    obtain ⟨h1, _, h3⟩ := nK j a z
    exact haj j h1 h3) (S1.e.sb x a mx) ha0 haT
  have inx : ∀ b ∈ a :: m', b ∈ ns x ∨ b ∈ n := fun b hb => by
    rcases List.mem_cons.mp hb with rfl | hb
    · exact .inl mx
    · rcases hsub b hb with z | z
      · exact .inl (by rw [en]; simp [z])
      · exact .inr z
  have nb' : ∀ b ∈ a :: m', ¬ Bx β bn' b := fun b hb => by
    rcases inx b hb with z | z
    · exact S1.e.sb x b z
    · exact Vnb b z
  have F : Fits g fx ts (nsK ns (x :: ks)) x c' (a :: m') := by
    cases hk : g.k x with
    | S => exact absurd hk hkS
    | D =>
      unfold chB at h
      rw [hk] at h
      simp only [Bool.and_eq_true, List.all_eq_true] at h
      obtain ⟨⟨h1, h2⟩, h3⟩ := h
      have hc' : ∀ l, l ∉ i.dc := fun l hl => by rw [List.isEmpty_iff.mp h2] at hl; cases hl
      have w : ∀ l ∈ i.dp, g.k l = .D ∧ l ∈ ks ∧ l ≠ x := fun l hl => by
        have := h3 l hl
        simpa [and_assoc] using this
      have src : ∀ b ∈ n, H b = none ∨ ∃ l, l ∈ i.dp ∧ b ∈ ns l := fun b hb => by
        rcases Vsrc b hb with e | ⟨l, l1, l2⟩ | ⟨l, l1, _⟩
        · exact .inl e
        · exact .inr ⟨l, l1, l2⟩
        · exact (hc' l l1).elim
      have away : ∀ j, j ∉ ks → ∀ b ∈ n, b ∉ ns j := fun j hj b hb z => by
        rcases src b hb with e | ⟨l, l1, l2⟩
        · exact trk j b z e
        · exact S.dd l j (fun e => hj (e ▸ (w l l1).2.1)) (w l l1).1 b l2 z
      have away' : ∀ j, j ≠ x → j ∉ ks → ∀ b ∈ a :: m', b ∉ ns j := fun j h1 h2 b hb z => by
        rcases inx b hb with q | q
        · exact S.dd x j (fun e => h1 e.symm) hk b q z
        · exact away j h2 b q z
      refine ⟨fun j hj _ b hb z => ?_, fun j hj _ b hb z => ?_, fun b hb => ?_, fun _ => ⟨?_, fun j hj b hb z => ?_, fun b hb => ?_, fun q hq b hb z => ?_⟩, fun z => by rw [hk] at z; cases z⟩
      · obtain ⟨h1, h2, h3⟩ := nK j b hb
        exact away' j h1 h2 b z h3
      · obtain ⟨h1, h2, h3⟩ := nT j b hb
        exact away' j h1 h2 b z (List.mem_of_mem_take h3)
      · rcases inx b hb with q | q
        · exact S.ln x b q
        · exact ln b q
      · have nx := S.e.dn x hk
        rw [en] at nx
        refine List.nodup_cons.mpr ⟨fun z => ?_, hnd (fun b hb z => away x hks b z (by rw [en]; simp [hb])) (List.nodup_cons.mp nx).2 (Vlin h1)⟩
        rcases hsub a z with z | z
        · exact ham z
        · exact han z
      · obtain ⟨h1, h2, h3⟩ := nK j b z
        exact away' j h1 h2 b hb h3
      · rcases inx b hb with q | q
        · exact S.frd x hk b q
        · rcases src b q with e | ⟨l, l1, l2⟩
          · exact S.keep.more b e
          · exact S.frd l (w l l1).1 b l2
      · have T := S.tm q hq
        rcases inx b hb with q' | q'
        · exact T.d x hk b q' z
        · rcases src b q' with e | ⟨l, l1, l2⟩
          · exact T.trk b z e
          · exact T.d l (w l l1).1 b l2 z
    | P =>
      unfold chB at h
      rw [hk] at h
      simp only [Bool.and_eq_true, List.all_eq_true] at h
      obtain ⟨h1, h2⟩ := h
      have w1 : ∀ l ∈ i.dp, g.k l = .S ∨ l ∈ ks := fun l hl => by
        have := (h1 l hl).1
        simpa using this
      have w2 : ∀ l ∈ i.dc, g.k l ≠ .D ∨ l ∈ ks := fun l hl => by
        have := h2 l hl
        simpa using this
      refine ⟨fun j hj hD b hb z => ?_, fun j hj hP b hb z => ?_, fun b hb => ?_, (fun z => by rw [hk] at z; cases z), fun _ => ⟨.inl hn', fun b hb z => ?_, fun j hj b hb z => ?_, fun b hb => ?_, fun q hq b hb z => ?_⟩⟩
      · obtain ⟨q1, q2, q3⟩ := nK j b hb
        rcases inx b z with q | q
        · exact S.dd j x q1 hD b q3 q
        · rcases Vsrc b q with e | ⟨l, l1, l2⟩ | ⟨l, l1, l2⟩
          · exact trk j b q3 e
          · by_cases hl : l = j
            · subst hl
              rcases w1 l l1 with e | e
              · rw [hD] at e; cases e
              · exact q2 e
            · exact S.dd j l (fun z => hl z.symm) hD b q3 l2
          · by_cases hl : l = j
            · subst hl
              rcases w2 l l1 with e | e
              · exact e hD
              · exact q2 e
            · exact S.dd j l (fun z => hl z.symm) hD b q3 (List.mem_of_mem_drop l2)
      · obtain ⟨q1, q2, q3⟩ := nT j b hb
        rcases inx b z with q | q
        · exact S.dp j x q1 hP b q3 q
        · rcases Vsrc b q with e | ⟨l, l1, l2⟩ | ⟨l, l1, l2⟩
          · exact trk j b (List.mem_of_mem_take q3) e
          · by_cases hl : l = j
            · subst hl
              rcases w1 l l1 with e | e
              · rw [hP] at e; cases e
              · exact q2 e
            · exact S.dp j l (fun z => hl z.symm) hP b q3 l2
          · by_cases hl : l = j
            · subst hl; exact S.pn l hP b q3 l2
            · exact S.dp j l (fun z => hl z.symm) hP b q3 (List.mem_of_mem_drop l2)
      · rcases inx b hb with q | q
        · exact S.ln x b q
        · exact ln b q
      · obtain rfl : b = a := by simpa using hb
        have z : b ∈ m' := by simpa using z
        rcases hsub b z with z | z
        · exact ham z
        · exact han z
      · obtain rfl : b = a := by simpa using hb
        obtain ⟨q1, _, q3⟩ := nK j b z
        exact haj j q1 q3
      · obtain rfl : b = a := by simpa using hb
        exact ha0
      · obtain rfl : b = a := by simpa using hb
        exact haT q hq z
  have S4 := S3.put rd nb' F
  have e1 : (MP.kill ρ (x :: ks)).set x (some c') = (MP.kill ρ ks).set x (some c') := by
    show ((MP.kill ρ ks).set x none).set x (some c') = _
    rw [List.set_set]
  have e2 : σ.set x (some (.ref a)) = σ := by
    obtain ⟨q1, q2⟩ := List.getElem?_eq_some_iff.mp ev
    rw [← q2]
    exact List.set_getElem_self q1
  rw [e1, e2] at S4
  exact ⟨_, S4⟩
theorem SSt.change {ks : List Nat} (S : SSt K g fx ts β H ρ σ μ ns bn) (s : Step K β bn H H1 μ' bn') (V : Val K β bn' ns H H1 i t v n) (h : chB g i ks x = true) (hx : getV ρ x = some c) (hks : x ∉ ks) (hc : isNode c = true) :
    ∃ a m o, σ[x]? = some (some (.ref a)) ∧ ns x = a :: m ∧ H1 a = some o ∧ isMut o = true ∧ Rds K β H1 c (.ref a) (a :: m) ∧ a ∉ m ∧ a ∉ n ∧
      ∀ o' c' m', (∀ b ∈ m', b ∈ m ∨ b ∈ n) → ((∀ b ∈ m, b ∉ n) → m.Nodup → n.Nodup → m'.Nodup) → Rds K β (upd H1 a o') c' (.ref a) (a :: m') → isNode c' = true →
        ∃ ns', SSt K g fx ts β (upd H1 a o') ((MP.kill ρ ks).set x (some c')) σ μ' ns' bn' := S.change0 s V.ok.src V.nb V.ok.lin h hx hks hc
end
end MP

/-! C21: the rules for statements. -/
namespace MP
open PySem L2
/-- a wish without slots -/
abbrev WE0 (E : XK) : WX := fun c d _ H => E c d H
/-- what is wanted of an exception that leaves a def -/
def XS (C : Cf) (K : PySem.W.Frag) (fx : Fx) (E : XK) : Nat → T → Mem → Prop := fun c t μ' => ∀ d v H' β' bn' n, H' d = some (.xd [(C.at_ c, v)]) → fx.H d = none → Keeps (Bx fx.β fx.bn) fx.H H' →
  (∀ a, Bx β' bn' a → Bx fx.β fx.bn a ∨ fx.H a = none) → BoxOk K β' H' μ' bn' → (∃ r, β' = fx.β ++ r) → Rds K β' H' t v n → (∀ a ∈ n, ¬ Bx β' bn' a) → (∀ a ∈ n, fx.H a = none ∨ a ∈ fx.A) → E (.ref (C.cl c)) (some d) H'
/-- what is told of a value that is given back -/
structure RtOk (K : PySem.W.Frag) (fx : Fx) (rk : RK) (β' : List Addr) (μ' : Mem) (bn' : Nat → List Addr) (H' : Hp) (t : T) (v : V) (n : List Addr) : Prop where
  box : BoxOk K β' H' μ' bn'
  keep : Keeps (Bx fx.β fx.bn) fx.H H'
  sub : ∀ a, Bx β' bn' a → Bx fx.β fx.bn a ∨ fx.H a = none
  pre : ∃ r, β' = fx.β ++ r
  rd : Rds K β' H' t v n
  nb : ∀ a ∈ n, ¬ Bx β' bn' a
  src : ∀ a ∈ n, fx.H a = none ∨ a ∈ fx.A
  dl : rk = .D → n.Nodup ∧ ∀ a ∈ n, fx.H a = none
  tp : rk = .D ∨ rk = .P → isNode t = true → ∃ p l, n = p :: l ∧ fx.H p = none ∧ p ∉ l
/-- what is wanted behind a statement -/
def PostS (C : Cf) (K : PySem.W.Frag) (fx : Fx) (rk : RK) (ts : List Tmp) (D : Ends) : Fl × Env → Mem → Prop := fun r μ' => match r.1 with
  | .nx => ∀ β' ns' bn' σ' H', SSt K C.g fx ts β' H' r.2 σ' μ' ns' bn' → D.nx σ' H'
  | .bk => ∀ β' ns' bn' σ' H', SSt K C.g fx ts β' H' r.2 σ' μ' ns' bn' → D.bk σ' H'
  | .rt t => ∀ β' bn' v H' n, RtOk K fx rk β' μ' bn' H' t v n → D.rt v H'
def tS (C : Cf) (K : PySem.W.Frag) (fx : Fx) (rk : RK) (E : XK) (ts : List Tmp) (r : Env → Mem → Res (Fl × Env)) : TS := fun D σ H => ∃ ρ μ β ns bn, SSt K C.g fx ts β H ρ σ μ ns bn ∧ Sat (r ρ μ) (PostS C K fx rk ts D) (XS C K fx E)
section
variable {X : Cx} {C : Cf} {fx : Fx} {rk : RK} {E : XK} {ts : List Tmp} {Wf : Nat} {a b c e : Expr} {x y z ie : IE} {pos : Pos} {D : Ends} {σ : St} {H : Hp} {ρ : Env} {μ : Mem} {β : List Addr} {ns bn : Nat → List Addr}
theorem XS.xw (S : SSt X.K C.g fx ts β H ρ σ μ ns bn) {c : Nat} {t : T} {μ' : Mem} (h : XS C X.K fx E c t μ') : XW C X.K β bn (Own ns) H (fun c d H' => E c d H') c t μ' := fun d v H' bn' n h0 h1 s r nb sr =>
  h d v H' β bn' n h1 (S.keep.more d h0) (S.keep.trans s.keep S.sub) (fun a z => by
    rcases s.sub a z with z | z
    · exact S.sub a z
    · exact .inr (S.keep.more a z)) s.box S.pre r nb fun a ha => by
    rcases sr a ha with z | ⟨i, z⟩
    · exact .inl (S.keep.more a z)
    · exact S.ln i a z
theorem Sat.xw {α : Type} {r : Res α} {P : α → Mem → Prop} (S : SSt X.K C.g fx ts β H ρ σ μ ns bn) (h : Sat r P (XS C X.K fx E)) : Sat r P (XW C X.K β bn (Own ns) H (fun c d H' => WE0 E c d σ H')) := h.mono (fun _ _ p => p) fun _ _ _ e => XS.xw S e
theorem use1 {Q : VK} {P : T → Mem → Prop} (S : SSt X.K C.g fx ts β H ρ σ μ ns bn) (h : Sat (evE C.F ρ ie μ) P (XS C X.K fx E))
    (k : ∀ t μ' v H' bn' n, P t μ' → Step X.K β bn H H' μ' bn' → Val X.K β bn' ns H H' (info C.g ie) t v n → Q v H') : tE C X.K (WE0 E) ie σ H Q := use S.e (Sat.xw S h) k
theorem use1T {Q : Bool → Hp → Prop} {P : T → Mem → Prop} (S : SSt X.K C.g fx ts β H ρ σ μ ns bn) (h : Sat (evE C.F ρ ie μ) P (XS C X.K fx E)) (kb : ∀ t μ', P t μ' → ∃ b, t = .bl b)
    (k : ∀ b μ' H' bn', P (.bl b) μ' → Step X.K β bn H H' μ' bn' → Q b H') : tT C X.K (WE0 E) ie σ H Q := useT S.e (Sat.xw S h) kb k
abbrev TS1 (X : Cx) (C : Cf) (fx : Fx) (rk : RK) (E : XK) (ts : List Tmp) (Wf : Nat) (st : IS) : TS := tS C X.K fx rk E ts (evI1 C.F Wf st)
abbrev TSS (X : Cx) (C : Cf) (fx : Fx) (rk : RK) (E : XK) (ts : List Tmp) (Wf : Nat) (sts : List IS) : TS := tS C X.K fx rk E ts (evIs C.F Wf sts)
theorem s_never {st : Stmt} : PS X st (TS1 X C fx rk E ts Wf .never) := ps_never.weak fun D σ H h => by obtain ⟨_, _, _, _, _, _, h⟩ := h; exact h.elim
theorem s_pass : PS X (.Pass pos) (TS1 X C fx rk E ts Wf .pass) := ps_pass.weak fun D σ H h => by
  obtain ⟨ρ, μ, β, ns, bn, S, h⟩ := h
  exact h _ _ _ _ _ S
theorem s_brk : PS X (.Break pos) (TS1 X C fx rk E ts Wf .brk) := ps_break.weak fun D σ H h => by
  obtain ⟨ρ, μ, β, ns, bn, S, h⟩ := h
  exact h _ _ _ _ _ S
theorem s_ex (ha : PE X e (tE C X.K (WE0 E) x)) (hs : swapsWith e none pos.line X.env = pure false) : PS X (.Expr e pos) (TS1 X C fx rk E ts Wf (.ex x)) := (ps_expr ha hs).weak fun D σ H h => by
  obtain ⟨ρ, μ, β, ns, bn, S, h⟩ := h
  exact use1 S (Sat_bind h) fun t μ1 v H1 bn1 n q s1 x1 => q _ _ _ _ _ (S.step s1)
/-- surely a list or a dict -/
def ndE : IE → Bool
  | .lst _ => true
  | .lc _ _ _ _ => true
  | .dnew _ => true
  | .bi .list [_] => true
  | .bi .sorted [_] => true
  | .bi .dict [_] => true
  | .flat _ => true
  | .ls _ => true
  | .lof false _ => true
  | _ => false
theorem bind_inv {α β : Type} {r : Res α} {f : α → Mem → Res β} {b : β} {μ' : Mem} (h : r.bind f = .ok b μ') : ∃ a μ1, r = .ok a μ1 ∧ f a μ1 = .ok b μ' := by
  cases r with
  | ok a μ1 => exact ⟨a, μ1, rfl, h⟩
  | exc _ _ _ => cases h
  | stuck => cases h
theorem ite_inv {α : Type} {c : Bool} {r : Res α} {b : α} {μ' : Mem} (h : (if c = true then r else .stuck) = .ok b μ') : c = true ∧ r = .ok b μ' := by
  cases c with
  | true => exact ⟨rfl, h⟩
  | false => cases h
theorem opt_inv {α : Type} {o : Option α} {μ μ' : Mem} {b : α} (h : opt o μ = .ok b μ') : o = some b ∧ μ' = μ := by
  cases o with
  | some a => cases h; exact ⟨rfl, rfl⟩
  | none => cases h
theorem dictGo_node : ∀ {xs : List T} {ks : List Key} {vs : List T} {r : T}, dictGo xs ks vs = some r → isNode r = true
  | [], ks, vs, r, h => by cases h; rfl
  | x :: xs, ks, vs, r, h => by
    obtain ⟨_, _, _, _, _, h⟩ := dictGo_inv h
    exact dictGo_node h
theorem dictGoT_node : ∀ {xs : List T} {ks : List (List Key)} {vs : List T} {r : T}, dictGoT xs ks vs = some r → isNode r = true
  | [], ks, vs, r, h => by cases h; rfl
  | x :: xs, ks, vs, r, h => by
    obtain ⟨_, _, _, _, _, _, h⟩ := dictGoT_inv h
    exact dictGoT_node h
theorem dictOf_node {xs : List T} {r : T} (h : dictOf xs = some r) : isNode r = true := by
  unfold dictOf at h
  split at h
  · cases h
    exact dictGo_node (by assumption)
  · exact dictGoT_node h
theorem bi_node {b : BI} {c r : T} (hb : b = .list ∨ b = .sorted ∨ b = .dict) (h : pBI b [c] = some r) : isNode r = true := by
  rcases hb with rfl | rfl | rfl
  all_goals
    revert h
    cases c <;> simp only [pBI, reduceCtorEq, false_implies, Option.some.injEq, Option.map_eq_some_iff]
    all_goals first
      | (intro h; subst h; rfl)
      | (rintro ⟨_, _, rfl⟩; rfl)
      | (intro h; exact dictOf_node h)
      | (intro h; split at h <;> first | (cases h; rfl) | (obtain ⟨_, _, rfl⟩ := Option.map_eq_some_iff.mp h; rfl))
theorem ndE_ok {F : Fns} {ρ : Env} {μ μ' : Mem} {t : T} : ∀ {ie : IE}, ndE ie = true → evE F ρ ie μ = .ok t μ' → isNode t = true := by
  intro ie hn h
  cases ie with
  | lst as =>
    obtain ⟨_, _, _, h⟩ := bind_inv h
    obtain ⟨_, h⟩ := ite_inv h
    cases h; rfl
  | lc el tg it cnd =>
    obtain ⟨_, _, _, h⟩ := bind_inv h
    obtain ⟨_, _, _, h⟩ := bind_inv h
    cases h; rfl
  | dnew tk => cases h; cases tk <;> rfl
  | flat a =>
    obtain ⟨x, _, _, h⟩ := bind_inv h
    cases x <;> try (cases h; done)
    obtain ⟨_, h⟩ := ite_inv h
    cases h; rfl
  | ls a =>
    obtain ⟨x, _, _, h⟩ := bind_inv h
    cases x <;> try (cases h; done)
    cases h; rfl
  | lof tp it =>
    cases tp with
    | true => cases hn
    | false =>
      obtain ⟨_, _, _, h⟩ := bind_inv h
      obtain ⟨_, h⟩ := ite_inv h
      cases h; rfl
  | bi b as =>
    obtain ⟨ts, _, e1, h⟩ := bind_inv h
    obtain ⟨_, h⟩ := ite_inv h
    obtain ⟨h, _⟩ := opt_inv h
    cases b <;> first | (cases hn; done) | skip
    all_goals
      cases as with
      | nil => cases hn
      | cons a as => cases as with
        | cons _ _ => cases hn
        | nil =>
          obtain ⟨x, _, _, e1⟩ := bind_inv e1
          cases e1
          first | exact bi_node (.inl rfl) h | exact bi_node (.inr (.inl rfl)) h | exact bi_node (.inr (.inr rfl)) h
  | _ => cases hn
theorem Sat.nd {F : Fns} {ρ : Env} {P : T → Mem → Prop} {E : Nat → T → Mem → Prop} (h : Sat (evE F ρ ie μ) P E) : Sat (evE F ρ ie μ) (fun t μ => P t μ ∧ (ndE ie = true → isNode t = true)) E := by
  cases e : evE F ρ ie μ with
  | ok t μ' => rw [e] at h; exact ⟨h, fun hn => ndE_ok hn e⟩
  | exc c t μ' => rw [e] at h; exact h
  | stuck => rw [e] at h; exact h
/-- name = value -/
theorem s_asg {i : Nat} {ks : List Nat} {st : Stmt} (ha : PS X st (tAsg (tE C X.K (WE0 E) x) (gName i))) (hf : fitsB C.g (info C.g x) ks i (ndE x) = true) : PS X st (TS1 X C fx rk E ts Wf (.asg i x ks)) := ha.weak fun D σ H h => by
  obtain ⟨ρ, μ, β, ns, bn, S, h⟩ := h
  refine use1 S (Sat.nd (Sat_bind h)) fun t μ1 v H1 bn1 n ⟨q, hn⟩ s1 x1 => ?_
  exact q _ _ _ _ _ (((S.step s1).kill ks).put x1.rd x1.nb (fits_ok S s1 x1 hf hn))
/-- a slot read -/
theorem tVar_of (S : SSt X.K C.g fx ts β H ρ σ μ ns bn) {i : Nat} {t : T} {Q : VK} (e : getV ρ i = some t) (k : ∀ v, σ[i]? = some (some v) → Rds X.K β H t v (ns i) → Q v H) : tVar i σ H Q := by
  obtain ⟨v, e1, r⟩ := S.e.sl i t e
  exact ⟨v, e1, k v e1 r⟩
theorem getV_kill2 {ks : List Nat} {i : Nat} {t : T} (h : getV (kill ρ ks) i = some t) : i ∉ ks ∧ getV ρ i = some t := by
  rw [getV_kill] at h
  split at h
  · cases h
  · rename_i q; exact ⟨q, h⟩
theorem getL_some {ρ : Env} {x : Nat} {xs : List T} (h : getL ρ x = some xs) : getV ρ x = some (.lst xs) := by
  unfold getL at h
  split at h
  · rename_i e; cases h; exact e
  · cases h
theorem ns_eq {K : PySem.W.Frag} {t : T} {v : V} {n m : List Addr} (h1 : Rds K β H t v n) (h2 : Rds K β H t v m) : n = m := h1.uniq _ h2
/-- x.append(e) -/
theorem s_app {i : Nat} {nm : Str} {ks : List Nat} {p1 apos cpos : Pos} (hN : X.N[i]? = some nm) (hv : Vis X.env.scope nm) (hd : (nm == ("__debug__" : Str)) = false) (hcd : (nm == ("__classdict__" : Str)) = false) (ha : PE X a (tE C X.K (WE0 E) x)) (hst : nost a = true) (hline : (apos.endLine == cpos.line) = true) (hf : chB C.g (info C.g x) ks i = true) :
    PS X (.Expr (.Call (.Attribute (.Name nm p1) "append" apos) [a] [] cpos) pos) (TS1 X C fx rk E ts Wf (.app i x ks)) := by
  have h1 := pe_bm (X := X) (name := "append") (cpos := cpos) (apos := apos) PySem.F.plainAttrs_list PySem.F.slot_list_append PySem.F.type_list_append mt_append (pe_var (pos := p1) hN hv hd hcd) (pa_cons ha pa_nil (star_cons hst)) (by rfl) (by rw [star_cons hst] <;> rfl) hline (star_cons hst) (star_any (by rfl))
  refine (ps_expr h1 (by rfl)).weak fun D σ H h => ?_
  obtain ⟨ρ, μ, β, ns, bn, S, h⟩ := h
  obtain ⟨xs, ec, h⟩ := Sat_opt (Sat_bind h)
  obtain ⟨hks, ec⟩ := getV_kill2 (getL_some ec)
  have h := Sat_bind h
  show tVar i σ H fun y H1 => tyV X.K "list" y H1 ∧ tCons (tE C X.K (WE0 E) x) tNil σ H1 fun vs H2 => rAppend y vs H2 fun _ H3 => D.nx σ H3
  refine tVar_of S ec fun v ev r => ?_
  obtain ⟨p, vs, m, rfl, ep, rl, en⟩ := r
  refine ⟨.inl ⟨rfl, _, SqL.of ep⟩, ?_⟩
  refine use1 S h fun t μ1 w H1 bn1 n q s1 x1 => ?_
  obtain ⟨hz, q⟩ := Sat_if q
  obtain ⟨p', m', o, ev', en', ho, hm, rc, ham, han, fin⟩ := S.change s1 x1 hf ec hks rfl
  rw [ev] at ev'; cases ev'
  obtain ⟨_, vs', m2, e1, ep', rl', e2⟩ := rc
  cases e1
  obtain rfl : m' = m2 := (List.cons.inj e2).2
  refine ⟨p, vs', w, rfl, rfl, ep', by rw [rl'.length]; exact lt_line hz, ?_⟩
  have kw : Keeps (fun z => z = p) H1 (upd H1 p (.lst (vs' ++ [w]))) := Keeps.write ho rfl hm
  obtain ⟨ns', S'⟩ := fin (.lst (vs' ++ [w])) (.lst (xs ++ [t])) (m' ++ n) (fun b hb => List.mem_append.mp hb) (fun d n1 n2 => List.nodup_append.mpr ⟨n1, n2, fun b hb c hc z => d b hb (z ▸ hc)⟩)
    ⟨p, _, m' ++ n, rfl, upd_same, (rl'.keep kw (fun _ _ e => e) _ fun b hb z => ham (z ▸ hb)).append (RdsL.one.mpr ⟨w, rfl, x1.rd.keep kw (fun _ _ e => e) _ fun b hb z => han (z ▸ hb)⟩), rfl⟩ rfl
  exact q _ _ _ _ _ S'
end
end MP

/-! C22: x[i] = e. -/
namespace MP
open PySem L2
def rSet (K : PySem.W.Frag) : TSet := fun o i v H Q => ∃ β c j u c' a m n l o0, o = .ref a ∧ Rds K β H c (.ref a) (a :: m) ∧ Rds K β H j i n ∧ Rds K β H u v l ∧ pSet c j u = some c' ∧ H a = some o0 ∧ isMut o0 = true ∧ a ∉ m ∧ a ∉ l ∧
  ∀ o' m', (∀ b ∈ m', b ∈ m ∨ b ∈ l) → ((∀ b ∈ m, b ∉ l) → m.Nodup → l.Nodup → m'.Nodup) → isMut o' = true → Rds K β (upd H a o') c' (.ref a) (a :: m') → isNode c' = true → Q (upd H a o')
section
variable {X : Cx}
theorem PSet.byCases {t : TSet} (h : ∀ o i v H Q, t o i v H Q → ∃ t', PSet X t' ∧ t' o i v H Q) : PSet X t := fun pins s σ H o i v ov iv u Q I r1 r2 r3 q => by
  obtain ⟨t', h', q'⟩ := h o i v H Q q
  exact h' pins s σ H o i v ov iv u Q I r1 r2 r3 q'
theorem dict_rds {K : PySem.W.Frag} {β : List Addr} {H : Hp} {κ : Type} [DecidableEq κ] {k : κ} {u : T} {v : V} {l : List Addr} {ks : List κ} {ts : List T} {ws : List V} {m : List Addr} {B : Addr → Prop} {H' : Hp} (hu : Rds K β H u v l) (hl : ks.length = ws.length) (nd : ks.Nodup) (r : RdsL K β H ts ws m) (kw : Keeps B H H') (b1 : ∀ a ∈ m, ¬ B a) (b2 : ∀ a ∈ l, ¬ B a) :
    ∃ m', RdsL K β H' (MP.putK k u ks ts).2 (MP.putK k v ks ws).2 m' ∧ (∀ b ∈ m', b ∈ m ∨ b ∈ l) ∧ ((∀ b ∈ m, b ∉ l) → m.Nodup → l.Nodup → m'.Nodup) := by
  obtain ⟨m', r', h1, h2⟩ := putK_rds k hu hl r
  exact ⟨m', r'.keep kw (fun _ _ e => e) _ fun a ha => (h1 a ha).elim (b1 a) (b2 a), h1, h2⟩
theorem set_ok (hu : X.A.units + 65 < cLine) : PSet X (rSet X.K) := PSet.byCases fun o i v H Q h => by
  obtain ⟨β, c, j, u, c', a, m, n, l, o0, rfl, rc, rj, ru, e, ho, hm, ham, hal, q⟩ := h
  cases c with
  | lst xs =>
    obtain ⟨_, vs, m1, e1, ea, rl, e2⟩ := rc
    cases e1
    obtain rfl : m = m1 := (List.cons.inj e2).2
    cases j <;> simp only [pSet, reduceCtorEq] at e
    rename_i k
    split at e
    · rename_i jj hj
      cases e
      obtain ⟨rfl, _⟩ := rj
      obtain ⟨x0, hx0⟩ : ∃ x0, xs[jj]? = some x0 := by
        obtain ⟨_, h2, _, _⟩ := ixN_seq hj
        exact ⟨xs[jj], List.getElem?_eq_getElem h2⟩
      obtain ⟨v0, n1, mm, n2, e3, e4, r0, set⟩ := RdsL.setAt rl hx0
      refine ⟨_, set_list, a, vs, k, jj, rfl, rfl, ea, by rw [rl.length]; exact hj, ?_⟩
      have kw : Keeps (fun z => z = a) H (upd H a (.lst (vs.set jj v))) := Keeps.write ho rfl hm
      have i1 : ∀ b ∈ n1, b ∈ m := fun b hb => by rw [e4]; simp [hb]
      have i2 : ∀ b ∈ n2, b ∈ m := fun b hb => by rw [e4]; simp [hb]
      refine q (.lst (vs.set jj v)) (n1 ++ (l ++ n2)) (fun b hb => ?_) (fun d nm nl => ?_) rfl ⟨a, _, _, rfl, upd_same, set _ u v l _ kw (fun b hb z => ham (z ▸ i1 b hb)) (fun b hb z => ham (z ▸ i2 b hb)) (ru.keep kw (fun _ _ e => e) _ fun b hb z => hal (z ▸ hb)), rfl⟩ rfl
      · rcases List.mem_append.mp hb with z | z
        · exact .inl (i1 b z)
        · rcases List.mem_append.mp z with z | z
          · exact .inr z
          · exact .inl (i2 b z)
      · rw [e4] at nm
        obtain ⟨a1, a2, a3⟩ := List.nodup_append.mp nm
        obtain ⟨a4, a5, a6⟩ := List.nodup_append.mp a2
        refine List.nodup_append.mpr ⟨a1, List.nodup_append.mpr ⟨nl, a5, fun b hb c hc z => d c (i2 c hc) (z ▸ hb)⟩, fun b hb c hc z => ?_⟩
        rcases List.mem_append.mp hc with w | w
        · exact d b (i1 b hb) (z ▸ w)
        · exact a3 b hb c (List.mem_append_right _ w) z
    · cases e
  | dk ks xs =>
    obtain ⟨_, vs, m1, e1, ea, ⟨lz, nd⟩, rl, e2⟩ := rc
    cases e1
    obtain rfl : m = m1 := (List.cons.inj e2).2
    simp only [pSet] at e
    split at e
    · rename_i k hk
      split at e
      · rename_i hz
        cases e
        have hi := key_v rj hk
        subst hi
        have kw : Keeps (fun z => z = a) H (upd H a (.dK (L2.putK (ks.zip vs) k v))) := Keeps.write ho rfl hm
        obtain ⟨m', r', s1, s2⟩ := dict_rds (k := k) ru lz nd rl kw (fun b hb z => ham (z ▸ hb)) fun b hb z => hal (z ▸ hb)
        refine ⟨_, set_dict (by omega), a, _, rfl, DPut.k ea ?_, q (.dK (L2.putK (ks.zip vs) k v)) m' s1 s2 rfl ⟨a, _, m', rfl, ?_, ⟨?_, ?_⟩, r', rfl⟩ rfl⟩
        · rw [List.length_zip, ← lz, Nat.min_self]; exact lt_line hz
        · rw [upd_same, putK_zip k v lz nd, putK_keys k v u lz (by rw [lz]; exact rl.length)]
        · rw [← putK_keys k v u lz (by rw [lz]; exact rl.length)]
          exact putK_len k v lz
        · rw [← putK_keys k v u lz (by rw [lz]; exact rl.length)]
          exact putK_nodup k v lz nd
      · cases e
    · cases e
  | dt ks xs =>
    obtain ⟨_, vs, m1, e1, ea, ⟨lz, nd⟩, rl, e2⟩ := rc
    cases e1
    obtain rfl : m = m1 := (List.cons.inj e2).2
    cases j <;> simp only [pSet, reduceCtorEq] at e
    rename_i tsj
    split at e
    · rename_i k hk
      split at e
      · rename_i hz
        cases e
        obtain ⟨b0, wsj, rfl, eb, rj⟩ := rj
        have hi := keys_v rj hk
        subst hi
        have kw : Keeps (fun z => z = a) H (upd H a (.dT (L2.putK (ks.zip vs) k v))) := Keeps.write ho rfl hm
        obtain ⟨m', r', s1, s2⟩ := dict_rds (k := k) ru lz nd rl kw (fun b hb z => ham (z ▸ hb)) fun b hb z => hal (z ▸ hb)
        refine ⟨_, set_dict (by omega), a, _, rfl, DPut.t ea eb ?_, q (.dT (L2.putK (ks.zip vs) k v)) m' s1 s2 rfl ⟨a, _, m', rfl, ?_, ⟨?_, ?_⟩, r', rfl⟩ rfl⟩
        · rw [List.length_zip, ← lz, Nat.min_self]; exact lt_line hz
        · rw [upd_same, putK_zip k v lz nd, putK_keys k v u lz (by rw [lz]; exact rl.length)]
        · rw [← putK_keys k v u lz (by rw [lz]; exact rl.length)]
          exact putK_len k v lz
        · rw [← putK_keys k v u lz (by rw [lz]; exact rl.length)]
          exact putK_nodup k v lz nd
      · cases e
    · cases e
  | _ => simp [pSet] at e
end
section
variable {X : Cx} {C : Cf} {fx : Fx} {rk : RK} {E : XK} {ts : List Tmp} {Wf : Nat} {a b c e : Expr} {x y z ie : IE} {pos : Pos} {D : Ends} {σ : St} {H : Hp} {ρ : Env} {μ : Mem} {β : List Addr} {ns bn : Nat → List Addr}
theorem getN_some {ρ : Env} {x : Nat} {t : T} (h : getN ρ x = some t) : getV ρ x = some t ∧ isNode t = true := by
  unfold getN at h
  split at h <;> first | (rename_i e; cases h; exact ⟨e, rfl⟩) | cases h
theorem getB_some {ρ : Env} {x : Nat} {k : Nat} (h : getB ρ x = some k) : getV ρ x = some (.box k) := by
  unfold getB at h
  split at h
  · rename_i e; cases h; exact e
  · cases h
theorem sub_assign {X : Cx} {o i : Expr} {pos : Pos} (hp : plainIx i = true) : ∀ v, assign (.Subscript o i pos) X.env v = (do
      let ov ← holding [v] (eval o X.env)
      let iv ← holding [v, ov] (eval i X.env)
      standAt pos
      holding [v, ov, iv] (setItem ov iv v)
      release [v, ov, iv] []) := by
  cases i with
  | Slice _ _ _ _ => cases hp
  | _ => intro _; rfl
theorem sub_swaps {X : Cx} {o i e : Expr} {pos : Pos} {ln : Nat} : swapsWithSole [.Subscript o i pos] e ln X.env = pure false := by cases e <;> rfl
/-- x[i] = e, x's own thing -/
theorem s_set {i : Nat} {nm : Str} {ks : List Nat} {p1 p2 : Pos} (hu : X.A.units + 65 < cLine) (hN : X.N[i]? = some nm) (hv : Vis X.env.scope nm) (hd : (nm == ("__debug__" : Str)) = false) (hcd : (nm == ("__classdict__" : Str)) = false) (ha : PE X a (tE C X.K (WE0 E) x)) (hb : PE X b (tE C X.K (WE0 E) y)) (hp : plainIx b = true) (hf : chB C.g (info C.g x) ks i = true) :
    PS X (.Assign [.Subscript (.Name nm p1) b p2] a pos) (TS1 X C fx rk E ts Wf (.set i y x ks)) := (ps_asg ha (pg_sub (pe_var hN hv hd hcd) hb (set_ok hu) (sub_assign hp)) sub_swaps).weak fun D σ H h => by
  obtain ⟨ρ, μ, β, ns, bn, S, h⟩ := h
  refine use1 S (Sat_bind h) fun t μ1 v H1 bn1 n h s1 x1 => ?_
  have S1 := S.step s1
  obtain ⟨c, ec, h⟩ := Sat_opt (Sat_bind h)
  obtain ⟨ec, hc⟩ := getN_some ec
  obtain ⟨hks, ec⟩ := getV_kill2 ec
  show tVar i σ H1 fun o H2 => tE C X.K (WE0 E) y σ H2 fun j H3 => rSet X.K o j v H3 fun H4 => D.nx σ H4
  refine tVar_of S1 ec fun ov ev _ => ?_
  refine use1 S1 (Sat_bind h) fun j μ2 w H2 bn2 m h s2 y1 => ?_
  obtain ⟨c', e', q⟩ := Sat_opt (Sat_bind h)
  have x2 := x1.step s2
  obtain ⟨p, m0, o, ev', en, ho, hm, rc, ham, han, fin⟩ := S.change (s1.trans s2) x2 hf ec hks hc
  rw [ev] at ev'; cases ev'
  refine ⟨β, c, j, t, c', p, m0, m, n, o, rfl, rc, y1.rd, x2.rd, e', ho, hm, ham, han, fun o' m' h1 h2 _ rd hn => ?_⟩
  obtain ⟨ns', S'⟩ := fin o' c' m' h1 h2 rd hn
  exact q _ _ _ _ _ S'
/-- the boxes behind a store into one -/
theorem box_set {K : PySem.W.Frag} {μ : Mem} {k : Nat} {c : T} {a0 : Addr} {m' : List Addr} {o o' : HO} {c' : T} (b : BoxOk K β H μ bn) (ec : μ[k]? = some c) (eβ : β[k]? = some a0) {m : List Addr} (en : bn k = a0 :: m) (ho : H a0 = some o) (hm : isMut o = true) (hsub : ∀ b ∈ m', b ∈ m) (hnd : m.Nodup → m'.Nodup)
    (rd : Rds K β (upd H a0 o') c' (.ref a0) (a0 :: m')) (bl : boxless c' = true) : ∃ bn', Step K β bn H (upd H a0 o') (μ.set k c') bn' := by
  have hk : k < μ.length := (List.getElem?_eq_some_iff.mp ec).1
  have hk' : k < β.length := by rw [b.len]; exact hk
  obtain ⟨_, _, _, _, nd⟩ := b.rd k _ ec
  rw [en] at nd
  have hB : Bx β bn a0 := ⟨k, hk', by rw [en]; simp⟩
  have kp : Keeps (Bx β bn) H (upd H a0 o') := Keeps.write ho hB hm
  have kp1 : Keeps (fun x => x = a0) H (upd H a0 o') := Keeps.write ho rfl hm
  let bn' : Nat → List Addr := fun j => if j = k then a0 :: m' else bn j
  have sb : ∀ j b, b ∈ bn' j → b ∈ bn j := fun j b hb => by
    by_cases hj : j = k
    · subst hj
      have : b ∈ a0 :: m' := by simpa [bn'] using hb
      rw [en]
      rcases List.mem_cons.mp this with rfl | z
      · simp
      · simp [hsub b z]
    · simpa [bn', hj] using hb
  refine ⟨bn', kp, ⟨by rw [List.length_set]; exact b.len, fun l t e => ?_, fun j l hne h1 h2 b' hb z => b.dj j l hne h1 h2 b' (sb j b' hb) (sb l b' z), b.tb.write ho hm⟩, fun y ⟨j, hj, z⟩ => .inl ⟨j, hj, sb j y z⟩⟩
  by_cases hl : l = k
  · subst hl
    rw [List.getElem?_set_self hk] at e
    cases e
    refine ⟨a0, eβ, ?_, bl, ?_⟩
    · show Rds K β _ _ _ (if l = l then a0 :: m' else bn l)
      rw [if_pos rfl]
      exact rd
    · show (if l = l then a0 :: m' else bn l).Nodup
      rw [if_pos rfl]
      exact List.nodup_cons.mpr ⟨fun z => (List.nodup_cons.mp nd).1 (hsub a0 z), hnd (List.nodup_cons.mp nd).2⟩
  · rw [List.getElem?_set_ne (fun z => hl z.symm)] at e
    obtain ⟨a', e1, r, bl', nd'⟩ := b.rd l t e
    have hl' : l < β.length := by rw [b.len]; exact (List.getElem?_eq_some_iff.mp e).1
    refine ⟨a', e1, ?_, bl', ?_⟩
    · show Rds K β _ _ _ (if l = k then a0 :: m' else bn l)
      rw [if_neg hl]
      exact r.keep kp1 (fun _ _ e => e) _ fun x hx z => b.dj l k hl hl' hk' x hx (by rw [z, en]; simp)
    · show (if l = k then a0 :: m' else bn l).Nodup
      rw [if_neg hl]
      exact nd'
/-- x[i] = e, x a box: what is stored has no list in it -/
theorem s_bset {i : Nat} {nm : Str} {p1 p2 : Pos} (hu : X.A.units + 65 < cLine) (hN : X.N[i]? = some nm) (hv : Vis X.env.scope nm) (hd : (nm == ("__debug__" : Str)) = false) (hcd : (nm == ("__classdict__" : Str)) = false) (ha : PE X a (tE C X.K (WE0 E) x)) (hb : PE X b (tE C X.K (WE0 E) y)) (hp : plainIx b = true) :
    PS X (.Assign [.Subscript (.Name nm p1) b p2] a pos) (TS1 X C fx rk E ts Wf (.bset i y x)) := (ps_asg ha (pg_sub (pe_var hN hv hd hcd) hb (set_ok hu) (sub_assign hp)) sub_swaps).weak fun D σ H h => by
  obtain ⟨ρ, μ, β, ns, bn, S, h⟩ := h
  refine use1 S (Sat_bind h) fun t μ1 v H1 bn1 n h s1 x1 => ?_
  have S1 := S.step s1
  obtain ⟨k, ec, h⟩ := Sat_opt (Sat_bind h)
  have ec := getB_some ec
  show tVar i σ H1 fun o H2 => tE C X.K (WE0 E) y σ H2 fun j H3 => rSet X.K o j v H3 fun H4 => D.nx σ H4
  refine tVar_of S1 ec fun ov ev rb => ?_
  refine use1 S1 (Sat_bind h) fun j μ2 w H2 bn2 m h s2 y1 => ?_
  obtain ⟨c', e', h⟩ := Sat_opt (Sat_bind h)
  obtain ⟨ok, q⟩ := Sat_if h
  rw [Bool.and_eq_true] at ok
  have x2 := x1.step s2
  obtain ⟨a0, rfl, eβ, _⟩ := rb
  cases eb : μ2[k]? with
  | none => rw [eb] at e'; cases e'
  | some c =>
  rw [eb] at e'
  have e' : pSet c j t = some c' := e'
  obtain ⟨a', eβ', rc, _, nd⟩ := s2.box.rd k c eb
  rw [eβ] at eβ'; cases eβ'
  have hn : isNode c = true := by cases c <;> first | rfl | simp [pSet] at e'
  obtain ⟨m0, en⟩ : ∃ m0, bn2 k = a0 :: m0 := by
    cases c <;> try (cases hn; done)
    · obtain ⟨a, _, m, e1, _, _, e2⟩ := rc; cases e1; exact ⟨m, e2⟩
    · obtain ⟨a, _, m, e1, _, _, _, e2⟩ := rc; cases e1; exact ⟨m, e2⟩
    · obtain ⟨a, _, m, e1, _, _, _, e2⟩ := rc; cases e1; exact ⟨m, e2⟩
  rw [en] at rc nd
  obtain ⟨o, ho, hm⟩ := rc.node _ a0 List.mem_cons_self
  have hn0 : n = [] := x2.rd.nil _ ok.1
  subst hn0
  refine ⟨β, c, j, t, c', a0, m0, m, [], o, rfl, rc, y1.rd, x2.rd, e', ho, hm, (List.nodup_cons.mp nd).1, by simp, fun o' m' h1 h2 _ rd hn' => ?_⟩
  obtain ⟨bn3, st⟩ := box_set s2.box eb eβ en ho hm (fun b hb => (h1 b hb).elim id fun z => by cases z) (fun hz => h2 (fun _ _ z => by cases z) hz List.nodup_nil) rd ok.2
  exact q _ _ _ _ _ ((S1.step s2).step st)
end
end MP

/-! C22b: x.append(y.pop(e)). -/
namespace MP
open PySem L2
section
variable {K : PySem.W.Frag} {g : Sg} {fx : Fx} {ts : List Tmp} {β : List Addr} {H : Hp} {ρ : Env} {σ : St} {μ : Mem} {ns bn : Nat → List Addr} {x y : Nat}
theorem RdsL.erase {us : List T} {ws : List V} {m : List Addr} (h : RdsL K β H us ws m) {j : Nat} {t : T} (e : us[j]? = some t) : ∃ u k m', ws[j]? = some u ∧ Rds K β H t u k ∧ RdsL K β H (us.eraseIdx j) (ws.eraseIdx j) m' ∧ m'.Sublist m ∧ k.Sublist m := by
  obtain ⟨u, n1, k, n2, e1, rfl, r, r1, r2⟩ := h.at e
  refine ⟨u, k, n1 ++ n2, e1, r, ?_, ?_, ?_⟩
  · rw [List.eraseIdx_eq_take_drop_succ, List.eraseIdx_eq_take_drop_succ]
    exact r1.append r2
  · exact List.Sublist.append (List.Sublist.refl n1) (List.sublist_append_right k n2)
  · exact (List.sublist_append_left k n2).trans (List.sublist_append_right n1 _)
/-- an item goes from a list of ours to another one of ours -/
theorem SSt.moveP (S : SSt K g fx ts β H ρ σ μ ns bn) {us ys : List T} {j : Nat} {t : T} (hx : getV ρ x = some (.lst us)) (hy : getV ρ y = some (.lst ys)) (kx : g.k x = .P) (ky : g.k y = .P) (hxy : x ≠ y) (hj : ys[j]? = some t) :
    ∃ ax ay vs ws u, σ[x]? = some (some (.ref ax)) ∧ σ[y]? = some (some (.ref ay)) ∧ H ax = some (.lst vs) ∧ H ay = some (.lst ws) ∧ vs.length = us.length ∧ ws.length = ys.length ∧ ws[j]? = some u ∧ ax ≠ ay ∧
      ∃ ns', SSt K g fx ts β (upd (upd H ay (.lst (ws.eraseIdx j))) ax (.lst (vs ++ [u]))) ((ρ.set y (some (.lst (ys.eraseIdx j)))).set x (some (.lst (us ++ [t])))) σ μ ns' bn := by
  obtain ⟨vx, evx, rx⟩ := S.e.sl x _ hx
  obtain ⟨vy, evy, ry⟩ := S.e.sl y _ hy
  obtain ⟨ax, vs, mx, rfl, hax, rlx, enx⟩ := rx
  obtain ⟨ay, ws, my, rfl, hay, rly, eny⟩ := ry
  have tx : ax ∈ (ns x).take 1 := by rw [enx]; simp
  have ty : ay ∈ (ns y).take 1 := by rw [eny]; simp
  have mx1 : ax ∈ ns x := List.mem_of_mem_take tx
  have my1 : ay ∈ ns y := List.mem_of_mem_take ty
  have mxs : ∀ b ∈ mx, b ∈ (ns x).drop 1 ∧ b ∈ ns x := fun b hb => ⟨by rw [enx]; simpa using hb, by rw [enx]; simp [hb]⟩
  have mys : ∀ b ∈ my, b ∈ (ns y).drop 1 ∧ b ∈ ns y := fun b hb => ⟨by rw [eny]; simpa using hb, by rw [eny]; simp [hb]⟩
  have hne : ax ≠ ay := fun z => S.dp x y hxy kx ax tx (z ▸ my1)
  obtain ⟨u, k, m', eu, ru, rl', sm, sk⟩ := rly.erase hj
  have xmx : ax ∉ mx := fun z => S.pn x kx ax tx (mxs ax z).1
  have ymy : ay ∉ my := fun z => S.pn y ky ay ty (mys ay z).1
  have xmy : ax ∉ my := fun z => S.dp x y hxy kx ax tx (mys ax z).2
  have ymx : ay ∉ mx := fun z => S.dp y x (fun e => hxy e.symm) ky ay ty (mxs ay z).2
  -- both away
  have S1 := S.kill [x, y]
  have nK : ∀ j b, b ∈ nsK ns [x, y] j → j ≠ x ∧ j ≠ y ∧ b ∈ ns j := fun j b hb => by
    obtain ⟨q, z⟩ := nsK_sub hb
    exact ⟨fun e => q (by simp [e]), fun e => q (by simp [e]), z⟩
  have nT : ∀ j b, b ∈ (nsK ns [x, y] j).take 1 → j ≠ x ∧ j ≠ y ∧ b ∈ (ns j).take 1 := fun j b hb => by
    obtain ⟨q, z⟩ := nsK_take hb
    exact ⟨fun e => q (by simp [e]), fun e => q (by simp [e]), z⟩
  have S2 := S1.wr (o := .lst (ws.eraseIdx j)) hay rfl (fun l z => by
    obtain ⟨_, h2, h3⟩ := nK l ay z
    exact S.dp y l (fun e => h2 e.symm) ky ay ty h3) (S.e.sb y ay my1) (S.frp y ky ay ty) (fun q hq => (S.tm q hq).p y ky ay ty)
  have hax2 : upd H ay (.lst (ws.eraseIdx j)) ax = some (.lst vs) := by rw [upd_ne hne]; exact hax
  have S3 := S2.wr (o := .lst (vs ++ [u])) hax2 rfl (fun l z => by
    obtain ⟨h1, _, h3⟩ := nK l ax z
    exact S.dp x l (fun e => h1 e.symm) kx ax tx h3) (S.e.sb x ax mx1) (S.frp x kx ax tx) (fun q hq => (S.tm q hq).p x kx ax tx)
  have k1 : Keeps (fun z => z = ay) H (upd H ay (.lst (ws.eraseIdx j))) := Keeps.write hay rfl rfl
  have k2 : Keeps (fun z => z = ax) (upd H ay (.lst (ws.eraseIdx j))) (upd (upd H ay (.lst (ws.eraseIdx j))) ax (.lst (vs ++ [u]))) := Keeps.write hax2 rfl rfl
  have up : ∀ {us : List T} {zs : List V} {l : List Addr}, RdsL K β H us zs l → ay ∉ l → ax ∉ l → RdsL K β (upd (upd H ay (.lst (ws.eraseIdx j))) ax (.lst (vs ++ [u]))) us zs l := fun r h1 h2 =>
    (r.keep k1 (fun _ _ e => e) _ fun b hb z => h1 (z ▸ hb)).keep k2 (fun _ _ e => e) _ fun b hb z => h2 (z ▸ hb)
  have up1 : ∀ {t : T} {z : V} {l : List Addr}, Rds K β H t z l → ay ∉ l → ax ∉ l → Rds K β (upd (upd H ay (.lst (ws.eraseIdx j))) ax (.lst (vs ++ [u]))) t z l := fun r h1 h2 =>
    (r.keep k1 (fun _ _ e => e) _ fun b hb z => h1 (z ▸ hb)).keep k2 (fun _ _ e => e) _ fun b hb z => h2 (z ▸ hb)
  have hyf : upd (upd H ay (.lst (ws.eraseIdx j))) ax (.lst (vs ++ [u])) ay = some (.lst (ws.eraseIdx j)) := by rw [upd_ne (fun e => hne e.symm), upd_same]
  have rdy : Rds K β (upd (upd H ay (.lst (ws.eraseIdx j))) ax (.lst (vs ++ [u]))) (.lst (ys.eraseIdx j)) (.ref ay) (ay :: m') := ⟨ay, _, m', rfl, hyf, up rl' (fun z => ymy (sm.subset z)) (fun z => xmy (sm.subset z)), rfl⟩
  have rdx : Rds K β (upd (upd H ay (.lst (ws.eraseIdx j))) ax (.lst (vs ++ [u]))) (.lst (us ++ [t])) (.ref ax) (ax :: (mx ++ k)) := ⟨ax, _, mx ++ k, rfl, upd_same, (up rlx ymx xmx).append (RdsL.one.mpr ⟨u, rfl, up1 ru (fun z => ymy (sk.subset z)) (fun z => xmy (sk.subset z))⟩), rfl⟩
  have iny : ∀ b ∈ ay :: m', b ∈ ns y := fun b hb => by
    rcases List.mem_cons.mp hb with rfl | hb
    · exact my1
    · exact (mys b (sm.subset hb)).2
  have inx : ∀ b ∈ ax :: (mx ++ k), b ∈ ns x ∨ b ∈ (ns y).drop 1 := fun b hb => by
    rcases List.mem_cons.mp hb with rfl | hb
    · exact .inl mx1
    · rcases List.mem_append.mp hb with hb | hb
      · exact .inl (mxs b hb).2
      · exact .inr (mys b (sk.subset hb)).1
  have Fy : Fits g fx ts (nsK ns [x, y]) y (.lst (ys.eraseIdx j)) (ay :: m') := by
    refine ⟨fun l hl hD a ha z => ?_, fun l hl hP a ha z => ?_, fun b hb => S.ln y b (iny b hb), (fun z => by rw [ky] at z; cases z), fun _ => ⟨.inl rfl, fun b hb z => ?_, fun l hl b hb z => ?_, fun b hb => ?_, fun q hq b hb z => ?_⟩⟩
    · obtain ⟨_, h2, h3⟩ := nK l a ha
      exact S.dd l y h2 hD a h3 (iny a z)
    · obtain ⟨_, h2, h3⟩ := nT l a ha
      exact S.dp l y h2 hP a h3 (iny a z)
    · obtain rfl : b = ay := by simpa using hb
      have z : b ∈ m' := by simpa using z
      exact ymy (sm.subset z)
    · obtain rfl : b = ay := by simpa using hb
      obtain ⟨_, h2, h3⟩ := nK l b z
      exact S.dp y l (fun e => h2 e.symm) ky b ty h3
    · obtain rfl : b = ay := by simpa using hb
      exact S.frp y ky b ty
    · obtain rfl : b = ay := by simpa using hb
      exact (S.tm q hq).p y ky b ty z
  have S4 := S3.put rdy (fun a ha => S.e.sb y a (iny a ha)) Fy
  have nP : ∀ l b, b ∈ nsP (nsK ns [x, y]) y (decide (y < (MP.kill ρ [x, y]).length)) (ay :: m') l → l ≠ x → (l = y ∧ b ∈ ay :: m') ∨ (l ≠ y ∧ b ∈ ns l) := fun l b hb hl => by
    by_cases e : l = y
    · subst e
      exact .inl ⟨rfl, nsP_self hb⟩
    · rw [nsP_ne e] at hb
      exact .inr ⟨e, (nK l b hb).2.2⟩
  have nPT : ∀ l b, b ∈ (nsP (nsK ns [x, y]) y (decide (y < (MP.kill ρ [x, y]).length)) (ay :: m') l).take 1 → l ≠ x → (l = y ∧ b = ay) ∨ (l ≠ y ∧ b ∈ (ns l).take 1) := fun l b hb hl => by
    by_cases e : l = y
    · subst e
      have := nsP_selfT hb
      exact .inl ⟨rfl, by simpa using this⟩
    · rw [nsP_ne e] at hb
      exact .inr ⟨e, (nT l b hb).2.2⟩
  have Fx : Fits g fx ts (nsP (nsK ns [x, y]) y (decide (y < (MP.kill ρ [x, y]).length)) (ay :: m')) x (.lst (us ++ [t])) (ax :: (mx ++ k)) := by
    refine ⟨fun l hl hD a ha z => ?_, fun l hl hP a ha z => ?_, fun b hb => ?_, (fun z => by rw [kx] at z; cases z), fun _ => ⟨.inl rfl, fun b hb z => ?_, fun l hl b hb z => ?_, fun b hb => ?_, fun q hq b hb z => ?_⟩⟩
    · rcases nP l a ha hl with ⟨rfl, _⟩ | ⟨h1, h2⟩
      · rw [ky] at hD; cases hD
      · rcases inx a z with q | q
        · exact S.dd l x hl hD a h2 q
        · exact S.dd l y h1 hD a h2 (List.mem_of_mem_drop q)
    · rcases nPT l a ha hl with ⟨rfl, rfl⟩ | ⟨h1, h2⟩
      · rcases inx a z with q | q
        · exact S.dp l x (fun e => hxy e.symm) ky a ty q
        · exact S.pn l ky a ty q
      · rcases inx a z with q | q
        · exact S.dp l x hl hP a h2 q
        · exact S.dp l y h1 hP a h2 (List.mem_of_mem_drop q)
    · rcases inx b hb with q | q
      · exact S.ln x b q
      · exact S.ln y b (List.mem_of_mem_drop q)
    · obtain rfl : b = ax := by simpa using hb
      have z : b ∈ mx ++ k := by simpa using z
      rcases List.mem_append.mp z with z | z
      · exact xmx z
      · exact xmy (sk.subset z)
    · obtain rfl : b = ax := by simpa using hb
      rcases nP l b z hl with ⟨rfl, q⟩ | ⟨h1, h2⟩
      · exact S.dp x l hxy kx b tx (iny b q)
      · exact S.dp x l (fun e => hl e.symm) kx b tx h2
    · obtain rfl : b = ax := by simpa using hb
      exact S.frp x kx b tx
    · obtain rfl : b = ax := by simpa using hb
      exact (S.tm q hq).p x kx b tx z
  have S5 := S4.put rdx (fun a ha => by
    rcases inx a ha with q | q
    · exact S.e.sb x a q
    · exact S.e.sb y a (List.mem_of_mem_drop q)) Fx
  have e1 : ((MP.kill ρ [x, y]).set y (some (.lst (ys.eraseIdx j)))).set x (some (.lst (us ++ [t]))) = (ρ.set y (some (.lst (ys.eraseIdx j)))).set x (some (.lst (us ++ [t]))) := by
    show (((ρ.set y none).set x none).set y (some (.lst (ys.eraseIdx j)))).set x (some (.lst (us ++ [t]))) = _
    rw [List.set_comm _ _ (fun e => hxy e.symm), List.set_set, List.set_comm _ _ hxy, List.set_set]
  have ex : σ.set y (some (.ref ay)) = σ := by
    obtain ⟨q1, q2⟩ := List.getElem?_eq_some_iff.mp evy
    rw [← q2]
    exact List.set_getElem_self q1
  have ey : σ.set x (some (.ref ax)) = σ := by
    obtain ⟨q1, q2⟩ := List.getElem?_eq_some_iff.mp evx
    rw [← q2]
    exact List.set_getElem_self q1
  rw [e1, ex, ey] at S5
  exact ⟨ax, ay, vs, ws, u, evx, evy, hax, hay, rlx.length, rly.length, eu, hne, _, S5⟩
end
section
variable {X : Cx} {C : Cf} {fx : Fx} {rk : RK} {E : XK} {ts : List Tmp} {Wf : Nat} {b : Expr} {ie : IE} {pos : Pos}
theorem s_appPop {x y : Nat} {nx ny : Str} {p1 p2 apos apos2 cpos cpos2 : Pos} (hNx : X.N[x]? = some nx) (hvx : Vis X.env.scope nx) (hdx : (nx == ("__debug__" : Str)) = false) (hcx : (nx == ("__classdict__" : Str)) = false)
    (hNy : X.N[y]? = some ny) (hvy : Vis X.env.scope ny) (hdy : (ny == ("__debug__" : Str)) = false) (hcy : (ny == ("__classdict__" : Str)) = false) (hb : PE X b (tE C X.K (WE0 E) ie)) (hst : nost b = true)
    (hl1 : (apos.endLine == cpos.line) = true) (hl2 : (apos2.endLine == cpos2.line) = true) (kx : C.g.k x = .P) (ky : C.g.k y = .P) (hxy : x ≠ y) :
    PS X (.Expr (.Call (.Attribute (.Name nx p1) "append" apos) [.Call (.Attribute (.Name ny p2) "pop" apos2) [b] [] cpos2] [] cpos) pos) (TS1 X C fx rk E ts Wf (.appPop x y (some ie))) := by
  have h0 := pe_bm (X := X) (name := "pop") (cpos := cpos2) (apos := apos2) PySem.F.plainAttrs_list PySem.F.slot_list_pop PySem.F.type_list_pop mt_popAt (pe_var (pos := p2) hNy hvy hdy hcy) (pa_cons hb pa_nil (star_cons hst)) (by rfl) (by rw [star_cons hst] <;> rfl) hl2 (star_cons hst) (star_any (by rfl))
  have h1 := pe_bm (X := X) (name := "append") (cpos := cpos) (apos := apos) PySem.F.plainAttrs_list PySem.F.slot_list_append PySem.F.type_list_append mt_append (pe_var (pos := p1) hNx hvx hdx hcx) (pa_cons h0 pa_nil (by rfl)) (by rfl) (by rfl) hl1 (by rfl) (star_any (by rfl))
  refine (ps_expr h1 (by rfl)).weak fun D σ H h => ?_
  obtain ⟨ρ, μ, β, ns, bn, S, h⟩ := h
  obtain ⟨us, ex, h⟩ := Sat_opt (Sat_bind h)
  obtain ⟨ys, ey, h⟩ := Sat_opt (Sat_bind h)
  have ex := getL_some ex
  have ey := getL_some ey
  have h : Sat (((evE C.F ρ ie μ).bind fun t μ => Res.ok (some t) μ).bind fun i μ => (opt (pPop (.lst ys) i) μ).bind fun r μ => if Nat.blt us.length line then Res.ok (Fl.nx, (ρ.set y (some r.2)).set x (some (.lst (us ++ [r.1])))) μ else .stuck) (PostS C X.K fx rk ts D) (XS C X.K fx E) := h
  have h := Sat_bind (Sat_bind h)
  show tVar x σ H fun v H1 => tyV X.K "list" v H1 ∧ tCons (fun σ H Q => tVar y σ H fun w H1 => tyV X.K "list" w H1 ∧ tCons (tE C X.K (WE0 E) ie) tNil σ H1 fun vs H2 => rPopAt w vs H2 Q) tNil σ H1 fun vs H2 => rAppend v vs H2 fun _ H3 => D.nx σ H3
  refine tVar_of S ex fun v evx rx => ?_
  obtain ⟨p, vs0, m0, rfl, ep, _, _⟩ := rx
  refine ⟨.inl ⟨rfl, _, SqL.of ep⟩, ?_⟩
  show tVar y σ H fun w H1 => tyV X.K "list" w H1 ∧ tCons (tE C X.K (WE0 E) ie) tNil σ H1 fun vs H2 => rPopAt w vs H2 fun v2 H3 => rAppend (.ref p) [v2] H3 fun _ H4 => D.nx σ H4
  refine tVar_of S ey fun w evy ry => ?_
  obtain ⟨p', ws0, m0', rfl, ep', _, _⟩ := ry
  refine ⟨.inl ⟨rfl, _, SqL.of ep'⟩, ?_⟩
  refine use1 S h fun t μ1 w H1 bn1 n q s1 x1 => ?_
  obtain ⟨r, er, q⟩ := Sat_opt (Sat_bind q)
  obtain ⟨hz, q⟩ := Sat_if q
  cases t with
  | int i =>
    simp only [pPop] at er
    split at er
    · rename_i hs
      split at er
      · rename_i j hj
        split at er
        · rename_i t ht
          cases er
          obtain ⟨rfl, _⟩ := x1.rd
          obtain ⟨ax, ay, vs, ws, u, e1, e2, e3, e4, e5, e6, e7, hne, ns', S'⟩ := (S.step s1).moveP ex ey kx ky hxy ht
          rw [evx] at e1; cases e1
          rw [evy] at e2; cases e2
          obtain ⟨b1, b2⟩ := smallI_ok hs
          obtain ⟨i1, _, _, _⟩ := ixN_seq hj
          refine ⟨p', ws, i, j, u, rfl, rfl, e4, by omega, by omega, by rw [e6]; exact i1, e7, ?_⟩
          refine ⟨p, vs, u, rfl, rfl, by rw [upd_ne hne]; exact e3, by rw [e5]; exact lt_line hz, ?_⟩
          exact q _ _ _ _ _ S'
        · cases er
      · cases er
    · cases er
  | _ => simp [pPop] at er
end
end MP

/-! C23: if, while, for, return, boxes made. -/
namespace MP
open PySem L2
section
variable {X : Cx} {C : Cf} {fx : Fx} {rk : RK} {E : XK} {ts : List Tmp} {Wf : Nat} {a b c e tg iter : Expr} {x y z ie : IE} {pos : Pos} {D : Ends} {σ : St} {H : Hp} {ρ : Env} {μ : Mem} {β : List Addr} {ns bn : Nat → List Addr}
theorem Sat.post {r : Res (Fl × Env)} {P P' : Fl × Env → Mem → Prop} {E' : Nat → T → Mem → Prop} (h : Sat r P E') (k : ∀ q μ', P q μ' → P' q μ') : Sat r P' E' := h.mono k fun _ _ _ e => e
/-- what is wanted, with another end for 'next' -/
theorem PostS.nx {D : Ends} {r : Fl × Env} {μ' : Mem} {n' : St → Hp → Prop} (h : PostS C X.K fx rk ts D r μ') (hn : r.1 = .nx → (∀ β' ns' bn' σ' H', SSt X.K C.g fx ts β' H' r.2 σ' μ' ns' bn' → n' σ' H')) : PostS C X.K fx rk ts { D with nx := n' } r μ' := by
  obtain ⟨f, ρ'⟩ := r
  cases f with
  | nx => exact hn rfl
  | bk => exact h
  | rt t => exact h
/-! ### rows of statements -/
theorem ss_nil : PSs X [] (TSS X C fx rk E ts Wf []) := pss_nil.weak fun D σ H h => by
  obtain ⟨ρ, μ, β, ns, bn, S, h⟩ := h
  exact h _ _ _ _ _ S
theorem ss_cons {st : Stmt} {sts : List Stmt} {i : IS} {is : List IS} (h1 : PS X st (TS1 X C fx rk E ts Wf i)) (h2 : PSs X sts (TSS X C fx rk E ts Wf is)) : PSs X (st :: sts) (TSS X C fx rk E ts Wf (i :: is)) := (pss_cons h1 h2).weak fun D σ H h => by
  obtain ⟨ρ, μ, β, ns, bn, S, h⟩ := h
  refine ⟨ρ, μ, β, ns, bn, S, (Sat_bind h).post fun q μ1 h => ?_⟩
  obtain ⟨f, ρ1⟩ := q
  cases f with
  | nx => exact fun β' ns' bn' σ' H' S' => ⟨ρ1, μ1, β', ns', bn', S', h⟩
  | bk => exact h
  | rt t => exact h
/-- a ghost statement -/
theorem ss_ghost {sts : List Stmt} {i : IS} {is : List IS} (h2 : PSs X sts (TSS X C fx rk E ts Wf is)) (g : ∀ D σ H, TSS X C fx rk E ts Wf (i :: is) D σ H → TSS X C fx rk E ts Wf is D σ H) : PSs X sts (TSS X C fx rk E ts Wf (i :: is)) := h2.weak g
/-! ### if -/
theorem s_iff {p q : List Stmt} {ip iq : List IS} (hc : PT X c (tT C X.K (WE0 E) x)) (hp : PSs X p (TSS X C fx rk E ts Wf ip)) (hq : PSs X q (TSS X C fx rk E ts Wf iq)) : PS X (.If c p q pos) (TS1 X C fx rk E ts Wf (.iff x ip iq)) := (ps_if hc hp hq).weak fun D σ H h => by
  obtain ⟨ρ, μ, β, ns, bn, S, h⟩ := h
  refine use1T S (Sat_bind h) (fun t μ1 h => ?_) fun d μ1 H1 bn1 h s1 => ?_
  · cases t <;> first | exact False.elim h | exact ⟨_, rfl⟩
  · cases d with
    | true => rw [if_pos rfl]; exact ⟨ρ, μ1, β, ns, bn1, S.step s1, h⟩
    | false => rw [if_neg (by decide)]; exact ⟨ρ, μ1, β, ns, bn1, S.step s1, h⟩
/-! ### while -/
theorem s_wh {p : List Stmt} {ip : List IS} (hpo : PassesOwn (model X.prog X.w) X.A X.env X.xe) (hc : PT X c (tT C X.K (WE0 E) x)) (hp : PSs X p (TSS X C fx rk E ts Wf ip)) : PS X (.While c p [] pos) (TS1 X C fx rk E ts Wf (.wh x ip)) := (ps_while hpo hc hp).weak fun D σ H h => by
  obtain ⟨ρ, μ, β, ns, bn, S, h⟩ := h
  refine ⟨fun m σ H => ∃ ρ μ β ns bn, SSt X.K C.g fx ts β H ρ σ μ ns bn ∧ Sat (whLoop (fun ρ μ => evE C.F ρ x μ) (fun ρ μ => evIs C.F Wf ip ρ μ) m ρ μ) (PostS C X.K fx rk ts D) (XS C X.K fx E), ⟨Wf, ρ, μ, β, ns, bn, S, h⟩, ?_⟩
  rintro m σ H ⟨ρ, μ, β, ns, bn, S, h⟩
  cases m with
  | zero => exact h.elim
  | succ m =>
    refine use1T S (Sat_bind h) (fun t μ1 h => ?_) fun d μ1 H1 bn1 h s1 => ?_
    · cases t <;> first | exact False.elim h | exact ⟨_, rfl⟩
    · have S1 := S.step s1
      cases d with
      | false =>
        rw [if_neg (by decide)]
        exact h _ _ _ _ _ S1
      | true =>
        rw [if_pos rfl]
        refine ⟨fun σ H => ∃ ρ μ β ns bn, SSt X.K C.g fx ts β H ρ σ μ ns bn ∧ Sat (whLoop (fun ρ μ => evE C.F ρ x μ) (fun ρ μ => evIs C.F Wf ip ρ μ) m ρ μ) (PostS C X.K fx rk ts D) (XS C X.K fx E), fun σ' H' h' => ⟨m, Nat.lt_succ_self m, h'⟩, ?_⟩
        refine ⟨ρ, μ1, β, ns, bn1, S1, (Sat_bind h).post fun q μ2 h => ?_⟩
        obtain ⟨f, ρ2⟩ := q
        cases f with
        | nx => exact fun β' ns' bn' σ' H' S' => ⟨ρ2, μ2, β', ns', bn', S', h⟩
        | bk => exact h
        | rt t => exact h
/-! ### return -/
/-- by the text: may it be given back -/
def retB (g : Sg) (rk : RK) (i : Inf) : Bool := match rk with
  | .S => true
  | .I => true
  | .D => i.lin && i.dc.isEmpty && i.dp.all fun j => g.k j == .D
  | .P => i.top
/-- a slot's own thing is given back -/
def retVar (g : Sg) (rk : RK) : IE → Bool
  | .var i => (match rk with
    | .D => g.k i == .D
    | .P => g.k i != .S
    | _ => true)
  | _ => false
theorem s_ret (ha : PE X a (tE C X.K (WE0 E) x)) (hr : (retB C.g rk (info C.g x) || retVar C.g rk x) = true) : PS X (.Return (some a) pos) (TS1 X C fx rk E ts Wf (.ret (some x))) := (ps_ret ha).weak fun D σ H h => by
  obtain ⟨ρ, μ, β, ns, bn, S, h⟩ := h
  refine use1 S (Sat_bind h) fun t μ1 v H1 bn1 n q s1 x1 => ?_
  have S1 := S.step s1
  have src : ∀ b ∈ n, fx.H b = none ∨ b ∈ fx.A := fun b hb => by
    rcases x1.ok.src b hb with z | ⟨j, _, z⟩ | ⟨j, _, z⟩
    · exact .inl (S.keep.more b z)
    · exact S.ln j b z
    · exact S.ln j b (List.mem_of_mem_drop z)
  refine q β bn1 v H1 n ⟨S1.e.box, S1.keep, S1.sub, S1.pre, x1.rd, x1.nb, src, fun hk => ?_, fun hk hn => ?_⟩
  · subst hk
    rw [Bool.or_eq_true] at hr
    rcases hr with hr | hr
    · simp only [retB, Bool.and_eq_true, List.all_eq_true] at hr
      obtain ⟨⟨h1, h2⟩, h3⟩ := hr
      refine ⟨x1.ok.lin h1, fun b hb => ?_⟩
      rcases x1.ok.src b hb with z | ⟨j, j1, z⟩ | ⟨j, j1, _⟩
      · exact S.keep.more b z
      · exact S.frd j (by simpa using h3 j j1) b z
      · rw [List.isEmpty_iff.mp h2] at j1; cases j1
    · cases x <;> simp only [retVar, reduceCtorEq] at hr
      rename_i i
      have hD : C.g.k i = .D := by simpa using hr
      have e1 : (info C.g (.var i)).lin = true := by simp [info, hD]
      refine ⟨x1.ok.lin e1, fun b hb => ?_⟩
      rcases x1.ok.src b hb with z | ⟨j, j1, z⟩ | ⟨j, j1, _⟩
      · exact S.keep.more b z
      · obtain rfl : j = i := by simpa [info] using j1
        exact S.frd j hD b z
      · simp [info] at j1
  · rw [Bool.or_eq_true] at hr
    have top : (info C.g x).top = true → ∃ p l, n = p :: l ∧ fx.H p = none ∧ p ∉ l := fun ht => by
      obtain ⟨p, l, e, hp, nm⟩ := x1.ok.top ht hn
      exact ⟨p, l, e, S.keep.more p hp, nm⟩
    rcases hr with hr | hr
    · rcases hk with hk | hk
      · subst hk
        simp only [retB, Bool.and_eq_true, List.all_eq_true] at hr
        obtain ⟨⟨h1, h2⟩, h3⟩ := hr
        obtain ⟨p, l, en⟩ : ∃ p l, n = p :: l := by
          cases n with
          | nil => exact (node_ne x1.rd hn).elim
          | cons p l => exact ⟨p, l, rfl⟩
        have nd := x1.ok.lin h1
        rw [en] at nd
        refine ⟨p, l, en, ?_, (List.nodup_cons.mp nd).1⟩
        rcases x1.ok.src p (by rw [en]; simp) with z | ⟨j, j1, z⟩ | ⟨j, j1, _⟩
        · exact S.keep.more p z
        · exact S.frd j (by simpa using h3 j j1) p z
        · rw [List.isEmpty_iff.mp h2] at j1; cases j1
      · subst hk
        exact top hr
    · cases x <;> simp only [retVar, reduceCtorEq] at hr
      rename_i i
      obtain ⟨p, l, en⟩ : ∃ p l, n = p :: l := by
        cases n with
        | nil => exact (node_ne x1.rd hn).elim
        | cons p l => exact ⟨p, l, rfl⟩
      cases hkk : C.g.k i with
      | S => rcases hk with hk | hk <;> subst hk <;> simp [hkk] at hr
      | D =>
        have e1 : (info C.g (.var i)).lin = true := by simp [info, hkk]
        have nd := x1.ok.lin e1
        rw [en] at nd
        refine ⟨p, l, en, ?_, (List.nodup_cons.mp nd).1⟩
        rcases x1.ok.src p (by rw [en]; simp) with z | ⟨j, j1, z⟩ | ⟨j, j1, _⟩
        · exact S.keep.more p z
        · obtain rfl : j = i := by simpa [info] using j1
          exact S.frd j hkk p z
        · simp [info] at j1
      | P =>
        have e1 : (info C.g (.var i)).self = some i := by simp [info, hkk]
        obtain ⟨e2, _⟩ := x1.ok.self i e1
        have e3 : ns i = p :: l := by rw [← e2, en]
        refine ⟨p, l, en, S.frp i hkk p (by rw [e3]; simp), fun z => S.pn i hkk p (by rw [e3]; simp) (by rw [e3]; simpa using z)⟩
theorem s_retN (hr : rk = .I ∨ rk = .S ∨ rk = .D ∨ rk = .P) : PS X (.Return none pos) (TS1 X C fx rk E ts Wf (.ret none)) := ps_retN.weak fun D σ H h => by
  obtain ⟨ρ, μ, β, ns, bn, S, h⟩ := h
  exact h β bn .non H [] ⟨S.e.box, S.keep, S.sub, S.pre, ⟨rfl, rfl⟩, (fun _ z => by cases z), (fun _ z => by cases z), (fun _ => ⟨List.nodup_nil, fun _ z => by cases z⟩), fun _ z => by cases z⟩
/-! ### for -/
theorem SSt.untmp {q : Tmp} (S : SSt X.K C.g fx (q :: ts) β H ρ σ μ ns bn) : SSt X.K C.g fx ts β H ρ σ μ ns bn := ⟨S.e, S.dd, S.pn, S.dp, S.frd, S.frp, S.keep, S.sub, S.pre, S.ln, fun q hq => S.tm q (List.mem_cons_of_mem _ hq)⟩
theorem SSt.tmp {q : Tmp} (S : SSt X.K C.g fx ts β H ρ σ μ ns bn) (h : TmpOk C.g fx β bn ns H q) : SSt X.K C.g fx (q :: ts) β H ρ σ μ ns bn := ⟨S.e, S.dd, S.pn, S.dp, S.frd, S.frp, S.keep, S.sub, S.pre, S.ln, fun q' hq => by
  rcases List.mem_cons.mp hq with rfl | hq
  · exact h
  · exact S.tm q' hq⟩
/-- a walked item goes into the targets -/
theorem SSt.bound {q : Tmp} {is : List Nat} {ρ' : Env} {σ' : St} {ns' : Nat → List Addr} {n : List Addr} (S : SSt X.K C.g fx (q :: ts) β H ρ σ μ ns bn) (B : Bnd X.K C.g β H ρ' μ bn ns σ is n σ' ns') (hk : ∀ i ∈ is, C.g.k i = .S) (hn : ∀ a ∈ n, a ∈ q.m) : SSt X.K C.g fx (q :: ts) β H ρ' σ' μ ns' bn := by
  have T := S.tm q List.mem_cons_self
  have same : ∀ j, C.g.k j ≠ .S → ns' j = ns j := fun j hj => by
    rcases B.own j with e | ⟨e, _⟩
    · exact e
    · exact absurd (hk j e) hj
  refine ⟨B.st, fun i j hne hD a ha z => ?_, fun i hP a ha z => ?_, fun i j hne hP a ha z => ?_, fun i hD a ha => ?_, fun i hP a ha => ?_, S.keep, S.sub, S.pre, fun i a ha => ?_, fun q' hq' => ?_⟩
  · rw [same i (by rw [hD]; decide)] at ha
    rcases B.own j with e | ⟨_, e⟩
    · rw [e] at z; exact S.dd i j hne hD a ha z
    · exact T.d i hD a ha (hn a (e a z))
  · rw [same i (by rw [hP]; decide)] at ha z
    exact S.pn i hP a ha z
  · rw [same i (by rw [hP]; decide)] at ha
    rcases B.own j with e | ⟨_, e⟩
    · rw [e] at z; exact S.dp i j hne hP a ha z
    · exact T.p i hP a ha (hn a (e a z))
  · rw [same i (by rw [hD]; decide)] at ha
    exact S.frd i hD a ha
  · rw [same i (by rw [hP]; decide)] at ha
    exact S.frp i hP a ha
  · rcases B.own i with e | ⟨_, e⟩
    · rw [e] at ha; exact S.ln i a ha
    · exact T.ln a (hn a (e a ha))
  · have T' := S.tm q' hq'
    exact ⟨T'.nb, fun i hD a ha => by rw [same i (by rw [hD]; decide)] at ha; exact T'.d i hD a ha, fun i hP a ha => by rw [same i (by rw [hP]; decide)] at ha; exact T'.p i hP a ha, T'.trk, T'.keep, T'.holds, T'.ln, T'.pre⟩
/-- by the text: what is walked is given away, where it is ours -/
def walkB (g : Sg) (w : Inf) (ks : List Nat) : Bool := (w.dp.all fun j => g.k j == .S || ks.contains j) && w.dc.all fun j => g.k j == .S || ks.contains j
theorem s_for {p : List Stmt} {ip : List IS} {t : Tg} {it : II} {ks : List Nat} (hpo : PassesOwn (model X.prog X.w) X.A X.env X.xe) (hc : X.calm = true) (hi : PI X tg iter (tI C X.K (WE0 E) it)) (hg : PG X tg (gTg X.K t)) (hk : ∀ i ∈ t.slots, C.g.k i = .S) (hw : walkB C.g (infoW C.g it) ks = true) (hs : ∀ x, foldedSetIterable iter X.env x = pure x)
    (hp : ∀ ts, PSs X p (TSS X C fx rk E ts Wf ip)) : PS X (.For tg iter p [] pos) (TS1 X C fx rk E ts Wf (.for t it ip ks)) := ⟨fun pins s σ H D I h => by
  obtain ⟨ρ, μ, β, ns, bn, S, h⟩ := h
  have S0 := S
  -- the walked thing's nodes are told only when it has come: the body holds for every row of walked things
  have h := Sat_bind h
  refine (PS.run (X := X) (ps_for (tb := fun D σ H => ∃ ts, TSS X C fx rk E ts Wf ip D σ H) hpo hc hi hg ⟨fun pins s σ H D I ⟨ts, q⟩ => (hp ts).run pins s σ H D I q⟩ hs) pins s σ H D I ?_)
  refine ⟨ρ, μ, β, ns, bn, S.e, (Sat.xw S h).mono (fun xs μ1 q J H1 bn1 mm G s1 io => ?_) fun _ _ _ e => e⟩
  have S1 := (S.step s1).kill ks
  have trk : ∀ j b, b ∈ ns j → H b ≠ none := fun j b hb z => by
    obtain ⟨o, e, _⟩ := S.e.node hb
    rw [e] at z; cases z
  simp only [walkB, Bool.and_eq_true, List.all_eq_true] at hw
  have w1 : ∀ l ∈ (infoW C.g it).dp, C.g.k l = .S ∨ l ∈ ks := fun l hl => by simpa using hw.1 l hl
  have w2 : ∀ l ∈ (infoW C.g it).dc, C.g.k l = .S ∨ l ∈ ks := fun l hl => by simpa using hw.2 l hl
  have T1 : TmpOk C.g fx β bn1 (nsK ns ks) H1 ⟨β, mm, G⟩ := by
    refine ⟨io.nb, fun j hD b hb z => ?_, fun j hP b hb z => ?_, io.trk, io.keep, io.g0, fun b hb => ?_, ?_⟩
    · obtain ⟨q1, q2⟩ := nsK_sub hb
      rcases io.src b z with e | ⟨l, l1, l2⟩ | ⟨l, l1, l2⟩
      · exact trk j b q2 e
      · by_cases hl : l = j
        · subst hl
          rcases w1 l l1 with e | e
          · rw [hD] at e; cases e
          · exact q1 e
        · exact S.dd j l (fun z => hl z.symm) hD b q2 l2
      · by_cases hl : l = j
        · subst hl
          rcases w2 l l1 with e | e
          · rw [hD] at e; cases e
          · exact q1 e
        · exact S.dd j l (fun z => hl z.symm) hD b q2 (List.mem_of_mem_drop l2)
    · obtain ⟨q1, q2⟩ := nsK_take hb
      rcases io.src b z with e | ⟨l, l1, l2⟩ | ⟨l, l1, l2⟩
      · exact trk j b (List.mem_of_mem_take q2) e
      · by_cases hl : l = j
        · subst hl
          rcases w1 l l1 with e | e
          · rw [hP] at e; cases e
          · exact q1 e
        · exact S.dp j l (fun z => hl z.symm) hP b q2 l2
      · by_cases hl : l = j
        · subst hl
          rcases w2 l l1 with e | e
          · rw [hP] at e; cases e
          · exact q1 e
        · exact S.dp j l (fun z => hl z.symm) hP b q2 (List.mem_of_mem_drop l2)
    · rcases io.src b hb with z | ⟨l, _, z⟩ | ⟨l, _, z⟩
      · exact .inl (S.keep.more b z)
      · exact S.ln l b z
      · exact S.ln l b (List.mem_of_mem_drop z)
    · exact ⟨[], by simp⟩
  have S2 := S1.tmp T1
  generalize hf : (fun x ρ μ => match bindTg t x ρ with | some ρ' => evIs C.F Wf ip ρ' μ | none => .stuck) = f at q
  let Pv : Nat → St → Hp → Prop := fun i σ H => ∃ ρ μ β' ns bn, SSt X.K C.g fx (⟨β, mm, G⟩ :: ts) β' H ρ σ μ ns bn ∧ Sat (forLoop f (xs.drop i) ρ μ) (PostS C X.K fx rk ts D) (XS C X.K fx E)
  refine for_it (g := gTg X.K t) (tb := fun D σ H => ∃ ts, TSS X C fx rk E ts Wf ip D σ H) (D := D) io.walk Pv ⟨_, μ1, β, _, bn1, S2, q⟩ (fun i σ H _ ⟨_, _, _, _, _, S, _⟩ => (S.tm _ List.mem_cons_self).holds) ?_ ?_
  · intro i x σ3 H3 H4 hi' ⟨ρ3, μ3, β3, ns3, bn3, S3, q⟩ ⟨n1, tx, nx, etx, rx, hx⟩
    obtain ⟨r3, e3⟩ := (S3.tm _ List.mem_cons_self).pre
    have hdr : xs.drop i = tx :: xs.drop (i + 1) := by
      obtain ⟨h1, h2⟩ := List.getElem?_eq_some_iff.mp etx
      rw [← h2]
      exact List.drop_eq_getElem_cons h1
    rw [hdr] at q
    have q := Sat_bind q
    have S4 := S3.step (Step.new1 S3.e.box n1)
    have rx' : Rds X.K β3 H4 tx x nx := rx.keep (B := fun _ => False) (Keeps.refl _ _) (fun k a e => by
      rw [e3, List.getElem?_append_left (List.getElem?_eq_some_iff.mp e).1]
      exact e) _ (fun _ _ z => z)
    rw [← hf] at q
    dsimp only at q
    cases hb : bindTg t tx ρ3 with
    | none => rw [hb] at q; exact False.elim q
    | some ρ4 =>
    rw [hb] at q
    have T4 := S4.tm _ List.mem_cons_self
    refine gTg_ok t S4.e rx' (fun a ha => T4.nb a (hx a ha).1) hb hk fun σ5 ns5 B => ?_
    have S5 := S4.bound B hk fun a ha => (hx a ha).1
    refine ⟨⟨β, mm, G⟩ :: ts, ρ4, μ3, β3, ns5, bn3, S5, q.post fun r μ6 q => ?_⟩
    obtain ⟨fl, ρ6⟩ := r
    cases fl with
    | nx =>
      intro β' ns' bn' σ' H' S'
      exact ⟨ρ6, μ6, β', ns', bn', S', by rw [← hf]; exact q⟩
    | bk => exact fun β' ns' bn' σ' H' S' => q _ _ _ _ _ S'.untmp
    | rt t => exact q
  · intro σ3 H3 ⟨ρ3, μ3, β3, ns3, bn3, S3, q⟩
    rw [List.drop_length] at q
    exact q _ _ _ _ _ S3.untmp⟩
end
end MP

/-! C24: boxes made; does the small text stand for the given statements. -/
namespace MP
open PySem L2
section
variable {X : Cx} {C : Cf} {fx : Fx} {rk : RK} {E : XK} {ts : List Tmp} {Wf : Nat} {a b c e tg iter : Expr} {x y z ie : IE} {pos : Pos} {D : Ends} {σ : St} {H : Hp} {ρ : Env} {μ : Mem} {β : List Addr} {ns bn : Nat → List Addr}
theorem pre_get {β r : List Addr} : ∀ (i : Nat) (a : Addr), β[i]? = some a → (β ++ r)[i]? = some a := fun i a e => by
  rw [List.getElem?_append_left (List.getElem?_eq_some_iff.mp e).1]; exact e
theorem ghost_box {i : Nat} {is : List IS} (hk : C.g.k i = .D) (h : TSS X C fx rk E ts Wf (.mkbox i :: is) D σ H) : TSS X C fx rk E ts Wf is D σ H := by
  obtain ⟨ρ, μ, β, ns, bn, S, h⟩ := h
  have h := Sat_bind h
  rw [evI1] at h
  cases et : getV ρ i with
  | none => rw [et] at h; exact h.elim
  | some t =>
  rw [et] at h
  obtain ⟨ok, h⟩ := Sat_if h
  rw [Bool.and_eq_true] at ok
  obtain ⟨bl, nd⟩ := ok
  have hn : isNode t = true := by cases t <;> first | rfl | cases nd
  obtain ⟨v, ev, r⟩ := S.e.sl i t et
  obtain ⟨a, m, rfl, en⟩ : ∃ a m, v = .ref a ∧ ns i = a :: m := by
    cases t <;> try (cases hn; done)
    · obtain ⟨a, _, m, e1, _, _, e2⟩ := r; exact ⟨a, m, e1, e2⟩
    · obtain ⟨a, _, m, e1, _, _, _, e2⟩ := r; exact ⟨a, m, e1, e2⟩
    · obtain ⟨a, _, m, e1, _, _, _, e2⟩ := r; exact ⟨a, m, e1, e2⟩
  let bn' : Nat → List Addr := fun k => if k = β.length then ns i else bn k
  have bnO : ∀ k, k < β.length → bn' k = bn k := fun k hk => if_neg (Nat.ne_of_lt hk)
  have bnN : bn' β.length = ns i := if_pos rfl
  have up : ∀ {t : T} {v : V} {n : List Addr}, Rds X.K β H t v n → Rds X.K (β ++ [a]) H t v n := fun {t v n} r => r.keep (B := fun _ => False) (Keeps.refl _ _) pre_get t fun _ _ z => z
  have bx' : ∀ y, Bx (β ++ [a]) bn' y → Bx β bn y ∨ y ∈ ns i := fun y ⟨k, hk, z⟩ => by
    by_cases h : k = β.length
    · subst h; rw [bnN] at z; exact .inr z
    · have hk' : k < β.length := by rw [List.length_append, List.length_singleton] at hk; omega
      rw [bnO k hk'] at z
      exact .inl ⟨k, hk', z⟩
  have box : BoxOk X.K (β ++ [a]) H (μ ++ [t]) bn' := by
    refine ⟨by rw [List.length_append, List.length_append, S.e.box.len]; rfl, fun k u e => ?_, fun k l hne h1 h2 y hy z => ?_, S.e.box.tb⟩
    · by_cases hk' : k < μ.length
      · rw [List.getElem?_append_left hk'] at e
        obtain ⟨a', e1, r1, b1, n1⟩ := S.e.box.rd k u e
        have hb : k < β.length := by rw [S.e.box.len]; exact hk'
        refine ⟨a', pre_get _ _ e1, ?_, b1, ?_⟩
        · rw [bnO k hb]; exact up r1
        · rw [bnO k hb]; exact n1
      · have hl : k < (μ ++ [t]).length := (List.getElem?_eq_some_iff.mp e).1
        rw [List.length_append, List.length_singleton] at hl
        have hk2 : k = μ.length := by omega
        subst hk2
        rw [List.getElem?_append_right (Nat.le_refl _), Nat.sub_self] at e
        cases e
        rw [← S.e.box.len]
        refine ⟨a, by rw [List.getElem?_append_right (Nat.le_refl _), Nat.sub_self] <;> rfl, ?_, bl, ?_⟩
        · rw [bnN]; exact up r
        · rw [bnN]; exact S.e.dn i hk
    · rw [List.length_append, List.length_singleton] at h1 h2
      by_cases k1 : k = β.length
      · subst k1
        rw [bnN] at hy
        have l1 : l < β.length := by omega
        rw [bnO l l1] at z
        exact S.e.sb i y hy ⟨l, l1, z⟩
      · have k2 : k < β.length := by omega
        rw [bnO k k2] at hy
        by_cases l1 : l = β.length
        · subst l1; rw [bnN] at z; exact S.e.sb i y z ⟨k, k2, hy⟩
        · have l2 : l < β.length := by omega
          rw [bnO l l2] at z
          exact S.e.box.dj k l hne k2 l2 y hy z
  have hl : i < ρ.length := by
    by_cases q : i < ρ.length
    · exact q
    · unfold getV at et
      rw [List.getElem?_eq_none (by omega)] at et
      cases et
  let ns' : Nat → List Addr := fun j => if j = i then [] else ns j
  have nsN : ∀ j, j ≠ i → ns' j = ns j := fun j hj => if_neg hj
  have ns0 : ns' i = [] := if_pos rfl
  have sub' : ∀ j y, y ∈ ns' j → j ≠ i ∧ y ∈ ns j := fun j y hy => by
    by_cases hj : j = i
    · subst hj; rw [ns0] at hy; cases hy
    · rw [nsN j hj] at hy; exact ⟨hj, hy⟩
  have subT : ∀ j y, y ∈ (ns' j).take 1 → j ≠ i ∧ y ∈ (ns j).take 1 := fun j y hy => by
    by_cases hj : j = i
    · subst hj; rw [ns0] at hy; cases hy
    · rw [nsN j hj] at hy; exact ⟨hj, hy⟩
  have sb : ∀ j y, y ∈ ns' j → ¬ Bx (β ++ [a]) bn' y := fun j y hy z => by
    obtain ⟨hj, hy⟩ := sub' j y hy
    rcases bx' y z with z | z
    · exact S.e.sb j y hy z
    · exact S.dd i j (fun e => hj e.symm) hk y z hy
  have St : SSt X.K C.g fx ts (β ++ [a]) H (ρ.set i (some (.box μ.length))) σ (μ ++ [t]) ns' bn' := by
    refine ⟨⟨box, by rw [List.length_set]; exact S.e.len, fun j u e => ?_, fun j e => ?_, sb, fun j hj => ?_, fun j l hne h1 h2 y hy z => ?_, fun j u hj e => ?_⟩, fun j l hne h1 y hy z => ?_, fun j hj y hy z => ?_, fun j l hne hj y hy z => ?_, fun j hj y hy => ?_, fun j hj y hy => ?_, ?_, fun y z => ?_, ?_, fun j y hy => ?_, fun q hq => ?_⟩
    · rw [getV_set] at e
      by_cases hj : j = i
      · subst hj
        rw [if_pos ⟨rfl, hl⟩] at e
        cases e
        refine ⟨_, ev, ?_⟩
        rw [ns0]
        refine ⟨a, rfl, ?_, rfl⟩
        rw [← S.e.box.len, List.getElem?_append_right (Nat.le_refl _), Nat.sub_self] <;> rfl
      · rw [if_neg (fun z => hj z.1)] at e
        obtain ⟨w, e1, r1⟩ := S.e.sl j u e
        exact ⟨w, e1, by rw [nsN j hj]; exact up r1⟩
    · by_cases hj : j = i
      · subst hj; exact ns0
      · rw [getV_set, if_neg (fun z => hj z.1)] at e
        rw [nsN j hj]
        exact S.e.no j e
    · by_cases h : j = i
      · subst h; rw [ns0]; exact List.nodup_nil
      · rw [nsN j h]; exact S.e.dn j hj
    · exact S.e.dd j l hne h1 h2 y (sub' j y hy).2 (sub' l y z).2
    · have h : j ≠ i := fun z => by subst z; rw [hk] at hj; cases hj
      rw [getV_set, if_neg (fun z => h z.1)] at e
      rw [nsN j h]
      exact S.e.pk j u hj e
    · exact S.dd j l hne h1 y (sub' j y hy).2 (sub' l y z).2
    · have h : j ≠ i := fun z => by subst z; rw [hk] at hj; cases hj
      rw [nsN j h] at hy z
      exact S.pn j hj y hy z
    · exact S.dp j l hne hj y (subT j y hy).2 (sub' l y z).2
    · exact S.frd j hj y (sub' j y hy).2
    · exact S.frp j hj y (subT j y hy).2
    · exact S.keep
    · rcases bx' y z with z | z
      · exact S.sub y z
      · exact .inr (S.frd i hk y z)
    · obtain ⟨r, e⟩ := S.pre
      exact ⟨r ++ [a], by rw [e, List.append_assoc]⟩
    · exact S.ln j y (sub' j y hy).2
    · have T := S.tm q hq
      refine ⟨fun y hy z => ?_, fun j hj y hy => T.d j hj y (sub' j y hy).2, fun j hj y hy => T.p j hj y (subT j y hy).2, T.trk, T.keep, T.holds, T.ln, ?_⟩
      · rcases bx' y z with z | z
        · exact T.nb y hy z
        · exact T.d i hk y z hy
      · obtain ⟨r, e⟩ := T.pre
        exact ⟨r ++ [a], by rw [e, List.append_assoc]⟩
  exact ⟨_, _, _, _, _, St, h⟩
end
end MP

/-! C24b: several names at once, x.extend(e). -/
namespace MP
open PySem L2
def starB : Expr → Bool
  | .Starred .. => true
  | _ => false
def locNames (sc : Scope) (ts : List Expr) : List Str := ts.filterMap fun
  | .Name id pos => if (match sc.names.lookup id with | some .local => true | _ => false) && pos.line == (ts.head?.map (·.pos.line)).getD 0 then some id else none
  | _ => none
/-- are the names stored without a tuple, from the right -/
def swapSome (sc : Scope) (ts vs : List Expr) (names : List Str) : Bool := (ts.length == 2 || ts.length == 3) && vs.length == ts.length && !(vs.any starB) && decide (locNames sc ts = names) && names.length == ts.length && names.eraseDups.length == names.length && !(vs.all (foldedForSure 8)) && !(vs.all (constantsAlone 8))
/-- surely not -/
def swapNone (sc : Scope) (ts vs : List Expr) : Bool := !(ts.length == 2 || ts.length == 3) || vs.length != ts.length || vs.any starB || (locNames sc ts).length != ts.length || vs.all (foldedForSure 8)
section
variable {X : Cx} {ts vs : List Expr} {names : List Str} {kt k2 : Nat} {pt pt2 : Pos}
theorem star_fun : (fun (e : Expr) => match e with | .Starred .. => true | _ => false) = starB := by
  funext e
  cases e <;> rfl
theorem loc_eq {nm : Str} : (X.env.kindOf nm == some .local) = (match X.env.scope.names.lookup nm with | some .local => true | _ => false) := by
  show (X.env.scope.names.lookup nm == some .local) = _
  cases X.env.scope.names.lookup nm with
  | none => rfl
  | some k => cases k <;> rfl
theorem names_eq : (ts.filterMap fun
    | .Name id pos => if X.env.kindOf id == some .local && pos.line == (ts.head?.map (·.pos.line)).getD 0 then some id else none
    | _ => none) = locNames X.env.scope ts := by
  unfold locNames
  congr 1
  funext e
  cases e <;> try rfl
  rename_i id pos
  show (if (X.env.kindOf id == some .local && _) = true then _ else _) = _
  rw [loc_eq]
theorem swap_some (hb : X.env.blockKind = .function) (h : swapSome X.env.scope ts vs names = true) : swappedStores [.Tuple ts kt pt] (.Tuple vs k2 pt2) X.env = pure (some names) := by
  simp only [swapSome, Bool.and_eq_true, decide_eq_true_eq, Bool.not_eq_true'] at h
  obtain ⟨⟨⟨⟨⟨⟨⟨h1, h2⟩, h3⟩, h4⟩, h5⟩, h6⟩, h7⟩, h8⟩ := h
  unfold swappedStores
  dsimp only
  generalize hn : List.filterMap _ ts = nn
  have hn2 : nn = names := by
    rw [← hn, ← h4]
    exact names_eq
  generalize hs : vs.any _ = st
  have hs2 : st = false := by
    rw [← hs]
    exact (congrArg vs.any star_fun).trans h3
  subst hn2 hs2
  rw [if_neg (by
    rw [Bool.or_eq_true, Bool.or_eq_true]
    rintro ((z | z) | z)
    · rw [h1] at z; cases z
    · rw [bne, h2] at z; cases z
    · rw [hb] at z; cases z), if_neg (by decide), if_neg (by simp [bne, h5, h6]), if_neg (by rw [h7]; decide), if_neg (by rw [h8]; decide)]
theorem swap_none (hb : X.env.blockKind = .function) (h : swapNone X.env.scope ts vs = true) : swappedStores [.Tuple ts kt pt] (.Tuple vs k2 pt2) X.env = pure none := by
  unfold swappedStores
  dsimp only
  generalize hn : List.filterMap _ ts = nn
  have hn2 : nn = locNames X.env.scope ts := by
    rw [← hn]
    exact names_eq
  generalize hs : vs.any _ = st
  have hs2 : st = vs.any starB := by
    rw [← hs]
    exact congrArg vs.any star_fun
  subst hn2 hs2
  simp only [swapNone, Bool.or_eq_true] at h
  split
  · rfl
  · rename_i c1
    simp only [Bool.or_eq_true, not_or] at c1
    split
    · rfl
    · rename_i c2
      split
      · rfl
      · rename_i c3
        simp only [Bool.or_eq_true, not_or] at c3
        split
        · rfl
        · rename_i c4
          exfalso
          rcases h with (((h | h) | h) | h) | h
          · exact c1.1.1 h
          · exact c1.1.2 h
          · exact c2 h
          · exact c3.1 h
          · exact c4 h
theorem tup_swaps {e : Expr} {ln : Nat} : swapsWithSole [.Tuple ts kt pt] e ln X.env = pure false := by cases e <;> rfl
end
section
variable {X : Cx} {C : Cf} {fx : Fx} {rk : RK} {E : XK} {ts : List Tmp} {Wf : Nat} {a b c e tg : Expr} {x y z ie : IE} {pos : Pos} {D : Ends} {σ : St} {H : Hp} {ρ : Env} {μ : Mem} {β : List Addr} {ns bn : Nat → List Addr}
theorem Fits.after {g : Sg} {j i : Nat} {t : T} {n m : List Addr} {q : Bool} (F : Fits g fx ts ns j t n) (hij : i ≠ j) (h : (g.k i = .S ∧ g.k j = .S) ∨ ∀ a ∈ m, a ∉ n) : Fits g fx ts (nsP ns i q m) j t n where
  d := fun l hl hD a ha z => by
    by_cases e : l = i
    · subst e
      rcases h with h | h
      · rw [h.1] at hD; cases hD
      · exact h a (nsP_self ha) z
    · rw [nsP_ne e] at ha
      exact F.d l hl hD a ha z
  p := fun l hl hP a ha z => by
    by_cases e : l = i
    · subst e
      rcases h with h | h
      · rw [h.1] at hP; cases hP
      · exact h a (nsP_self (List.mem_of_mem_take ha)) z
    · rw [nsP_ne e] at ha
      exact F.p l hl hP a ha z
  ln := F.ln
  ifD := fun hD => by
    obtain ⟨f1, f2, f3, f4⟩ := F.ifD hD
    refine ⟨f1, fun l hl a ha z => ?_, f3, f4⟩
    by_cases e : l = i
    · subst e
      rcases h with h | h
      · rw [h.2] at hD; cases hD
      · exact h a (nsP_self z) ha
    · rw [nsP_ne e] at z
      exact f2 l hl a ha z
  ifP := fun hP => by
    obtain ⟨f0, f1, f2, f3, f4⟩ := F.ifP hP
    refine ⟨f0, f1, fun l hl a ha z => ?_, f3, f4⟩
    by_cases e : l = i
    · subst e
      rcases h with h | h
      · rw [h.2] at hP; cases hP
      · exact h a (nsP_self z) (List.mem_of_mem_take ha)
    · rw [nsP_ne e] at z
      exact f2 l hl a ha z
/-- by the text: two values that go into two slots have no node in common, or both may be shared -/
def apart (g : Sg) (i j : Nat) (p q : Inf) : Bool := (g.k i == .S && g.k j == .S) || p.non || q.non
theorem non_src {ns : Nat → List Addr} {H : Hp} {i : Inf} {t : T} {n : List Addr} (h : i.non = true) (G : Good ns H i t n) : ∀ a ∈ n, H a = none := fun a ha => by
  unfold Inf.non at h
  rw [Bool.and_eq_true, List.isEmpty_iff, List.isEmpty_iff] at h
  rcases G.src a ha with z | ⟨j, hj, _⟩ | ⟨j, hj, _⟩
  · exact z
  · rw [h.1] at hj; cases hj
  · rw [h.2] at hj; cases hj
theorem apart_ok {i j : Nat} {p q : Inf} {t u : T} {v w : V} {n m : List Addr} {H1 H2 : Hp} {bn1 bn2 : Nat → List Addr} {μ1 : Mem} (S : SSt X.K C.g fx ts β H ρ σ μ ns bn) (s1 : Step X.K β bn H H1 μ1 bn1) (x1 : Val X.K β bn1 ns H H1 p t v n) {H0 : Hp} (k0 : ∀ a, H1 a ≠ none → H0 a ≠ none) (y1 : Val X.K β bn2 ns H0 H2 q u w m) (h : apart C.g i j p q = true) : (C.g.k i = .S ∧ C.g.k j = .S) ∨ ∀ a ∈ n, a ∉ m := by
  unfold apart at h
  rw [Bool.or_eq_true, Bool.or_eq_true, Bool.and_eq_true, beq_iff_eq, beq_iff_eq] at h
  rcases h with (h | h) | h
  · exact .inl h
  · refine .inr fun a ha hm => ?_
    have z := non_src h x1.ok a ha
    rcases y1.ok.src a hm with e | ⟨l, _, e⟩ | ⟨l, _, e⟩
    · obtain ⟨o, e1, _⟩ := x1.node ha
      exact k0 a (by rw [e1]; exact fun z => by cases z) e
    · obtain ⟨o, e1, _⟩ := S.e.node e
      rw [z] at e1; cases e1
    · obtain ⟨o, e1, _⟩ := S.e.node (List.mem_of_mem_drop e)
      rw [z] at e1; cases e1
  · refine .inr fun a ha hm => ?_
    obtain ⟨o, e1, _⟩ := x1.node ha
    exact k0 a (by rw [e1]; exact fun z => by cases z) (non_src h y1.ok a hm)
def parB2 (g : Sg) (i j : Nat) (x y : IE) (ks : List Nat) : Bool := !(i == j) && fitsB g (info g x) ks i (ndE x) && fitsB g (info g y) ks j (ndE y) && apart g i j (info g x) (info g y)
/-- a, b = e, f -/
theorem s_par2 {i j : Nat} {nx ny : Str} {px py pt pt2 : Pos} {kt k2 : Nat} {ks : List Nat} (hc : X.calm = true) (hN : X.N.Nodup) (hi : X.N[i]? = some nx) (hj : X.N[j]? = some ny) (hx : X.env.scope.names.lookup nx = some .local) (hy : X.env.scope.names.lookup ny = some .local)
    (ha : PE X a (tE C X.K (WE0 E) x)) (h1 : nost a = true) (hb : PE X b (tE C X.K (WE0 E) y)) (h2 : nost b = true) (hw : swappedStores [.Tuple [.Name nx px, .Name ny py] kt pt] (.Tuple [a, b] k2 pt2) X.env = pure (some [nx, ny])) (hp : parB2 C.g i j x y ks = true) :
    PS X (.Assign [.Tuple [.Name nx px, .Name ny py] kt pt] (.Tuple [a, b] k2 pt2) pos) (TS1 X C fx rk E ts Wf (.par [i, j] [x, y] ks)) := by
  simp only [parB2, Bool.and_eq_true, Bool.not_eq_true', beq_eq_false_iff_ne] at hp
  obtain ⟨⟨⟨hij, f1⟩, f2⟩, hap⟩ := hp
  refine (ps_par hc hN hi hj hij hx hy (pa_cons ha (pa_cons hb pa_nil (star_cons h2)) (star_cons h1)) hw).weak fun D σ H h => ?_
  obtain ⟨ρ, μ, β, ns, bn, S, h⟩ := h
  have h : Sat ((((evE C.F ρ x μ).bind fun t μ => (((evE C.F ρ y μ).bind fun u μ => (Res.ok [] μ).bind fun r μ => .ok (u :: r) μ)).bind fun r μ => .ok (t :: r) μ)).bind fun ts μ => (opt (setAll (kill ρ ks) [i, j] ts) μ).bind fun ρ μ => .ok (Fl.nx, ρ) μ) (PostS C X.K fx rk ts D) (XS C X.K fx E) := h
  refine use1 S (Sat.nd (Sat_bind (Sat_bind h))) fun t μ1 v H1 bn1 n ⟨h, nd1⟩ s1 x1 => ?_
  refine use1 (S.step s1) (Sat.nd (Sat_bind (Sat_bind h))) fun u μ2 w H2 bn2 m ⟨h, nd2⟩ s2 y1 => ?_
  refine ⟨v, w, rfl, ?_⟩
  have F1 := fits_ok S (s1.trans s2) (x1.step s2) f1 nd1
  have F2 := fits_ok (S.step s1) s2 y1 f2 nd2
  have dj := apart_ok (i := i) (j := j) S s1 x1 (fun a h => h) y1 hap
  have S3 := ((S.step (s1.trans s2)).kill ks).put (x1.step s2).rd (x1.step s2).nb F1
  have S4 := S3.put y1.rd y1.nb (F2.after hij dj)
  exact h _ _ _ _ _ S4
/-- a, b = e, f by way of a tuple (names that a block captures) -/
theorem s_par2C {i j : Nat} {ks : List Nat} {k2 : Nat} {pt2 : Pos} (ha : PE X a (tE C X.K (WE0 E) x)) (h1 : nost a = true) (hb : PE X b (tE C X.K (WE0 E) y)) (h2 : nost b = true) (hg : PG X tg (gTg X.K (.tp [.nm i, .nm j]))) (hp : parB2 C.g i j x y ks = true)
    (e1 : swapsWithSole [tg] (.Tuple [a, b] k2 pt2) pos.line X.env = pure false) (e2 : swappedStores [tg] (.Tuple [a, b] k2 pt2) X.env = pure none) (e3 : (assignEach [tg] X.env).map (·.2) = [assign tg X.env]) :
    PS X (.Assign [tg] (.Tuple [a, b] k2 pt2) pos) (TS1 X C fx rk E ts Wf (.par [i, j] [x, y] ks)) := by
  simp only [parB2, Bool.and_eq_true, Bool.not_eq_true', beq_eq_false_iff_ne] at hp
  obtain ⟨⟨⟨hij, f1⟩, f2⟩, hap⟩ := hp
  refine (ps_asg (pe_tup (pa_cons ha (pa_cons hb pa_nil (star_cons h2)) (star_cons h1))) hg e1 e2 e3).weak fun D σ H h => ?_
  obtain ⟨ρ, μ, β, ns, bn, S, h⟩ := h
  have h : Sat ((((evE C.F ρ x μ).bind fun t μ => (((evE C.F ρ y μ).bind fun u μ => (Res.ok [] μ).bind fun r μ => .ok (u :: r) μ)).bind fun r μ => .ok (t :: r) μ)).bind fun ts μ => (opt (setAll (kill ρ ks) [i, j] ts) μ).bind fun ρ μ => .ok (Fl.nx, ρ) μ) (PostS C X.K fx rk ts D) (XS C X.K fx E) := h
  refine use1 S (Sat.nd (Sat_bind (Sat_bind h))) fun t μ1 v H1 bn1 n ⟨h, nd1⟩ s1 x1 => ?_
  refine use1 (S.step s1) (Sat.nd (Sat_bind (Sat_bind h))) fun u μ2 w H2 bn2 m ⟨h, nd2⟩ s2 y1 => ?_
  refine ⟨by show 2 ≤ sizeLine; decide, fun q hq => ?_⟩
  have s3 : Step X.K β bn2 H2 (upd H2 q (.tup [v, w])) μ2 bn2 := Step.new1 s2.box (.inr ⟨q, _, hq, rfl⟩)
  refine ⟨q, [v, w], rfl, SqT.of upd_same, rfl, v, [w], rfl, w, [], rfl, rfl, ?_⟩
  have F1 := fits_ok S ((s1.trans s2).trans s3) ((x1.step s2).step s3) f1 nd1
  have F2 := fits_ok (S.step s1) (s2.trans s3) (y1.step s3) f2 nd2
  have dj := apart_ok (i := i) (j := j) S s1 x1 (fun a h => h) y1 hap
  have S3 := ((S.step ((s1.trans s2).trans s3)).kill ks).put ((x1.step s2).step s3).rd ((x1.step s2).step s3).nb F1
  have S4 := S3.put (y1.step s3).rd (y1.step s3).nb (F2.after hij dj)
  exact h _ _ _ _ _ S4
def parB3 (g : Sg) (i j l : Nat) (x y z : IE) (ks : List Nat) : Bool := !(i == j) && !(i == l) && !(j == l) && fitsB g (info g x) ks i (ndE x) && fitsB g (info g y) ks j (ndE y) && fitsB g (info g z) ks l (ndE z) && apart g i j (info g x) (info g y) && apart g i l (info g x) (info g z) && apart g j l (info g y) (info g z)
/-- a, b, c = e, f, g -/
theorem s_par3 {i j l : Nat} {nx ny nz : Str} {px py pz pt pt2 : Pos} {kt k2 : Nat} {ks : List Nat} (hc : X.calm = true) (hN : X.N.Nodup) (hi : X.N[i]? = some nx) (hj : X.N[j]? = some ny) (hl : X.N[l]? = some nz) (hx : X.env.scope.names.lookup nx = some .local) (hy : X.env.scope.names.lookup ny = some .local) (hz : X.env.scope.names.lookup nz = some .local)
    (ha : PE X a (tE C X.K (WE0 E) x)) (h1 : nost a = true) (hb : PE X b (tE C X.K (WE0 E) y)) (h2 : nost b = true) (hcc : PE X c (tE C X.K (WE0 E) z)) (h3 : nost c = true) (hw : swappedStores [.Tuple [.Name nx px, .Name ny py, .Name nz pz] kt pt] (.Tuple [a, b, c] k2 pt2) X.env = pure (some [nx, ny, nz])) (hp : parB3 C.g i j l x y z ks = true) :
    PS X (.Assign [.Tuple [.Name nx px, .Name ny py, .Name nz pz] kt pt] (.Tuple [a, b, c] k2 pt2) pos) (TS1 X C fx rk E ts Wf (.par [i, j, l] [x, y, z] ks)) := by
  simp only [parB3, Bool.and_eq_true, Bool.not_eq_true', beq_eq_false_iff_ne] at hp
  obtain ⟨⟨⟨⟨⟨⟨⟨⟨hij, hil⟩, hjl⟩, f1⟩, f2⟩, f3⟩, a12⟩, a13⟩, a23⟩ := hp
  refine (ps_par3 hc hN hi hj hl hij hil hjl hx hy hz (pa_cons ha (pa_cons hb (pa_cons hcc pa_nil (star_cons h3)) (star_cons h2)) (star_cons h1)) hw).weak fun D σ H h => ?_
  obtain ⟨ρ, μ, β, ns, bn, S, h⟩ := h
  have h : Sat ((((evE C.F ρ x μ).bind fun t μ => (((evE C.F ρ y μ).bind fun u μ => (((evE C.F ρ z μ).bind fun u2 μ => (Res.ok [] μ).bind fun r μ => .ok (u2 :: r) μ)).bind fun r μ => .ok (u :: r) μ)).bind fun r μ => .ok (t :: r) μ)).bind fun ts μ => (opt (setAll (kill ρ ks) [i, j, l] ts) μ).bind fun ρ μ => .ok (Fl.nx, ρ) μ) (PostS C X.K fx rk ts D) (XS C X.K fx E) := h
  refine use1 S (Sat.nd (Sat_bind (Sat_bind h))) fun t μ1 v H1 bn1 n ⟨h, nd1⟩ s1 x1 => ?_
  refine use1 (S.step s1) (Sat.nd (Sat_bind (Sat_bind h))) fun u μ2 w H2 bn2 m ⟨h, nd2⟩ s2 y1 => ?_
  refine use1 ((S.step s1).step s2) (Sat.nd (Sat_bind (Sat_bind h))) fun u2 μ3 w2 H3 bn3 m2 ⟨h, nd3⟩ s3 z1 => ?_
  refine ⟨v, w, w2, rfl, ?_⟩
  have F1 := fits_ok S ((s1.trans s2).trans s3) ((x1.step s2).step s3) f1 nd1
  have F2 := fits_ok (S.step s1) (s2.trans s3) (y1.step s3) f2 nd2
  have F3 := fits_ok ((S.step s1).step s2) s3 z1 f3 nd3
  have d12 := apart_ok (i := i) (j := j) S s1 x1 (fun a h => h) y1 a12
  have d13 := apart_ok (i := i) (j := l) S s1 x1 (fun a h z => h (s2.keep.more a z)) z1 a13
  have d23 := apart_ok (i := j) (j := l) (S.step s1) s2 y1 (fun a h => h) z1 a23
  have S3 := ((S.step ((s1.trans s2).trans s3)).kill ks).put ((x1.step s2).step s3).rd ((x1.step s2).step s3).nb F1
  have S4 := S3.put (y1.step s3).rd (y1.step s3).nb (F2.after hij d12)
  have S5 := S4.put z1.rd z1.nb ((F3.after hil d13).after hjl d23)
  exact h _ _ _ _ _ S5
/-- by the text: what is taken apart may hold what a list of ours holds -/
def walkU (g : Sg) (w : Inf) (ks : List Nat) : Bool := (w.dp.all fun j => g.k j == .S || ks.contains j) && w.dc.all fun j => g.k j != .D || ks.contains j
/-- (a, b, ..) = e -/
theorem s_unp {gs : List Tg} {ks : List Nat} (he : PE X e (tE C X.K (WE0 E) x)) (hg : PG X tg (gTg X.K (.tp gs))) (hk : ∀ i ∈ (Tg.tp gs).slots, C.g.k i = .S) (hw : walkU C.g (info C.g x) ks = true) (h1 : swapsWithSole [tg] e pos.line X.env = pure false) (h2 : swappedStores [tg] e X.env = pure none) (h3 : (assignEach [tg] X.env).map (·.2) = [assign tg X.env]) :
    PS X (.Assign [tg] e pos) (TS1 X C fx rk E ts Wf (.unp (.tp gs) x ks)) := (ps_asg he hg h1 h2 h3).weak fun D σ H h => by
  obtain ⟨ρ, μ, β, ns, bn, S, h⟩ := h
  refine use1 S (Sat_bind h) fun t μ1 v H1 bn1 n q s1 x1 => ?_
  obtain ⟨ρ', eb, q⟩ := Sat_opt (Sat_bind q)
  have S1 := (S.step s1).kill ks
  have trk : ∀ j b, b ∈ ns j → H b ≠ none := fun j b hb z => by
    obtain ⟨o, e, _⟩ := S.e.node hb
    rw [e] at z; cases z
  simp only [walkU, Bool.and_eq_true, List.all_eq_true] at hw
  have w1 : ∀ l ∈ (info C.g x).dp, C.g.k l = .S ∨ l ∈ ks := fun l hl => by simpa using hw.1 l hl
  have w2 : ∀ l ∈ (info C.g x).dc, C.g.k l ≠ .D ∨ l ∈ ks := fun l hl => by simpa using hw.2 l hl
  have T1 : TmpOk C.g fx β bn1 (nsK ns ks) H1 ⟨β, n, fun H => Rds X.K β H t v n⟩ := by
    refine ⟨x1.nb, fun j hD b hb z => ?_, fun j hP b hb z => ?_, fun b hb z => ?_, fun B H2 H3 r k nb => r.keep k (fun _ _ e => e) _ nb, x1.rd, fun b hb => ?_, ⟨[], by simp⟩⟩
    · obtain ⟨q1, q2⟩ := nsK_sub hb
      rcases x1.ok.src b z with e | ⟨l, l1, l2⟩ | ⟨l, l1, l2⟩
      · exact trk j b q2 e
      · by_cases hl : l = j
        · subst hl
          rcases w1 l l1 with e | e
          · rw [hD] at e; cases e
          · exact q1 e
        · exact S.dd j l (fun z => hl z.symm) hD b q2 l2
      · by_cases hl : l = j
        · subst hl
          rcases w2 l l1 with e | e
          · exact e hD
          · exact q1 e
        · exact S.dd j l (fun z => hl z.symm) hD b q2 (List.mem_of_mem_drop l2)
    · obtain ⟨q1, q2⟩ := nsK_take hb
      rcases x1.ok.src b z with e | ⟨l, l1, l2⟩ | ⟨l, l1, l2⟩
      · exact trk j b (List.mem_of_mem_take q2) e
      · by_cases hl : l = j
        · subst hl
          rcases w1 l l1 with e | e
          · rw [hP] at e; cases e
          · exact q1 e
        · exact S.dp j l (fun z => hl z.symm) hP b q2 l2
      · by_cases hl : l = j
        · subst hl
          exact S.pn l hP b q2 l2
        · exact S.dp j l (fun z => hl z.symm) hP b q2 (List.mem_of_mem_drop l2)
    · obtain ⟨o, e, _⟩ := x1.node hb
      rw [e] at z; cases z
    · rcases x1.ok.src b hb with z | ⟨l, _, z⟩ | ⟨l, _, z⟩
      · exact .inl (S.keep.more b z)
      · exact S.ln l b z
      · exact S.ln l b (List.mem_of_mem_drop z)
  have S2 := S1.tmp T1
  exact gTg_ok (.tp gs) S2.e x1.rd x1.nb eb hk fun σ5 ns5 B => q _ _ _ _ _ (S2.bound B hk fun a ha => ha).untmp
/-- x.extend(e) -/
theorem s_ext {i : Nat} {nm : Str} {ks : List Nat} {p1 apos cpos : Pos} (hN : X.N[i]? = some nm) (hv : Vis X.env.scope nm) (hd : (nm == ("__debug__" : Str)) = false) (hcd : (nm == ("__classdict__" : Str)) = false) (ha : PE X a (tE C X.K (WE0 E) x)) (hst : nost a = true) (hline : (apos.endLine == cpos.line) = true) (hf : chB C.g (kidI C.g (info C.g x)) ks i = true) :
    PS X (.Expr (.Call (.Attribute (.Name nm p1) "extend" apos) [a] [] cpos) pos) (TS1 X C fx rk E ts Wf (.ext i x ks)) := by
  have h1 := pe_bm (X := X) (name := "extend") (cpos := cpos) (apos := apos) PySem.F.plainAttrs_list PySem.F.slot_list_extend PySem.F.type_list_extend mt_extend (pe_var (pos := p1) hN hv hd hcd) (pa_cons ha pa_nil (star_cons hst)) (by rfl) (by rw [star_cons hst] <;> rfl) hline (star_cons hst) (star_any (by rfl))
  refine (ps_expr h1 (by rfl)).weak fun D σ H h => ?_
  obtain ⟨ρ, μ, β, ns, bn, S, h⟩ := h
  obtain ⟨xs, ec, h⟩ := Sat_opt (Sat_bind h)
  obtain ⟨hks, ec⟩ := getV_kill2 (getL_some ec)
  have h := Sat_bind h
  show tVar i σ H fun y H1 => tyV X.K "list" y H1 ∧ tCons (tE C X.K (WE0 E) x) tNil σ H1 fun vs H2 => rExtend y vs H2 fun _ H3 => D.nx σ H3
  refine tVar_of S ec fun v ev r => ?_
  obtain ⟨p, vs, m, rfl, ep, rl, en⟩ := r
  refine ⟨.inl ⟨rfl, _, SqL.of ep⟩, ?_⟩
  refine use1 S h fun t μ1 w H1 bn1 n q s1 x1 => ?_
  cases t with
  | lst ys =>
    obtain ⟨hz, q⟩ := Sat_if q
    have kd := x1.kid (g := C.g)
    obtain ⟨b, ws, m2, rfl, eb, rl2, rfl⟩ := x1.rd
    obtain ⟨p', m', o, ev', en', ho, hm, rc, ham, han, fin⟩ := S.change0 (i := kidI C.g (info C.g x)) (n := m2) s1 kd.src kd.nb kd.lin hf ec hks rfl
    rw [ev] at ev'; cases ev'
    obtain ⟨_, vs', m3, e1, ep', rl', e2⟩ := rc
    cases e1
    obtain rfl : m' = m3 := (List.cons.inj e2).2
    refine ⟨p, b, vs', ws, rfl, rfl, ep', eb, by rw [rl'.length, rl2.length]; exact le_line hz, ?_⟩
    have kw : Keeps (fun z => z = p) H1 (upd H1 p (.lst (vs' ++ ws))) := Keeps.write ho rfl hm
    obtain ⟨ns', S'⟩ := fin (.lst (vs' ++ ws)) (.lst (xs ++ ys)) (m' ++ m2) (fun b hb => List.mem_append.mp hb) (fun d n1 n2 => List.nodup_append.mpr ⟨n1, n2, fun b hb c hc z => d b hb (z ▸ hc)⟩)
      ⟨p, _, m' ++ m2, rfl, upd_same, (rl'.keep kw (fun _ _ e => e) _ fun b hb z => ham (z ▸ hb)).append (rl2.keep kw (fun _ _ e => e) _ fun b hb z => han (z ▸ hb)), rfl⟩ rfl
    exact q _ _ _ _ _ S'
  | _ => exact False.elim q
end
end MP

/-! C24c: a thing of ours is spoilt. -/
namespace MP
open PySem L2
mutual
def spT : T → T
  | .lst xs => .lst (spTL xs ++ [.str "late"])
  | .tup xs => .tup (spTL xs)
  | t => t
def spTL : List T → List T
  | [] => []
  | x :: xs => spT x :: spTL xs
end
theorem spTL_map : ∀ xs : List T, spTL xs = xs.map spT
  | [] => rfl
  | x :: xs => by show spT x :: spTL xs = _; rw [spTL_map xs] <;> rfl
mutual
theorem spOk_boxless : ∀ (t : T) {d : Nat}, spOk d t = true → boxless t = true
  | .non, d, h => rfl
  | .bl _, d, h => rfl
  | .int _, d, h => rfl
  | .str _, d, h => rfl
  | .lst xs, d, h => by
    cases d with
    | zero => cases h
    | succ d =>
      have h : (Nat.blt xs.length line && spOkL d xs) = true := h
      rw [Bool.and_eq_true] at h
      exact spOkL_boxless xs h.2
  | .tup xs, d, h => by
    cases d with
    | zero => cases h
    | succ d => exact spOkL_boxless xs h
  | .dk _ _, d, h => by cases d <;> cases h
  | .dt _ _, d, h => by cases d <;> cases h
  | .scr _, d, h => by cases d <;> cases h
  | .box _, d, h => by cases d <;> cases h
theorem spOkL_boxless : ∀ (ts : List T) {d : Nat}, spOkL d ts = true → boxlessL ts = true
  | [], d, h => rfl
  | x :: xs, d, h => by
    have h : (spOk d x && spOkL d xs) = true := by cases d <;> exact h
    rw [Bool.and_eq_true] at h
    show (boxless x && boxlessL xs) = true
    rw [spOk_boxless x h.1, spOkL_boxless xs h.2] <;> rfl
end
mutual
theorem rds_nil {K : PySem.W.Frag} {β : List Addr} {H : Hp} : ∀ (t : T) {v : V} {n : List Addr}, Rds K β H t v n → boxless t = true → Rds K [] H t v n
  | .non, v, n, h, _ => h
  | .bl _, v, n, h, _ => h
  | .int _, v, n, h, _ => h
  | .str _, v, n, h, _ => h
  | .lst xs, v, n, h, e => by
    obtain ⟨a, vs, m, e1, e2, q, e3⟩ := h
    exact ⟨a, vs, m, e1, e2, rdsL_nil xs q e, e3⟩
  | .tup xs, v, n, h, e => by
    obtain ⟨a, vs, e1, e2, q⟩ := h
    exact ⟨a, vs, e1, e2, rdsL_nil xs q e⟩
  | .dk ks xs, v, n, h, e => by
    obtain ⟨a, vs, m, e1, e2, l, q, e3⟩ := h
    exact ⟨a, vs, m, e1, e2, l, rdsL_nil xs q e, e3⟩
  | .dt ks xs, v, n, h, e => by
    obtain ⟨a, vs, m, e1, e2, l, q, e3⟩ := h
    exact ⟨a, vs, m, e1, e2, l, rdsL_nil xs q e, e3⟩
  | .scr _, v, n, h, _ => h
  | .box _, v, n, h, e => by cases e
theorem rdsL_nil {K : PySem.W.Frag} {β : List Addr} {H : Hp} : ∀ (ts : List T) {vs : List V} {n : List Addr}, RdsL K β H ts vs n → boxlessL ts = true → RdsL K [] H ts vs n
  | [], vs, n, h, _ => h
  | x :: xs, vs, n, h, e => by
    obtain ⟨v, ws, m, k, e1, q1, q2, e2⟩ := h
    have e : (boxless x && boxlessL xs) = true := e
    rw [Bool.and_eq_true] at e
    exact ⟨v, ws, m, k, e1, rds_nil x q1 e.1, rdsL_nil xs q2 e.2, e2⟩
end
/-- the promise of the def that spoils, at level k -/
def spSp (K : PySem.W.Frag) (k : Nat) : Sp := fun vs H Q _ => ∃ t v n d, vs = [v] ∧ Rds K [] H t v n ∧ spOk d t = true ∧ d < k ∧ n.Nodup ∧ Tb K H ∧ ∀ H', KeepsT K (fun a => a ∈ n) H H' → Rds K [] H' (spT t) v n → Q .non H'
/-- calls of it -/
def SpCall (X : Cx) (nm : Str) (k : Nat) : Prop := ∀ {e : Expr} {te : TE} {p pos : Pos}, PE X e te → nost e = true → PE X (.Call (.Name nm p) [e] [] pos) (fun σ H Q => te σ H fun v H1 => spSp X.K k [v] H1 Q fun _ _ _ => False)
section
variable {K : PySem.W.Frag} {g : Sg} {fx : Fx} {ts : List Tmp} {β : List Addr} {H H' : Hp} {ρ : Env} {σ : St} {μ : Mem} {ns bn : Nat → List Addr} {x : Nat} {n : List Addr}
/-- things that nobody reads are written -/
theorem SSt.wrK (S : SSt K g fx ts β H ρ σ μ ns bn) (kpT : KeepsT K (fun a => a ∈ n) H H') (free : ∀ j, ∀ a ∈ n, a ∉ ns j) (nb : ∀ a ∈ n, ¬ Bx β bn a) (h0 : ∀ a ∈ n, fx.H a = none) (tm : ∀ q ∈ ts, ∀ a ∈ n, a ∉ q.m) : SSt K g fx ts β H' ρ σ μ ns bn := by
  have kp := kpT.toKeeps
  have bx : BoxOk K β H' μ bn := ⟨S.e.box.len, fun k t e => by
    obtain ⟨p, e1, r, bl, nd⟩ := S.e.box.rd k t e
    have hk : k < β.length := by rw [S.e.box.len]; exact (List.getElem?_eq_some_iff.mp e).1
    exact ⟨p, e1, r.keep kp (fun _ _ e => e) t fun b hb z => nb b z ⟨k, hk, hb⟩, bl, nd⟩, S.e.box.dj, kpT.tab S.e.box.tb⟩
  refine ⟨⟨bx, S.e.len, fun i t e => ?_, S.e.no, S.e.sb, S.e.dn, S.e.dd, S.e.pk⟩, S.dd, S.pn, S.dp, S.frd, S.frp, S.keep.trans kp fun a ha => .inr (h0 a ha), S.sub, S.pre, S.ln, fun q hq => ?_⟩
  · obtain ⟨v, e1, r⟩ := S.e.sl i t e
    exact ⟨v, e1, r.keep kp (fun _ _ e => e) t fun b hb z => free i b z hb⟩
  · have T := S.tm q hq
    exact ⟨T.nb, T.d, T.p, fun b hb z => T.trk b hb (kp.more b z), T.keep, T.keep _ _ _ T.holds kp (fun b hb z => tm q hq b z hb), T.ln, T.pre⟩
end
section
variable {X : Cx} {C : Cf} {fx : Fx} {rk : RK} {E : XK} {ts : List Tmp} {Wf : Nat} {pos : Pos}
/-- what the asking at index spIx tells -/
def SpF (C : Cf) (k : Nat) : Prop := ∀ t μ r μ', C.F spIx [t] μ = .ok r μ' → spOk (k - 1) t = true ∧ 0 < k ∧ μ' = μ
theorem s_spoil {x k : Nat} {nx nm : Str} {p p1 cpos : Pos} (hN : X.N[x]? = some nx) (hv : Vis X.env.scope nx) (hd : (nx == ("__debug__" : Str)) = false) (hcd : (nx == ("__classdict__" : Str)) = false) (hk : C.g.k x = .D) (sc : SpCall X nm k) (sf : SpF C k) (hne : ∀ t μ c u μ', C.F spIx [t] μ ≠ .exc c u μ') :
    PS X (.Expr (.Call (.Name nm p) [.Name nx p1] [] cpos) pos) (TS1 X C fx rk E ts Wf (.spoil x)) := (ps_expr (sc (pe_var (pos := p1) hN hv hd hcd) rfl) (by rfl)).weak fun D σ H h => by
  obtain ⟨ρ, μ, β, ns, bn, S, h⟩ := h
  obtain ⟨t, et, h⟩ := Sat_opt (Sat_bind h)
  have hA := Sat_bind h
  clear h
  obtain ⟨v, ev, r⟩ := S.e.sl x t et
  show tVar x σ H fun v H1 => spSp X.K k [v] H1 (fun _ H' => D.nx σ H') fun _ _ _ => False
  refine ⟨v, ev, ?_⟩
  cases hF : C.F spIx [t] μ with
  | stuck => rw [hF] at hA; exact hA.elim
  | exc c u μ' => exact (hne t μ c u μ' hF).elim
  | ok r0 μ' =>
    rw [hF] at hA
    obtain ⟨h1, h2, rfl⟩ := sf t μ r0 μ' hF
    refine ⟨t, v, ns x, k - 1, rfl, rds_nil t r (spOk_boxless t h1), h1, by omega, S.e.dn x hk, S.e.box.tb, fun H' kp _ => ?_⟩
    have S1 := (S.kill [x]).wrK (n := ns x) kp (fun j a ha z => by
      obtain ⟨q, z⟩ := nsK_sub z
      exact S.dd x j (fun e => q (by simp [e])) hk a ha z) (fun a ha => S.e.sb x a ha) (S.frd x hk) (fun q hq a ha => (S.tm q hq).d x hk a ha)
    exact hA _ _ _ _ _ S1
end
end MP

/-! C24d: two parts of a thing of ours are spoilt. -/
namespace MP
open PySem L2
theorem ixN_of {n i : Nat} (h : i < n) : ixN n (i : Int) = some i := by
  unfold ixN
  rw [if_pos (by omega)]
  simp [h]
section
variable {K : PySem.W.Frag} {β : List Addr} {H H' : Hp}
/-- one item -/
theorem RdsL.at1 : ∀ {xs : List T} {vs : List V} {n : List Addr} {i : Nat} {t : T}, RdsL K β H xs vs n → n.Nodup → xs[i]? = some t → ∃ v m, vs[i]? = some v ∧ Rds K β H t v m ∧ m.Nodup ∧ ∀ a ∈ m, a ∈ n
  | [], vs, n, i, t, h, nd, e => by simp at e
  | x :: xs, vs, n, 0, t, h, nd, e => by
    obtain ⟨v, ws, m, k, rfl, r1, r2, rfl⟩ := h
    have e : some x = some t := by simpa using e
    cases e
    exact ⟨v, m, rfl, r1, (List.nodup_append.mp nd).1, fun a ha => List.mem_append_left _ ha⟩
  | x :: xs, vs, n, i + 1, t, h, nd, e => by
    obtain ⟨v, ws, m, k, rfl, r1, r2, rfl⟩ := h
    obtain ⟨w, m2, e2, r3, n3, s3⟩ := RdsL.at1 (i := i) r2 (List.nodup_append.mp nd).2.1 (by simpa using e)
    exact ⟨w, m2, by simpa using e2, r3, n3, fun a ha => List.mem_append_right _ (s3 a ha)⟩
/-- two items have no node in common -/
theorem RdsL.at2 : ∀ {xs : List T} {vs : List V} {n : List Addr} {i j : Nat} {t u : T}, RdsL K β H xs vs n → n.Nodup → xs[i]? = some t → xs[j]? = some u → i ≠ j → ∃ v m w m', vs[i]? = some v ∧ vs[j]? = some w ∧ Rds K β H t v m ∧ Rds K β H u w m' ∧ (m ++ m').Nodup ∧ ∀ a ∈ m ++ m', a ∈ n
  | [], vs, n, i, j, t, u, h, nd, e, e', ne => by simp at e
  | x :: xs, vs, n, 0, 0, t, u, h, nd, e, e', ne => absurd rfl ne
  | x :: xs, vs, n, 0, j + 1, t, u, h, nd, e, e', ne => by
    obtain ⟨v, ws, m, k, rfl, r1, r2, rfl⟩ := h
    have e : some x = some t := by simpa using e
    cases e
    have nd := List.nodup_append.mp nd
    obtain ⟨w, m2, e2, r3, n3, s3⟩ := RdsL.at1 (i := j) r2 nd.2.1 (by simpa using e')
    exact ⟨v, m, w, m2, rfl, by simpa using e2, r1, r3, List.nodup_append.mpr ⟨nd.1, n3, fun a ha b hb => nd.2.2 a ha b (s3 b hb)⟩, fun a ha => by
      rcases List.mem_append.mp ha with ha | ha
      · exact List.mem_append_left _ ha
      · exact List.mem_append_right _ (s3 a ha)⟩
  | x :: xs, vs, n, i + 1, 0, t, u, h, nd, e, e', ne => by
    obtain ⟨v, ws, m, k, rfl, r1, r2, rfl⟩ := h
    have e' : some x = some u := by simpa using e'
    cases e'
    have nd := List.nodup_append.mp nd
    obtain ⟨w, m2, e2, r3, n3, s3⟩ := RdsL.at1 (i := i) r2 nd.2.1 (by simpa using e)
    exact ⟨w, m2, v, m, by simpa using e2, rfl, r3, r1, List.nodup_append.mpr ⟨n3, nd.1, fun a ha b hb z => nd.2.2 b hb a (s3 a ha) z.symm⟩, fun a ha => by
      rcases List.mem_append.mp ha with ha | ha
      · exact List.mem_append_right _ (s3 a ha)
      · exact List.mem_append_left _ ha⟩
  | x :: xs, vs, n, i + 1, j + 1, t, u, h, nd, e, e', ne => by
    obtain ⟨v, ws, m, k, rfl, r1, r2, rfl⟩ := h
    obtain ⟨v2, m2, w2, m3, e2, e3, r3, r4, n3, s3⟩ := RdsL.at2 (i := i) (j := j) r2 (List.nodup_append.mp nd).2.1 (by simpa using e) (by simpa using e') (by omega)
    exact ⟨v2, m2, w2, m3, by simpa using e2, by simpa using e3, r3, r4, n3, fun a ha => List.mem_append_right _ (s3 a ha)⟩
/-- a list or tuple, by what it holds -/
def SqA (K : PySem.W.Frag) (H : Hp) (x : V) (vs : List V) : Prop := ∃ p, x = .ref p ∧ (H p = some (.lst vs) ∨ H p = some (.tup vs))
theorem Rds.kid {t u : T} {v : V} {n : List Addr} {i : Nat} (h : Rds K β H t v n) (nd : n.Nodup) (e : kidAt t i = some u) : ∃ vs w m, SqA K H v vs ∧ vs[i]? = some w ∧ Rds K β H u w m ∧ m.Nodup ∧ ∀ a ∈ m, a ∈ n := by
  cases t <;> try cases e
  · obtain ⟨p, vs, m, rfl, ep, r, rfl⟩ := h
    obtain ⟨w, m2, e2, r2, n2, s2⟩ := RdsL.at1 r (List.nodup_cons.mp nd).2 e
    exact ⟨vs, w, m2, ⟨p, rfl, .inl ep⟩, e2, r2, n2, fun a ha => List.mem_cons_of_mem _ (s2 a ha)⟩
  · obtain ⟨p, vs, rfl, ep, r⟩ := h
    obtain ⟨w, m2, e2, r2, n2, s2⟩ := RdsL.at1 r nd e
    exact ⟨vs, w, m2, ⟨p, rfl, .inr ep⟩, e2, r2, n2, s2⟩
theorem Rds.kid2 {t u u' : T} {v : V} {n : List Addr} {i j : Nat} (h : Rds K β H t v n) (nd : n.Nodup) (e : kidAt t i = some u) (e' : kidAt t j = some u') (ne : i ≠ j) : ∃ vs w m w' m', SqA K H v vs ∧ vs[i]? = some w ∧ vs[j]? = some w' ∧ Rds K β H u w m ∧ Rds K β H u' w' m' ∧ (m ++ m').Nodup ∧ ∀ a ∈ m ++ m', a ∈ n := by
  cases t <;> try cases e
  · obtain ⟨p, vs, m, rfl, ep, r, rfl⟩ := h
    obtain ⟨w, m2, w', m3, e2, e3, r2, r3, n2, s2⟩ := RdsL.at2 r (List.nodup_cons.mp nd).2 e e' ne
    exact ⟨vs, w, m2, w', m3, ⟨p, rfl, .inl ep⟩, e2, e3, r2, r3, n2, fun a ha => List.mem_cons_of_mem _ (s2 a ha)⟩
  · obtain ⟨p, vs, rfl, ep, r⟩ := h
    obtain ⟨w, m2, w', m3, e2, e3, r2, r3, n2, s2⟩ := RdsL.at2 r nd e e' ne
    exact ⟨vs, w, m2, w', m3, ⟨p, rfl, .inr ep⟩, e2, e3, r2, r3, n2, s2⟩
/-- xs[i] of a list or tuple -/
def rIxA (K : PySem.W.Frag) : R2 := fun x y H Q => rIxL K x y H Q ∨ rIxT K x y H Q
theorem rIxA_of {x w : V} {vs : List V} {i : Nat} {Q : VK} (s : SqA K H x vs) (e : vs[i]? = some w) (h : Q w H) : rIxA K x (.int (i : Int)) H Q := by
  obtain ⟨p, rfl, ep | ep⟩ := s
  · refine .inl ⟨p, vs, i, w, rfl, rfl, SqL.of ep, ?_, h⟩
    unfold atI
    rw [ixN_of (List.getElem?_eq_some_iff.mp e).1]
    exact e
  · refine .inr ⟨p, vs, i, w, rfl, rfl, SqT.of ep, ?_, h⟩
    unfold atI
    rw [ixN_of (List.getElem?_eq_some_iff.mp e).1]
    exact e
end
section
variable {X : Cx} {C : Cf} {fx : Fx} {rk : RK} {E : XK} {ts : List Tmp} {Wf : Nat} {pos : Pos}
def tPath (K : PySem.W.Frag) (x i j : Nat) : TE := tOp (rIxA K) (tOp (rIxA K) (tVar x) (tC (.int (i : Int)))) (tC (.int (j : Int)))
theorem pe_path {x i j k1 k2 : Nat} {nx : Str} {p1 p2 p3 p4 pos : Pos} (hN : X.N[x]? = some nx) (hv : Vis X.env.scope nx) (hd : (nx == ("__debug__" : Str)) = false) (hcd : (nx == ("__classdict__" : Str)) = false) :
    PE X (.Subscript (.Subscript (.Name nx p1) (.Constant (.int (i : Int)) k1 p2) p3) (.Constant (.int (j : Int)) k2 p4) pos) (tPath X.K x i j) :=
  pe_ix (IxR.or ix_list ix_tup) (pe_ix (IxR.or ix_list ix_tup) (pe_var hN hv hd hcd) pe_int (plain_ix (by rfl))) pe_int (plain_ix (by rfl))
theorem tPath_ok {K : PySem.W.Frag} {x i j : Nat} {σ : St} {H : Hp} {Q : VK} {v w u : V} {vs ws : List V} (h0 : σ[x]? = some (some v)) (s : SqA K H v vs) (e : vs[i]? = some w) (s2 : SqA K H w ws) (e2 : ws[j]? = some u) (q : Q u H) : tPath K x i j σ H Q :=
  ⟨v, h0, rIxA_of s e (rIxA_of s2 e2 q)⟩
theorem s_spoilP {x k i j i2 j2 k1 k2 k3 k4 : Nat} {nx ny nm : Str} {p p1 p2 p3 p4 p5 p6 p7 p8 p9 p10 p11 cpos : Pos} (hN : X.N[x]? = some nx) (hv : Vis X.env.scope nx) (hd : (nx == ("__debug__" : Str)) = false) (hcd : (nx == ("__classdict__" : Str)) = false)
    (hN' : X.N[x]? = some ny) (hv' : Vis X.env.scope ny) (hd' : (ny == ("__debug__" : Str)) = false) (hcd' : (ny == ("__classdict__" : Str)) = false) (hk : C.g.k x = .D) (hne : i ≠ i2) (sc : SpCall X nm k) (sf : SpF C k) (hx : ∀ t μ c u μ', C.F spIx [t] μ ≠ .exc c u μ') :
    PS X (.Expr (.Call (.Name nm p) [.List [.Subscript (.Subscript (.Name nx p1) (.Constant (.int (i : Int)) k1 p2) p3) (.Constant (.int (j : Int)) k2 p4) p5, .Subscript (.Subscript (.Name ny p6) (.Constant (.int (i2 : Int)) k3 p7) p8) (.Constant (.int (j2 : Int)) k4 p9) p10] p11] [] cpos) pos) (TS1 X C fx rk E ts Wf (.spoilP x i j i2 j2)) :=
  (ps_expr (sc (pe_lst (pa_cons (pe_path hN hv hd hcd) (pa_cons (pe_path hN' hv' hd' hcd') pa_nil (by rfl)) (by rfl))) rfl) (by rfl)).weak fun D σ H h => by
  obtain ⟨ρ, μ, β, ns, bn, S, h⟩ := h
  obtain ⟨t, et, h⟩ := Sat_opt (Sat_bind h)
  obtain ⟨u, eu, h⟩ := Sat_opt (Sat_bind h)
  obtain ⟨w, ew, h⟩ := Sat_opt (Sat_bind h)
  have hA := Sat_bind h
  clear h
  obtain ⟨v, ev, r⟩ := S.e.sl x t et
  cases hF : C.F spIx [.lst [u, w]] μ with
  | stuck => rw [hF] at hA; exact hA.elim
  | exc c u' μ' => exact (hx _ μ c u' μ' hF).elim
  | ok r0 μ' =>
    rw [hF] at hA
    obtain ⟨h1, h2, rfl⟩ := sf _ μ r0 μ' hF
    unfold path2 at eu ew
    cases e1 : kidAt t i with
    | none => rw [e1] at eu; cases eu
    | some t1 =>
    cases e2 : kidAt t i2 with
    | none => rw [e2] at ew; cases ew
    | some t2 =>
    rw [e1] at eu
    rw [e2] at ew
    have eu : kidAt t1 j = some u := eu
    have ew : kidAt t2 j2 = some w := ew
    obtain ⟨vs, w1, m1, w2, m2, sq, f1, f2, r1, r2, nd, sb⟩ := r.kid2 (S.e.dn x hk) e1 e2 hne
    have nd' := List.nodup_append.mp nd
    obtain ⟨vs1, z1, n1, sq1, g1, q1, nd1, sb1⟩ := r1.kid nd'.1 eu
    obtain ⟨vs2, z2, n2, sq2, g2, q2, nd2, sb2⟩ := r2.kid nd'.2.1 ew
    have in1 : ∀ a ∈ n1, a ∈ ns x := fun a ha => sb a (List.mem_append_left _ (sb1 a ha))
    have in2 : ∀ a ∈ n2, a ∈ ns x := fun a ha => sb a (List.mem_append_right _ (sb2 a ha))
    refine tPath_ok ev sq f1 sq1 g1 (tPath_ok ev sq f2 sq2 g2 ⟨by show 2 ≤ sizeLine; unfold sizeLine; omega, fun p hp => ?_⟩)
    have hpn : ∀ j', p ∉ ns j' := fun j' z => by
      obtain ⟨o, e, _⟩ := S.e.node z
      rw [hp] at e
      cases e
    have kn := Keeps.new (B := fun _ => False) (o := HO.lst [z1, z2]) hp
    have st := Step.new (K := X.K) (o := HO.lst [z1, z2]) S.e.box hp
    have ok := h1
    have d0 : ∃ d, k - 1 = d + 1 := by
      cases hk1 : k - 1 with
      | zero => rw [hk1] at ok; cases ok
      | succ d => exact ⟨d, rfl⟩
    have bl : boxlessL [u, w] = true := spOk_boxless (.lst [u, w]) h1
    have bl : (boxless u && (boxless w && true)) = true := bl
    rw [Bool.and_eq_true, Bool.and_eq_true] at bl
    have R1 : Rds X.K [] (upd H p (.lst [z1, z2])) u z1 n1 := (rds_nil u q1 bl.1).keep kn (fun _ _ e => e) u fun _ _ z => z
    have R2 : Rds X.K [] (upd H p (.lst [z1, z2])) w z2 n2 := (rds_nil w q2 bl.2.1).keep kn (fun _ _ e => e) w fun _ _ z => z
    refine ⟨.lst [u, w], .ref p, p :: (n1 ++ n2), k - 1, rfl, ⟨p, [z1, z2], n1 ++ n2, rfl, upd_same, ⟨z1, [z2], n1, n2, rfl, R1, ⟨z2, [], n2, [], rfl, R2, ⟨rfl, rfl⟩, (List.append_nil _).symm⟩, rfl⟩, rfl⟩, h1, by omega, ?_, st.box.tb, fun H' kp _ => ?_⟩
    · refine List.nodup_cons.mpr ⟨fun z => ?_, List.nodup_append.mpr ⟨nd1, nd2, fun a ha b hb z => nd'.2.2 a (sb1 a ha) b (sb2 b hb) z⟩⟩
      rcases List.mem_append.mp z with z | z
      · exact hpn x (in1 p z)
      · exact hpn x (in2 p z)
    · have inn : ∀ a ∈ p :: (n1 ++ n2), a = p ∨ a ∈ ns x := fun a ha => by
        rcases List.mem_cons.mp ha with rfl | ha
        · exact .inl rfl
        · rcases List.mem_append.mp ha with ha | ha
          · exact .inr (in1 a ha)
          · exact .inr (in2 a ha)
      have S1 := ((S.step st).kill [x]).wrK (n := p :: (n1 ++ n2)) kp (fun j' a ha z => by
        obtain ⟨q, z⟩ := nsK_sub z
        rcases inn a ha with rfl | ha
        · exact hpn j' z
        · exact S.dd x j' (fun e => q (by simp [e])) hk a ha z) (fun a ha z => by
        rcases inn a ha with rfl | ha
        · obtain ⟨kk, hkk, z⟩ := z
          have hm : kk < μ'.length := by rw [← S.e.box.len]; exact hkk
          obtain ⟨pa, _, rr, _⟩ := S.e.box.rd kk _ (List.getElem?_eq_getElem hm)
          obtain ⟨o, e, _⟩ := rr.node _ a z
          rw [hp] at e
          cases e
        · exact S.e.sb x a ha z) (fun a ha => by
        rcases inn a ha with rfl | ha
        · exact S.keep.more a hp
        · exact S.frd x hk a ha) (fun q hq a ha z => by
        rcases inn a ha with rfl | ha
        · exact (S.tm q hq).trk a z hp
        · exact (S.tm q hq).d x hk a ha z)
      exact hA _ _ _ _ _ S1
end
end MP

/-! C24e: return f(a, b, c, d, {}): the new dict is a box while the call runs. -/
namespace MP
open PySem L2
section
variable {K : PySem.W.Frag} {β : List Addr} {H : Hp} {μ : Mem} {bn : Nat → List Addr} {p : Addr}
/-- the boxes and a new one -/
def bnAt (k0 : Nat) (p : Addr) (bn : Nat → List Addr) : Nat → List Addr := fun k => if k = k0 then [p] else bn k
theorem up_rds {t : T} {v : V} {n : List Addr} (r : Rds K β H t v n) (hp : H p = none) : Rds K (β ++ [p]) (upd H p (.dT [])) t v n := r.keep (B := fun _ => False) (Keeps.new hp) pre_get t fun _ _ z => z
theorem box_new (b : BoxOk K β H μ bn) (hp : H p = none) : BoxOk K (β ++ [p]) (upd H p (.dT [])) (μ ++ [.dt [] []]) (bnAt β.length p bn) := by
  have bnO : ∀ k, k < β.length → bnAt β.length p bn k = bn k := fun k hk => if_neg (Nat.ne_of_lt hk)
  have bnN : bnAt β.length p bn β.length = [p] := if_pos rfl
  have fr : ∀ k, k < β.length → p ∉ bn k := fun k hk z => by
    obtain ⟨o, e, _⟩ := b.node ⟨k, hk, z⟩
    rw [hp] at e
    cases e
  refine ⟨by rw [List.length_append, List.length_append, b.len]; rfl, fun k u e => ?_, fun k l hne h1 h2 y hy z => ?_, b.tb.new hp⟩
  · by_cases hk' : k < μ.length
    · rw [List.getElem?_append_left hk'] at e
      obtain ⟨a', e1, r1, b1, n1⟩ := b.rd k u e
      have hb : k < β.length := by rw [b.len]; exact hk'
      refine ⟨a', pre_get _ _ e1, ?_, b1, ?_⟩
      · rw [bnO k hb]; exact up_rds r1 hp
      · rw [bnO k hb]; exact n1
    · have hl : k < (μ ++ [T.dt [] []]).length := (List.getElem?_eq_some_iff.mp e).1
      rw [List.length_append, List.length_singleton] at hl
      have hk2 : k = μ.length := by omega
      subst hk2
      rw [List.getElem?_append_right (Nat.le_refl _), Nat.sub_self] at e
      cases e
      rw [← b.len]
      refine ⟨p, by rw [List.getElem?_append_right (Nat.le_refl _), Nat.sub_self] <;> rfl, ?_, rfl, ?_⟩
      · rw [bnN]
        exact ⟨p, [], [], rfl, upd_same, ⟨rfl, List.nodup_nil⟩, ⟨rfl, rfl⟩, rfl⟩
      · rw [bnN]; exact List.nodup_cons.mpr ⟨by simp, List.nodup_nil⟩
  · rw [List.length_append, List.length_singleton] at h1 h2
    by_cases k1 : k = β.length
    · subst k1
      rw [bnN] at hy
      have l1 : l < β.length := by omega
      rw [bnO l l1] at z
      rw [List.mem_singleton.mp hy] at z
      exact fr l l1 z
    · have k2 : k < β.length := by omega
      rw [bnO k k2] at hy
      by_cases l1 : l = β.length
      · subst l1
        rw [bnN] at z
        rw [List.mem_singleton.mp z] at hy
        exact fr k k2 hy
      · have l2 : l < β.length := by omega
        rw [bnO l l2] at z
        exact b.dj k l hne k2 l2 y hy z
theorem bx_new {y : Addr} (h : Bx (β ++ [p]) (bnAt β.length p bn) y) : Bx β bn y ∨ y = p := by
  obtain ⟨k, hk, z⟩ := h
  by_cases e : k = β.length
  · subst e
    rw [show bnAt β.length p bn β.length = [p] from if_pos rfl] at z
    exact .inr (List.mem_singleton.mp z)
  · rw [List.length_append, List.length_singleton] at hk
    rw [show bnAt β.length p bn k = bn k from if_neg e] at z
    exact .inl ⟨k, by omega, z⟩
end
section
variable {X : Cx} {C : Cf} {fx : Fx} {rk : RK} {E : XK} {ts : List Tmp} {Wf : Nat} {pos : Pos}
theorem s_retB {fs : List Fi} {fa : Nat → Addr} {f : Nat} {fi : Fi} {a b c d : IE} {ea eb ec ed : Expr} {p p2 cpos : Pos} (hC : CallOk X C (WE0 E) fs fa) (hf : fs[f]? = some fi) (hg : Gl X fi.nm) (hdb : (fi.nm == ("__debug__" : Str)) = false) (hok : (5, []) ∈ fi.sh)
    (ha : PE X ea (tE C X.K (WE0 E) a)) (hb : PE X eb (tE C X.K (WE0 E) b)) (hc : PE X ec (tE C X.K (WE0 E) c)) (hd : PE X ed (tE C X.K (WE0 E) d)) (na : nost ea = true) (nb : nost eb = true) (nc : nost ec = true) (nd : nost ed = true) (hrk : rk = .I ∨ rk = .S) :
    PS X (.Return (some (.Call (.Name fi.nm p) [ea, eb, ec, ed, .Dict [] [] p2] [] cpos)) pos) (TS1 X C fx rk E ts Wf (.retB f [a, b, c, d])) := by
  obtain ⟨hm, hk, hcall⟩ := hC f fi [] hf
  have hst : [ea, eb, ec, ed, Expr.Dict [] [] p2].all nost = true := by
    show (nost ea && (nost eb && (nost ec && (nost ed && (true && true))))) = true
    rw [na, nb, nc, nd] <;> rfl
  have hc' : ∀ (pins : List (Addr × Obj)) (s : Shared) (σ : St) (H : Hp) (us ws : List Value) (vs zs : List V) (Q : VK), Inv X pins σ H s → Vals vs us → Vals zs ws →
      (vs.length = 5 ∧ zs.length = 0 ∧ spF X.K C f (vs ++ kwP vs.length [] zs) H Q (fun c d H' => WE0 E c d σ H')) → wpAny (model X.prog X.w) X.A (call (.ref (fa f)) us ((kwN fi.ps []).zip ws)) (EP X pins σ Q) X.xe s := fun pins s σ H us ws vs zs Q I r1 r2 ⟨l1, l2, q⟩ =>
    hcall pins s σ H us ws vs zs Q (by rw [l1]; exact hok) I r1 r2 l2 q
  refine (ps_ret (pe_callF (r := fun vs zs σ H Q => vs.length = 5 ∧ zs.length = 0 ∧ spF X.K C f (vs ++ kwP vs.length [] zs) H Q (fun c d H' => WE0 E c d σ H')) (ks := []) (kws := []) hg hm hk hc'
    (pa_cons ha (pa_cons hb (pa_cons hc (pa_cons hd (pa_cons pe_dnewT pa_nil (by rfl)) (star_cons nd)) (star_cons nc)) (star_cons nb)) (star_cons na)) pk_nil rfl hst hdb)).weak fun D σ H h => ?_
  obtain ⟨ρ, μ, β, ns, bn, S, h⟩ := h
  rw [evI1] at h
  have h := Sat_bind h
  rw [evL] at h
  refine use1 S (Sat_bind h) fun t1 μ1 v1 H1 bn1 n1 q s1 x1 => ?_
  clear h
  rw [evL] at q
  refine use1 (S.step s1) (Sat_bind (Sat_bind q)) fun t2 μ2 v2 H2 bn2 n2 q s2 x2 => ?_
  rw [evL] at q
  refine use1 ((S.step s1).step s2) (Sat_bind (Sat_bind q)) fun t3 μ3 v3 H3 bn3 n3 q s3 x3 => ?_
  rw [evL] at q
  refine use1 (((S.step s1).step s2).step s3) (Sat_bind (Sat_bind q)) fun t4 μ4 v4 H4 bn4 n4 q s4 x4 => ?_
  rw [evL] at q
  have S4 := (((S.step s1).step s2).step s3).step s4
  intro pn hpn
  have q : Sat (match C.F f ([t1, t2, t3, t4] ++ [.box μ4.length]) (μ4 ++ [.dt [] []]) with | .ok t μ' => if nodeless t = true then Res.ok (Fl.rt t, ρ) μ' else .stuck | _ => .stuck) (PostS C X.K fx rk ts D) (XS C X.K fx E) := q
  have box := S4.e.box
  have y1 := ((x1.step s2).step s3).step s4
  have y2 := (x2.step s3).step s4
  have y3 := x3.step s4
  have bx := box_new (p := pn) box hpn
  have fresh : ∀ a o, H4 a = some o → a ≠ pn := fun a o e z => by rw [z, hpn] at e; cases e
  have nbx : ∀ {t v n}, Rds X.K β H4 t v n → (∀ a ∈ n, ¬ Bx β bn4 a) → ∀ a ∈ n, ¬ Bx (β ++ [pn]) (bnAt β.length pn bn4) a := fun {t v n} r hn a ha z => by
    rcases bx_new z with z | rfl
    · exact hn a ha z
    · obtain ⟨o, e, _⟩ := r.node t a ha
      exact fresh a o e rfl
  refine ⟨rfl, rfl, [t1, t2, t3, t4, .box μ4.length], μ4 ++ [.dt [] []], β ++ [pn], bnAt β.length pn bn4, n1 ++ (n2 ++ (n3 ++ (n4 ++ ([] ++ [])))), bx, ⟨v1, _, n1, _, rfl, up_rds y1.rd hpn, ⟨v2, _, n2, _, rfl, up_rds y2.rd hpn, ⟨v3, _, n3, _, rfl, up_rds y3.rd hpn, ⟨v4, _, n4, _, rfl, up_rds x4.rd hpn, ⟨.ref pn, _, [], [], rfl, ⟨pn, rfl, by rw [← box.len, List.getElem?_append_right (Nat.le_refl _), Nat.sub_self] <;> rfl, rfl⟩, ⟨rfl, rfl⟩, rfl⟩, rfl⟩, rfl⟩, rfl⟩, rfl⟩, fun a ha => ?_, ?_⟩
  · rcases List.mem_append.mp ha with ha | ha
    · exact nbx y1.rd y1.nb a ha
    · rcases List.mem_append.mp ha with ha | ha
      · exact nbx y2.rd y2.nb a ha
      · rcases List.mem_append.mp ha with ha | ha
        · exact nbx y3.rd y3.nb a ha
        · rcases List.mem_append.mp ha with ha | ha
          · exact nbx x4.rd x4.nb a ha
          · simp at ha
  · show Sat (C.F f ([t1, t2, t3, t4] ++ [.box μ4.length]) (μ4 ++ [.dt [] []])) _ _
    cases hF : C.F f ([t1, t2, t3, t4] ++ [.box μ4.length]) (μ4 ++ [.dt [] []]) with
    | stuck => rw [hF] at q; exact q.elim
    | exc cc u μ' => rw [hF] at q; exact q.elim
    | ok t μ' =>
      rw [hF] at q
      obtain ⟨nl, q⟩ := Sat_if q
      intro v H' bn' m st R
      have hm0 := R.rd.nil t nl
      subst hm0
      have kn : Keeps (Bx β bn4) H4 (upd H4 pn (.dT [])) := Keeps.new hpn
      have keep : Keeps (Bx fx.β fx.bn) fx.H H' := (S4.keep.trans kn S4.sub).trans st.keep fun a z => by
        rcases bx_new z with z | rfl
        · exact S4.sub a z
        · exact .inr (S4.keep.more a hpn)
      have sub : ∀ a, Bx (β ++ [pn]) bn' a → Bx fx.β fx.bn a ∨ fx.H a = none := fun a z => by
        rcases st.sub a z with z | z
        · rcases bx_new z with z | rfl
          · exact S4.sub a z
          · exact .inr (S4.keep.more a hpn)
        · exact .inr (S4.keep.more a (kn.more a z))
      refine q (β ++ [pn]) bn' v H' [] ⟨st.box, keep, sub, ?_, R.rd, R.nb, (fun _ z => by cases z), (fun _ => ⟨List.nodup_nil, fun _ z => by cases z⟩), fun z => ?_⟩
      · obtain ⟨r, e⟩ := S4.pre
        exact ⟨r ++ [pn], by rw [e, List.append_assoc]⟩
      · rcases hrk with rfl | rfl <;> rcases z with z | z <;> cases z
end
end MP

/-! C24f: x[i][j] = e, x's own thing, e no list. -/
namespace MP
open PySem L2
theorem innerAt_some {xs : List T} {iv : T} {a : Nat} {ys : List T} (h : innerAt xs iv = some (a, ys)) : ∃ n, iv = .int n ∧ ixN xs.length n = some a ∧ xs[a]? = some (.lst ys) := by
  unfold innerAt at h
  split at h
  · split at h
    · split at h
      · cases h; exact ⟨_, rfl, by assumption, by assumption⟩
      · cases h
    · cases h
  · cases h
theorem set_same {α : Type} : ∀ {xs : List α} {i : Nat} {x : α}, xs[i]? = some x → xs.set i x = xs
  | [], i, x, h => by simp at h
  | a :: r, 0, x, h => by
    have h : some a = some x := by simpa using h
    cases h
    rfl
  | a :: r, i + 1, x, h => by
    show a :: r.set i x = a :: r
    rw [set_same (xs := r) (by simpa using h)]
section
variable {X : Cx} {C : Cf} {fx : Fx} {rk : RK} {E : XK} {ts : List Tmp} {Wf : Nat} {a b b2 : Expr} {x y z : IE}
theorem s_set2 {i : Nat} {nm : Str} {p1 p2 p3 pos : Pos} (hu : X.A.units + 65 < cLine) (hN : X.N[i]? = some nm) (hv : Vis X.env.scope nm) (hd : (nm == ("__debug__" : Str)) = false) (hcd : (nm == ("__classdict__" : Str)) = false) (ha : PE X a (tE C X.K (WE0 E) x)) (hb : PE X b (tE C X.K (WE0 E) y)) (hb2 : PE X b2 (tE C X.K (WE0 E) z)) (hp : plainIx b = true) (hp2 : plainIx b2 = true) (hk : C.g.k i = .D) :
    PS X (.Assign [.Subscript (.Subscript (.Name nm p1) b p2) b2 p3] a pos) (TS1 X C fx rk E ts Wf (.set2 i y z x)) := (ps_asg ha (pg_sub (pe_ix (IxR.or ix_list ix_tup) (pe_var hN hv hd hcd) hb (plain_ix hp)) hb2 (set_ok hu) (sub_assign hp2)) sub_swaps).weak fun D σ H h => by
  obtain ⟨ρ, μ, β, ns, bn, S, h⟩ := h
  rw [evI1] at h
  refine use1 S (Sat_bind h) fun t μ1 v H1 bn1 n h s1 x1 => ?_
  have S1 := S.step s1
  obtain ⟨xs, ec, h⟩ := Sat_opt (Sat_bind h)
  have ec := getL_some ec
  show tVar i σ H1 fun o0 H2 => tE C X.K (WE0 E) y σ H2 fun w H3 => rIxA X.K o0 w H3 fun o H4 => tE C X.K (WE0 E) z σ H4 fun jv H5 => rSet X.K o jv v H5 fun H6 => D.nx σ H6
  refine tVar_of S1 ec fun ov ev _ => ?_
  refine use1 S1 (Sat_bind h) fun iv μ2 w H2 bn2 m2 h s2 y1 => ?_
  obtain ⟨⟨k, ys⟩, e', h4⟩ := Sat_opt (Sat_bind h)
  clear h
  obtain ⟨n0, rfl, hix, hxs⟩ := innerAt_some e'
  have S2 := S1.step s2
  obtain ⟨ov2, ev2, r2⟩ := S2.e.sl i _ ec
  rw [ev] at ev2
  cases ev2
  obtain ⟨pa, vs, m, rfl, ea, rl, en⟩ := r2
  obtain ⟨v0, na, mm, nb, hv0, hm, r0, _⟩ := RdsL.setAt rl hxs
  obtain ⟨pb, ws, m1, rfl, eb, rw1, rfl⟩ := r0
  obtain ⟨rfl, _⟩ := y1.rd
  refine .inl ⟨pa, vs, n0, .ref pb, rfl, rfl, SqL.of ea, ?_, ?_⟩
  · unfold atI
    rw [rl.length, hix]
    exact hv0
  have S2' := S2
  refine use1 S2 (Sat_bind h4) fun jv μ3 w3 H3 bn3 m3 h5 s3 z1 => ?_
  obtain ⟨c', ep, h6⟩ := Sat_opt (Sat_bind h5)
  obtain ⟨nl, q⟩ := Sat_if h6
  have S3 := S2.step s3
  have x3 := (x1.step s2).step s3
  have hn0 := x3.rd.nil t nl
  subst hn0
  -- the slot, as it stands now
  have nbs : ∀ y ∈ ns i, ¬ Bx β bn2 y := S2.e.sb i
  have rl3 : RdsL X.K β H3 xs vs m := rl.keep s3.keep (fun _ _ e => e) xs fun y hy => nbs y (by rw [en]; exact List.mem_cons_of_mem _ hy)
  have ea3 : H3 pa = some (.lst vs) := s3.keep.lst ea (nbs pa (by rw [en]; exact List.mem_cons_self))
  obtain ⟨v03, na, mm, nb, hv03, hm3, r03, set⟩ := RdsL.setAt rl3 hxs
  rw [hv0] at hv03
  cases hv03
  obtain ⟨pb', ws3, m13, e1, eb3, rw3, rfl⟩ := r03
  cases e1
  have nd : (pa :: m).Nodup := by rw [← en]; exact S3.e.dn i hk
  have nd2 := (List.nodup_cons.mp nd).2
  rw [hm3] at nd2
  obtain ⟨q1, q2, q3⟩ := List.nodup_append.mp nd2
  obtain ⟨q4, q5, q6⟩ := List.nodup_append.mp q2
  obtain ⟨q7, q8⟩ := List.nodup_cons.mp q4
  have inx : ∀ y ∈ m, y ∈ ns i := fun y hy => by rw [en]; exact List.mem_cons_of_mem _ hy
  have pbm : pb ∈ m := by rw [hm3]; simp
  have pbn : pb ∈ ns i := inx pb pbm
  refine ⟨β, .lst ys, jv, t, c', pb, m13, m3, [], .lst ws3, rfl, ⟨pb, ws3, m13, rfl, eb3, rw3, rfl⟩, z1.rd, x3.rd, ep, eb3, rfl, q7, (fun z => by cases z), fun o' m' h1 h2 _ rd hn => ?_⟩
  have h1' : ∀ y ∈ m', y ∈ m13 := fun y hy => by
    rcases h1 y hy with z | z
    · exact z
    · cases z
  have nd' : m'.Nodup := h2 (fun _ _ z => by cases z) q8 List.nodup_nil
  have kwT : KeepsT X.K (fun y => y = pb) H3 (upd H3 pb o') := KeepsT.write eb3 rfl rfl
  have kw := kwT.toKeeps
  have na1 : ∀ y ∈ na, y ≠ pb := fun y hy z => q3 y hy pb (by simp) z
  have nb1 : ∀ y ∈ nb, y ≠ pb := fun y hy z => q6 pb (by simp) y hy z.symm
  have rl4 := set _ c' (.ref pb) (pb :: m') _ kw (fun y hy z => na1 y hy z) (fun y hy z => nb1 y hy z) rd
  rw [set_same hv0] at rl4
  have pap : pa ≠ pb := fun z => (List.nodup_cons.mp nd).1 (by rw [z]; exact pbm)
  have ea4 : upd H3 pb o' pa = some (.lst vs) := by rw [upd_ne pap]; exact ea3
  let N : List Addr := pa :: (na ++ ((pb :: m') ++ nb))
  have sub : ∀ y ∈ N, y ∈ ns i := fun y hy => by
    rcases List.mem_cons.mp hy with rfl | hy
    · rw [en]; exact List.mem_cons_self
    · refine inx y ?_
      rw [hm3]
      rcases List.mem_append.mp hy with z | z
      · exact List.mem_append_left _ z
      · refine List.mem_append_right _ ?_
        rcases List.mem_append.mp z with z | z
        · refine List.mem_append_left _ ?_
          rcases List.mem_cons.mp z with rfl | z
          · exact List.mem_cons_self
          · exact List.mem_cons_of_mem _ (h1' y z)
        · exact List.mem_append_right _ z
  have ndN : N.Nodup := by
    refine List.nodup_cons.mpr ⟨fun z => (List.nodup_cons.mp nd).1 ?_, List.nodup_append.mpr ⟨q1, List.nodup_append.mpr ⟨List.nodup_cons.mpr ⟨fun z => q7 (h1' pb z), nd'⟩, q5, fun c hc d hd e => ?_⟩, fun c hc d hd e => ?_⟩⟩
    · have := sub pa (List.mem_cons_of_mem _ z)
      rw [hm3]
      rcases List.mem_append.mp z with z | z
      · exact List.mem_append_left _ z
      · refine List.mem_append_right _ ?_
        rcases List.mem_append.mp z with z | z
        · refine List.mem_append_left _ ?_
          rcases List.mem_cons.mp z with e | z
          · rw [e]; exact List.mem_cons_self
          · exact List.mem_cons_of_mem _ (h1' _ z)
        · exact List.mem_append_right _ z
    · rcases List.mem_cons.mp hc with rfl | hc
      · exact q6 _ List.mem_cons_self d hd e
      · exact q6 c (List.mem_cons_of_mem _ (h1' c hc)) d hd e
    · rcases List.mem_append.mp hd with hd | hd
      · rcases List.mem_cons.mp hd with rfl | hd
        · exact q3 c hc _ (List.mem_append_left _ List.mem_cons_self) e
        · exact q3 c hc d (List.mem_append_left _ (List.mem_cons_of_mem _ (h1' d hd))) e
      · exact q3 c hc d (List.mem_append_right _ hd) e
  have kwN : KeepsT X.K (fun y => y ∈ [pb]) H3 (upd H3 pb o') := kwT.wider fun y hy => by rw [hy]; exact List.mem_cons_self
  have S4 := (S3.kill [i]).wrK (n := [pb]) kwN (fun j y hy z => by
    rw [List.mem_singleton.mp hy] at z
    obtain ⟨u1, u2⟩ := nsK_sub z
    exact S3.dd i j (fun e => u1 (by simp [e])) hk pb pbn u2) (fun y hy => by rw [List.mem_singleton.mp hy]; exact S3.e.sb i pb pbn) (fun y hy => by rw [List.mem_singleton.mp hy]; exact S3.frd i hk pb pbn) (fun q hq y hy => by rw [List.mem_singleton.mp hy]; exact (S3.tm q hq).d i hk pb pbn)
  have S5 := S4.put (x := i) (t := .lst (xs.set k c')) (v := .ref pa) (n := N) ⟨pa, vs, _, rfl, ea4, rl4, rfl⟩ (fun y hy => S3.e.sb i y (sub y hy)) ⟨fun j hj hD y hy z => by
      obtain ⟨_, u2⟩ := nsK_sub hy
      exact S3.dd j i hj hD y u2 (sub y z), fun j hj hP y hy z => by
      obtain ⟨_, u2⟩ := nsK_take hy
      exact S3.dp j i hj hP y u2 (sub y z), fun y hy => S3.ln i y (sub y hy), fun _ => ⟨ndN, fun j hj y hy z => by
      obtain ⟨_, u2⟩ := nsK_sub z
      exact S3.dd i j (fun e => hj e.symm) hk y (sub y hy) u2, fun y hy => S3.frd i hk y (sub y hy), fun q hq y hy => (S3.tm q hq).d i hk y (sub y hy)⟩, fun z => by rw [hk] at z; cases z⟩
  have es : σ.set i (some (.ref pa)) = σ := set_same ev
  have er : (kill ρ [i]).set i (some (.lst (xs.set k c'))) = ρ.set i (some (.lst (xs.set k c'))) := by
    show (ρ.set i none).set i _ = _
    rw [List.set_set]
  rw [es, er] at S5
  exact q _ _ _ _ _ S5
end
end MP

/-! C24g: raise x(e), x an own error class with one field. -/
namespace MP
open PySem PySem.Spec PyProof.Rows L2
/-- self.f = par -/
def okInit (N : List Str) (sc : Scope) (f : Str) : List Stmt → Bool
  | [.Assign [.Attribute (.Name a _) g _] (.Name b _) _] => (match N with
    | [self, par] => decide (a = self) && decide (b = par) && decide (g = f) && visB sc a && visB sc b && okN a && okN b
    | _ => false)
  | _ => false
/-- the promise of such an __init__ -/
def spInit (C : Addr) (f : Str) : Sp := fun vs H Q _ => ∃ a y, vs = [.ref a, y] ∧ H a = some (exo a C none) ∧ ∀ dx, H dx = none → dx ≠ a → Q .non (upd (upd H dx (exd dx [(f, y)])) a (exo a C (some dx)))
section
variable {P : Program} {w : World} {K : PySem.W.Frag} {mg : Str → Option Value} {base : Heap}
theorem init_ok {nm ql f : Str} {prm : Arguments} {body : List Stmt} {sc : Scope} {N : List Str} {fI C : Addr} {fd : FuncData} (FD : FunD K nm ql prm body sc [] [] fI fd) (Sc : FnScope N N sc) (T : OexC K C) (no : PySem.W.findIn K (.ref C) f = some none) (ok : okInit N sc f body = true) :
    FnOk P w K mg base C8.CX0 1 fI fd N (spInit C f) := by
  unfold okInit at ok
  split at ok
  · rename_i a p1 g p2 b p3 p4
    split at ok
    · rename_i self par
      simp only [Bool.and_eq_true, decide_eq_true_eq] at ok
      obtain ⟨⟨⟨⟨⟨⟨rfl, rfl⟩, rfl⟩, k1⟩, k2⟩, k3⟩, k4⟩ := ok
      simp only [okN, Bool.and_eq_true, Bool.not_eq_true'] at k3 k4
      refine FunD.ok (k := 0) FD Sc (fun vs H Q E ⟨_, _, e, _⟩ => by rw [e] <;> rfl) fun cdv A outer s H vs Q E _ h => ?_
      obtain ⟨x, y, rfl, ex, q⟩ := h
      have v1 : ∀ {nm : Str}, visB sc nm = true → Vis (cxOf C8.CX0 P w K mg base [a, b] ql sc fI cdv A outer s H E).env.scope nm := fun {nm} h => by
        unfold visB at h
        split at h
        · rename_i e; exact .inl e
        · rename_i e; exact .inr (.inl e)
        · rename_i e; exact .inr (.inr e)
        · cases h
      refine ⟨_, pss_one (ps_ost (X := cxOf C8.CX0 P w K mg base [a, b] ql sc fI cdv A outer s H E) (pe_var (i := 0) rfl (v1 k1) k3.1 k3.2) (pe_var (i := 1) rfl (v1 k2) k4.1 k4.2)), ?_⟩
      exact ⟨y, rfl, .ref x, rfl, x, C, rfl, T, no, .inl ⟨ex, fun dx n1 n2 => q dx n1 n2⟩⟩
    · cases ok
  · cases ok
end
/-- what is told of an error class -/
structure RsF (K : PySem.W.Frag) (mg : Str → Option Value) (C : Addr) (x f : Str) : Prop where
  mg : mg x = some (.ref C)
  oex : OexC K C
  no : PySem.W.findIn K (.ref C) f = some none
  ini : ∃ (fI : Addr) (fd : FuncData) (ql : Str) (prm : Arguments) (body : List Stmt) (sc : Scope) (N : List Str), PySem.W.findIn K (.ref C) "__init__" = some (some (.ref fI)) ∧ PySem.W.typeIn K (.ref fI) = some (.type "function") ∧ FunD K "__init__" ql prm body sc [] [] fI fd ∧
    FnScope N N sc ∧ okInit N sc f body = true ∧ L2.Binds K fd N []
section
variable {X : Cx} {C : Cf} {fx : Fx} {rk : RK} {E : XK} {ts : List Tmp} {Wf : Nat}
theorem s_raise {c : Nat} {x f : Str} {e : Expr} {ie : IE} {p pos pos2 : Pos} (R : RsF X.K X.mg (C.cl c) x f) (ea : C.at_ c = f) (tk : Takes X (WE0 E)) (hc : X.calm = true) (room : Room 2 X.A) (gl : Gl X x) (db : (x == ("__debug__" : Str)) = false) (ns : nost e = true) (he : PE X e (tE C X.K (WE0 E) ie)) :
    PS X (.Raise (some (.Call (.Name x p) [e] [] pos)) none pos2) (TS1 X C fx rk E ts Wf (.raise c ie)) := by
  obtain ⟨fI, fd, ql, prm, body, sc, N, i1, i2, FD, Sc, ok, bd⟩ := R.ini
  have FI := init_ok (P := X.prog) (w := X.w) (mg := X.mg) (base := X.base) FD Sc R.oex R.no ok
  refine (ps_raise (pos := pos2) hc tk (pmk_oex (p := p) (pos := pos) (dvs := []) R.oex i1 i2 FI room bd .nil C8.pass0 gl R.mg (pa_cons he pa_nil (star_cons ns)) db (star_cons ns) (by rfl))).weak fun D σ H h => ?_
  obtain ⟨ρ, μ, β, nsl, bn, S, h⟩ := h
  refine use1 S (Sat_bind h) fun t μ1 v H1 bn1 n h s1 x1 => ?_
  have h : XS C X.K fx E c t μ1 := h
  refine ⟨by show 1 ≤ 1000; omega, fun a ha => ⟨a, v, rfl, upd_same, fun dx n1 n2 => ?_⟩⟩
  have nd : H1 dx = none := by rw [upd_ne n2] at n1; exact n1
  refine ⟨rfl, dx, [(f, v)], upd_same, by rw [upd_ne n2, upd_same], nd, ?_⟩
  have same : upd (del (upd (upd (upd H1 a (exo a (C.cl c) none)) dx (exd dx [(f, v)])) a (exo a (C.cl c) (some dx))) a) dx (.xd [(f, v)]) = upd H1 dx (.xd [(f, v)]) := by
    funext b
    by_cases h1 : b = dx
    · subst h1; rw [upd_same, upd_same]
    · rw [upd_ne h1, upd_ne h1]
      by_cases h2 : b = a
      · subst h2; rw [del_same, ha]
      · rw [del_ne h2, upd_ne h2, upd_ne h1, upd_ne h2]
  rw [same]
  have n1' : New1 H1 (upd H1 dx (.xd [(f, v)])) := .inr ⟨dx, _, nd, rfl⟩
  refine XS.xw S h dx v _ bn1 n (s1.keep.more dx nd) (by rw [ea]; exact upd_same) (s1.trans (Step.new1 s1.box n1')) (x1.rd.new n1') x1.nb fun a' ha' => ?_
  rcases x1.ok.src a' ha' with z | ⟨j, _, z⟩ | ⟨j, _, z⟩
  · exact .inl z
  · exact .inr ⟨j, z⟩
  · exact .inr ⟨j, (List.drop_sublist 1 _).subset z⟩
end
end MP

/-! C25: does the small text stand for the given statements. -/
namespace MP
open PySem L2
/-- no comprehension -/
def noComp : Expr → Bool
  | .ListComp _ _ _ _ => false
  | .SetComp _ _ _ _ => false
  | .DictComp _ _ _ _ _ => false
  | _ => true
/-- the comprehension under ghosts -/
def lcOf : IE → Option (IE × Tg × II × Option IE)
  | .lc el t it cnd => if isKeys it then none else some (el, t, it, cnd)
  | .imm (.lc el t it cnd) => if isKeys it then none else some (el, t, it, cnd)
  | .flat (.lc el t it cnd) => if isKeys it then none else some (el, t, it, cnd)
  | _ => none
theorem lcOf_some {ie el : IE} {t : Tg} {it : II} {cnd : Option IE} (h : lcOf ie = some (el, t, it, cnd)) : isKeys it = false ∧ (ie = .lc el t it cnd ∨ ie = .imm (.lc el t it cnd) ∨ ie = .flat (.lc el t it cnd)) := by
  unfold lcOf at h
  split at h
  · split at h
    · cases h
    · rename_i q; cases h; exact ⟨by simpa using q, .inl rfl⟩
  · split at h
    · cases h
    · rename_i q; cases h; exact ⟨by simpa using q, .inr (.inl rfl)⟩
  · split at h
    · cases h
    · rename_i q; cases h; exact ⟨by simpa using q, .inr (.inr rfl)⟩
  · cases h
/-- is it stored at once -/
def swB (sc scope : Scope) (nm : Str) (pl vl : Nat) : Bool := (match sc.names.lookup nm with | some .local => true | _ => false) && (pl == vl) && !(scope.names.any fun (n, k) => n == nm && (k == .local || k == .cell))
def isLocC (sc : Scope) (nm : Str) : Bool := match sc.names.lookup nm with
  | some .local => true
  | some .cell => true
  | _ => false
def isLoc0 (sc : Scope) (nm : Str) : Bool := match sc.names.lookup nm with
  | some .local => true
  | _ => false
def chkA (ck : Ck) (sc : Scope) (ie : IE) (nm : Str) (pp : Pos) (e : Expr) : Bool := chkE ck sc false ie e && (match e with
  | .ListComp _ _ scope vp => !(swB sc scope nm pp.line vp.line) || (lcOf ie).isSome
  | e => noComp e)
/-- [x[i][j], x[k][l]] -/
def chkPp (ck : Ck) (sc : Scope) (x i j k l : Nat) : Expr → Bool
  | .List [.Subscript (.Subscript n1 (.Constant (.int a) _ _) _) (.Constant (.int b) _ _) _, .Subscript (.Subscript n2 (.Constant (.int c) _ _) _) (.Constant (.int d) _ _) _] _ => chkV ck sc x n1 && chkV ck sc x n2 && decide (a = (i : Int)) && decide (b = (j : Int)) && decide (c = (k : Int)) && decide (d = (l : Int))
  | _ => false
theorem chkPp_form {ck : Ck} {sc : Scope} {x i j k l : Nat} {e : Expr} (h : chkPp ck sc x i j k l e = true) : ∃ m1 p1 k1 p2 p3 k2 p4 p5 m2 p6 k3 p7 p8 k4 p9 p10 p11, e = .List [.Subscript (.Subscript (.Name m1 p1) (.Constant (.int (i : Int)) k1 p2) p3) (.Constant (.int (j : Int)) k2 p4) p5, .Subscript (.Subscript (.Name m2 p6) (.Constant (.int (k : Int)) k3 p7) p8) (.Constant (.int (l : Int)) k4 p9) p10] p11 ∧ chkV ck sc x (.Name m1 p1) = true ∧ chkV ck sc x (.Name m2 p6) = true := by
  unfold chkPp at h
  split at h
  · simp only [Bool.and_eq_true, decide_eq_true_eq] at h
    obtain ⟨⟨⟨⟨⟨h1, h2⟩, rfl⟩, rfl⟩, rfl⟩, rfl⟩ := h
    obtain ⟨m1, p1, rfl⟩ := chkV_name h1
    obtain ⟨m2, p6, rfl⟩ := chkV_name h2
    exact ⟨_, _, _, _, _, _, _, _, _, _, _, _, _, _, _, _, _, rfl, h1, h2⟩
  · cases h
mutual
def chk1 (ck : Ck) (sc : Scope) (rk : RK) : IS → Stmt → Bool
  | .ex x, st => (match st with | .Expr e _ => noComp e && chkE ck sc false x e | _ => false)
  | .asg i x ks, st => (match st with | .Assign [.Name nm pp] e _ => decide (ck.N[i]? = some nm) && isLocC sc nm && fitsB ck.g (info ck.g x) ks i (ndE x) && chkA ck sc x nm pp e | _ => false)
  | .app i x ks, st => (match st with
    | .Expr (.Call (.Attribute n at_ apos) [a] [] cpos) _ => chkV ck sc i n && decide (at_ = ("append" : Str)) && (apos.endLine == cpos.line) && nost a && chB ck.g (info ck.g x) ks i && chkE ck sc false x a
    | _ => false)
  | .set i y x ks, st => (match st with
    | .Assign [.Subscript n b _] a _ => chkV ck sc i n && plainIx b && chB ck.g (info ck.g x) ks i && chkE ck sc false y b && chkE ck sc false x a
    | _ => false)
  | .bset i y x, st => (match st with
    | .Assign [.Subscript n b _] a _ => chkV ck sc i n && plainIx b && chkE ck sc false y b && chkE ck sc false x a
    | _ => false)
  | .iff x p q, st => (match st with | .If c a b _ => chkE ck sc true x c && chkSs ck sc rk p a && chkSs ck sc rk q b | _ => false)
  | .wh x p, st => (match st with | .While c a [] _ => chkE ck sc true x c && chkSs ck sc rk p a | _ => false)
  | .for t it p ks, st => (match st with | .For tg iter a [] _ => chkI ck sc it tg iter && chkTg ck sc sc t tg && t.slots.all (fun i => ck.g.k i == .S) && walkB ck.g (infoW ck.g it) ks && notSet iter && chkSs ck sc rk p a | _ => false)
  | .ret none, st => (match st with | .Return none _ => true | _ => false)
  | .ret (some x), st => (match st with | .Return (some e) _ => chkE ck sc false x e && (retB ck.g rk (info ck.g x) || retVar ck.g rk x) | _ => false)
  | .retB f as, st => (match as, st with
    | [a, b, c, d], .Return (some (.Call (.Name nm _) [ea, eb, ec, ed, .Dict [] [] _] [] _)) _ => (match ck.fs[f]? with
      | some fi => decide (fi.nm = nm) && glB sc nm && okN nm && decide ((5, []) ∈ fi.sh) && nost ea && nost eb && nost ec && nost ed && decide (rk = .I ∨ rk = .S) && chkE ck sc false a ea && chkE ck sc false b eb && chkE ck sc false c ec && chkE ck sc false d ed
      | none => false)
    | _, _ => false)
  | .set2 i y z x, st => (match st with
    | .Assign [.Subscript (.Subscript n b _) b2 _] a _ => chkV ck sc i n && plainIx b && plainIx b2 && (ck.g.k i == .D) && chkE ck sc false y b && chkE ck sc false z b2 && chkE ck sc false x a
    | _ => false)
  | .pass, st => (match st with | .Pass _ => true | _ => false)
  | .brk, st => (match st with | .Break _ => true | _ => false)
  | .par is xs ks, st => (match is, xs, st with
    | [i, j], [x, y], .Assign [.Tuple [.Name n1 p1, .Name n2 p2] kt pt] (.Tuple [a, b] k2 pt2) _ => ((decide (ck.N[i]? = some n1) && decide (ck.N[j]? = some n2) && isLoc0 sc n1 && isLoc0 sc n2 && swapSome sc [.Name n1 p1, .Name n2 p2] [a, b] [n1, n2]) || (chkTg ck sc sc (.tp [.nm i, .nm j]) (.Tuple [.Name n1 p1, .Name n2 p2] kt pt) && swapNone sc [.Name n1 p1, .Name n2 p2] [a, b])) && parB2 ck.g i j x y ks && nost a && nost b && chkE ck sc false x a && chkE ck sc false y b
    | [i, j, l], [x, y, z], .Assign [.Tuple [.Name n1 p1, .Name n2 p2, .Name n3 p3] kt pt] (.Tuple [a, b, c] k2 pt2) _ => decide (ck.N[i]? = some n1) && decide (ck.N[j]? = some n2) && decide (ck.N[l]? = some n3) && isLoc0 sc n1 && isLoc0 sc n2 && isLoc0 sc n3 && swapSome sc [.Name n1 p1, .Name n2 p2, .Name n3 p3] [a, b, c] [n1, n2, n3] && parB3 ck.g i j l x y z ks && nost a && nost b && nost c && chkE ck sc false x a && chkE ck sc false y b && chkE ck sc false z c
    | _, _, _ => false)
  | .unp t x ks, st => (match t, st with
    | .tp gs, .Assign [.Tuple es kt pt] e _ => (match e with | .Tuple vs _ _ => swapNone sc es vs | _ => true) && chkTg ck sc sc (.tp gs) (.Tuple es kt pt) && (Tg.tp gs).slots.all (fun i => ck.g.k i == .S) && walkU ck.g (info ck.g x) ks && chkE ck sc false x e
    | _, _ => false)
  | .ext i x ks, st => (match st with
    | .Expr (.Call (.Attribute n at_ apos) [a] [] cpos) _ => chkV ck sc i n && decide (at_ = ("extend" : Str)) && (apos.endLine == cpos.line) && nost a && chB ck.g (kidI ck.g (info ck.g x)) ks i && chkE ck sc false x a
    | _ => false)
  | .appPop x y e, st => (match e, st with
    | some ie, .Expr (.Call (.Attribute n at_ apos) [.Call (.Attribute n2 at2 apos2) [b] [] cpos2] [] cpos) _ => chkV ck sc x n && chkV ck sc y n2 && decide (at_ = ("append" : Str)) && decide (at2 = ("pop" : Str)) && (apos.endLine == cpos.line) && (apos2.endLine == cpos2.line) && nost b && (ck.g.k x == .P) && (ck.g.k y == .P) && !(x == y) && chkE ck sc false ie b
    | _, _ => false)
  | .spoil x, st => (match ck.sp, st with
    | some si, .Expr (.Call (.Name nm _) [n] [] _) _ => (match ck.fs[si]? with | some fi => decide (fi.nm = nm) | none => false) && glB sc nm && okN nm && chkV ck sc x n && (ck.g.k x == .D)
    | _, _ => false)
  | .spoilP x i j k l, st => (match ck.sp, st with
    | some si, .Expr (.Call (.Name nm _) [n] [] _) _ => (match ck.fs[si]? with | some fi => decide (fi.nm = nm) | none => false) && glB sc nm && okN nm && chkPp ck sc x i j k l n && (ck.g.k x == .D) && !(i == k)
    | _, _ => false)
  | .raise c x, st => (match st with
    | .Raise (some (.Call (.Name nm _) [e] [] _)) none _ => (match ck.xs[c]? with
      | some q => decide (q.1 = nm) && glB sc nm && okN nm && nost e && chkE ck sc false x e
      | none => false)
    | _ => false)
  | .never, _ => true
  | _, _ => false
def chkSs (ck : Ck) (sc : Scope) (rk : RK) : List IS → List Stmt → Bool
  | [], sts => (match sts with | [] => true | _ => false)
  | i :: is, sts => (match i with
    | .mkbox x => ck.g.k x == .D && chkSs ck sc rk is sts
    | _ => (match sts with
      | st :: sts => chk1 ck sc rk i st && chkSs ck sc rk is sts
      | [] => false))
end
structure SX (X : Cx) (C : Cf) (E : XK) (ck : Ck) (fa : Nat → Addr) (sc : Scope) : Prop where
  ek : EK X C (WE0 E) ck fa sc
  hp : PassesOwn (model X.prog X.w) X.A X.env X.xe
  fn : ∀ x, X.fn x = true
  bk : X.env.blockKind = .function
  sp : ∀ (si : Nat) (fi : Fi), ck.sp = some si → ck.fs[si]? = some fi → Gl X fi.nm → (fi.nm == ("__debug__" : Str)) = false → ∃ k, SpCall X fi.nm k ∧ SpF C k ∧ ∀ t μ c u μ', C.F spIx [t] μ ≠ .exc c u μ'
  rs : ∀ (c : Nat) (q : Str × Str), ck.xs[c]? = some q → RsF X.K X.mg (C.cl c) q.1 q.2 ∧ C.at_ c = q.2
  rm2 : Room 2 X.A
section
variable {X : Cx} {C : Cf} {fx : Fx} {rk : RK} {E : XK} {ts : List Tmp} {Wf : Nat} {ck : Ck} {fa : Nat → Addr} {sc : Scope}
theorem no_swap {e : Expr} {tgt : Option Expr} {ln : Nat} (h : noComp e = true) : swapsWith e tgt ln X.env = pure false := by
  cases e <;> first | rfl | cases h
theorem strip_imm {W : WX} {x : IE} {σ : St} {H : Hp} {Q : VK} (h : tE C X.K W (.imm x) σ H Q) : tE C X.K W x σ H Q := by
  obtain ⟨ρ, μ, β, ns, bn, S, h⟩ := h
  refine use S (Sat_bind h) fun t μ1 v H1 bn1 n h s1 x1 => ?_
  obtain ⟨ok, h⟩ := Sat_if h
  exact h v H1 bn1 n s1 (Val.imm x1.rd ok rfl)
theorem strip_flat {W : WX} {x : IE} {σ : St} {H : Hp} {Q : VK} (h : tE C X.K W (.flat x) σ H Q) : tE C X.K W x σ H Q := flat_key h
theorem strip_key {W : WX} {ie el : IE} {t : Tg} {it : II} {cnd : Option IE} {σ : St} {H : Hp} {Q : VK} (h : lcOf ie = some (el, t, it, cnd)) (q : tE C X.K W ie σ H Q) : tE C X.K W (.lc el t it cnd) σ H Q := by
  rcases (lcOf_some h).2 with rfl | rfl | rfl
  · exact q
  · exact strip_imm q
  · exact strip_flat q
theorem strip_chk {ie el : IE} {t : Tg} {it : II} {cnd : Option IE} {e : Expr} (h : lcOf ie = some (el, t, it, cnd)) (q : chkE ck sc false ie e = true) : chkE ck sc false (.lc el t it cnd) e = true := by
  rcases (lcOf_some h).2 with rfl | rfl | rfl
  · exact q
  · rw [chkE] at q; exact q
  · rw [chkE, Bool.and_eq_true] at q; exact q.2
/-- name = value -/
theorem chkA_ok (S : SX X C E ck fa sc) {ie : IE} {nm : Str} {pp pos : Pos} {e : Expr} {i : Nat} (hi : ck.N[i]? = some nm) (hl : isLocC sc nm = true) (h : chkA ck sc ie nm pp e = true) : PS X (.Assign [.Name nm pp] e pos) (tAsg (tE C X.K (WE0 E) ie) (gName i)) := by
  have E' := S.ek
  unfold chkA at h
  rw [Bool.and_eq_true] at h
  obtain ⟨h1, h2⟩ := h
  have nd : X.N.Nodup := by rw [E'.N]; exact E'.nd
  have hN : X.N[i]? = some nm := by rw [E'.N]; exact hi
  have hloc : Loc X.env.scope nm := by
    rw [E'.sc]
    unfold isLocC at hl
    split at hl
    · rename_i e; exact .inl e
    · rename_i e; exact .inr e
    · cases hl
  have hpe := (chkE_ok ie E' h1).1 rfl
  have plain : swapsWith e (some (.Name nm pp)) pos.line X.env = pure false → PS X (.Assign [.Name nm pp] e pos) (tAsg (tE C X.K (WE0 E) ie) (gName i)) := fun hs => ps_set nd hN hloc hpe hs (.inl (S.fn nm))
  cases e with
  | ListComp elt gens scope vp =>
    have h2 : (!(swB sc scope nm pp.line vp.line) || (lcOf ie).isSome) = true := h2
    have hsw : swapsWith (.ListComp elt gens scope vp) (some (.Name nm pp)) pos.line X.env = pure (swB sc scope nm pp.line vp.line) := by
      show (pure (X.env.blockKind == .function && X.env.kindOf nm == some .local && pp.line == vp.line && !(scope.names.any fun (n, k) => n == nm && (k == .local || k == .cell))) : Sem Bool) = _
      have e1 : (X.env.kindOf nm == some .local) = (match sc.names.lookup nm with | some .local => true | _ => false) := by
        show (X.env.scope.names.lookup nm == some .local) = _
        rw [E'.sc]
        cases sc.names.lookup nm with
        | none => rfl
        | some k => cases k <;> rfl
      unfold swB
      rw [e1, S.bk] <;> rfl
    cases hb : swB sc scope nm pp.line vp.line with
    | false => exact plain (by rw [hsw, hb])
    | true =>
      rw [hb] at h2
      have h2 : (lcOf ie).isSome = true := h2
      obtain ⟨⟨el, t, it, cnd⟩, hlc⟩ := Option.isSome_iff_exists.mp h2
      have hc := strip_chk hlc h1
      simp only [chkE] at hc
      split at hc
      · rename_i elt' tg iter ifs scope' p' he
        cases he
        rw [Bool.or_eq_true] at hc
        rcases hc with hc | hc
        rotate_left
        · simp only [Bool.and_eq_true] at hc
          obtain ⟨i, rfl, _⟩ := lcK0_keys hc.2
          have := (lcOf_some hlc).1
          cases this
        simp only [Bool.and_eq_true, List.all_eq_true] at hc
        obtain ⟨⟨⟨⟨⟨⟨c1, c2⟩, c3⟩, c4⟩, c5⟩, c6⟩, c7⟩ := hc
        have bl : BlkOk X.N X.env.scope scope (ownOf ck t) := by rw [E'.N, E'.sc]; exact blkOk_by c1
        have hown : (ownOf ck t).map (·.2) = t.slots := by unfold ownOf; rw [List.map_map]; exact List.map_id _
        have hk : ∀ i ∈ t.slots, C.g.k i = .S := fun i hi => by
          have := c2 i hi
          rw [E'.g]
          simpa using this
        have hlo : X.env.scope.names.lookup nm = some .local := by
          rw [E'.sc]
          unfold swB at hb
          rw [Bool.and_eq_true, Bool.and_eq_true] at hb
          obtain ⟨⟨q, _⟩, _⟩ := hb
          split at q
          · assumption
          · cases q
        refine (ps_setLc (wi := tI C X.K (WE0 E) it) (g := gTg X.K t) (tt := tC0 C X.K cnd) (te := tE C X.K W0 el) E'.calm nd hN hlo (by rw [hsw, hb]) (chkI_ok it E' c4) bl (fun s H C' cl fp => ?_) (fun s H C' cl fp => chkCn_ok cnd (E'.blk s H scope C' cl fp) c7) (fun s H C' cl fp => (chkE_ok el (E'.blk s H scope C' cl fp) c6).1 rfl) (not_set c3)).weak fun D σ H q => ?_
        · exact chkTg_ok (X := X.blk s H scope (compEnvC scope cl C' X.env) fp) E'.N E'.nd E'.calm (E'.blk s H scope C' cl fp).sc (fun x hx => by show (scope.names.lookup x == some .cell) = true; rw [hx] <;> rfl) t c5
        · exact lc_key hown hk (strip_key hlc q)
      · cases hc
  | SetComp _ _ _ _ => cases h2
  | DictComp _ _ _ _ _ => cases h2
  | _ => exact plain (no_swap rfl)
theorem isLoc0_ok {sc : Scope} {nm : Str} (h : isLoc0 sc nm = true) : sc.names.lookup nm = some .local := by
  unfold isLoc0 at h
  split at h
  · rename_i e; exact e
  · cases h
mutual
theorem chk1_ok (S : SX X C E ck fa sc) : ∀ (i : IS) {st : Stmt}, chk1 ck sc rk i st = true → ∀ ts, PS X st (TS1 X C fx rk E ts Wf i)
  | .ex x, st, h, ts => by
    simp only [chk1] at h
    split at h
    · rw [Bool.and_eq_true] at h
      exact s_ex ((chkE_ok x S.ek h.2).1 rfl) (no_swap h.1)
    · cases h
  | .asg i x ks, st, h, ts => by
    simp only [chk1] at h
    split at h
    · simp only [Bool.and_eq_true, decide_eq_true_eq] at h
      obtain ⟨⟨⟨h1, h2⟩, h3⟩, h4⟩ := h
      exact s_asg (chkA_ok S h1 h2 h4) (by rw [S.ek.g]; exact h3)
    · cases h
  | .app i x ks, st, h, ts => by
    simp only [chk1] at h
    split at h
    · simp only [Bool.and_eq_true, decide_eq_true_eq] at h
      obtain ⟨⟨⟨⟨⟨h1, rfl⟩, h2⟩, h3⟩, h4⟩, h5⟩ := h
      obtain ⟨nm, p, rfl⟩ := chkV_name h1
      obtain ⟨v1, v2, v3, v4⟩ := S.ek.var h1
      exact s_app v1 v2 v3 v4 ((chkE_ok x S.ek h5).1 rfl) h3 h2 (by rw [S.ek.g]; exact h4)
    · cases h
  | .set i y x ks, st, h, ts => by
    simp only [chk1] at h
    split at h
    · simp only [Bool.and_eq_true] at h
      obtain ⟨⟨⟨⟨h1, h2⟩, h3⟩, h4⟩, h5⟩ := h
      obtain ⟨nm, p, rfl⟩ := chkV_name h1
      obtain ⟨v1, v2, v3, v4⟩ := S.ek.var h1
      exact s_set S.ek.units v1 v2 v3 v4 ((chkE_ok x S.ek h5).1 rfl) ((chkE_ok y S.ek h4).1 rfl) h2 (by rw [S.ek.g]; exact h3)
    · cases h
  | .bset i y x, st, h, ts => by
    simp only [chk1] at h
    split at h
    · simp only [Bool.and_eq_true] at h
      obtain ⟨⟨⟨h1, h2⟩, h4⟩, h5⟩ := h
      obtain ⟨nm, p, rfl⟩ := chkV_name h1
      obtain ⟨v1, v2, v3, v4⟩ := S.ek.var h1
      exact s_bset S.ek.units v1 v2 v3 v4 ((chkE_ok x S.ek h5).1 rfl) ((chkE_ok y S.ek h4).1 rfl) h2
    · cases h
  | .iff x p q, st, h, ts => by
    simp only [chk1] at h
    split at h
    · simp only [Bool.and_eq_true] at h
      obtain ⟨⟨h1, h2⟩, h3⟩ := h
      exact s_iff ((chkE_ok x S.ek h1).2 rfl) (chkSs_ok S p h2 ts) (chkSs_ok S q h3 ts)
    · cases h
  | .wh x p, st, h, ts => by
    simp only [chk1] at h
    split at h
    · rw [Bool.and_eq_true] at h
      exact s_wh S.hp ((chkE_ok x S.ek h.1).2 rfl) (chkSs_ok S p h.2 ts)
    · cases h
  | .for t it p ks, st, h, ts => by
    simp only [chk1] at h
    split at h
    · simp only [Bool.and_eq_true, List.all_eq_true] at h
      obtain ⟨⟨⟨⟨⟨h1, h2⟩, h3⟩, h4⟩, h5⟩, h6⟩ := h
      refine s_for S.hp S.ek.calm (chkI_ok it S.ek h1) (chkTg_ok S.ek.N S.ek.nd S.ek.calm S.ek.sc (fun x _ => S.fn x) t h2) (fun i hi => ?_) (by rw [S.ek.g]; exact h4) (not_set h5) (chkSs_ok S p h6)
      have := h3 i hi
      rw [S.ek.g]
      simpa using this
    · cases h
  | .ret none, st, h, ts => by
    simp only [chk1] at h
    split at h
    · exact s_retN (by cases rk <;> simp)
    · cases h
  | .ret (some x), st, h, ts => by
    simp only [chk1] at h
    split at h
    · rw [Bool.and_eq_true] at h
      exact s_ret ((chkE_ok x S.ek h.1).1 rfl) (by rw [S.ek.g]; exact h.2)
    · cases h
  | .retB f as, st, h, ts => by
    simp only [chk1] at h
    split at h
    · split at h
      · rename_i fi hf
        simp only [Bool.and_eq_true, decide_eq_true_eq] at h
        obtain ⟨⟨⟨⟨⟨⟨⟨⟨⟨⟨⟨⟨rfl, h1⟩, h2⟩, h3⟩, n1⟩, n2⟩, n3⟩, n4⟩, h4⟩, e1⟩, e2⟩, e3⟩, e4⟩ := h
        simp only [okN, Bool.and_eq_true, Bool.not_eq_true'] at h2
        exact s_retB (S.ek.call X _ rfl rfl rfl rfl rfl S.ek.guards S.ek.room S.ek.tk) hf (S.ek.gl h1) h2.1 h3 ((chkE_ok _ S.ek e1).1 rfl) ((chkE_ok _ S.ek e2).1 rfl) ((chkE_ok _ S.ek e3).1 rfl) ((chkE_ok _ S.ek e4).1 rfl) n1 n2 n3 n4 h4
      · cases h
    · cases h
  | .set2 i y z x, st, h, ts => by
    simp only [chk1] at h
    split at h
    · simp only [Bool.and_eq_true, beq_iff_eq] at h
      obtain ⟨⟨⟨⟨⟨⟨h1, h2⟩, h3⟩, h4⟩, h5⟩, h6⟩, h7⟩ := h
      obtain ⟨nm, p, rfl⟩ := chkV_name h1
      obtain ⟨v1, v2, v3, v4⟩ := S.ek.var h1
      exact s_set2 S.ek.units v1 v2 v3 v4 ((chkE_ok x S.ek h7).1 rfl) ((chkE_ok y S.ek h5).1 rfl) ((chkE_ok z S.ek h6).1 rfl) h2 h3 (by rw [S.ek.g]; exact h4)
    · cases h
  | .pass, st, h, ts => by
    simp only [chk1] at h
    split at h
    · exact s_pass
    · cases h
  | .brk, st, h, ts => by
    simp only [chk1] at h
    split at h
    · exact s_brk
    · cases h
  | .never, st, h, ts => s_never
  | .par is xs ks, st, h, ts => by
    simp only [chk1] at h
    have nd : X.N.Nodup := by rw [S.ek.N]; exact S.ek.nd
    split at h
    · simp only [Bool.and_eq_true, Bool.or_eq_true, decide_eq_true_eq] at h
      obtain ⟨⟨⟨⟨⟨h0, h6⟩, h7⟩, h8⟩, h9⟩, h10⟩ := h
      rcases h0 with ⟨⟨⟨⟨h1, h2⟩, h3⟩, h4⟩, h5⟩ | ⟨h1, h5⟩
      · exact s_par2 S.ek.calm nd (by rw [S.ek.N]; exact h1) (by rw [S.ek.N]; exact h2) (by rw [S.ek.sc]; exact isLoc0_ok h3) (by rw [S.ek.sc]; exact isLoc0_ok h4) ((chkE_ok _ S.ek h9).1 rfl) h7 ((chkE_ok _ S.ek h10).1 rfl) h8 (swap_some S.bk (by rw [S.ek.sc]; exact h5)) (by rw [S.ek.g]; exact h6)
      · exact s_par2C ((chkE_ok _ S.ek h9).1 rfl) h7 ((chkE_ok _ S.ek h10).1 rfl) h8 (chkTg_ok S.ek.N S.ek.nd S.ek.calm S.ek.sc (fun x _ => S.fn x) (.tp [.nm _, .nm _]) h1) (by rw [S.ek.g]; exact h6) tup_swaps (swap_none S.bk (by rw [S.ek.sc]; exact h5)) rfl
    · simp only [Bool.and_eq_true, decide_eq_true_eq] at h
      obtain ⟨⟨⟨⟨⟨⟨⟨⟨⟨⟨⟨⟨⟨h1, h2⟩, h2'⟩, h3⟩, h4⟩, h4'⟩, h5⟩, h6⟩, h7⟩, h8⟩, h8'⟩, h9⟩, h10⟩, h11⟩ := h
      exact s_par3 S.ek.calm nd (by rw [S.ek.N]; exact h1) (by rw [S.ek.N]; exact h2) (by rw [S.ek.N]; exact h2') (by rw [S.ek.sc]; exact isLoc0_ok h3) (by rw [S.ek.sc]; exact isLoc0_ok h4) (by rw [S.ek.sc]; exact isLoc0_ok h4') ((chkE_ok _ S.ek h9).1 rfl) h7 ((chkE_ok _ S.ek h10).1 rfl) h8 ((chkE_ok _ S.ek h11).1 rfl) h8' (swap_some S.bk (by rw [S.ek.sc]; exact h5)) (by rw [S.ek.g]; exact h6)
    · cases h
  | .unp t x ks, st, h, ts => by
    simp only [chk1] at h
    split at h
    · rename_i gs es kt pt e pos
      simp only [Bool.and_eq_true, List.all_eq_true] at h
      obtain ⟨⟨⟨⟨h1, h2⟩, h3⟩, h4⟩, h5⟩ := h
      refine s_unp ((chkE_ok x S.ek h5).1 rfl) (chkTg_ok S.ek.N S.ek.nd S.ek.calm S.ek.sc (fun x _ => S.fn x) (.tp gs) h2) (fun i hi => ?_) (by rw [S.ek.g]; exact h4) tup_swaps ?_ rfl
      · have := h3 i hi
        rw [S.ek.g]
        simpa using this
      · cases e with
        | Tuple vs _ _ => exact swap_none S.bk (by rw [S.ek.sc]; exact h1)
        | _ => rfl
    · cases h
  | .appPop x y e, st, h, ts => by
    simp only [chk1] at h
    split at h
    · simp only [Bool.and_eq_true, decide_eq_true_eq, Bool.not_eq_true', beq_eq_false_iff_ne, beq_iff_eq] at h
      obtain ⟨⟨⟨⟨⟨⟨⟨⟨⟨⟨h1, h2⟩, rfl⟩, rfl⟩, h3⟩, h4⟩, h5⟩, h6⟩, h7⟩, h8⟩, h9⟩ := h
      obtain ⟨n1, p1, rfl⟩ := chkV_name h1
      obtain ⟨v1, v2, v3, v4⟩ := S.ek.var h1
      obtain ⟨n2, p2, rfl⟩ := chkV_name h2
      obtain ⟨w1, w2, w3, w4⟩ := S.ek.var h2
      exact s_appPop v1 v2 v3 v4 w1 w2 w3 w4 ((chkE_ok _ S.ek h9).1 rfl) h5 (by simpa using h3) (by simpa using h4) (by rw [S.ek.g]; exact h6) (by rw [S.ek.g]; exact h7) h8
    · cases h
  | .asgPop _ _ _, st, h, ts => by simp [chk1] at h
  | .ext i x ks, st, h, ts => by
    simp only [chk1] at h
    split at h
    · simp only [Bool.and_eq_true, decide_eq_true_eq] at h
      obtain ⟨⟨⟨⟨⟨h1, rfl⟩, h2⟩, h3⟩, h4⟩, h5⟩ := h
      obtain ⟨nm, p, rfl⟩ := chkV_name h1
      obtain ⟨v1, v2, v3, v4⟩ := S.ek.var h1
      exact s_ext v1 v2 v3 v4 ((chkE_ok x S.ek h5).1 rfl) h3 h2 (by rw [S.ek.g]; exact h4)
    · cases h
  | .raise c x, st, h, ts => by
    simp only [chk1] at h
    split at h
    · split at h
      · rename_i q hq
        simp only [Bool.and_eq_true, decide_eq_true_eq] at h
        obtain ⟨⟨⟨⟨rfl, h1⟩, h2⟩, h3⟩, h4⟩ := h
        simp only [okN, Bool.and_eq_true, Bool.not_eq_true'] at h2
        obtain ⟨r1, r2⟩ := S.rs c q hq
        exact s_raise r1 r2 S.ek.tk S.ek.calm S.rm2 (S.ek.gl h1) h2.1 h3 ((chkE_ok x S.ek h4).1 rfl)
      · cases h
    · cases h
  | .spoil x, st, h, ts => by
    simp only [chk1] at h
    split at h
    · rename_i si nm p n cpos pos hsi
      simp only [Bool.and_eq_true, beq_iff_eq] at h
      obtain ⟨⟨⟨⟨h1, h2⟩, h3⟩, h4⟩, h5⟩ := h
      split at h1
      · rename_i fi hfi
        have h1 := of_decide_eq_true h1
        subst h1
        simp only [okN, Bool.and_eq_true, Bool.not_eq_true'] at h3
        obtain ⟨k, q1, q2, q3⟩ := S.sp si fi hsi hfi (S.ek.gl h2) h3.1
        obtain ⟨n2, p2, rfl⟩ := chkV_name h4
        obtain ⟨w1, w2, w3, w4⟩ := S.ek.var h4
        exact s_spoil w1 w2 w3 w4 (by rw [S.ek.g]; exact h5) q1 q2 q3
      · cases h1
    · cases h
  | .spoilP x i j k l, st, h, ts => by
    simp only [chk1] at h
    split at h
    · rename_i si nm p n cpos pos hsi
      simp only [Bool.and_eq_true, beq_iff_eq, Bool.not_eq_true', beq_eq_false_iff_ne] at h
      obtain ⟨⟨⟨⟨⟨h1, h2⟩, h3⟩, h4⟩, h5⟩, h6⟩ := h
      split at h1
      · rename_i fi hfi
        have h1 := of_decide_eq_true h1
        subst h1
        simp only [okN, Bool.and_eq_true, Bool.not_eq_true'] at h3
        obtain ⟨lv, q1, q2, q3⟩ := S.sp si fi hsi hfi (S.ek.gl h2) h3.1
        obtain ⟨m1, p1, k1, p2, p3, k2, p4, p5, m2, p6, k3, p7, p8, k4, p9, p10, p11, rfl, r1, r2⟩ := chkPp_form h4
        obtain ⟨w1, w2, w3, w4⟩ := S.ek.var r1
        obtain ⟨y1, y2, y3, y4⟩ := S.ek.var r2
        exact s_spoilP w1 w2 w3 w4 y1 y2 y3 y4 (by rw [S.ek.g]; exact h5) h6 q1 q2 q3
      · cases h1
    · cases h
  | .mkbox _, st, h, ts => by simp [chk1] at h
theorem chkSs_ok (S : SX X C E ck fa sc) : ∀ (is : List IS) {sts : List Stmt}, chkSs ck sc rk is sts = true → ∀ ts, PSs X sts (TSS X C fx rk E ts Wf is)
  | [], sts, h, ts => by
    simp only [chkSs] at h
    split at h
    · exact ss_nil
    · cases h
  | i :: is, sts, h, ts => by
    simp only [chkSs] at h
    split at h
    · rw [Bool.and_eq_true] at h
      refine ss_ghost (chkSs_ok S is h.2 ts) fun D σ H => ghost_box ?_
      rw [S.ek.g]
      simpa using h.1
    · split at h
      · rw [Bool.and_eq_true] at h
        exact ss_cons (chk1_ok S i h.1 ts) (chkSs_ok S is h.2 ts)
      · cases h
end
end
end MP

/-! C26: defs. -/
namespace MP
open PySem PySem.Spec PyProof.Rows L2
/-- a def's promise where no guard stands -/
structure FnG (P : Program) (w : World) (K : PySem.W.Frag) (mg : Str → Option Value) (base : Heap) (k : Nat) (f : Addr) (fd : FuncData) (ps : List Str) (sp : Sp) : Prop where
  len : ∀ vs H Q E, sp vs H Q E → vs.length = ps.length
  go : ∀ (A : Around) (out : List PySem.Env) (s : Shared) (H : Hp) (args : Args) (us : List Value) (vs : List V) (Q : VK) (E : XK), A.guards = some [] → Room k A → Env0 P w K mg base A out s H →
    BindsTo s fd args (ps.zip us) → Vals vs us → sp vs H Q E → codeAny (model P w) A (.call (.ref f) args) (CR (CX P w) out P w H s Q E) s
theorem fnG_body {P : Program} {w : World} {K : PySem.W.Frag} {mg : Str → Option Value} {base : Heap} {k : Nat} {f : Addr} {nm ql : Str} {prm : Arguments} {body : List Stmt} {sc : Scope} {v1 v2 v3 v4 v5 v6 oc : Value} {o1 o2 : Option Addr}
    {sl : Array (Option Value)} {N ps : List Str} {sp : Sp} (look : K.lookup f = some ⟨oc, o2, .func (PySem.W.fnOf nm ql prm body sc v1 v2 v3 v4 o1 v5 v6), sl⟩) (code : PySem.W.codeIn K v5 ql = true) (Sc : FnScope N ps sc)
    (len : ∀ vs H Q E, sp vs H Q E → vs.length = ps.length)
    (hb : ∀ (A : Around) (out : List PySem.Env) (s : Shared) (H : Hp) (vs : List V) (Q : VK) (E : XK), A.guards = some [] → Room k (A.deeper (envOfC ql sc s.heap.objs.size f v5)) → sp vs H Q E →
      ∃ t, PSs (cxOf (CX P w) P w K mg base N ql sc f v5 A out s H E) body t ∧ t { nx := fun _ H' => Q .non H', rt := Q } (start N vs) H) :
    FnG P w K mg base (k + 1) f (PySem.W.fnOf nm ql prm body sc v1 v2 v3 v4 o1 v5 v6) ps sp where
  len := len
  go := fun A out s H args us vs Q E hgd room en bt rel prom => by
    have lenv := len _ _ _ _ prom
    have kin : K.In s.heap := en.mod.kin.keeps fun b o e => (en.bs b o e).1
    have nolim : s.heap.NoLimit := en.mod.nolimit.keeps fun b o e => (en.bs b o e).1
    have kinds : ∀ q ∈ ps.zip us, sc.names.lookup q.1 = some .local ∨ (sc.names.lookup q.1 = some .cell ∧ ((cellsFrom (s.heap.objs.size + 1) sc.names []).lookup q.1).isSome = true) := by
      intro ⟨x, y⟩ hq
      rcases Sc.par x (List.of_mem_zip hq).1 with z | z
      · exact .inl z
      · exact .inr ⟨z, PySem.W.cellsFrom_some _ _ _ (.inl z)⟩
    refine codeAny_call_function room.depth (kin _ _ look) rfl Sc.co Sc.gen rfl (PySem.W.codeRec_of kin code) (bt _ _ _ _ (wpAny_newFunctionEnv_cells Sc.kind kinds ?_))
    intro env henv s1 inC
    subst henv
    refine ⟨nolim.keeps inC.toInCall.keep, codeAny_func ?_⟩
    obtain ⟨t, ht, q⟩ := hb A out s H vs Q E hgd (room.deeper _) prom
    have inv : Inv (cxOf (CX P w) P w K mg base N ql sc f v5 A out s H E) [] (start N vs) H s1 := inv_start Sc room.hd en lenv rel inC
    have done : ∀ {σ : L2.St} {H' : Hp} {v : V} {u : Value} {s' : Shared}, Inv (cxOf (CX P w) P w K mg base N ql sc f v5 A out s H E) [] σ H' s' → RelV v u → Q v H' → CE out P w H s Q u s' := fun J r q => ⟨_, _, J.os, J.bare, J.base, J.hok, r, q⟩
    refine wpAny_mono (ht.run [] s1 _ H _ inv q) (fun fl s2 z => ?_) (fun _ _ z => z)
    match fl, z with
    | .ret u, ⟨v, σ2, H2, J, r, q⟩ => exact done J r q
    | .next, ⟨σ2, H2, J, q⟩ => exact done (v := V.non) (u := Value.none) J rfl q
    | .brk, ⟨_, _, _, q⟩ => exact q.elim
    | .cont, ⟨_, _, _, q⟩ => exact q.elim
/-- cdv is the code of the def at f -/
def CodeAt (K : PySem.W.Frag) (f : Addr) (cdv : Value) : Prop := ∃ (oc : Value) (od : Option Addr) (fd : FuncData) (osl : Array (Option Value)) (q : Str), K.lookup f = some ⟨oc, od, .func fd, osl⟩ ∧ fd.code = cdv ∧ PySem.W.codeIn K cdv q = true
/-- .. of a def of the text -/
theorem fnG_def {P : Program} {w : World} {K : PySem.W.Frag} {mg : Str → Option Value} {base : Heap} {k : Nat} {f : Addr} {nm ql : Str} {prm : Arguments} {body : List Stmt} {sc : Scope} {fd : FuncData} {N ps : List Str} {sp : Sp} (F : FunD K nm ql prm body sc [] [] f fd) (Sc : FnScope N ps sc)
    (len : ∀ vs H Q E, sp vs H Q E → vs.length = ps.length)
    (hb : ∀ (cdv : Value) (_ : CodeAt K f cdv) (A : Around) (out : List PySem.Env) (s : Shared) (H : Hp) (vs : List V) (Q : VK) (E : XK), A.guards = some [] → Room k (A.deeper (envOfC ql sc s.heap.objs.size f cdv)) → sp vs H Q E →
      ∃ t, PSs (cxOf (CX P w) P w K mg base N ql sc f cdv A out s H E) body t ∧ t { nx := fun _ H' => Q .non H', rt := Q } (start N vs) H) : FnG P w K mg base (k + 1) f fd ps sp := by
  obtain ⟨oc, od, dV, kV, doc, pm, an, cdv, ct, osl, rfl, lk, hcd, _, _⟩ := F.ex
  exact fnG_body lk hcd Sc len fun A out s H vs Q E h1 h2 h3 => hb cdv ⟨_, _, _, _, _, lk, rfl, hcd⟩ A out s H vs Q E h1 h2 h3
end MP

/-! C26b: the def that spoils keeps its promise. -/
namespace MP
open PySem PySem.Spec PyProof.Rows L2
def ckS (N : List Str) (blt : List Str) : Ck := ⟨N, [], ⟨[], []⟩, blt, none, [], none⟩
/-- is it the def that spoils, by its text -/
def okSp (N : List Str) (sc : Scope) (blt : List Str) (nm : Str) : List Stmt → Bool
  | [.If c1 _ e1 _, .If c2 [.For tg th [.Expr (.Call (.Name f _) [pt] [] _) _] f2 _] e2 _, .If c3 [.Expr (.Call (.Attribute th3 at_ apos) [.Constant (.str lt) _ _] [] cpos) _] e3 _] =>
    e1.isEmpty && e2.isEmpty && e3.isEmpty && f2.isEmpty && decide (N.length = 3) && chkE (ckS N blt) sc true (.isi (.var 0) [.dict] true) c1 && chkE (ckS N blt) sc true (.isi (.var 0) [.list, .tuple] false) c2 && chkE (ckS N blt) sc true (.isi (.var 0) [.list] true) c3 &&
      chkTg (ckS N blt) sc sc (.nm 2) tg && chkV (ckS N blt) sc 0 th && notSet th && decide (f = nm) && glB sc f && okN f && chkV (ckS N blt) sc 2 pt && chkV (ckS N blt) sc 0 th3 && decide (at_ = ("append" : Str)) && (apos.endLine == cpos.line) && decide (lt = ("late" : Str))
  | _ => false
theorem pss_never {X : Cx} {b : List Stmt} : PSs X b fun _ _ _ => False := ⟨fun _ _ _ _ _ _ h => h.elim⟩
def cS : Cf := ⟨⟨[], []⟩, fun _ _ _ => .stuck, fun _ => "", fun _ => 0, 0⟩
section
variable {K : PySem.W.Frag} {H : Hp} {σ : L2.St} {t : T} {v : V} {n : List Addr}
/-- the state that the tests ask -/
theorem estV (tb : Tb K H) (h0 : σ[0]? = some (some v)) (hl : σ.length = 3) (r : Rds K [] H t v n) : ESt K ⟨[], []⟩ [] H [some t, none, none] σ [] (fun i => if i = 0 then n else []) fun _ => [] where
  box := ⟨rfl, fun k t e => by simp at e, fun k l _ h1 => by simp at h1, tb⟩
  len := by rw [hl] <;> rfl
  sl := fun i u e => by
    match i with
    | 0 =>
      have e : some t = some u := e
      cases e
      exact ⟨v, h0, r⟩
    | 1 => cases e
    | 2 => cases e
    | i + 3 => simp [getV] at e
  no := fun i e => by
    match i with
    | 0 => cases e
    | i + 1 => rfl
  sb := fun i a _ ⟨k, h1, _⟩ => by simp at h1
  dn := fun i h => by simp [Sg.k] at h
  dd := fun i j _ h => by simp [Sg.k] at h
  pk := fun i u h => by simp [Sg.k] at h
theorem isi_asks {W : WX} {cs : List Ty} {one : Bool} {Q : Bool → Hp → Prop} (tb : Tb K H) (h0 : σ[0]? = some (some v)) (hl : σ.length = 3) (r : Rds K [] H t v n) (hb : view [] t = t) (q : ∀ H', KeepsT K (fun _ => False) H H' → Q (cs.any (kTy t)) H') : tT cS K W (.isi (.var 0) cs one) σ H Q := by
  refine ⟨_, [], [], _, _, estV tb h0 hl r, ?_⟩
  have e : evE cS.F [some t, none, none] (.isi (.var 0) cs one) [] = .ok (.bl (cs.any (kTy (view [] t)))) [] := rfl
  rw [e, hb]
  exact ⟨_, rfl, fun H' bn' s => q H' ⟨s.keep.wider (fun a ⟨k, h1, _⟩ => by simp at h1), fun _ => s.box.tb⟩⟩
end
theorem kp0 {K : PySem.W.Frag} {B : Addr → Prop} {H H' : Hp} (k : KeepsT K (fun _ => False) H H') : KeepsT K B H H' := k.wider fun _ z => z.elim
section
variable {P : Program} {w : World} {K : PySem.W.Frag} {mg : Str → Option Value} {base : Heap} {fa : Addr} {fd : FuncData} {nm : Str} {ql : Str} {prm : Arguments} {body : List Stmt} {sc : Scope} {N ps blt : List Str}
/-- a call of it, from its promise -/
theorem sp_call {X : Cx} {k : Nat} (F : FnG X.prog X.w X.K X.mg X.base k fa fd ps (spSp X.K k)) (hg : X.A.guards = some []) (hr : Room k X.A) (gl : Gl X nm) (db : (nm == ("__debug__" : Str)) = false) (hm : X.mg nm = some (.ref fa)) (hk : PySem.W.keepIn X.K (.ref fa) = true) (bd : ∀ (s : Shared) (u : Value), BindsTo s fd ⟨[u], []⟩ (ps.zip [u])) (E : XK) (tk : Takes X fun _ _ _ _ => False) : SpCall X nm k := fun {e te p pos} he hst => by
  have hc : ∀ (pins : List (Addr × Obj)) (s : Shared) (σ : L2.St) (H : Hp) (us ws : List Value) (vs zs : List V) (Q : VK), Inv X pins σ H s → Vals vs us → Vals zs ws →
      (match vs, zs with | [v], [] => spSp X.K k [v] H Q fun _ _ _ => False | _, _ => False) → wpAny (model X.prog X.w) X.A (call (.ref fa) us (([] : List Str).zip ws)) (EP X pins σ Q) X.xe s := fun pins s σ H us ws vs zs Q I r1 r2 q => by
    obtain ⟨l1, q⟩ : vs.length = 1 ∧ spSp X.K k vs H Q fun _ _ _ => False := by
      split at q
      · exact ⟨rfl, q⟩
      · exact q.elim
    have lu : us.length = 1 := by rw [← l1]; exact r1.length.symm
    obtain ⟨u, rfl⟩ := List.length_eq_one_iff.mp lu
    refine wpAny_call (codeAny_mono (F.go X.A X.stack s H ⟨[u], []⟩ [u] vs Q (fun _ _ _ => False) hg hr I.env0 (bd s u) r1 q) fun r s' hq => ?_)
    cases r with
    | error e => exact tk e s' (XE.of_call I (fun _ _ _ h => h) hq)
    | ok fl =>
      cases fl with
      | ret u => exact I.after hq
      | next => exact hq.elim
      | brk => exact hq.elim
      | cont => exact hq.elim
  refine (pe_callF (p := p) (pos := pos) (r := fun vs zs σ H Q => match vs, zs with | [v], [] => spSp X.K k [v] H Q fun _ _ _ => False | _, _ => False) (ks := []) gl hm hk hc (pa_cons he pa_nil (star_cons hst)) pk_nil rfl (by simp [hst]) db).weak fun σ H Q h => ?_
  exact h
theorem spOkL_mem {d : Nat} : ∀ {xs : List T} {x : T}, spOkL d xs = true → x ∈ xs → spOk d x = true
  | [], x, _, h => by cases h
  | y :: ys, x, e, h => by
    have e : (spOk d y && spOkL d ys) = true := by cases d <;> exact e
    rw [Bool.and_eq_true] at e
    rcases List.mem_cons.mp h with rfl | h
    · exact e.1
    · exact spOkL_mem e.2 h
/-- an item spoilt, the others as they were -/
theorem rds_turn {H : Hp} {xs : List T} {vs : List V} {m1 m2 : List Addr} {i : Nat} (hi : i < xs.length) (r1 : RdsL K [] H ((spTL xs).take i) (vs.take i) m1) (r2 : RdsL K [] H (xs.drop i) (vs.drop i) m2) (hl : vs.length = xs.length) :
    ∃ t v k m3, xs[i]? = some t ∧ vs[i]? = some v ∧ m2 = k ++ m3 ∧ Rds K [] H t v k ∧ ∀ H', (∀ a ∈ m1, a ∉ k) → (∀ a ∈ m3, a ∉ k) → KeepsT K (fun a => a ∈ k) H H' → Rds K [] H' (spT t) v k →
      RdsL K [] H' ((spTL xs).take (i + 1)) (vs.take (i + 1)) (m1 ++ k) ∧ RdsL K [] H' (xs.drop (i + 1)) (vs.drop (i + 1)) m3 := by
  have hi' : i < vs.length := by omega
  have e1 := List.drop_eq_getElem_cons hi
  have e2 := List.drop_eq_getElem_cons hi'
  rw [e1, e2] at r2
  obtain ⟨v, ws, k, m3, q1, rk, rr, rfl⟩ := r2
  cases q1
  refine ⟨xs[i], vs[i], k, m3, List.getElem?_eq_getElem hi, List.getElem?_eq_getElem hi', rfl, rk, fun H' d1 d3 kp rt => ?_⟩
  refine ⟨?_, rr.keep kp.toKeeps (fun _ _ e => e) _ fun a ha z => d3 a ha z⟩
  have f1 : (spTL xs).take (i + 1) = (spTL xs).take i ++ [spT xs[i]] := by
    rw [spTL_map, ← List.map_take, ← List.map_take, List.take_succ_eq_append_getElem hi, List.map_append] <;> rfl
  have f2 : vs.take (i + 1) = vs.take i ++ [vs[i]] := List.take_succ_eq_append_getElem hi'
  rw [f1, f2]
  exact (r1.keep kp.toKeeps (fun _ _ e => e) _ fun a ha z => d1 a ha z).append (RdsL.one.mpr ⟨_, rfl, rt⟩)
/-- behind the items -/
def mid : T → T
  | .lst xs => .lst (spTL xs)
  | .tup xs => .tup (spTL xs)
  | t => t
theorem spoil_ok {nm0 : Str} (FD : FunD K nm0 ql prm body sc [] [] fa fd) (Sc : FnScope N ps sc) (ok : okSp N sc blt nm body = true) (hbl : ∀ x ∈ blt, mg x = none) (hm : mg nm = some (.ref fa)) (bd : ∀ (s : Shared) (u : Value), BindsTo s fd ⟨[u], []⟩ (ps.zip [u])) (hps : ps.length = 1) : ∀ k, FnG P w K mg base k fa fd ps (spSp K k)
  | 0 => ⟨fun vs H Q E ⟨_, _, _, _, e, _⟩ => by rw [e, hps] <;> rfl, fun A out s H args us vs Q E _ _ _ _ _ ⟨_, _, _, _, _, _, _, h, _⟩ => by omega⟩
  | k + 1 => by
    have ih := spoil_ok FD Sc ok hbl hm bd hps k
    refine fnG_def FD Sc (fun vs H Q E ⟨_, _, _, _, e, _⟩ => by rw [e, hps] <;> rfl) fun cdv _ A out s H vs Q E hgd room prom => ?_
    obtain ⟨t, v, n, d, rfl, rd, hok, hd, nd, hT, fin⟩ := prom
    let X : Cx := cxOf (L2.CX P w) P w K mg base N ql sc fa cdv A out s H E
    have un := room.un
    have EKs : ∀ W : WX, Takes X W → EK X cS W (ckS N blt) (fun _ => 0) sc := fun W tk => { N := rfl, nd := Sc.nd, calm := rfl, guards := hgd, units := (by show (A.deeper _).units + 65 < cLine; omega), sc := rfl, bl := hbl, call := (fun X' W' _ _ _ _ _ _ _ _ f fi is hf => by simp [ckS] at hf), g := rfl, tk := tk, room := Room.mono room (Nat.zero_le _), met := (fun mi h => by cases h) }
    have EK0 := EKs (fun _ _ _ _ => False) W0_takes
    unfold okSp at ok
    split at ok
    rotate_left
    · cases ok
    rename_i c1 b1 e1 pos1 c2 tg th f fp pt cp ep f2 fpos e2 pos2 c3 th3 at_ apos lt j lp cpos xp e3 pos3
    simp only [Bool.and_eq_true, decide_eq_true_eq, List.isEmpty_iff] at ok
    obtain ⟨⟨⟨⟨⟨⟨⟨⟨⟨⟨⟨⟨⟨⟨⟨⟨⟨⟨rfl, rfl⟩, rfl⟩, rfl⟩, hN⟩, k1⟩, k2⟩, k3⟩, k4⟩, k5⟩, k6⟩, rfl⟩, k7⟩, k8⟩, k9⟩, k10⟩, rfl⟩, k11⟩, rfl⟩ := ok
    obtain ⟨nth, pth, rfl⟩ := chkV_name k5
    obtain ⟨a1, a2, a3, a4⟩ := EK0.var k5
    obtain ⟨npt, ppt, rfl⟩ := chkV_name k9
    obtain ⟨d1, d2, d3, d4⟩ := EK0.var k9
    obtain ⟨nt3, pt3, rfl⟩ := chkV_name k10
    obtain ⟨g1, g2, g3, g4⟩ := EK0.var k10
    simp only [okN, Bool.and_eq_true, Bool.not_eq_true'] at k8
    have call : SpCall X f k := sp_call (X := X) ih hgd (room.mono (Nat.le_refl _)) (EK0.gl k7) k8.1 hm FD.kp bd E W0_takes
    have T1 := (chkE_ok (.isi (.var 0) [.dict] true) EK0 k1).2 rfl
    have T2 := (chkE_ok (.isi (.var 0) [.list, .tuple] false) EK0 k2).2 rfl
    have T3 := (chkE_ok (.isi (.var 0) [.list] true) EK0 k3).2 rfl
    have G := chkTg_ok (X := X) (ck := ckS N blt) rfl Sc.nd rfl rfl (fun _ _ => rfl) (.nm 2) k4
    have L : PI X tg (.Name nth pth) (fun σ H R => ∃ a vs, σ[0]? = some (some (.ref a)) ∧ ((SqL X.K H a vs ∧ R (Itl X.K a) H) ∨ (SqT X.K H a vs ∧ R (Itt X.K a) H))) := PI.byCases fun σ H R ⟨a, vs, h0, h⟩ => by
      rcases h with ⟨h1, h2⟩ | ⟨h1, h2⟩
      · exact ⟨_, pi_list (pe_var a1 a2 a3 a4), _, h0, a, rfl, ⟨vs, h1⟩, h2⟩
      · exact ⟨_, pi_tup (pe_var a1 a2 a3 a4), _, h0, a, rfl, ⟨vs, h1⟩, h2⟩
    have FOR := ps_for (X := X) (pos := fpos) (passes_of (X := X) rfl) rfl L G (pss_one (ps_expr (pos := ep) (call (p := fp) (pos := cp) (pe_var (pos := ppt) d1 d2 d3 d4) rfl) rfl)) (not_set k6)
    have APP := ps_expr (X := X) (pos := xp) (pe_bm (X := X) (name := "append") (cpos := cpos) (apos := apos) PySem.F.plainAttrs_list PySem.F.slot_list_append PySem.F.type_list_append mt_append (pe_var (pos := pt3) g1 g2 g3 g4) (pa_cons (show PE X (.Constant (.str ("late" : Str)) j lp) (tC (.str "late")) from pe_str) pa_nil) (by rfl) (by rfl) k11 (by rfl) (star_any (by rfl))) (by rfl)
    refine ⟨_, pss_cons (ps_if T1 pss_never pss_nil) (pss_cons (ps_if T2 (pss_one FOR) pss_nil) (pss_one (ps_if T3 (pss_one APP) pss_nil))), ?_⟩
    have h0 : (L2.start N [v])[0]? = some (some v) := rfl
    have hl : (L2.start N [v]).length = 3 := by
      unfold L2.start
      rw [List.length_append, List.length_map, List.length_replicate, hN] <;> rfl
    have vt : view [] t = t := by
      have := spOk_boxless t hok
      cases t <;> first | rfl | cases this
    have vm : view [] (mid t) = mid t := by
      have := spOk_boxless t hok
      cases t <;> first | rfl | cases this
    -- the last test
    have last : ∀ (σ : L2.St) (H3 : Hp), σ[0]? = some (some v) → σ.length = 3 → KeepsT K (fun a => a ∈ n) H H3 → Rds K [] H3 (mid t) v n →
        tIfS (tT cS X.K (fun _ _ _ _ => False) (.isi (.var 0) [.list] true)) (tDrop fun σ H Q => tVar 0 σ H fun y H1 => tyV X.K "list" y H1 ∧ tCons (tC (.str "late")) tNil σ H1 fun vs H2 => rAppend y vs H2 Q) tNext { nx := fun _ H' => Q .non H', rt := Q } σ H3 := fun σ H3 h0 hl kp r => by
      refine isi_asks (kp.tab hT) h0 hl r vm fun H4 kC => ?_
      have kp4 : KeepsT K (fun a => a ∈ n) H H4 := kp.trans kC fun _ z => z.elim
      have r4 := r.keep kC.toKeeps (fun _ _ e => e) _ fun _ _ z => z
      cases t with
      | lst xs =>
        rw [show ([Ty.list].any (kTy (mid (.lst xs)))) = true from rfl, if_pos rfl]
        obtain ⟨a, vs, m, rfl, ea, rl, rfl⟩ := r4
        show tVar 0 σ H4 fun y H1 => tyV X.K "list" y H1 ∧ tCons (tC (.str "late")) tNil σ H1 fun vs H2 => rAppend y vs H2 fun _ H' => Q .non H'
        refine ⟨_, h0, .inl ⟨rfl, _, SqL.of ea⟩, ?_⟩
        have hx : vs.length < sizeLine := by
          rw [rl.length, spTL_map, List.length_map]
          cases d with
          | zero => cases hok
          | succ d =>
            have hok : (Nat.blt xs.length line && spOkL d xs) = true := hok
            rw [Bool.and_eq_true] at hok
            exact lt_line hok.1
        refine ⟨a, vs, .str "late", rfl, rfl, ea, hx, ?_⟩
        have nm : a ∉ m := (List.nodup_cons.mp nd).1
        have kw : KeepsT K (fun z => z = a) H4 (upd H4 a (.lst (vs ++ [.str "late"]))) := KeepsT.write ea rfl rfl
        refine fin _ (kp4.trans kw fun b e => .inl (by rw [e]; exact List.mem_cons_self)) ⟨a, _, m, rfl, upd_same, ?_, rfl⟩
        have := (rl.keep kw.toKeeps (fun _ _ e => e) _ fun b hb z => nm (z ▸ hb)).append (RdsL.one.mpr ⟨V.str "late", rfl, ⟨rfl, rfl⟩⟩ : RdsL K [] (upd H4 a (.lst (vs ++ [.str "late"]))) [.str "late"] [V.str "late"] [])
        rw [List.append_nil] at this
        exact this
      | dk _ _ => cases d <;> cases hok
      | dt _ _ => cases d <;> cases hok
      | scr _ => cases d <;> cases hok
      | box _ => cases d <;> cases hok
      | _ => exact fin _ kp4 r4
    dsimp only [tSeq, tIfS, tNext]
    refine isi_asks hT h0 hl rd vt fun H1 kA => ?_
    have nod : ([Ty.dict].any (kTy t)) = false := by
      cases t <;> first | rfl | (cases d <;> cases hok)
    rw [nod, if_neg (by decide)]
    have r1 := rd.keep kA.toKeeps (fun _ _ e => e) _ fun _ _ z => z
    refine isi_asks (kA.tab hT) h0 hl r1 vt fun H2 kB => ?_
    have kp2 : KeepsT K (fun a => a ∈ n) H H2 := (kp0 kA).trans kB fun _ z => z.elim
    have r2 := r1.keep kB.toKeeps (fun _ _ e => e) _ fun _ _ z => z
    -- the items
    have items : ∀ (xs : List T) (vs : List V) (a : Addr) (m : List Addr) (dd : Nat) (J : It) (Gs : Hp → Prop), v = .ref a → Walk J xs.length Gs (YAt vs) → dd < k → spOkL dd xs = true → m.Nodup → (∀ b ∈ m, b ∈ n) → RdsL K [] H2 xs vs m → (∀ H', KeepsT K (fun b => b ∈ m) H2 H' → Gs H') →
        (∀ H', KeepsT K (fun b => b ∈ m) H2 H' → RdsL K [] H' (spTL xs) vs m → Rds K [] H' (mid t) v n) →
        ∃ W : Nat → Nat → L2.St → Hp → Prop, (∃ m, W 0 m (L2.start N [v]) H2) ∧ ∀ i m σ H, W i m σ H →
          (J.stop i H ∧ tIfS (tT cS X.K (fun _ _ _ _ => False) (.isi (.var 0) [.list] true)) (tDrop fun σ H Q => tVar 0 σ H fun y H1 => tyV X.K "list" y H1 ∧ tCons (tC (.str "late")) tNil σ H1 fun vs H2 => rAppend y vs H2 Q) tNext { nx := fun _ H' => Q .non H', rt := Q } σ H) ∨
          (J.go i H ∧ ∃ Nx : L2.St → Hp → Prop, (∀ σ' H', Nx σ' H' → ∃ m', m' < m ∧ W (i + 1) m' σ' H') ∧ ∀ x H', J.yld i H x H' → gTg X.K (.nm 2) x σ H' fun σ2 H2 => tDrop (fun σ H Q => tVar 2 σ H fun v H1 => spSp X.K k [v] H1 Q fun _ _ _ => False) { nx := Nx, ct := Nx, bk := tIfS (tT cS X.K (fun _ _ _ _ => False) (.isi (.var 0) [.list] true)) (tDrop fun σ H Q => tVar 0 σ H fun y H1 => tyV X.K "list" y H1 ∧ tCons (tC (.str "late")) tNil σ H1 fun vs H2 => rAppend y vs H2 Q) tNext { nx := fun _ H' => Q .non H', rt := Q }, rt := Q } σ2 H2) := fun xs vs a m dd J Gs ev wk hdd hos nm mn rl hG hend => by
      have lv := rl.length
      refine for_it (tb := tDrop fun σ H Q => tVar 2 σ H fun v H1 => spSp X.K k [v] H1 Q fun _ _ _ => False) (g := gTg X.K (.nm 2)) (D := { nx := tIfS (tT cS X.K (fun _ _ _ _ => False) (.isi (.var 0) [.list] true)) (tDrop fun σ H Q => tVar 0 σ H fun y H1 => tyV X.K "list" y H1 ∧ tCons (tC (.str "late")) tNil σ H1 fun vs H2 => rAppend y vs H2 Q) tNext { nx := fun _ H' => Q .non H', rt := Q }, rt := Q }) wk
        (fun i σ H' => σ[0]? = some (some v) ∧ σ.length = 3 ∧ KeepsT K (fun b => b ∈ m) H2 H' ∧ ∃ m1 m2, m = m1 ++ m2 ∧ RdsL K [] H' ((spTL xs).take i) (vs.take i) m1 ∧ RdsL K [] H' (xs.drop i) (vs.drop i) m2)
        ⟨h0, hl, KeepsT.refl _ _, [], m, rfl, ⟨rfl, rfl⟩, rl⟩ (fun i σ H' _ p => hG H' p.2.2.1) ?_ ?_
      · rintro i x σ H3 H4 hi ⟨s0, sl, kp, m1, m2, em, q1, q2⟩ ⟨e4, ex⟩
        subst e4
        obtain ⟨ti, vi, ki, m3, et, evi, rfl, rk, turn⟩ := rds_turn hi q1 q2 lv
        rw [ex] at evi; cases evi
        subst em
        have nd12 := List.nodup_append.mp nm
        have nd23 := List.nodup_append.mp nd12.2.1
        rw [gTg]
        dsimp only [gName, tDrop, tVar]
        refine ⟨x, by rw [List.getElem?_set_self (by omega)], ti, x, ki, dd, rfl, rk, spOkL_mem hos (List.mem_of_getElem? et), hdd, nd23.1, kp.tab (kp2.tab hT), fun H5 kp5 r5 => ?_⟩
        obtain ⟨t1, t2⟩ := turn H5 (fun b hb z => nd12.2.2 b hb b (List.mem_append_left _ z) rfl) (fun b hb z => nd23.2.2 b z b hb rfl) kp5 r5
        exact ⟨by rw [List.getElem?_set_ne (by decide)]; exact s0, by rw [List.length_set]; exact sl, kp.trans kp5 fun b hb => .inl (List.mem_append_right _ (List.mem_append_left _ hb)), m1 ++ ki, m3, by rw [List.append_assoc], t1, t2⟩
      · rintro σ H3 ⟨s0, sl, kp, m1, m2, em, q1, q2⟩
        rw [List.drop_length] at q2
        obtain ⟨_, e2⟩ := q2
        subst e2
        rw [List.append_nil] at em
        subst em
        rw [List.take_of_length_le (by rw [spTL_map, List.length_map]; exact Nat.le_refl _), List.take_of_length_le (by omega)] at q1
        exact last σ H3 s0 sl (kp2.trans kp fun b hb => .inl (mn b hb)) (hend H3 kp q1)
    cases t with
    | lst xs =>
      rw [show ([Ty.list, Ty.tuple].any (kTy (.lst xs))) = true from rfl, if_pos rfl]
      obtain ⟨a, vs, m, rfl, ea, rl, rfl⟩ := r2
      have nm := List.nodup_cons.mp nd
      cases d with
      | zero => cases hok
      | succ d =>
      have hok : (Nat.blt xs.length line && spOkL d xs) = true := hok
      rw [Bool.and_eq_true] at hok
      have st : ∀ H', KeepsT K (fun b => b ∈ m) H2 H' → H' a = some (.lst vs) := fun H' kp => kp.lst ea nm.1
      refine ⟨a, vs, h0, .inl ⟨SqL.of ea, ?_⟩⟩
      exact items xs vs a m d _ _ rfl (rl.length ▸ walk_list) (by omega) hok.2 nm.2 (fun b hb => List.mem_cons_of_mem _ hb) rl (fun H' kp => SqL.of (st H' kp)) fun H' kp r => ⟨a, vs, m, rfl, st H' kp, r, rfl⟩
    | tup xs =>
      rw [show ([Ty.list, Ty.tuple].any (kTy (.tup xs))) = true from rfl, if_pos rfl]
      obtain ⟨a, vs, rfl, ea, rl⟩ := r2
      cases d with
      | zero => cases hok
      | succ d =>
      have st : ∀ H', KeepsT K (fun b => b ∈ n) H2 H' → H' a = some (.tup vs) := fun H' kp => kp.tup a _ ea
      refine ⟨a, vs, h0, .inr ⟨SqT.of ea, ?_⟩⟩
      exact items xs vs a n d _ _ rfl (rl.length ▸ walk_tup) (by omega) hok nd (fun b hb => hb) rl (fun H' kp => SqT.of (st H' kp)) fun H' kp r => ⟨a, vs, rfl, st H' kp, r⟩
    | dk _ _ => cases d <;> cases hok
    | dt _ _ => cases d <;> cases hok
    | scr _ => cases d <;> cases hok
    | box _ => cases d <;> cases hok
    | _ => exact last _ H2 h0 hl kp2 r2
end
end MP

/-! C27: all defs keep their promises. -/
namespace MP
open PySem PySem.Spec PyProof.Rows L2
theorem boxless_below (n : Nat) : ∀ t : T, boxless t = true → boxBelow n t = true := by
  intro t
  refine T.rec (motive_1 := fun t => boxless t = true → boxBelow n t = true) (motive_2 := fun ts => boxlessL ts = true → boxBelowL n ts = true) ?_ ?_ ?_ ?_ ?_ ?_ ?_ ?_ ?_ ?_ ?_ ?_ t
  · intro _; rfl
  · intro _ _; rfl
  · intro _ _; rfl
  · intro _ _; rfl
  · intro xs ih h; exact ih h
  · intro xs ih h; exact ih h
  · intro ks xs ih h; exact ih h
  · intro ks xs ih h; exact ih h
  · intro _ _; rfl
  · intro _ h; cases h
  · intro _; rfl
  · intro x xs h1 h2 h
    simp only [boxlessL, boxBelowL, Bool.and_eq_true] at h ⊢
    exact ⟨h1 h.1, h2 h.2⟩
section
variable {K : PySem.W.Frag} {β r : List Addr} {H : Hp}
mutual
theorem Rds.cut : ∀ (t : T) {v : V} {n : List Addr}, Rds K (β ++ r) H t v n → boxBelow β.length t = true → Rds K β H t v n
  | .non, v, n, h, _ => h
  | .bl _, v, n, h, _ => h
  | .int _, v, n, h, _ => h
  | .str _, v, n, h, _ => h
  | .lst xs, v, n, h, e => by
    obtain ⟨a, vs, m, e1, e2, q, e3⟩ := h
    exact ⟨a, vs, m, e1, e2, RdsL.cut xs q e, e3⟩
  | .tup xs, v, n, h, e => by
    obtain ⟨a, vs, e1, e2, q⟩ := h
    exact ⟨a, vs, e1, e2, RdsL.cut xs q e⟩
  | .dk ks xs, v, n, h, e => by
    obtain ⟨a, vs, m, e1, e2, l, q, e3⟩ := h
    exact ⟨a, vs, m, e1, e2, l, RdsL.cut xs q e, e3⟩
  | .dt ks xs, v, n, h, e => by
    obtain ⟨a, vs, m, e1, e2, l, q, e3⟩ := h
    exact ⟨a, vs, m, e1, e2, l, RdsL.cut xs q e, e3⟩
  | .scr _, v, n, h, _ => h
  | .box k, v, n, h, e => by
    obtain ⟨a, e1, e2, e3⟩ := h
    have hk : k < β.length := Nat.le_of_ble_eq_true e
    rw [List.getElem?_append_left hk] at e2
    exact ⟨a, e1, e2, e3⟩
theorem RdsL.cut : ∀ (ts : List T) {vs : List V} {n : List Addr}, RdsL K (β ++ r) H ts vs n → boxBelowL β.length ts = true → RdsL K β H ts vs n
  | [], vs, n, h, _ => h
  | x :: xs, vs, n, h, e => by
    obtain ⟨v, ws, m, k, e1, q1, q2, e2⟩ := h
    simp only [boxBelowL, Bool.and_eq_true] at e
    exact ⟨v, ws, m, k, e1, Rds.cut x q1 e.1, RdsL.cut xs q2 e.2, e2⟩
end
theorem BoxOk.cut {μ : Mem} {bn : Nat → List Addr} (b : BoxOk K (β ++ r) H μ bn) : BoxOk K β H (μ.take β.length) bn := by
  have hl := b.len
  rw [List.length_append] at hl
  refine ⟨by rw [List.length_take]; omega, fun k t e => ?_, fun k l hne h1 h2 => b.dj k l hne (by rw [List.length_append]; omega) (by rw [List.length_append]; omega), b.tb⟩
  have hk : k < (μ.take β.length).length := (List.getElem?_eq_some_iff.mp e).1
  have hk' : k < β.length := by rw [List.length_take] at hk; omega
  rw [List.getElem?_take, if_pos hk'] at e
  obtain ⟨a, e1, q, bl, nd⟩ := b.rd k t e
  rw [List.getElem?_append_left hk'] at e1
  exact ⟨a, e1, q.cut _ (boxless_below _ t bl), bl, nd⟩
theorem Bx.up {bn : Nat → List Addr} {a : Addr} (h : Bx β bn a) : Bx (β ++ r) bn a := let ⟨k, h1, h2⟩ := h; ⟨k, by rw [List.length_append]; omega, h2⟩
/-- the arguments' nodes, one by one -/
theorem RdsL.nodes : ∀ {ts : List T} {vs : List V} {n : List Addr}, RdsL K β H ts vs n → ∃ nf : Nat → List Addr, (∀ (i : Nat) (t : T), ts[i]? = some t → ∃ v, vs[i]? = some v ∧ Rds K β H t v (nf i)) ∧ (∀ i : Nat, ts[i]? = none → nf i = []) ∧ ∀ i, ∀ a ∈ nf i, a ∈ n
  | [], vs, n, h => ⟨fun _ => [], fun i t e => by simp at e, fun _ _ => rfl, fun _ _ z => by cases z⟩
  | x :: xs, vs, n, h => by
    obtain ⟨v, ws, m, k, rfl, r1, r2, rfl⟩ := h
    obtain ⟨nf, h1, h2, h3⟩ := RdsL.nodes r2
    refine ⟨fun i => match i with | 0 => m | i + 1 => nf i, fun i t e => ?_, fun i e => ?_, fun i a ha => ?_⟩
    · cases i with
      | zero => simp at e; subst e; exact ⟨v, by simp, r1⟩
      | succ i =>
        obtain ⟨w, e1, q⟩ := h1 i t (by simpa using e)
        exact ⟨w, by simpa using e1, q⟩
    · cases i with
      | zero => simp at e
      | succ i => exact h2 i (by simpa using e)
    · cases i with
      | zero => exact List.mem_append_left _ ha
      | succ i => exact List.mem_append_right _ (h3 i a ha)
end
/-- one def: its slots, kinds, where its text is -/
structure Df where
  d : Dn
  N : List Str
  prm : Arguments
  body : List Stmt
  sc : Scope
/-- an error class: its name, its field, its __init__ -/
structure Xd where
  nm : Str
  fld : Str
  N : List Str
  prm : Arguments
  body : List Stmt
  sc : Scope
/-- the def that tells what a call told -/
structure Md where
  mi : Mi
  N : List Str
  prm : Arguments
  body : List Stmt
  sc : Scope
/-- the error classes, the def that tells, the defs that make lambdas -/
structure Xt where
  xs : List Xd
  met : Option Md
  tfn : List Str
def Xt.nms (x : Xt) : List (Str × Str) := x.xs.map fun d => (d.nm, d.fld)
def Xt.none : Xt := ⟨[], Option.none, []⟩
/-- what a def may ask of it -/
def Xt.mi (x : Xt) (nm : Str) : Option Mi := if x.tfn.contains nm then x.met.map (·.mi) else Option.none
/-- is all as it should be, by the texts -/
def okDf (Δ : List Dn) (fs : List Fi) (blt : List Str) (sp : Option Nat) (xt : Xt) (f : Nat) (D : Df) : Bool := (match fs[f]? with
  | some fi => Nat.beq D.d.nps fi.ps.length && Nat.beq D.d.n D.N.length && (List.range D.d.nps).all (fun i => (D.d.ka[i]?).getD .S == .S) && chkSs ⟨D.N, fs, ⟨D.d.ka, Δ.map (·.rk)⟩, blt, sp, xt.nms, xt.mi fi.nm⟩ D.sc D.d.rk D.d.body D.body
  | none => false)
section
variable {P : Program} {w : World} {K : PySem.W.Frag} {mg : Str → Option Value} {base : Heap} {Δ : List Dn} {Wf : Nat} {at_ : Nat → Str} {cl : Nat → Addr}
def cfK (Δ : List Dn) (Wf : Nat) (at_ : Nat → Str) (cl : Nat → Addr) (ka : List SK) (k : Nat) : Cf := ⟨⟨ka, Δ.map (·.rk)⟩, callF Δ Wf k, at_, cl, 3 * k⟩
theorem kwP_vals {n : Nat} {is : List Nat} {zs : List V} {ws : List Value} (r : Vals zs ws) : Vals (kwP n is zs) (kwP n is ws) := by
  have look : ∀ (is : List Nat) {zs : List V} {ws : List Value} (j : Nat), Vals zs ws → ((is.zip zs).lookup j = none ∧ (is.zip ws).lookup j = none) ∨ ∃ z u, (is.zip zs).lookup j = some z ∧ (is.zip ws).lookup j = some u ∧ RelV z u := by
    intro is
    induction is with
    | nil => intro zs ws j _; exact .inl ⟨by simp, by simp⟩
    | cons i is ih =>
      intro zs ws j r
      cases r with
      | nil => exact .inl ⟨by simp, by simp⟩
      | cons r1 r2 =>
        simp only [List.zip_cons_cons, List.lookup_cons]
        cases j == i with
        | true => exact .inr ⟨_, _, rfl, rfl, r1⟩
        | false => exact ih j r2
  unfold kwP
  generalize List.range is.length = ds
  induction ds with
  | nil => exact .nil
  | cons d ds ih =>
    rcases look is (n + d) r with ⟨h1, h2⟩ | ⟨z, u, h1, h2, h3⟩
    · simp only [List.filterMap_cons, h1, h2]; exact ih
    · simp only [List.filterMap_cons, h1, h2]; exact .cons h3 ih
/-- from the defs' promises to calls -/
theorem call_all {X : Cx} {C : Cf} {fs : List Fi} {fa : Nat → Addr} {fd : Nat → FuncData}
    (F : ∀ (f : Nat) (fi : Fi), fs[f]? = some fi → FnG X.prog X.w X.K X.mg X.base C.r (fa f) (fd f) fi.ps (spF X.K C f))
    (M : ∀ (f : Nat) (fi : Fi), fs[f]? = some fi → X.mg fi.nm = some (.ref (fa f)) ∧ PySem.W.keepIn X.K (.ref (fa f)) = true)
    (B : ∀ (f : Nat) (fi : Fi), fs[f]? = some fi → ∀ (n : Nat) (is : List Nat), (n, is) ∈ fi.sh → ∀ (s : Shared) (us ws : List Value), us.length = n → ws.length = is.length → BindsTo s (fd f) ⟨us, (kwN fi.ps is).zip ws⟩ (fi.ps.zip (us ++ kwP n is ws))) : CallAll X C fs fa :=
  fun X' W' e1 e2 e3 e4 e5 hg hr tk f fi is hf => by
  obtain ⟨m1, m2⟩ := M f fi hf
  refine ⟨by rw [e4]; exact m1, by rw [e3]; exact m2, fun pins s σ H us ws vs zs Q hsh I r1 r2 hl q => ?_⟩
  have hF := F f fi hf
  rw [← e1, ← e2, ← e3, ← e4, ← e5] at hF
  have lu : us.length = vs.length := r1.length.symm
  have lw : ws.length = is.length := by rw [← hl]; exact r2.length.symm
  have bt := B f fi hf _ _ hsh s us ws lu lw
  have rv : Vals (vs ++ kwP vs.length is zs) (us ++ kwP vs.length is ws) := r1.append (kwP_vals r2)
  refine wpAny_call (codeAny_mono (hF.go X'.A X'.stack s H ⟨us, (kwN fi.ps is).zip ws⟩ (us ++ kwP vs.length is ws) (vs ++ kwP vs.length is zs) Q (fun c d H' => W' c d σ H') hg hr I.env0 bt rv q) fun r s' hq => ?_)
  cases r with
  | error e => exact tk e s' (XE.of_call I (fun _ _ _ h => h) hq)
  | ok fl =>
    cases fl with
    | ret u => exact I.after hq
    | next => exact hq.elim
    | brk => exact hq.elim
    | cont => exact hq.elim
/-- an end of a body, seen from the caller -/
theorem out_ok {C : Cf} {fx : Fx} {rk : RK} {β' : List Addr} {μ μ' : Mem} {bn' : Nat → List Addr} {H' : Hp} {t : T} {v : V} {n : List Addr} {Q : VK} {E' : Nat → T → Mem → Prop} (hl : fx.β.length = μ.length) (R : RtOk K fx rk β' μ' bn' H' t v n)
    (h : Sat (outD rk μ.length t μ') (fun t μ' => ∀ v H' bn' m, Step K fx.β fx.bn fx.H H' μ' bn' → RVal K fx.β bn' fx.H H' rk fx.A t v m → Q v H') E') : Q v H' := by
  unfold outD at h
  obtain ⟨hi, h⟩ := Sat_if h
  obtain ⟨r, rfl⟩ := R.pre
  have lb := R.box.len
  rw [List.length_append] at lb
  have fin : ∀ {μ2 : Mem}, BoxOk K fx.β H' μ2 bn' → Rds K fx.β H' t v n → (∀ v H' bn' m, Step K fx.β fx.bn fx.H H' μ2 bn' → RVal K fx.β bn' fx.H H' rk fx.A t v m → Q v H') → Q v H' := fun {μ2} b rd q =>
    q v H' bn' n ⟨R.keep, b, fun a z => R.sub a z.up⟩ ⟨rd, fun a ha z => R.nb a ha z.up, R.src, fun e => by subst e; exact rd.nil _ hi, fun e => (R.dl e).2, fun e => (R.dl e).1, R.tp⟩
  split at h
  · rename_i hz
    have hz' := Nat.le_of_ble_eq_true hz
    have er : r = [] := List.length_eq_zero_iff.mp (by omega)
    subst er
    have b := R.box
    have rd := R.rd
    rw [List.append_nil] at b rd
    exact fin b rd h
  · split at h
    · rename_i hb
      rw [← hl] at hb h
      exact fin R.box.cut (R.rd.cut _ hb) h
    · exact h.elim
theorem out_exc {C : Cf} {fx : Fx} {E : XK} {μ μ' : Mem} {c : Nat} {t : T} {P' : T → Mem → Prop} (hl : fx.β.length = μ.length)
    (h : Sat (if Nat.ble μ'.length μ.length then (Res.exc c t μ' : Res T) else if boxBelow μ.length t then .exc c t (μ'.take μ.length) else .stuck) P' (XW C K fx.β fx.bn (fun a => a ∈ fx.A) fx.H E)) : XS C K fx E c t μ' := by
  intro d v H' β' bn' n h1 h0 kp sb bx ⟨r, er⟩ rd nb sr
  subst er
  have lb := bx.len
  rw [List.length_append] at lb
  split at h
  · rename_i hz
    have hz' := Nat.le_of_ble_eq_true hz
    have er : r = [] := List.length_eq_zero_iff.mp (by omega)
    subst er
    rw [List.append_nil] at bx rd
    exact h d v H' bn' n h0 h1 ⟨kp, bx, fun a z => sb a (by rw [List.append_nil]; exact z)⟩ rd (fun a ha z => nb a ha (by rw [List.append_nil]; exact z)) sr
  · split at h
    · rename_i hb
      rw [← hl] at hb h
      exact h d v H' bn' n h0 h1 ⟨kp, bx.cut, fun a z => sb a z.up⟩ (rd.cut _ hb) (fun a ha z => nb a ha z.up) sr
    · exact h.elim
end
end MP

/-! C28: all defs keep their promises, by the levels of calls. -/
namespace MP
open PySem PySem.Spec PyProof.Rows L2
section
variable {P : Program} {w : World} {K : PySem.W.Frag} {mg : Str → Option Value} {base : Heap} {Δ : List Dn} {Wf : Nat} {xt : Xt} {cl : Nat → Addr} {fs : List Fi} {blt : List Str} {sp : Option Nat} {fa : Nat → Addr} {fd : Nat → FuncData}
/-- what the head tells of the def that tells what a call told -/
def MetF (K : PySem.W.Frag) (mg : Str → Option Value) (xs : List (Str × Str)) (mi : Mi) : Prop :=
  ∃ (g : Addr) (pg : Arguments) (bg : List Stmt) (sg : Scope) (dV kV doc pm cg ct oc : Value) (an od : Option Addr) (osl : Array (Option Value)) (Ng : List Str) (ask : Str),
    mg mi.nm = some (.ref g) ∧ PySem.W.keepIn K (.ref g) = true ∧ K.lookup g = some ⟨oc, od, .func (PySem.W.fnOf mi.nm mi.nm pg bg sg dV kV doc pm an cg ct), osl⟩ ∧ PySem.W.codeIn K cg mi.nm = true ∧
      L2.Binds K (PySem.W.fnOf mi.nm mi.nm pg bg sg dV kV doc pm an cg ct) [ask] [] ∧ FnScope Ng [ask] sg ∧ Ng[0]? = some ask ∧ okMet Ng sg xs mi bg = true
/-- what the head tells of the defs -/
structure HeadOk (K : PySem.W.Frag) (mg : Str → Option Value) (Δ : List Dn) (fs : List Fi) (blt : List Str) (sp : Option Nat) (ds : List Df) (fa : Nat → Addr) (fd : Nat → FuncData) (xt : Xt) (cl : Nat → Addr) : Prop where
  dΔ : ∀ (f : Nat) (fi : Fi), fs[f]? = some fi → ∃ D, ds[f]? = some D ∧ Δ[f]? = some D.d ∧ okDf Δ fs blt sp xt f D = true ∧ FnScope D.N fi.ps D.sc ∧ ∃ prm, FunD K fi.nm fi.nm prm D.body D.sc [] [] (fa f) (fd f)
  gl : ∀ (f : Nat) (fi : Fi), fs[f]? = some fi → mg fi.nm = some (.ref (fa f))
  bl : ∀ nm ∈ blt, mg nm = none
  bd : ∀ (f : Nat) (fi : Fi), fs[f]? = some fi → ∀ (n : Nat) (is : List Nat), (n, is) ∈ fi.sh → ∀ (s : Shared) (us ws : List Value), us.length = n → ws.length = is.length → BindsTo s (fd f) ⟨us, (kwN fi.ps is).zip ws⟩ (fi.ps.zip (us ++ kwP n is ws))
  spk : ∀ (si : Nat) (fi : Fi) (D : Df), sp = some si → fs[si]? = some fi → ds[si]? = some D → okSp D.N D.sc blt fi.nm D.body = true ∧ (1, []) ∈ fi.sh ∧ fi.ps.length = 1
  few : Δ[spIx]? = none
  exF : ExF K mg xt.nms cl
  rsF : ∀ (c : Nat) (q : Str × Str), xt.nms[c]? = some q → RsF K mg (cl c) q.1 q.2
  met : ∀ m, xt.met = some m → MetF K mg xt.nms m.mi
  tab : ∀ nm, xt.tfn.contains nm = true → nm ∈ lamNames ∧ hasTab K nm = true
  uni : ∀ p ∈ tabL K, ∀ q ∈ tabL K, p.1 = q.1 → p.2 = q.2
  fa0 : ∀ (f : Nat) (fi : Fi), fs[f]? = some fi → fa f = He.fAd K (fi.nm, none)
theorem getV_args {as : List T} {m j : Nat} : getV (as.map some ++ List.replicate m none) j = as[j]? := by
  unfold getV
  by_cases h : j < as.length
  · rw [List.getElem?_append_left (by simpa using h)]
    simp [List.getElem?_eq_getElem h]
  · rw [List.getElem?_append_right (by simpa using h), List.getElem?_eq_none (l := as) (by omega)]
    cases e : (List.replicate m (none : Option T))[j - (as.map some).length]? with
    | none => rfl
    | some o =>
      have := List.eq_of_mem_replicate (List.mem_of_getElem? e)
      subst this
      rfl
theorem start_get {N : List Str} {vs : List V} {j : Nat} {v : V} (h : vs[j]? = some v) : (L2.start N vs)[j]? = some (some v) := by
  unfold L2.start
  have hj : j < vs.length := (List.getElem?_eq_some_iff.mp h).1
  rw [List.getElem?_append_left (by simpa using hj), List.getElem?_map, h] <;> rfl
theorem fns_ok {ds : List Df} (hd : HeadOk K mg Δ fs blt sp ds fa fd xt cl) (TB : ∀ nm ∈ lamNames, hasTab K nm = true → LamX.TabB base mg (He.cT K (nm, none)).1 (He.cT K (nm, none)).2) : ∀ (k f : Nat) (fi : Fi), fs[f]? = some fi → FnG P w K mg base (3 * k) (fa f) (fd f) fi.ps (spF K (cfK Δ Wf (xAt xt.nms) cl [] k) f)
  | 0, f, fi, hf => by
    have no : ∀ vs H Q E, ¬ spF K (cfK Δ Wf (xAt xt.nms) cl [] 0) f vs H Q E := fun vs H Q E ⟨_, _, _, _, _, _, _, _, h⟩ => h
    exact ⟨fun vs H Q E h => (no vs H Q E h).elim, fun A out s H args us vs Q E _ _ _ _ _ h => (no vs H Q E h).elim⟩
  | k + 1, f, fi, hf => by
    obtain ⟨D, hD, hΔ, ok, Sc, prm, FD⟩ := hd.dΔ f fi hf
    unfold okDf at ok
    rw [hf] at ok
    simp only [Bool.and_eq_true, List.all_eq_true] at ok
    obtain ⟨⟨⟨o1, o2⟩, o3⟩, o4⟩ := ok
    have o1 := Nat.eq_of_beq_eq_true o1
    have o2 := Nat.eq_of_beq_eq_true o2
    have ih := fns_ok hd TB k
    have run : ∀ as μ, callF Δ Wf (k + 1) f as μ = runD (callF Δ Wf k) Wf D.d as μ := fun as μ => by
      show (match Δ[f]? with | some d => runD (callF Δ Wf k) Wf d as μ | none => spoilF k f as μ) = _
      rw [hΔ]
    have rkf : ((Δ.map (·.rk))[f]?).getD .S = D.d.rk := by rw [List.getElem?_map, hΔ] <;> rfl
    have lenOk : ∀ vs H Q E, spF K (cfK Δ Wf (xAt xt.nms) cl [] (k + 1)) f vs H Q E → vs.length = fi.ps.length := fun vs H Q E ⟨as, μ, β, bn, n, b, rl, nb, h⟩ => by
      have h : Sat (callF Δ Wf (k + 1) f as μ) _ _ := h
      rw [run, runD] at h
      obtain ⟨hl, _⟩ := Sat_if h
      rw [rl.length, Nat.eq_of_beq_eq_true hl, o1]
    show FnG P w K mg base ((3 * k + 2) + 1) (fa f) (fd f) fi.ps _
    refine fnG_def FD Sc lenOk fun cdv codeAt A out s H vs Q E hgd room prom => ?_
    obtain ⟨as, μ, β, bn, n, b, rl, nb, h⟩ := prom
    have h : Sat (callF Δ Wf (k + 1) f as μ) (fun t μ' => ∀ v H' bn' m, Step K β bn H H' μ' bn' → RVal K β bn' H H' (((Δ.map (·.rk))[f]?).getD .S) n t v m → Q v H') (XW (cfK Δ Wf (xAt xt.nms) cl [] (k + 1)) K β bn (fun a => a ∈ n) H E) := h
    rw [run, runD] at h
    obtain ⟨hl, h⟩ := Sat_if h
    have hl := Nat.eq_of_beq_eq_true hl
    rw [rkf] at h
    let C : Cf := cfK Δ Wf (xAt xt.nms) cl D.d.ka k
    let fx : Fx := ⟨β, bn, H, n⟩
    let X : Cx := cxOf (L2.CX P w) P w K mg base D.N fi.nm D.sc (fa f) cdv A out s H E
    have hb : β.length = μ.length := b.len
    have callsX : CallAll X C fs fa := call_all (X := X) (C := C) (fd := fd) (fun f' fi' hf' => ih f' fi' hf') (fun f' fi' hf' => ⟨hd.gl f' fi' hf', by
      obtain ⟨D', _, _, _, _, _, FD'⟩ := hd.dΔ f' fi' hf'
      exact FD'.kp⟩) hd.bd
    have tk : Takes X (WE0 E) := takes_of (X := X) rfl rfl rfl (E := E) rfl
    have un := room.un
    have metX : ∀ mi, xt.mi fi.nm = some mi → MetOk X C xt.nms mi := fun mi hmi => by
      unfold Xt.mi at hmi
      split at hmi
      · rename_i hin
        obtain ⟨m, hm, rfl⟩ := Option.map_eq_some_iff.mp hmi
        obtain ⟨l1, l2⟩ := hd.tab fi.nm hin
        obtain ⟨oc, od, fdc, osl, q, lk, ec, ci⟩ := codeAt
        obtain ⟨cO, rfl⟩ := He.codeIn_ref ci
        rw [hd.fa0 f fi hf] at lk
        have e1 : (He.cT K (fi.nm, none)).1 = cO := He.codeOf_eq lk ec
        obtain ⟨g, pg, bg, sg, dV, kV, doc, pm, cg, ct, oc', an, od', osl', Ng, ask, m1, m2, m3, m4, m5, m6, m7, m8⟩ := hd.met m hm
        exact {
          ex := ⟨g, cO, (He.cT K (fi.nm, none)).2, pg, bg, sg, dV, kV, doc, pm, cg, ct, oc', an, od', osl', Ng, ask, m1, m2, m3, m4, m5, m6, m7, m8, e1 ▸ TB fi.nm l1 l2, rfl, List.mem_map.mpr ⟨fi.nm, List.mem_filter.mpr ⟨l1, l2⟩, rfl⟩⟩
          uni := hd.uni
          room := room
          gd := hgd
          exF := hd.exF
          at_ := fun _ _ => rfl }
      · cases hmi
    have S : SX X C E ⟨D.N, fs, ⟨D.d.ka, Δ.map (·.rk)⟩, blt, sp, xt.nms, xt.mi fi.nm⟩ fa D.sc := {
      ek := { N := rfl, nd := Sc.nd, calm := rfl, guards := hgd, units := (by show (A.deeper _).units + 65 < cLine; omega), sc := rfl, bl := hd.bl, call := callsX, g := rfl, tk := tk, room := Room.mono room (by show 3 * k ≤ 3 * k + 2; omega), met := metX }
      hp := passes_of (X := X) rfl
      fn := fun _ => rfl
      sp := fun si fi' hsi hfi hgl hdb => by
        obtain ⟨D', hD', _, _, Sc', _, FD'⟩ := hd.dΔ si fi' hfi
        obtain ⟨k1, k2, k3⟩ := hd.spk si fi' D' hsi hfi hD'
        have bdS : ∀ (s : Shared) (u : Value), BindsTo s (fd si) ⟨[u], []⟩ (fi'.ps.zip [u]) := fun s u => hd.bd si fi' hfi 1 [] k2 s [u] [] rfl rfl
        have FS := spoil_ok (P := P) (w := w) (base := base) FD' Sc' k1 hd.bl (hd.gl si fi' hfi) bdS k3 k
        have cF : ∀ t μ, callF Δ Wf k spIx [t] μ = (match k with | 0 => .stuck | k + 1 => if spOk k t then .ok .non μ else .stuck) := fun t μ => by
          cases k with
          | zero => rfl
          | succ k =>
            show (match Δ[spIx]? with | some d => runD (callF Δ Wf k) Wf d [t] μ | none => spoilF k spIx [t] μ) = _
            rw [hd.few]
            rfl
        refine ⟨k, sp_call (X := X) FS hgd (Room.mono room (by omega)) hgl hdb (hd.gl si fi' hfi) FD'.kp bdS E W0_takes, fun t μ r μ' e => ?_, fun t μ c u μ' e => ?_⟩
        · have e : callF Δ Wf k spIx [t] μ = .ok r μ' := e
          rw [cF] at e
          cases k with
          | zero => cases e
          | succ k =>
            dsimp only at e
            split at e
            · rename_i h; cases e; exact ⟨h, by omega, rfl⟩
            · cases e
        · have e : callF Δ Wf k spIx [t] μ = .exc c u μ' := e
          rw [cF] at e
          cases k with
          | zero => cases e
          | succ k =>
            dsimp only at e
            split at e <;> cases e
      rs := fun c q hq => ⟨hd.rsF c q hq, by
        show xAt xt.nms c = q.2
        unfold xAt
        rw [hq] <;> rfl⟩
      rm2 := Room.mono room (by omega)
      bk := by
        show (if D.sc.kind.isAnnotationScope then ScopeKind.function else D.sc.kind) = _
        rw [Sc.kind] <;> rfl }
    refine ⟨TSS X C fx D.d.rk E [] Wf D.d.body, chkSs_ok S D.d.body o4 [], ?_⟩
    obtain ⟨nf, n1, n2, n3⟩ := rl.nodes
    have par : ∀ i, C.g.k i ≠ .S → nf i = [] := fun i hi => by
      refine n2 i (List.getElem?_eq_none ?_)
      by_cases hlt : i < D.d.nps
      · have := o3 i (List.mem_range.mpr hlt)
        have e : C.g.k i = .S := by
          show (D.d.ka[i]?).getD .S = .S
          simpa using this
        exact absurd e hi
      · omega
    have hps : fi.ps.length ≤ D.N.length := by
      have := congrArg List.length Sc.pre
      rw [List.length_take] at this
      omega
    refine ⟨as.map some ++ List.replicate (D.d.n - as.length) none, μ, β, nf, bn, ?_, ?_⟩
    · have trivD : ∀ i, C.g.k i = .D → nf i = [] := fun i hi => par i (by rw [hi]; decide)
      have trivP : ∀ i, C.g.k i = .P → nf i = [] := fun i hi => par i (by rw [hi]; decide)
      have noD : ∀ {i a}, C.g.k i = .D → a ∈ nf i → False := fun hi ha => by rw [trivD _ hi] at ha; cases ha
      have noP : ∀ {i a}, C.g.k i = .P → a ∈ (nf i).take 1 → False := fun hi ha => by rw [trivP _ hi] at ha; cases ha
      refine ⟨⟨b, ?_, fun i t e => ?_, fun i e => ?_, fun i a ha => nb a (n3 i a ha), fun i hi => by rw [trivD i hi]; exact List.nodup_nil, fun i j _ hi _ a ha => (noD hi ha).elim, fun i t hi _ => .inr (trivP i hi)⟩,
        fun i j _ hi a ha => (noD hi ha).elim, fun i hi a ha => (noP hi ha).elim, fun i j _ hi a ha => (noP hi ha).elim, fun i hi a ha => (noD hi ha).elim, fun i hi a ha => (noP hi ha).elim, Keeps.refl _ _, fun a z => .inl z, ⟨[], by simp [fx]⟩, fun i a ha => .inr (n3 i a ha), fun _ z => by cases z⟩
      · have lv := rl.length
        unfold L2.start
        rw [List.length_append, List.length_append, List.length_map, List.length_map, List.length_replicate, List.length_replicate]
        omega
      · rw [getV_args] at e
        obtain ⟨v, e1, r⟩ := n1 i t e
        exact ⟨v, start_get e1, r⟩
      · rw [getV_args] at e
        exact n2 i e
    · cases e : evIs (callF Δ Wf k) Wf D.d.body (as.map some ++ List.replicate (D.d.n - as.length) none) μ with
      | stuck => rw [e] at h; exact h.elim
      | exc c t μ' =>
        rw [e] at h
        show Sat (evIs (callF Δ Wf k) Wf D.d.body _ μ) _ _
        rw [e]
        exact out_exc (fx := fx) hb h
      | ok q μ' =>
        show Sat (evIs (callF Δ Wf k) Wf D.d.body _ μ) _ _
        rw [e]
        rw [e] at h
        obtain ⟨fl, ρ'⟩ := q
        cases fl with
        | bk => exact h.elim
        | nx => exact fun β' ns' bn' σ' H' S' => out_ok (fx := fx) (t := .non) (n := []) (C := C) hb ⟨S'.e.box, S'.keep, S'.sub, S'.pre, ⟨rfl, rfl⟩, (fun _ z => by cases z), (fun _ z => by cases z), (fun _ => ⟨List.nodup_nil, fun _ z => by cases z⟩), fun _ z => by cases z⟩ h
        | rt t => exact fun β' bn' v H' m R => out_ok (fx := fx) (C := C) hb R h
end
end MP

/-! C29: the law's call, from its def's promise (no guard stands at the caller's). -/
namespace MP
open PySem PySem.Spec PyProof.Rows L2
section
variable {P : Program} {w : World} {K : PySem.W.Frag} {mg mb : Str → Option Value} {k : Nat} {fa a : Addr} {fd : FuncData} {x : Str} {sp : Sp} {s1 : Shared} {vs : List Value} {ns : List Int}
/-- what is asked of the call of a law -/
def Good1 (s1 : Shared) (r : Result) (s' : Shared) : Prop := r = .ok (.ret (.bool true)) ∧ OldK s1.heap s'.heap ∧ s'.os = s1.os ∧ AllBare s'.gens
/-- the abstract heap tracks the script and empty tables -/
def OnlyT (H : Hp) : Prop := ∀ b, H b = none ∨ (∃ ps, H b = some (.tbl ps)) ∨ ∃ o xs, H b = some (.frz o (.lst xs))
structure Start1 (K : PySem.W.Frag) (P : Program) (w : World) (s1 : Shared) (a : Addr) (ns : List Int) (cs : List (Addr × Addr)) (H : Hp) : Prop where
  tab : ∀ p ∈ cs, H p.2 = some (.tbl #[])
  only : ∀ b, H b = none ∨ b ∈ cs.map (·.2) ∨ ∃ o xs, H b = some (.frz o (.lst xs))
  sq : SqL K H a (ns.map V.int)
  hok : HOk P w H s1.heap
  at_ : ∀ b, H b ≠ none → b = a ∨ b ∈ cs.map (·.2)
  off : H a ≠ none → K.lookup a = none
/-- what is told of the tables at the call -/
structure Tabs1 (K : PySem.W.Frag) (mg : Str → Option Value) (s1 : Shared) (cs : List (Addr × Addr)) : Prop where
  empty : ∀ p ∈ cs, s1.heap.get? p.2 = some { cls := .none, data := .fields #[] }
  out : ∀ p ∈ cs, K.lookup p.2 = none
  code : ∀ p ∈ cs, PySem.W.CodeHd s1.heap p.1 p.2
  bm : ∃ (bm : Addr) (ob : Obj), mg "__builtins__" = some (.ref bm) ∧ bm ≠ builtinsNs ∧ s1.heap.get? bm = some ob ∧ ob.cls = .type "module" ∧ ob.dict = some builtinsNs ∧ ob.data = .plain
theorem Tabs1.at_ {cs : List (Addr × Addr)} (T : Tabs1 K mg s1 cs) {b : Addr} (h : b ∈ cs.map (·.2)) : s1.heap.get? b = some { cls := .none, data := .fields #[] } := by
  obtain ⟨p, hp, rfl⟩ := List.mem_map.mp h
  exact T.empty p hp
theorem run1 {H : Hp} {cs : List (Addr × Addr)} (st : Start1 K P w s1 a ns cs H) (T : Tabs1 K mg s1 cs) (KX : K.In s1.heap) (G1 : s1.heap.Ns mainGlobals mg) (G2 : s1.heap.Ns builtinsNs mb) (G3 : ∀ x : Str, x ≠ "__name__" → mb x = bootBuiltins x) (G4 : s1.heap.NoLimit) (G5 : s1.gens = #[])
    (obj : s1.heap.get? a = some { cls := .type "list", data := .seq vs.toArray }) (room : Room k callerA) (F : ∀ base : Heap, K.In base → base.Ns mainGlobals mg → (∀ p ∈ cs, LamX.TabB base mg p.1 p.2) → FnG P w K mg base k fa fd [x] sp) (bind : ∀ (s : Shared) (u : Value), BindsTo s fd ⟨[u], []⟩ [(x, u)])
    (prom : sp [.ref a] H (fun v _ => v = .bl true) fun _ _ _ => False) : codeAny (model P w) callerA (.call (.ref fa) ⟨[.ref a], []⟩) (Good1 s1) s1 := by
  let B := hidT s1.heap H
  -- what is no list and no table stands in the base
  have inB : ∀ {b : Addr} {o : Obj}, s1.heap.get? b = some o → (b = a → H a = none) → b ∉ cs.map (·.2) → B.get? b = some o := fun {b o} e h1 h2 => hidT_get e (by
    cases hb : H b with
    | none => rfl
    | some u =>
      rcases st.at_ b (by simp [hb]) with e2 | e2
      · have e3 := h1 e2
        rw [← e2, hb] at e3
        exact e3
      · exact (h2 e2).elim)
  have noT : ∀ {b : Addr} {o : Obj}, s1.heap.get? b = some o → o.data ≠ .fields #[] → b ∉ cs.map (·.2) := fun {b o} e h z => by
    rw [T.at_ z] at e
    cases e
    exact h rfl
  have noA : ∀ {b : Addr} {o : Obj}, s1.heap.get? b = some o → (∀ vs n, o.data ≠ .seq vs n) → b = a → H a = none := fun {b o} e h z => by
    rw [z, obj] at e
    cases e
    exact (h _ _ rfl).elim
  have dictB : ∀ {b : Addr} {m : Str → Option Value}, s1.heap.Ns b m → B.Ns b m := fun {b m} hn => by
    obtain ⟨o, es, ep, e1, e2, e3⟩ := hn
    exact ⟨o, es, ep, inB e1 (noA e1 fun _ _ z => by rw [e2] at z; cases z) (noT e1 fun z => by rw [e2] at z; cases z), e2, e3⟩
  have kinB : K.In B := fun b o e => inB (KX b o e) (fun eb => by
    cases ha : H a with
    | none => rfl
    | some u =>
      have := st.off (by simp [ha])
      rw [← eb, e] at this
      cases this) fun z => by
    obtain ⟨p, hp, rfl⟩ := List.mem_map.mp z
    rw [T.out p hp] at e
    cases e
  have limB : B.NoLimit := by
    obtain ⟨mc, q1, q2⟩ := G4
    exact ⟨mc, dictB q1, q2⟩
  have tabB : ∀ p ∈ cs, LamX.TabB B mg p.1 p.2 := fun p hp => by
    refine ⟨?_, ?_, fun z => ?_⟩
    · obtain ⟨o, us, file, tf, flags, tg, inF, text, tt, e1, r1, r2, r3, r4, r5, r6, r7, r8, hne⟩ := T.code p hp
      refine ⟨o, us, file, tf, flags, tg, inF, text, tt, inB e1 (noA e1 fun _ _ z => by rw [r2] at z; cases z) (noT e1 fun z => by
        rw [r2] at z
        cases z
        simp at r3), r1, r2, r3, r4, r5, r6, r7, r8, hne⟩
    · obtain ⟨bm, ob, b1, b2, b3, b4, b5, b6⟩ := T.bm
      refine ⟨bm, ob, b1, b2, fun q => ?_, fun q => ?_, inB b3 (noA b3 fun _ _ z => by rw [b6] at z; cases z) (noT b3 fun z => by rw [b6] at z; cases z), b4, b5, b6⟩
      · obtain ⟨o, es, ep, e, hd, _⟩ := G1
        rw [q, e] at b3
        cases b3
        rw [hd] at b6
        cases b6
      · rw [q, T.empty p hp] at b3
        cases b3
        cases b6
    · obtain ⟨o, es, ep, e, hd, _⟩ := G1
      rw [z, T.empty p hp] at e
      cases e
      cases hd
  have env : Env0 P w K mg B callerA [] s1 H := {
    frames := rfl
    mod := { kin := kinB, glob := dictB G1, blt := ⟨mb, dictB G2, G3⟩, nolimit := limB }
    bs := fun b o e => of_hidT e
    bsz := by rw [hidT_size] <;> exact Nat.le_refl _
    funs := trivial
    frf := fun b hb => by cases (show b ∈ ([] : List Addr) from hb)
    hok := st.hok
    bare := AllBare.of_eq G5 }
  have rel : Vals [V.ref a] [Value.ref a] := .cons rfl .nil
  refine codeAny_mono ((F B kinB (dictB G1) tabB).go callerA [] s1 H ⟨[.ref a], []⟩ [.ref a] [.ref a] _ _ rfl room env (bind s1 _) rel prom) ?_
  intro r s2 hr
  match r, hr with
  | .error e, ⟨_, _, _, _, _, _, _, _, _, _, _, _, z⟩ => exact z.elim
  | .ok (.ret u), ⟨v, H2, e1, e2, un, hok2, rv, ev⟩ =>
    have ev : v = V.bl true := ev
    subst ev
    have eu : u = Value.bool true := rv
    subst eu
    have still : ∀ b o, b ∉ cs.map (·.2) → s1.heap.get? b = some o → s2.heap.get? b = some o := fun b o nt eo => by
      cases hb : H b with
      | none => exact un.keep b o eo hb (fun z => by cases (show b ∈ ([] : List Addr) from z)) (fun z => by cases z)
      | some u =>
        rcases st.only b with z | z | ⟨ob, xs, z⟩
        · rw [z] at hb; cases hb
        · exact (nt z).elim
        · obtain ⟨g1, _⟩ := st.hok b _ z
          obtain ⟨g2, _⟩ := hok2 b _ (un.frzs b ob _ z)
          rw [g1] at eo
          cases eo
          exact g2
    have grew : ∀ p ∈ cs, ∃ more : Array Value, s2.heap.get? p.2 = some { cls := .none, data := .fields more } := fun p hp => by
      obtain ⟨more, z⟩ := un.tbls p.2 #[] (st.tab p hp)
      exact ⟨_, hok2 p.2 _ z⟩
    refine ⟨rfl, ⟨fun b o eo => ?_, fun b o eo => ?_⟩, e1, e2⟩
    · by_cases hb : b ∈ cs.map (·.2)
      · obtain ⟨p, hp, rfl⟩ := List.mem_map.mp hb
        obtain ⟨more, hm⟩ := grew p hp
        rw [T.empty p hp] at eo
        cases eo
        exact .inr (.inl ⟨((T.code p hp).tab (T.empty p hp)).isCodeTable, rfl, #[], more, rfl, by rw [Array.empty_append]; exact hm⟩)
      · exact .inl (still b o hb eo)
    · by_cases hb : b ∈ cs.map (·.2)
      · obtain ⟨p, hp, rfl⟩ := List.mem_map.mp hb
        obtain ⟨more, hm⟩ := grew p hp
        exact ⟨_, hm⟩
      · exact ⟨o, still b o hb eo⟩
/-- the law's call ends in True -/
theorem law1 {cs : List (Addr × Addr)} (T : Tabs1 K mg s1 cs) (KX : K.In s1.heap) (G1 : s1.heap.Ns mainGlobals mg) (G2 : s1.heap.Ns builtinsNs mb) (G3 : ∀ x : Str, x ≠ "__name__" → mb x = bootBuiltins x) (G4 : s1.heap.NoLimit) (G5 : s1.gens = #[])
    (obj : s1.heap.get? a = some { cls := .type "list", data := .seq vs.toArray }) (intsA : IntsAre vs ns) (hl : ns.length ≤ sizeLine) (room : Room k callerA) (F : ∀ base : Heap, K.In base → base.Ns mainGlobals mg → (∀ p ∈ cs, LamX.TabB base mg p.1 p.2) → FnG P w K mg base k fa fd [x] sp)
    (bind : ∀ (s : Shared) (u : Value), BindsTo s fd ⟨[u], []⟩ [(x, u)]) (prom : ∀ H : Hp, OnlyT H → (∀ p ∈ cs, H p.2 = some (.tbl #[])) → SqL K H a (ns.map V.int) → sp [.ref a] H (fun v _ => v = .bl true) fun _ _ _ => False) : codeAny (model P w) callerA (.call (.ref fa) ⟨[.ref a], []⟩) (Good1 s1) s1 := by
  have lv : vs.length = ns.length := intsA.length
  have rel := vals_ints intsA
  have aT : a ∉ cs.map (·.2) := fun z => by
    have q := T.at_ z
    rw [obj] at q
    cases q
  have memT : ∀ p ∈ cs, p.2 ∈ cs.map (·.2) := fun p hp => List.mem_map.mpr ⟨p, hp, rfl⟩
  have all : ∀ H : Hp, Start1 K P w s1 a ns cs H → (∀ b, b ∈ cs.map (·.2) → H b = some (.tbl #[])) → codeAny (model P w) callerA (.call (.ref fa) ⟨[.ref a], []⟩) (Good1 s1) s1 := fun H st tb =>
    run1 st T KX G1 G2 G3 G4 G5 obj room F bind (prom H (fun b => by
      rcases st.only b with z | z | z
      · exact .inl z
      · exact .inr (.inl ⟨_, tb b z⟩)
      · exact .inr (.inr z)) st.tab st.sq)
  cases look : K.lookup a with
  | some o =>
    have eo := KX a o look
    rw [obj] at eo
    cases eo
    let H : Hp := fun b => if b ∈ cs.map (·.2) then some (.tbl #[]) else none
    have Ht : ∀ b, b ∈ cs.map (·.2) → H b = some (.tbl #[]) := fun b hb => if_pos hb
    have Hn : ∀ b, b ∉ cs.map (·.2) → H b = none := fun b hb => if_neg hb
    refine all H ⟨fun p hp => Ht _ (memT p hp), fun b => ?_, .inr ⟨_, vs.toArray, _, look, rfl, rfl, rfl, by rw [List.size_toArray, lv]; exact hl, rel⟩, fun b u hu => ?_, fun b hb => ?_, fun z => (z (Hn a aT)).elim⟩ Ht
    · by_cases hb : b ∈ cs.map (·.2)
      · exact .inr (.inl hb)
      · exact .inl (Hn b hb)
    · by_cases hb : b ∈ cs.map (·.2)
      · rw [Ht b hb] at hu
        cases hu
        exact T.at_ hb
      · rw [Hn b hb] at hu; cases hu
    · by_cases hb2 : b ∈ cs.map (·.2)
      · exact .inr hb2
      · exact (hb (Hn b hb2)).elim
  | none =>
    let o : Obj := { cls := .type "list", data := .seq vs.toArray }
    let H : Hp := fun b => if b = a then some (.frz o (.lst (ns.map V.int))) else if b ∈ cs.map (·.2) then some (.tbl #[]) else none
    have Ha : H a = some (.frz o (.lst (ns.map V.int))) := if_pos rfl
    have Ht : ∀ b, b ∈ cs.map (·.2) → H b = some (.tbl #[]) := fun b hb => (if_neg (show ¬ b = a from fun z => aT (z ▸ hb))).trans (if_pos hb)
    have Hn : ∀ b, b ≠ a → b ∉ cs.map (·.2) → H b = none := fun b h1 h2 => (if_neg h1).trans (if_neg h2)
    refine all H ⟨fun p hp => Ht _ (memT p hp), fun b => ?_, .inl (.inr ⟨o, Ha⟩), fun b u hu => ?_, fun b hb => ?_, fun _ => look⟩ Ht
    · by_cases e : b = a
      · subst e; exact .inr (.inr ⟨_, _, Ha⟩)
      · by_cases hb : b ∈ cs.map (·.2)
        · exact .inr (.inl hb)
        · exact .inl (Hn b e hb)
    · by_cases e : b = a
      · subst e
        rw [Ha] at hu
        cases hu
        exact ⟨obj, by rw [List.length_map]; exact hl, vs, _, rel, obj⟩
      · by_cases hb : b ∈ cs.map (·.2)
        · rw [Ht b hb] at hu
          cases hu
          exact T.at_ hb
        · rw [Hn b e hb] at hu; cases hu
    · by_cases e : b = a
      · exact .inl e
      · by_cases hb2 : b ∈ cs.map (·.2)
        · exact .inr hb2
        · exact (hb (Hn b e hb2)).elim
end
/-- what is known at the head's heap h -/
def AtHead (K : PySem.W.Frag) (P : Program) (w : World) (mg : Str → Option Value) (k n : Nat) (x : Str) (fa : Addr) (h : Heap) (fd : FuncData) (sp : Sp) (cs : List (Addr × Addr)) : Prop :=
  K.In h ∧ (∀ p ∈ cs, h.get? p.2 = some { cls := .none, data := .fields #[] } ∧ K.lookup p.2 = none ∧ PySem.W.CodeHd h p.1 p.2) ∧ (∀ (s : Shared) (u : Value), BindsTo s fd ⟨[u], []⟩ [(x, u)]) ∧
    (∀ (H : Hp) (a : Addr) (ns : List Int), ns.length ≤ n → OnlyT H → (∀ p ∈ cs, H p.2 = some (.tbl #[])) → SqL K H a (ns.map V.int) → sp [.ref a] H (fun v _ => v = .bl true) fun _ _ _ => False) ∧
    ∀ base : Heap, K.In base → base.Ns mainGlobals mg → (∀ p ∈ cs, LamX.TabB base mg p.1 p.2) → FnG P w K mg base k fa fd [x] sp
/-- what k_head leaves, from the promise of the law's def -/
theorem walk1 {l : PySem.W.OpenLaw} {n k : Nat} {q : Program} {loose : List Str} {XP : (Str → Option Value) → Heap → Prop} {YP : World → Heap → Prop} {d : DefRec} {x : Str} (hn : l.most = some n) (hz : n ≤ sizeLine) (hd : d.params.defaults = []) (room : Room k callerA)
    (F : ∀ (w : World) (mg : Str → Option Value) (fa : Addr) (h : Heap), YP w h → h.Ns mainGlobals mg → mg d.name = some (.ref fa) → ∃ (K : PySem.W.Frag) (fd : FuncData) (sp : Sp) (cs : List (Addr × Addr)), AtHead K l.prog w mg k n x fa h fd sp cs) :
    PySem.W.WalkO q loose XP YP l.row.toRowW d [] (fun f vs => PySem.call f vs) := by
  refine Att.attach_callB hn hd ?_
  intro w s0 s1 mg mb fa o pm cd doc a vs ns G Y _ _ _ hmg obj intsA hlen _ gens
  obtain ⟨K, fd, sp, cs, KX, tabs, bind, prom, hF⟩ := F w mg fa _ Y G.T.g hmg
  exact law1 ⟨fun p hp => (tabs p hp).1, fun p hp => (tabs p hp).2.1, fun p hp => (tabs p hp).2.2, G.T.bmain⟩ KX G.T.g G.T.b G.T.builtins G.T.nolimit gens obj intsA (Nat.le_trans hlen hz) room hF bind fun H h1 h2 h3 => prom H a ns hlen h1 h2 h3
/-- the promise of the law's def, from the evaluator's answer -/
theorem prom1 {K : PySem.W.Frag} {Δ : List Dn} {Wf k f : Nat} {at_ : Nat → Str} {cl : Nat → Addr} {H : Hp} {a : Addr} {ns : List Int} {μ' : Mem} (ho : OnlyT H) (ht : ∀ nm ∈ lamNames, hasTab K nm = true → H (He.cT K (nm, none)).2 = some (.tbl #[])) (hs : SqL K H a (ns.map V.int)) (h : callF Δ Wf k f [.scr ns] [] = .ok (.bl true) μ') :
    spF K (cfK Δ Wf at_ cl [] k) f [.ref a] H (fun v _ => v = .bl true) fun _ _ _ => False := by
  have rd : Rds K [] H (.scr ns) (.ref a) [] := by
    refine ⟨a, rfl, rfl, ?_⟩
    rcases hs with (z | ⟨o, z⟩) | ⟨o, its, m, h1, h2, h3, h4, h5, h6⟩
    · rcases ho a with e | ⟨ps, e⟩ | ⟨o, xs, e⟩
      · rw [z] at e; cases e
      · rw [z] at e; cases e
      · rw [z] at e; cases e
    · exact .inl ⟨o, z⟩
    · exact .inr ⟨o, its, m, h1, h2, h3, h4, h5, h6⟩
  have bx : BoxOk K [] H [] (fun _ => []) := ⟨rfl, fun k t e => by simp at e, fun k l _ h1 => by simp at h1, fun p hp => by
    obtain ⟨nm, hn, rfl⟩ := List.mem_map.mp hp
    obtain ⟨h1, h2⟩ := List.mem_filter.mp hn
    exact LamX.TabS.nil (ht nm h1 h2)⟩
  refine ⟨[.scr ns], [], [], fun _ => [], [], bx, RdsL.one.mpr ⟨_, rfl, rd⟩, (fun _ z => by cases z), ?_⟩
  show Sat (callF Δ Wf k f [.scr ns] []) _ _
  rw [h]
  intro v H' bn' m _ R
  exact R.rd.1
end MP

/-! C30: from the head's facts to the defs' promises; the law's end. -/
namespace MP
open PySem PySem.Spec PyProof.Rows L2
/-- a def's names -/
def scB (N ps : List Str) (sc : Scope) : Bool := decide (sc.kind = .function) && !sc.isCoroutine && !sc.isGenerator && decide N.Nodup && decide (N.take ps.length = ps) && ps.all (isLocC sc) && sc.names.all fun y => y.2 != .free
theorem scB_ok {N ps : List Str} {sc : Scope} (h : scB N ps sc = true) : FnScope N ps sc := by
  simp only [scB, Bool.and_eq_true, decide_eq_true_eq, Bool.not_eq_true', List.all_eq_true] at h
  obtain ⟨⟨⟨⟨⟨⟨h1, h2⟩, h3⟩, h4⟩, h5⟩, h6⟩, h7⟩ := h
  refine ⟨h1, h2, h3, h4, h5, fun x hx => ?_, fun y hy z => ?_⟩
  · have := h6 x hx
    unfold isLocC at this
    split at this
    · rename_i e; exact .inl e
    · rename_i e; exact .inr e
    · cases this
  · have := h7 y hy
    rw [z] at this
    cases this
/-- an error class's __init__, the def that tells, as defs -/
def Xd.dd (d : Xd) : He.DefD := ⟨(d.nm, some "__init__"), "__init__", d.nm ++ ".__init__", d.prm, d.body, d.sc, [], []⟩
def Md.dd (m : Md) : He.DefD := ⟨(m.mi.nm, none), m.mi.nm, m.mi.nm, m.prm, m.body, m.sc, [], []⟩
def Xt.dds (x : Xt) : List He.DefD := x.xs.map Xd.dd ++ x.met.toList.map Md.dd
def defsD (fs : List Fi) (ds : List Df) (xt : Xt) : List He.DefD := List.zipWith (fun fi D => ⟨(fi.nm, none), fi.nm, fi.nm, D.prm, D.body, D.sc, [], []⟩) fs ds ++ xt.dds
/-- an own class over ValueError, by the written part -/
def oexB (K : PySem.W.Frag) (C : Addr) : Bool := (match K.lookup C with
  | some ⟨.type "type", _, .cls cd, sl⟩ => (match cd.mro, sl.toList with
    | .ref c2 :: bm, [_, _, _, _, some (.builtin n), _] => c2 == C && n == "ValueError.__new__" && !cd.hasDel && cd.hasDict && PySem.HandSPX.refsVE bm
    | _, _ => false)
  | _ => false) && decide (PySem.W.findIn K (.ref C) "__setattr__" = some (some (.builtin "object.__setattr__"))) && decide (PySem.W.subIn K (.ref C) (.type "BaseException") = some true) && decide (PySem.W.typeIn K (.ref C) = some (.type "type")) && PySem.W.keepIn K (.ref C)
theorem oexB_ok {K : PySem.W.Frag} {C : Addr} (h : oexB K C = true) : OexC K C := by
  unfold oexB at h
  simp only [Bool.and_eq_true, decide_eq_true_eq] at h
  obtain ⟨⟨⟨⟨h1, h2⟩, h3⟩, h4⟩, h5⟩ := h
  refine ⟨?_, h2, h3, h4, h5⟩
  split at h1
  · rename_i dd cd sl look
    split at h1
    · rename_i c2 bm k0 k1 k2 k3 n k5 hm hs
      simp only [Bool.and_eq_true, beq_iff_eq, Bool.not_eq_true'] at h1
      obtain ⟨⟨⟨⟨rfl, rfl⟩, q1⟩, q2⟩, q3⟩ := h1
      obtain ⟨nm, bs, mro, ns, qn, hd, sn, sub, ab, col, del⟩ := cd
      dsimp only at hm q1 q2
      subst hm q1 q2
      obtain ⟨l⟩ := sl
      dsimp only at hs
      subst hs
      exact ⟨nm, qn, ns, bs, bm, sn, sub, ab, col, dd, k0, k1, k2, k3, k5, look, q3⟩
    · cases h1
  · cases h1
/-- an error class, by the written part -/
def xdB (K : PySem.W.Frag) (d : Xd) : Bool := (He.Fa.glo d.nm).ok K && oexB K (He.ga K d.nm) && xfB K (He.ga K d.nm) && decide (PySem.W.findIn K (.ref (He.ga K d.nm)) d.fld = some none) &&
  decide (PySem.W.findIn K (.ref (He.ga K d.nm)) "__init__" = some (some (.ref (He.ma K (He.ga K d.nm) "__init__")))) && decide (PySem.W.typeIn K (.ref (He.ma K (He.ga K d.nm) "__init__")) = some (.type "function"))
/-- the def that tells, by the written part -/
def mdB (K : PySem.W.Frag) (m : Md) : Bool := (He.Fa.glo m.mi.nm).ok K
/-- what the head looks at besides -/
def exB (xt : Xt) (tf : List Str) (K : PySem.W.Frag) : Bool :=
  xt.xs.all (xdB K) && (List.range xt.xs.length).all (fun i => (List.range xt.xs.length).all fun j => (match xt.xs[i]?, xt.xs[j]? with
    | some d, some e => decide (PySem.W.exmOne K (.ref (He.ga K d.nm)) (.ref (He.ga K e.nm)) = some (i == j))
    | _, _ => false)) && xt.met.toList.all (mdB K) && lamNames.all (fun nm => !hasTab K nm || tf.contains nm) && xt.tfn.all (fun nm => lamNames.contains nm && tf.contains nm) && (tabL K).all (fun p => (tabL K).all fun q => !(p.1 == q.1) || p.2 == q.2)
def tfD (tf : List Str) : List He.Defn := tf.map fun nm => (nm, none)
/-- by the texts -/
def okXt (xt : Xt) : Bool := xt.xs.all (fun d => okInit d.N d.sc d.fld d.body && scB d.N d.N d.sc) && xt.met.toList.all (fun m => okMet m.N m.sc xt.nms m.mi m.body && Nat.beq m.N.length 2 && scB m.N (m.N.take 1) m.sc)
def factsD (fs : List Fi) (blt : List Str) : List He.Fa := fs.map (fun fi => .glo fi.nm) ++ blt.map .free
/-- all defs by their texts -/
def spAll (fs : List Fi) (blt : List Str) (sp : Option Nat) (ds : List Df) : Bool := match sp with
  | none => true
  | some si => (match fs[si]?, ds[si]? with
    | some fi, some D => okSp D.N D.sc blt fi.nm D.body && decide ((1, []) ∈ fi.sh) && Nat.beq fi.ps.length 1
    | _, _ => false)
def okAll (fs : List Fi) (blt : List Str) (sp : Option Nat) (xt : Xt) (ds : List Df) : Bool := okXt xt && spAll fs blt sp ds && Nat.ble ds.length 1000 && Nat.beq fs.length ds.length && (List.range fs.length).all fun f => (match fs[f]?, ds[f]? with
  | some fi, some D => okDf (ds.map (·.d)) fs blt sp xt f D && scB D.N fi.ps D.sc
  | _, _ => false)
/-- the __init__s, the def that tells bind -/
def BindsX (xt : Xt) : Prop := (∀ d ∈ xt.xs, ∀ (kV doc pm : Value) (an : Option Addr) (cdv ct : Value) (us : List Value), us.length = d.N.length → bindArgs (PySem.W.fnOf "__init__" (d.nm ++ ".__init__") d.prm d.body d.sc .none kV doc pm an cdv ct) ⟨us, []⟩ = pure (d.N.zip us)) ∧
  ∀ m, xt.met = some m → ∀ (kV doc pm : Value) (an : Option Addr) (cdv ct : Value) (us : List Value), us.length = 1 → bindArgs (PySem.W.fnOf m.mi.nm m.mi.nm m.prm m.body m.sc .none kV doc pm an cdv ct) ⟨us, []⟩ = pure ((m.N.take 1).zip us)
/-- calls bind -/
def Binds1 (fs : List Fi) (ds : List Df) : Prop := ∀ (f : Nat) (fi : Fi) (D : Df), fs[f]? = some fi → ds[f]? = some D → ∀ (n : Nat) (is : List Nat), (n, is) ∈ fi.sh → ∀ (kV doc pm : Value) (an : Option Addr) (cdv ct : Value) (us ws : List Value), us.length = n → ws.length = is.length →
  bindArgs (PySem.W.fnOf fi.nm fi.nm D.prm D.body D.sc .none kV doc pm an cdv ct) ⟨us, (kwN fi.ps is).zip ws⟩ = pure (fi.ps.zip (us ++ kwP n is ws))
section
variable {K : PySem.W.Frag} {w : World} {h : Heap} {mg : Str → Option Value} {fs : List Fi} {blt : List Str} {sp : Option Nat} {ds : List Df} {xt : Xt} {tf : List Str}
def faOf (K : PySem.W.Frag) (fs : List Fi) (f : Nat) : Addr := He.ga K (((fs[f]?).map (·.nm)).getD "")
def clOf (K : PySem.W.Frag) (xt : Xt) (c : Nat) : Addr := He.ga K (((xt.xs[c]?).map (·.nm)).getD "")
theorem head_ok (cX : He.SaysX (factsD fs blt) (defsD fs ds xt) [] (tfD tf) (exB xt tf) w h K) (X : K.In h) (G : h.Ns mainGlobals mg) (ok : okAll fs blt sp xt ds = true) (bd : Binds1 fs ds) (bx : BindsX xt) :
    ∃ fd : Nat → FuncData, HeadOk K mg (ds.map (·.d)) fs blt sp ds (faOf K fs) fd xt (clOf K xt) := by
  have c := cX.t.d
  unfold okAll at ok
  rw [Bool.and_eq_true, Bool.and_eq_true, Bool.and_eq_true, Bool.and_eq_true, List.all_eq_true] at ok
  obtain ⟨⟨⟨⟨hxt, hsp⟩, hfew⟩, hl⟩, ok⟩ := ok
  have hl := Nat.eq_of_beq_eq_true hl
  have look : ∀ (f : Nat) (fi : Fi), fs[f]? = some fi → ∃ D, ds[f]? = some D ∧ okDf (ds.map (·.d)) fs blt sp xt f D = true ∧ scB D.N fi.ps D.sc = true := fun f fi hf => by
    have hlt : f < fs.length := (List.getElem?_eq_some_iff.mp hf).1
    have q := ok f (List.mem_range.mpr hlt)
    rw [hf] at q
    cases hD : ds[f]? with
    | none => rw [hD] at q; cases q
    | some D =>
      rw [hD] at q
      have q : (okDf (ds.map (·.d)) fs blt sp xt f D && scB D.N fi.ps D.sc) = true := q
      rw [Bool.and_eq_true] at q
      exact ⟨D, rfl, q.1, q.2⟩
  have ex : ∀ f : Nat, ∃ fd : FuncData, ∀ fi D, fs[f]? = some fi → ds[f]? = some D → FunD K fi.nm fi.nm D.prm D.body D.sc [] [] (faOf K fs f) fd := fun f => by
    cases hf : fs[f]? with
    | none => exact ⟨PySem.W.fnOf "" "" ⟨[], [], none, [], [], none, []⟩ [] ⟨.function, [], false, false, []⟩ .none .none .none .none none .none .none, fun fi D h => by cases h⟩
    | some fi =>
      obtain ⟨D, hD, _, _⟩ := look f fi hf
      have hd : (defsD fs ds xt)[f]? = some ⟨(fi.nm, none), fi.nm, fi.nm, D.prm, D.body, D.sc, [], []⟩ := by
        have hf1 : f < fs.length := (List.getElem?_eq_some_iff.mp hf).1
        unfold defsD
        rw [List.getElem?_append_left (by rw [List.length_zipWith]; omega), List.getElem?_zipWith, hf, hD]
      obtain ⟨fd, F⟩ := c.def_ f hd
      refine ⟨fd, fun fi' D' h1 h2 => ?_⟩
      cases h1
      rw [hD] at h2
      cases h2
      have e : faOf K fs f = He.fAd K (fi.nm, none) := by
        unfold faOf
        rw [hf] <;> rfl
      rw [e]
      exact F
  obtain ⟨fd, hfd⟩ := Classical.axiomOfChoice ex
  -- what the head looks at besides
  have hex := cX.more
  unfold exB at hex
  simp only [Bool.and_eq_true, List.all_eq_true] at hex
  obtain ⟨⟨⟨⟨⟨x1, x2⟩, x3⟩, x4⟩, x5⟩, x6⟩ := hex
  unfold okXt at hxt
  simp only [Bool.and_eq_true, List.all_eq_true] at hxt
  obtain ⟨t1, t2⟩ := hxt
  have clE : ∀ (c : Nat) (d : Xd), xt.xs[c]? = some d → clOf K xt c = He.ga K d.nm := fun c d hd => by unfold clOf; rw [hd] <;> rfl
  have at_ : ∀ (c : Nat) (x f : Str), xt.nms[c]? = some (x, f) → ∃ d, xt.xs[c]? = some d ∧ d ∈ xt.xs ∧ x = d.nm ∧ f = d.fld := fun c x f hq => by
    unfold Xt.nms at hq
    rw [List.getElem?_map] at hq
    obtain ⟨d, hd, e⟩ := Option.map_eq_some_iff.mp hq
    cases e
    exact ⟨d, hd, List.mem_of_getElem? hd, rfl, rfl⟩
  have xf : ∀ d ∈ xt.xs, mg d.nm = some (.ref (He.ga K d.nm)) ∧ OexC K (He.ga K d.nm) ∧ XfC K (He.ga K d.nm) ∧ PySem.W.findIn K (.ref (He.ga K d.nm)) d.fld = some none ∧
      PySem.W.findIn K (.ref (He.ga K d.nm)) "__init__" = some (some (.ref (He.ma K (He.ga K d.nm) "__init__"))) ∧ PySem.W.typeIn K (.ref (He.ma K (He.ga K d.nm) "__init__")) = some (.type "function") := fun d hd => by
    have q := x1 d hd
    unfold xdB at q
    simp only [Bool.and_eq_true, decide_eq_true_eq] at q
    obtain ⟨⟨⟨⟨⟨q1, q2⟩, q3⟩, q4⟩, q5⟩, q6⟩ := q
    exact ⟨He.glo_ok X G q1, oexB_ok q2, xfB_ok q3, q4, q5, q6⟩
  refine ⟨fd, fun f fi hf => ?_, fun f fi hf => ?_, fun nm hn => ?_, fun f fi hf n is hs s us ws l1 l2 => ?_, fun si fi D h1 h2 h3 => ?_, ?_, ?_, fun i0 q hq => ?_, fun m hm => ?_, fun nm hn => ?_, fun p hp q hq e => ?_, fun f fi hf => ?_⟩
  · obtain ⟨D, hD, o1, o2⟩ := look f fi hf
    exact ⟨D, hD, by rw [List.getElem?_map, hD] <;> rfl, o1, scB_ok o2, _, hfd f fi D hf hD⟩
  · have hm : He.Fa.glo fi.nm ∈ factsD fs blt := List.mem_append_left _ (List.mem_map.mpr ⟨fi, List.mem_of_getElem? hf, rfl⟩)
    obtain ⟨i, hi, e⟩ := List.mem_iff_getElem.mp hm
    have := He.glo_ok X G (c.fact i (f := .glo fi.nm) (by rw [List.getElem?_eq_getElem hi, e]))
    rw [this]
    unfold faOf
    rw [hf] <;> rfl
  · have hm : He.Fa.free nm ∈ factsD fs blt := List.mem_append_right _ (List.mem_map.mpr ⟨nm, hn, rfl⟩)
    obtain ⟨i, hi, e⟩ := List.mem_iff_getElem.mp hm
    exact He.free_ok X G (c.fact i (f := .free nm) (by rw [List.getElem?_eq_getElem hi, e]))
  · obtain ⟨D, hD, _, _⟩ := look f fi hf
    obtain ⟨oc, od, dV, kV, doc, pm, an, cdv, ct, osl, e, _, _, hdv, _⟩ := (hfd f fi D hf hD).ex
    rw [e]
    rcases hdv with ⟨_, rfl⟩ | ⟨z, _⟩
    · exact .of_eq (bd f fi D hf hD n is hs kV doc pm an cdv ct us ws l1 l2)
    · exact absurd rfl z
  · subst h1
    have hsp : (match fs[si]?, ds[si]? with
      | some fi, some D => okSp D.N D.sc blt fi.nm D.body && decide ((1, []) ∈ fi.sh) && Nat.beq fi.ps.length 1
      | _, _ => false) = true := hsp
    rw [h2, h3] at hsp
    have hsp : (okSp D.N D.sc blt fi.nm D.body && decide ((1, []) ∈ fi.sh) && Nat.beq fi.ps.length 1) = true := hsp
    rw [Bool.and_eq_true, Bool.and_eq_true, decide_eq_true_eq] at hsp
    exact ⟨hsp.1.1, hsp.1.2, Nat.eq_of_beq_eq_true hsp.2⟩
  · have := Nat.le_of_ble_eq_true hfew
    exact List.getElem?_eq_none (by rw [List.length_map]; show _ ≤ 1000000; omega)
  · refine ⟨fun c x f hq => ?_, fun c c' h1 h2 => ?_⟩
    · obtain ⟨d, hd, md, rfl, rfl⟩ := at_ c x f hq
      obtain ⟨q1, q2, q3, q4, _, _⟩ := xf d md
      rw [clE c d hd]
      exact ⟨q1, q3, q2, q4⟩
    · unfold Xt.nms at h1 h2
      rw [List.length_map] at h1 h2
      have q := x2 c (List.mem_range.mpr h1) c' (List.mem_range.mpr h2)
      rw [List.getElem?_eq_getElem h1, List.getElem?_eq_getElem h2] at q
      have q := of_decide_eq_true q
      rw [clE c _ (List.getElem?_eq_getElem h1), clE c' _ (List.getElem?_eq_getElem h2)]
      exact q
  · obtain ⟨x, f⟩ := q
    obtain ⟨d, hd, md, rfl, rfl⟩ := at_ i0 x f hq
    obtain ⟨q1, q2, q3, q4, q5, q6⟩ := xf d md
    show RsF K mg (clOf K xt i0) d.nm d.fld
    rw [clE i0 d hd]
    have inD : Xd.dd d ∈ defsD fs ds xt := List.mem_append_right _ (List.mem_append_left _ (List.mem_map.mpr ⟨d, md, rfl⟩))
    obtain ⟨fdI, FI⟩ := c.defs inD
    have k := t1 d md
    refine ⟨q1, q2, q4, _, fdI, _, d.prm, d.body, d.sc, d.N, q5, q6, FI, scB_ok k.2, k.1, ?_⟩
    obtain ⟨oc, od, dV, kV, doc, pm, an, cdv, ct, osl, e, _, _, hdv, _⟩ := FI.ex
    rw [e]
    rcases hdv with ⟨_, rfl⟩ | ⟨z, _⟩
    · exact .all fun us hu => bx.1 d md kV doc pm an cdv ct us hu
    · exact absurd rfl z
  · have k3 := x3 m (by rw [hm]; exact List.mem_cons_self)
    have k := t2 m (by rw [hm]; exact List.mem_cons_self)
    have inD : Md.dd m ∈ defsD fs ds xt := List.mem_append_right _ (List.mem_append_right _ (List.mem_map.mpr ⟨m, by rw [hm]; exact List.mem_cons_self, rfl⟩))
    obtain ⟨fdM, FM⟩ := c.defs inD
    have hN : m.N.length = 2 := Nat.eq_of_beq_eq_true k.1.2
    obtain ⟨a, n, eN⟩ : ∃ a n, m.N = [a, n] := by
      match hm : m.N, hN with
      | [a, n], _ => exact ⟨a, n, rfl⟩
    have sc := scB_ok k.2
    have kx := bx.2 m hm
    rw [eN] at sc kx
    have okm := k.1.1
    rw [eN] at okm
    have kp := FM.kp
    obtain ⟨oc, od, dV, kV, doc, pm, an, cdv, ct, osl, e, lk, cd, hdv, _⟩ := FM.ex
    subst e
    rcases hdv with ⟨_, rfl⟩ | ⟨z, _⟩
    · exact ⟨_, m.prm, m.body, m.sc, .none, kV, doc, pm, cdv, ct, oc, an, od, osl, [a, n], a, He.glo_ok X G k3, kp, lk, cd, .all fun us hu => kx kV doc pm an cdv ct us hu, sc, rfl, okm⟩
    · exact absurd rfl z
  · have k := x5 nm (by simpa using hn)
    refine ⟨by simpa using k.1, ?_⟩
    exact cX.hd (nm, none) (List.mem_map.mpr ⟨nm, by simpa using k.2, rfl⟩)
  · have k := x6 p hp q hq
    simp only [Bool.or_eq_true, Bool.not_eq_true', beq_eq_false_iff_ne, beq_iff_eq] at k
    rcases k with k | k
    · exact absurd e k
    · exact k
  · unfold faOf
    rw [hf] <;> rfl
/-- the tables that are tracked -/
def csOf (K : PySem.W.Frag) : List (Addr × Addr) := (lamNames.filter (hasTab K)).map fun nm => He.cT K (nm, none)
/-- the law's def keeps its promise, whatever the base -/
theorem law_F {P : Program} {Wf k f : Nat} {fa : Addr} {x nm : Str} {sh : List (Nat × List Nat)} (cX : He.SaysX (factsD fs blt) (defsD fs ds xt) [] (tfD tf) (exB xt tf) w h K) (X : K.In h) (G : h.Ns mainGlobals mg) (ok : okAll fs blt sp xt ds = true) (bd : Binds1 fs ds) (bx : BindsX xt)
    (hf : fs[f]? = some ⟨nm, [x], sh⟩) (hfa : mg nm = some (.ref fa)) (h1 : (1, []) ∈ sh) (plain : ∀ ns : List Int, ns.length ≤ 63 → ∃ μ, callF (ds.map (·.d)) Wf k f [.scr ns] [] = .ok (.bl true) μ) :
    ∃ (K : PySem.W.Frag) (fd : FuncData) (sp : Sp) (cs : List (Addr × Addr)), AtHead K P w mg (3 * k) 63 x fa h fd sp cs := by
  obtain ⟨fd, hd⟩ := head_ok cX X G ok bd bx
  have e := hd.gl f _ hf
  have e : mg nm = some (.ref (faOf K fs f)) := e
  rw [hfa] at e
  obtain rfl : fa = faOf K fs f := by cases e; rfl
  have hex := cX.more
  unfold exB at hex
  simp only [Bool.and_eq_true, List.all_eq_true] at hex
  have inT : ∀ nm ∈ lamNames, hasTab K nm = true → ((nm, none) : He.Defn) ∈ tfD tf := fun nm h1 h2 => by
    have q := hex.1.1.2 nm h1
    rw [h2] at q
    exact List.mem_map.mpr ⟨nm, by simpa using q, rfl⟩
  refine ⟨K, fd f, spF K (cfK (ds.map (·.d)) Wf (xAt xt.nms) (clOf K xt) [] k) f, csOf K, X, fun p hp => ?_, fun s u => hd.bd f _ hf 1 [] h1 s [u] [] rfl rfl, fun H a ns hn ho ht hs => ?_, fun base _ _ tb => fns_ok hd (fun nm l1 l2 => tb _ (List.mem_map.mpr ⟨nm, List.mem_filter.mpr ⟨l1, l2⟩, rfl⟩)) k f _ hf⟩
  · obtain ⟨nm, hn, rfl⟩ := List.mem_map.mp hp
    obtain ⟨l1, l2⟩ := List.mem_filter.mp hn
    have i := inT nm l1 l2
    exact ⟨cX.empty _ i, cX.out _ i, PySem.W.codeHd_of_K X l2⟩
  · obtain ⟨μ, hμ⟩ := plain ns hn
    exact prom1 ho (fun nm l1 l2 => ht _ (List.mem_map.mpr ⟨nm, List.mem_filter.mpr ⟨l1, l2⟩, rfl⟩)) hs hμ
end
end MP

namespace Q
open PySem PyProof.Rows L2 MP
def top (i : Nat) : Stmt := PySem.Challenge.pw_fallrows_k37_whole_main_rows_pushed.main.body.getD i (.Pass ⟨0, 0, 0, 0⟩)
def inner (i j : Nat) : Stmt := (C8.clsBody (top i)).getD j (.Pass ⟨0, 0, 0, 0⟩)
def d_is_list : Dn := ⟨1, 1, [.S], .I, [(.ret (some (.isi (.var 0) [.list, .tuple] false)))]⟩
def d_is_whole : Dn := ⟨1, 1, [.S], .I, [(.ret (some (.bop true [(.isi (.var 0) [.int] true), (.nt (.isi (.var 0) [.bool] true))])))]⟩
def d_is_falling_of : Dn := ⟨1, 4, [.S, .S, .S, .S], .I, [(.iff (.bop false [(.nt (.call 0 [(.var 0)] [])), (.nt (.bi .all [(.lc (.bop true [(.call 1 [(.var 3)] []), (.cmp .gt (.var 3) (.cst (.int 0)))]) (.nm 3) (.seq (.var 0)) none)]))]) [(.ret (some (.cst (.bl false))))] []),
  (.ret (some (.bi .all [(.lc (.cmp .ge (.var 1) (.var 2)) (.tp [(.nm 1), (.nm 2)]) (.zip (.var 0) (.slc (.var 0) (some (.cst (.int 1))) none)) none)])))]⟩
def d_check_row : Dn := ⟨1, 1, [.S], .I, [(.iff (.nt (.call 2 [(.var 0)] [])) [(.raise 0 (.var 0))] [])]⟩
def d_check_number : Dn := ⟨1, 1, [.S], .I, [(.iff (.bop false [(.nt (.call 1 [(.var 0)] [])), (.cmp .lt (.var 0) (.cst (.int 0)))]) [(.raise 1 (.var 0))] [])]⟩
def d_rank_of : Dn := ⟨1, 1, [.S], .I, [(.ret (some (.ite (.cmp .gt (.bi .len [(.var 0)]) (.cst (.int 0))) (.bin .sub (.sub (.var 0) (.cst (.int 0))) (.bi .len [(.var 0)])) (.cst (.int 0)))))]⟩
def d_pushed : Dn := ⟨2, 4, [.S, .S, .S, .S], .D, [(.ex (.call 3 [(.var 0)] [])),
  (.ex (.call 4 [(.var 1)] [])),
  (.iff (.cmp .gt (.call 5 [(.var 0)] []) (.bin .add (.var 1) (.cst (.int 1)))) [(.raise 2 (.call 5 [(.var 0)] []))] []),
  (.asg 2 (.bin .add (.bi .len [(.var 0)]) (.var 1)) []),
  (.ret (some (.bin .add (.ite (.cmp .gt (.var 2) (.cst (.int 0))) (.lst [(false, (.imm (.var 2)))]) (.lst [])) (.lc (.bin .sub (.var 3) (.cst (.int 1))) (.nm 3) (.seq (.var 0)) (some (.cmp .gt (.var 3) (.cst (.int 1))))))))]⟩
def d_pulled : Dn := ⟨2, 4, [.S, .S, .S, .S], .D, [(.ex (.call 3 [(.var 0)] [])),
  (.ex (.call 4 [(.var 1)] [])),
  (.iff (.bop false [(.cmp .lt (.call 5 [(.var 0)] []) (.bin .sub (.var 1) (.cst (.int 1)))), (.bop true [(.cmp .eq (.bi .len [(.var 0)]) (.cst (.int 0))), (.cmp .gt (.var 1) (.cst (.int 0)))])]) [(.raise 3 (.call 5 [(.var 0)] []))] []),
  (.iff (.cmp .eq (.bi .len [(.var 0)]) (.cst (.int 0))) [(.ret (some (.lst [])))] []),
  (.asg 2 (.lc (.bin .add (.var 3) (.cst (.int 1))) (.nm 3) (.seq (.slc (.var 0) (some (.cst (.int 1))) none)) none) []),
  (.ret (some (.flat (.bin .add (.flat (.var 2)) (.flat (.bin .mul (.lst [(false, (.cst (.int 1)))]) (.bin .sub (.bin .sub (.sub (.var 0) (.cst (.int 0))) (.var 1)) (.bi .len [(.var 2)]))))))))]⟩
def d__law_stream : Dn := ⟨1, 1, [.S], .D, [(.ret (some (.lst [(false, (.flat (.bi .list [(.var 0)]))), (false, (.cst (.int 0))), (false, (.cst (.int 0))), (false, (.cst (.int 19)))])))]⟩
def d__law_draw : Dn := ⟨2, 5, [.S, .S, .S, .S, .S], .I, [(.bset 0 (.cst (.int 2)) (.imm (.bin .add (.sub (.var 0) (.cst (.int 2))) (.cst (.int 1))))),
  (.wh (.bop true [(.cmp .eq (.sub (.var 0) (.cst (.int 1))) (.cst (.int 0))), (.neNil 0 (.cst (.int 0)))]) [(.asg 3 (.bi .abs [(.popAt 0 (.cst (.int 0)) (.cst (.int 0)))]) []), (.bset 0 (.cst (.int 3)) (.imm (.bin .mod (.bi .int [(.bin .add (.bin .add (.bin .mul (.sub (.var 0) (.cst (.int 3))) (.cst (.int 6151))) (.var 3)) (.cst (.int 7)))]) (.cst (.int 2147483629))))), (.bset 0 (.cst (.int 1)) (.imm (.ite (.cmp .ge (.var 3) (.bin .pow (.cst (.int 10)) (.cst (.int 18)))) (.imm (.var 3)) (.imm (.cst (.int 0))))))]),
  (.iff (.cmp .gt (.sub (.var 0) (.cst (.int 1))) (.cst (.int 0))) [(.asg 4 (.bin .mod (.bi .int [(.sub (.var 0) (.cst (.int 1)))]) (.var 1)) []), (.bset 0 (.cst (.int 1)) (.imm (.bin .fdiv (.sub (.var 0) (.cst (.int 1))) (.var 1)))), (.ret (some (.var 4)))] []),
  (.asg 2 (.bin .mod (.bi .int [(.bin .pow (.bin .add (.bin .add (.sub (.var 0) (.cst (.int 3))) (.bin .mul (.cst (.int 8191)) (.sub (.var 0) (.cst (.int 2))))) (.cst (.int 50021))) (.cst (.int 5)))]) (.cst (.int 2147483587))) []),
  (.ret (some (.bin .mod (.bin .mod (.bi .int [(.bin .pow (.bin .add (.bin .add (.bin .mul (.var 2) (.cst (.int 40009))) (.bin .mul (.cst (.int 20011)) (.sub (.var 0) (.cst (.int 2))))) (.cst (.int 31))) (.cst (.int 3)))]) (.cst (.int 1000000009))) (.var 1))))]⟩
def d__law_pick : Dn := ⟨2, 2, [.S, .S], .S, [(.ret (some (.sub (.var 1) (.call 9 [(.var 0), (.bi .len [(.var 1)])] []))))]⟩
def d__law_same : Dn := ⟨2, 4, [.S, .S, .S, .S], .I, [(.iff (.isi (.var 1) [.list, .tuple] false) [(.iff (.bop false [(.cmp .ne (.isi (.var 0) [.list] true) (.isi (.var 1) [.list] true)), (.cmp .ne (.isi (.var 0) [.tuple] true) (.isi (.var 1) [.tuple] true))]) [(.ret (some (.cst (.bl false))))] []), (.ret (some (.bop true [(.cmp .eq (.bi .len [(.var 0)]) (.bi .len [(.var 1)])), (.bi .all [(.lc (.call 11 [(.var 2), (.var 3)] []) (.tp [(.nm 2), (.nm 3)]) (.zip (.var 0) (.var 1)) none)])])))] []),
  (.iff (.isi (.var 1) [.dict] true) [(.ret (some (.bop true [(.isi (.var 0) [.dict] true), (.call 11 [(.itm (.var 0)), (.itm (.var 1))] [])])))] []),
  (.iff (.bop false [(.isi (.var 1) [.bool] true), (.isi (.var 0) [.bool] true)]) [(.ret (some (.bop true [(.isi (.var 1) [.bool] true), (.isi (.var 0) [.bool] true), (.cmp .eq (.var 0) (.var 1))])))] []),
  (.iff (.bop false [(.cmp .isN (.var 1) (.cst .non)), (.cmp .isN (.var 0) (.cst .non))]) [(.ret (some (.bop true [(.cmp .isN (.var 1) (.cst .non)), (.cmp .isN (.var 0) (.cst .non))])))] []),
  (.iff (.bop false [(.cmp .ne (.isi (.var 1) [.int] true) (.isi (.var 0) [.int] true)), (.cmp .ne (.isi (.var 1) [.str] true) (.isi (.var 0) [.str] true))]) [(.ret (some (.cst (.bl false))))] []),
  (.ret (some (.bop true [(.nt (.isi (.var 0) [.list, .tuple, .dict] false)), (.cmp .eq (.var 0) (.var 1))])))]⟩
def d__law_loose : Dn := ⟨2, 4, [.S, .S, .D, .S], .D, [(.iff (.isi (.var 1) [.list, .tuple] false) [(.asg 2 (.lc (.call 12 [(.var 0), (.var 3)] []) (.nm 3) (.seq (.var 1)) none) []), (.ret (some (.ite (.cmp .eq (.call 9 [(.var 0), (.cst (.int 2))] []) (.cst (.int 0))) (.var 2) (.bi .tuple [(.var 2)]))))] []),
  (.ret (some (.imm (.var 1))))]⟩
def d__law_copied : Dn := ⟨1, 4, [.S, .D, .S, .S], .D, [(.iff (.isi (.var 0) [.list, .tuple] false) [(.asg 1 (.lc (.call 13 [(.var 2)] []) (.nm 2) (.seq (.var 0)) none) []), (.ret (some (.ite (.isi (.var 0) [.list] true) (.var 1) (.bi .tuple [(.var 1)]))))] []),
  (.iff (.isi (.var 0) [.dict] true) [(.ret (some (.bi .dict [(.lc (.tup [(.imm (.var 3)), (.call 13 [(.sub (.var 0) (.var 3))] [])]) (.nm 3) (.keys (.var 0)) none)])))] []),
  (.ret (some (.imm (.var 0))))]⟩
def d__law_spoilt : Dn := ⟨1, 3, [.S, .S, .D], .I, [.never,
  .never,
  .never]⟩
def d__law_rows : Dn := ⟨1, 7, [.S, .P, .P, .S, .S, .S, .S], .P, [(.asg 1 (.lst [(false, (.tup [(.lst []), (.var 0)]))]) []),
  (.asg 2 (.lst []) []),
  (.wh (.cmp .ne (.var 1) (.lst [])) [(.unp (.tp [(.nm 4), (.nm 5)]) (.sub (.var 1) (.un (.cst (.int 1)))) []), (.asg 1 (.ls (.slc (.var 1) none (some (.un (.cst (.int 1)))))) []), (.iff (.cmp .eq (.var 5) (.cst (.int 0))) [(.app 2 (.var 4) [])] []), (.asg 3 (.ite (.cmp .ne (.var 4) (.lst [])) (.bi .min2 [(.var 5), (.sub (.var 4) (.un (.cst (.int 1))))]) (.var 5)) []), (.ext 1 (.lc (.tup [(.bin .add (.var 4) (.lst [(false, (.var 6))])), (.bin .sub (.var 5) (.var 6))]) (.nm 6) (.rng2 (.cst (.int 1)) (.bin .add (.var 3) (.cst (.int 1)))) none) [])]),
  (.ret (some (.var 2)))]⟩
def d__law_row : Dn := ⟨2, 8, [.S, .S, .S, .S, .S, .D, .S, .S], .D, [(.par [3, 4, 5] [(.call 9 [(.var 0), (.bin .add (.var 1) (.cst (.int 1)))] []), (.call 9 [(.var 0), (.cst (.int 5))] []), (.lst [])] []),
  (.asg 2 (.sub (.lst [(false, (.cst (.int 3))), (false, (.cst (.int 9))), (false, (.bin .add (.var 1) (.cst (.int 1)))), (false, (.cst (.int 2))), (false, (.bin .add (.var 1) (.cst (.int 1))))]) (.var 4)) []),
  (.iff (.cmp .eq (.var 4) (.cst (.int 2))) [(.asg 6 (.bin .add (.cst (.int 1)) (.call 9 [(.var 0), (.cst (.int 9))] [])) []), (.ret (some (.ite (.cmp .lt (.bin .mul (.var 6) (.var 6)) (.var 1)) (.lc (.imm (.var 7)) (.nm 7) (.rng3 (.var 6) (.cst (.int 0)) (.un (.cst (.int 1)))) (some (.cmp .gt (.bin .mul (.var 7) (.cst (.int 2))) (.call 9 [(.var 0), (.bin .add (.var 6) (.cst (.int 1)))] [])))) (.lst [(false, (.cst (.int 1)))]))))] []),
  (.wh (.cmp .gt (.var 3) (.cst (.int 0))) [(.asg 7 (.bin .add (.cst (.int 1)) (.call 9 [(.var 0), (.bi .min2 [(.var 3), (.var 2)])] [])) []), (.app 5 (.imm (.var 7)) []), (.asg 3 (.bin .sub (.var 3) (.var 7)) [])]),
  (.ret (some (.rev (.bi .sorted [(.var 5)]))))]⟩
def d__law_rank : Dn := ⟨1, 1, [.S], .I, [(.ret (some (.bin .sub (.ite (.cmp .gt (.bi .len [(.var 0)]) (.cst (.int 0))) (.sub (.var 0) (.cst (.int 0))) (.cst (.int 0))) (.bi .len [(.var 0)]))))]⟩
def d__law_pushed : Dn := ⟨2, 4, [.S, .S, .S, .S], .D, [(.asg 2 (.bin .add (.bi .len [(.var 0)]) (.var 1)) []),
  (.ret (some (.bin .add (.ite (.cmp .gt (.var 2) (.cst (.int 0))) (.lst [(false, (.imm (.var 2)))]) (.lst [])) (.lc (.bin .sub (.var 3) (.cst (.int 1))) (.nm 3) (.seq (.var 0)) (some (.cmp .gt (.var 3) (.cst (.int 1))))))))]⟩
def d__law_met : Dn := ⟨1, 2, [.S, .S], .S, [.never]⟩
def d__law_pulled : Dn := ⟨2, 4, [.S, .S, .S, .S], .D, [(.iff (.cmp .eq (.var 0) (.lst [])) [(.ret (some (.lst [])))] []),
  (.asg 2 (.lc (.bin .add (.var 3) (.cst (.int 1))) (.nm 3) (.seq (.slc (.var 0) (some (.cst (.int 1))) none)) none) []),
  (.ret (some (.flat (.bin .add (.flat (.var 2)) (.flat (.bin .mul (.lst [(false, (.cst (.int 1)))]) (.bin .sub (.bin .sub (.sub (.var 0) (.cst (.int 0))) (.var 1)) (.bi .len [(.var 2)]))))))))]⟩
def d__law_asked_right : Dn := ⟨3, 9, [.S, .S, .S, .S, .D, .S, .S, .S, .S], .I, [(.unp (.tp [(.nm 6), (.nm 7)]) (.tup [(.call 12 [(.var 0), (.var 1)] []), (.call 17 [(.var 1)] [])]) []),
  (.par [8, 4] [(.bi .repr [(.var 6)]), (.lst [(false, (.met [2, 6] (.call 6 [(.var 6), (.var 2)] []) true [(2, "high"), (3, "low")] true))])] []),
  (.app 4 (.met [2, 6] (.call 6 [] [(1, (.var 2)), (0, (.var 6))]) true [(2, "high"), (3, "low")] true) []),
  (.asg 3 (.ite (.cmp .le (.var 7) (.bin .add (.var 2) (.cst (.int 1)))) (.lst [(false, (.cst (.str "told"))), (false, (.call 18 [(.var 1), (.var 2)] []))]) (.lst [(false, (.cst (.str "high"))), (false, (.var 7))])) []),
  (.iff (.nt (.call 11 [(.var 4), (.lst [(false, (.var 3)), (false, (.var 3))])] [])) [(.ret (some (.cst (.bl false))))] []),
  (.iff (.cmp .eq (.sub (.var 3) (.cst (.int 0))) (.cst (.str "told"))) [(.spoilP 4 0 1 1 1), (.iff (.nt (.call 11 [(.lst [(false, (.call 6 [(.var 6), (.var 2)] [])), (false, (.call 7 [(.call 13 [(.sub (.var 3) (.cst (.int 1)))] []), (.var 2)] []))]), (.lst [(false, (.sub (.var 3) (.cst (.int 1)))), (false, (.var 1))])] [])) [(.ret (some (.cst (.bl false))))] [])] []),
  (.asg 4 (.lst [(false, (.met [2, 6] (.call 7 [(.var 6), (.var 2)] []) true [(2, "high"), (3, "low")] true))]) []),
  (.app 4 (.met [2, 6] (.call 7 [] [(1, (.var 2)), (0, (.var 6))]) true [(2, "high"), (3, "low")] true) []),
  (.asg 5 (.bop false [(.cmp .lt (.var 7) (.bin .sub (.var 2) (.cst (.int 1)))), (.bop true [(.cmp .eq (.var 1) (.lst [])), (.cmp .gt (.var 2) (.cst (.int 0)))])]) []),
  (.asg 3 (.ite (.var 5) (.lst [(false, (.cst (.str "low"))), (false, (.var 7))]) (.lst [(false, (.cst (.str "told"))), (false, (.call 20 [(.var 1), (.var 2)] []))])) []),
  (.iff (.nt (.call 11 [(.var 4), (.lst [(false, (.var 3)), (false, (.var 3))])] [])) [(.ret (some (.cst (.bl false))))] []),
  (.iff (.nt (.var 5)) [(.spoilP 4 0 1 1 1), (.iff (.nt (.call 11 [(.lst [(false, (.call 7 [(.var 6), (.var 2)] [])), (false, (.call 6 [(.call 13 [(.sub (.var 3) (.cst (.int 1)))] []), (.var 2)] []))]), (.lst [(false, (.sub (.var 3) (.cst (.int 1)))), (false, (.var 1))])] [])) [(.ret (some (.cst (.bl false))))] [])] []),
  (.ret (some (.cmp .eq (.bi .repr [(.var 6)]) (.var 8))))]⟩
def d_law : Dn := ⟨1, 9, [.S, .D, .S, .S, .S, .S, .S, .S, .S], .I, [(.asg 1 (.call 8 [(.var 0)] []) []),
  (.mkbox 1),
  (.for (.nm 2) (.rng1 (.cst (.int 16))) [(.asg 5 (.ite (.cmp .gt (.var 2) (.cst (.int 0))) (.call 16 [(.imm (.var 1)), (.call 10 [(.imm (.var 1)), (.lst [(false, (.cst (.int 5))), (false, (.cst (.int 20))), (false, (.cst (.int 60)))])] [])] []) (.lst [])) []), (.asg 6 (.bi .min2 [(.cst (.int 60)), (.bi .max2 [(.cst (.int 0)), (.bin .sub (.bin .add (.call 17 [(.var 5)] []) (.call 9 [(.imm (.var 1)), (.cst (.int 5))] [])) (.cst (.int 2)))])]) []), (.iff (.nt (.call 21 [(.imm (.var 1)), (.var 5), (.call 10 [(.imm (.var 1)), (.lst [(false, (.var 6)), (false, (.cst (.int 0))), (false, (.cst (.int 1))), (false, (.cst (.int 2))), (false, (.call 9 [(.imm (.var 1)), (.cst (.int 41))] []))])] [])] [])) [(.ret (some (.cst (.bl false))))] [])] []),
  (.unp (.tp [(.nm 7), (.nm 8)]) (.tup [(.call 9 [(.imm (.var 1)), (.cst (.int 11))] []), (.call 9 [(.imm (.var 1)), (.cst (.int 4))] [])]) []),
  (.asg 3 (.lc (.var 5) (.nm 5) (.seq (.call 15 [(.var 7)] [])) (some (.cmp .le (.call 17 [(.var 5)] []) (.bin .add (.var 8) (.cst (.int 1)))))) []),
  (.asg 4 (.lc (.var 5) (.nm 5) (.seq (.call 15 [(.bin .add (.var 7) (.var 8))] [])) (some (.bop true [(.cmp .ge (.call 17 [(.var 5)] []) (.bin .sub (.var 8) (.cst (.int 1)))), (.bop false [(.cmp .ne (.var 5) (.lst [])), (.cmp .eq (.var 8) (.cst (.int 0)))])]))) []),
  (.ret (some (.cmp .eq (.bi .sorted [(.lc (.call 6 [(.bi .list [(.var 5)]), (.var 8)] []) (.nm 5) (.seq (.var 3)) none)]) (.bi .sorted [(.var 4)]))))]⟩
def Δ : List Dn := [d_is_list, d_is_whole, d_is_falling_of, d_check_row, d_check_number, d_rank_of, d_pushed, d_pulled, d__law_stream, d__law_draw, d__law_pick, d__law_same, d__law_loose, d__law_copied, d__law_spoilt, d__law_rows, d__law_row, d__law_rank, d__law_pushed, d__law_met, d__law_pulled, d__law_asked_right, d_law]
def Ns : List (List Str) := [(["thing"] : List Str), (["thing"] : List Str), (["thing", "one", "other", "part"] : List Str), (["row"] : List Str), (["number"] : List Str), (["row"] : List Str), (["row", "number", "first", "part"] : List Str), (["row", "number", "rest", "part"] : List Str), (["script"] : List Str), (["stream", "many", "mixed", "cell", "digit"] : List Str), (["stream", "things"] : List Str), (["found", "due", "mine", "theirs"] : List Str), (["stream", "thing", "some", "one"] : List Str), (["thing", "some", "one", "key"] : List Str), (["thing", "key", "part"] : List Str), (["number", "found", "done", "most", "row", "rest", "part"] : List Str), (["stream", "most", "wide", "rest", "way", "found", "begin", "part"] : List Str), (["row"] : List Str), (["row", "number", "first", "part"] : List Str), (["ask", "e"] : List Str), (["row", "number", "rest", "part"] : List Str), (["stream", "row", "number", "due", "met", "is_low", "handed", "value", "lain"] : List Str), (["script", "stream", "turn", "low", "great", "row", "near", "total", "number"] : List Str)]
def fis : List Fi := [⟨"is_list", ["thing"], [(1, [])]⟩, ⟨"is_whole", ["thing"], [(1, [])]⟩, ⟨"is_falling_of", ["thing"], [(1, [])]⟩, ⟨"check_row", ["row"], [(1, [])]⟩, ⟨"check_number", ["number"], [(1, [])]⟩, ⟨"rank_of", ["row"], [(1, [])]⟩, ⟨"pushed", ["row", "number"], [(0, [1, 0]), (2, [])]⟩, ⟨"pulled", ["row", "number"], [(0, [1, 0]), (2, [])]⟩, ⟨"_law_stream", ["script"], [(1, [])]⟩, ⟨"_law_draw", ["stream", "many"], [(2, [])]⟩, ⟨"_law_pick", ["stream", "things"], [(2, [])]⟩, ⟨"_law_same", ["found", "due"], [(2, [])]⟩, ⟨"_law_loose", ["stream", "thing"], [(2, [])]⟩, ⟨"_law_copied", ["thing"], [(1, [])]⟩, ⟨"_law_spoilt", ["thing"], [(1, [])]⟩, ⟨"_law_rows", ["number"], [(1, [])]⟩, ⟨"_law_row", ["stream", "most"], [(2, [])]⟩, ⟨"_law_rank", ["row"], [(1, [])]⟩, ⟨"_law_pushed", ["row", "number"], [(2, [])]⟩, ⟨"_law_met", ["ask"], [(1, [])]⟩, ⟨"_law_pulled", ["row", "number"], [(2, [])]⟩, ⟨"_law_asked_right", ["stream", "row", "number"], [(3, [])]⟩, ⟨"law", ["script"], [(1, [])]⟩]
def blt : List Str := ["ValueError", "abs", "all", "bool", "dict", "int", "isinstance", "len", "list", "max", "min", "range", "repr", "sorted", "str", "tuple", "zip"]
def spi : Option Nat := some 14
def dfs : List Df := [⟨d_is_list, ["thing"], defArgs (top 1), defBody (top 1), defScope (top 1)⟩, ⟨d_is_whole, ["thing"], defArgs (top 2), defBody (top 2), defScope (top 2)⟩, ⟨d_is_falling_of, ["thing", "one", "other", "part"], defArgs (top 8), defBody (top 8), defScope (top 8)⟩, ⟨d_check_row, ["row"], defArgs (top 9), defBody (top 9), defScope (top 9)⟩, ⟨d_check_number, ["number"], defArgs (top 10), defBody (top 10), defScope (top 10)⟩, ⟨d_rank_of, ["row"], defArgs (top 15), defBody (top 15), defScope (top 15)⟩, ⟨d_pushed, ["row", "number", "first", "part"], defArgs (top 16), defBody (top 16), defScope (top 16)⟩, ⟨d_pulled, ["row", "number", "rest", "part"], defArgs (top 17), defBody (top 17), defScope (top 17)⟩, ⟨d__law_stream, ["script"], defArgs (top 19), defBody (top 19), defScope (top 19)⟩, ⟨d__law_draw, ["stream", "many", "mixed", "cell", "digit"], defArgs (top 20), defBody (top 20), defScope (top 20)⟩, ⟨d__law_pick, ["stream", "things"], defArgs (top 21), defBody (top 21), defScope (top 21)⟩, ⟨d__law_same, ["found", "due", "mine", "theirs"], defArgs (top 22), defBody (top 22), defScope (top 22)⟩, ⟨d__law_loose, ["stream", "thing", "some", "one"], defArgs (top 23), defBody (top 23), defScope (top 23)⟩, ⟨d__law_copied, ["thing", "some", "one", "key"], defArgs (top 24), defBody (top 24), defScope (top 24)⟩, ⟨d__law_spoilt, ["thing", "key", "part"], defArgs (top 25), defBody (top 25), defScope (top 25)⟩, ⟨d__law_rows, ["number", "found", "done", "most", "row", "rest", "part"], defArgs (top 26), defBody (top 26), defScope (top 26)⟩, ⟨d__law_row, ["stream", "most", "wide", "rest", "way", "found", "begin", "part"], defArgs (top 27), defBody (top 27), defScope (top 27)⟩, ⟨d__law_rank, ["row"], defArgs (top 28), defBody (top 28), defScope (top 28)⟩, ⟨d__law_pushed, ["row", "number", "first", "part"], defArgs (top 29), defBody (top 29), defScope (top 29)⟩, ⟨d__law_met, ["ask", "e"], defArgs (top 30), defBody (top 30), defScope (top 30)⟩, ⟨d__law_pulled, ["row", "number", "rest", "part"], defArgs (top 31), defBody (top 31), defScope (top 31)⟩, ⟨d__law_asked_right, ["stream", "row", "number", "due", "met", "is_low", "handed", "value", "lain"], defArgs (top 32), defBody (top 32), defScope (top 32)⟩, ⟨d_law, ["script", "stream", "turn", "low", "great", "row", "near", "total", "number"], defArgs (top 33), defBody (top 33), defScope (top 33)⟩]
def xd0 : Xd := ⟨"BadRow", "row", ["self", "row"], C8.fnArgs (inner 5 0), C8.fnBody (inner 5 0), C8.fnScope (inner 5 0)⟩
def xd1 : Xd := ⟨"BadNumber", "number", ["self", "number"], C8.fnArgs (inner 6 0), C8.fnBody (inner 6 0), C8.fnScope (inner 6 0)⟩
def xd2 : Xd := ⟨"TooHigh", "rank", ["self", "rank"], C8.fnArgs (inner 12 0), C8.fnBody (inner 12 0), C8.fnScope (inner 12 0)⟩
def xd3 : Xd := ⟨"TooLow", "rank", ["self", "rank"], C8.fnArgs (inner 13 0), C8.fnBody (inner 13 0), C8.fnScope (inner 13 0)⟩
def md : Md := ⟨⟨"_law_met", true, [(2, "high"), (3, "low")]⟩, ["ask", "e"], defArgs (top 30), defBody (top 30), defScope (top 30)⟩
def xt : Xt := ⟨[xd0, xd1, xd2, xd3], some md, ["_law_asked_right"]⟩
def tf : List Str := ["law", "_law_asked_right"]
def BX : Prop := BindsX xt
end Q

/-! D0: the law's draws, in plain Lean. -/
namespace MP
/-- the stream: the script's rest, the number in use, how many draws, the mix -/
def sB (ns : List Int) (a c s : Int) : T := .lst [.lst (ns.map .int), .int a, .int c, .int s]
theorem boxlessL_ints (ns : List Int) : boxlessL (ns.map T.int) = true := by
  induction ns with
  | nil => rfl
  | cons n ns ih => simp [boxlessL, boxless, ih]
theorem datumL_ints (d : Nat) (ns : List Int) : datumL d (ns.map T.int) = true := by
  induction ns with
  | nil => rfl
  | cons n ns ih => simp [datumL, datum, ih]
theorem sB_boxless (ns : List Int) (a c s : Int) : boxless (sB ns a c s) = true := by
  simp [sB, boxless, boxlessL, boxlessL_ints]
variable {F : Fns} {W : Nat} {ρ : Env}
theorem sub0 (ns : List Int) (a c s : Int) : pSub (sB ns a c s) (.int 0) = some (.lst (ns.map .int)) := rfl
theorem sub1 (ns : List Int) (a c s : Int) : pSub (sB ns a c s) (.int 1) = some (.int a) := rfl
theorem sub2 (ns : List Int) (a c s : Int) : pSub (sB ns a c s) (.int 2) = some (.int c) := rfl
theorem sub3 (ns : List Int) (a c s : Int) : pSub (sB ns a c s) (.int 3) = some (.int s) := rfl
theorem set1 (ns : List Int) (a c s v : Int) : pSet (sB ns a c s) (.int 1) (.int v) = some (sB ns v c s) := rfl
theorem set2 (ns : List Int) (a c s v : Int) : pSet (sB ns a c s) (.int 2) (.int v) = some (sB ns a v s) := rfl
theorem set3 (ns : List Int) (a c s v : Int) : pSet (sB ns a c s) (.int 3) (.int v) = some (sB ns a c v) := rfl
theorem pop0 (n : Int) (ns : List Int) (a c s : Int) : popB (sB (n :: ns) a c s) 0 = some (.int n, sB ns a c s) := by
  have : boxless (.lst ([T.lst ((n :: ns).map .int), .int a, .int c, .int s].set 0 (.lst (ns.map .int)))) = true := sB_boxless ns a c s
  show (if nodeless (.int n) && boxless (.lst ([T.lst ((n :: ns).map .int), .int a, .int c, .int s].set 0 (.lst (ns.map .int)))) then some (T.int n, T.lst ([T.lst ((n :: ns).map .int), .int a, .int c, .int s].set 0 (.lst (ns.map .int)))) else none) = _
  rw [this] <;> rfl
/-- box[i] of the stream -/
theorem eSub (hρ : getV ρ 0 = some (.box 0)) {B : T} {i v : Int} (h : pSub B (.int i) = some (.int v)) : evE F ρ (.sub (.var 0) (.cst (.int i))) [B] = .ok (.int v) [B] := by
  rw [evE, evE, hρ]
  show Res.bind (.ok (T.box 0) [B]) _ = _
  rw [Res.bind_ok, evE, Res.bind_ok]
  show Res.bind (opt (pSub B (.int i)) [B]) _ = _
  rw [h] <;> rfl
theorem iBset (hρ : getV ρ 0 = some (.box 0)) {B B' : T} {i v : Int} {e : IE} (he : evE F ρ e [B] = .ok (.int v) [B]) (h : pSet B (.int i) (.int v) = some B') (hb : boxless B' = true) : evI1 F W (.bset 0 (.cst (.int i)) e) ρ [B] = .ok (.nx, ρ) [B'] := by
  rw [evI1, he, Res.bind_ok]
  have : getB ρ 0 = some 0 := by unfold getB; rw [hρ]
  rw [this]
  show Res.bind (.ok 0 [B]) _ = _
  rw [Res.bind_ok, evE, Res.bind_ok]
  show Res.bind (opt (pSet B (.int i) (.int v)) [B]) _ = _
  rw [h]
  show (if nodeless (.int v) && boxless B' then Res.ok (Fl.nx, ρ) [B'] else .stuck) = _
  rw [hb] <;> rfl
theorem eImm {e : IE} {μ μ' : Mem} {v : Int} (h : evE F ρ e μ = .ok (.int v) μ') : evE F ρ (.imm e) μ = .ok (.int v) μ' := by
  rw [evE, h] <;> rfl
theorem eBin {op : BOp} {a b : IE} {μ μ1 μ2 : Mem} {x y r : Int} (ha : evE F ρ a μ = .ok (.int x) μ1) (hb : evE F ρ b μ1 = .ok (.int y) μ2) (h : pBin op (.int x) (.int y) = some (.int r)) : evE F ρ (.bin op a b) μ = .ok (.int r) μ2 := by
  rw [evE, ha, Res.bind_ok, hb, Res.bind_ok]
  show opt (pBin op (.int x) (.int y)) μ2 = _
  rw [h] <;> rfl
theorem eCmp {op : COp} {a b : IE} {μ μ1 μ2 : Mem} {x y : Int} {r : Bool} (ha : evE F ρ a μ = .ok (.int x) μ1) (hb : evE F ρ b μ1 = .ok (.int y) μ2) (h : pCmp op (.int x) (.int y) = some r) : evE F ρ (.cmp op a b) μ = .ok (.bl r) μ2 := by
  rw [evE, ha, Res.bind_ok, hb, Res.bind_ok]
  show Res.bind (opt (pCmp op (.int x) (.int y)) μ2) _ = _
  rw [h] <;> rfl
theorem eInt {e : IE} {μ μ' : Mem} {v : Int} (h : evE F ρ e μ = .ok (.int v) μ') : evE F ρ (.bi .int [e]) μ = .ok (.int v) μ' := by
  rw [evE, evL, h] <;> rfl
theorem eAbs {e : IE} {μ μ' : Mem} {v : Int} (h : evE F ρ e μ = .ok (.int v) μ') : evE F ρ (.bi .abs [e]) μ = .ok (.int (if v < 0 then -v else v)) μ' := by
  rw [evE, evL, h] <;> rfl
theorem eCst {μ : Mem} {v : Int} : evE F ρ (.cst (.int v)) μ = .ok (.int v) μ := rfl
theorem eVar {μ : Mem} {i : Nat} {t : T} (h : getV ρ i = some t) : evE F ρ (.var i) μ = .ok t μ := by rw [evE, h] <;> rfl
theorem pMul_c {i j : Int} (h : inMul j = true) : pBin .mul (.int i) (.int j) = some (.int (i * j)) := by
  show (if inMul i || inMul j || _ then _ else _) = _
  rw [h, Bool.or_true, Bool.true_or] <;> rfl
theorem pMul_l {i j : Int} (h : inMul i = true) : pBin .mul (.int i) (.int j) = some (.int (i * j)) := by
  show (if inMul i || inMul j || _ then _ else _) = _
  rw [h, Bool.true_or, Bool.true_or] <;> rfl
theorem pMod {i j : Int} (h : j ≠ 0) : pBin .mod (.int i) (.int j) = some (.int (i.fmod j)) := by
  show (if decide (j ≠ 0) then _ else _) = _
  rw [decide_eq_true h] <;> rfl
theorem pFdiv {i j : Int} (h : j ≠ 0) (h2 : Nat.blt j.natAbs 1073741824 = true) : pBin .fdiv (.int i) (.int j) = some (.int (i.fdiv j)) := by
  show (if decide (j ≠ 0) && (Nat.blt j.natAbs 1073741824 || _) then _ else _) = _
  rw [decide_eq_true h, h2] <;> rfl
theorem pPow {i : Int} {j : Nat} (h : Nat.blt i.natAbs (2 ^ 64) = true) (hj : j ≤ 1000000) : pBin .pow (.int i) (.int (j : Int)) = some (.int (i ^ j)) := by
  show (if decide (0 ≤ (j : Int)) && decide ((j : Int) ≤ 1000000) && Nat.blt i.natAbs (2 ^ 64) then some (T.int (i ^ (j : Int).toNat)) else none) = _
  rw [h, decide_eq_true (by omega), decide_eq_true (by omega)] <;> rfl
end MP

/-! D1: a draw gives a number below many, and leaves the stream a stream. -/
namespace MP
def wBody : List IS := [(.asg 3 (.bi .abs [(.popAt 0 (.cst (.int 0)) (.cst (.int 0)))]) []), (.bset 0 (.cst (.int 3)) (.imm (.bin .mod (.bi .int [(.bin .add (.bin .add (.bin .mul (.sub (.var 0) (.cst (.int 3))) (.cst (.int 6151))) (.var 3)) (.cst (.int 7)))]) (.cst (.int 2147483629))))), (.bset 0 (.cst (.int 1)) (.imm (.ite (.cmp .ge (.var 3) (.bin .pow (.cst (.int 10)) (.cst (.int 18)))) (.imm (.var 3)) (.imm (.cst (.int 0))))))]
def wTest : IE := .bop true [(.cmp .eq (.sub (.var 0) (.cst (.int 1))) (.cst (.int 0))), (.neNil 0 (.cst (.int 0)))]
def dDraw : Dn := ⟨2, 5, [.S, .S, .S, .S, .S], .I, [(.bset 0 (.cst (.int 2)) (.imm (.bin .add (.sub (.var 0) (.cst (.int 2))) (.cst (.int 1))))),
  (.wh wTest wBody),
  (.iff (.cmp .gt (.sub (.var 0) (.cst (.int 1))) (.cst (.int 0))) [(.asg 4 (.bin .mod (.bi .int [(.sub (.var 0) (.cst (.int 1)))]) (.var 1)) []), (.bset 0 (.cst (.int 1)) (.imm (.bin .fdiv (.sub (.var 0) (.cst (.int 1))) (.var 1)))), (.ret (some (.var 4)))] []),
  (.asg 2 (.bin .mod (.bi .int [(.bin .pow (.bin .add (.bin .add (.sub (.var 0) (.cst (.int 3))) (.bin .mul (.cst (.int 8191)) (.sub (.var 0) (.cst (.int 2))))) (.cst (.int 50021))) (.cst (.int 5)))]) (.cst (.int 2147483587))) []),
  (.ret (some (.bin .mod (.bin .mod (.bi .int [(.bin .pow (.bin .add (.bin .add (.bin .mul (.var 2) (.cst (.int 40009))) (.bin .mul (.cst (.int 20011)) (.sub (.var 0) (.cst (.int 2))))) (.cst (.int 31))) (.cst (.int 3)))]) (.cst (.int 1000000009))) (.var 1))))]⟩
variable {F : Fns} {W : Nat}
/-- a slot set -/
theorem getV_setT {ρ : Env} {i j : Nat} {o : Option T} (h : i < ρ.length) : getV (ρ.set i o) j = if j = i then o else getV ρ j := by
  unfold getV
  by_cases e : j = i
  · subst e
    rw [List.getElem?_set_self h, if_pos rfl]
    cases o <;> rfl
  · rw [List.getElem?_set_ne (fun z => e z.symm), if_neg e]
structure Sl (ρ : Env) (m : Int) : Prop where
  len : ρ.length = 5
  b : getV ρ 0 = some (.box 0)
  m : getV ρ 1 = some (.int m)
theorem Sl.set {ρ : Env} {m : Int} (h : Sl ρ m) {i : Nat} (hi : i ≠ 0 ∧ i ≠ 1) (o : Option T) : Sl (ρ.set i o) m := by
  by_cases hl : i < ρ.length
  · exact ⟨by rw [List.length_set]; exact h.len, by rw [getV_setT hl, if_neg (fun z => hi.1 z.symm)]; exact h.b, by rw [getV_setT hl, if_neg (fun z => hi.2 z.symm)]; exact h.m⟩
  · rw [List.set_eq_of_length_le (by omega)]; exact h
theorem wTest_ok {ρ : Env} {m : Int} (h : Sl ρ m) (ns : List Int) (a c s : Int) : evE F ρ wTest [sB ns a c s] = .ok (.bl (decide (a = 0) && !ns.isEmpty)) [sB ns a c s] := by
  have h1 : evE F ρ (.cmp .eq (.sub (.var 0) (.cst (.int 1))) (.cst (.int 0))) [sB ns a c s] = .ok (.bl (decide (a = 0))) [sB ns a c s] := eCmp (eSub h.b (sub1 ns a c s)) eCst rfl
  have h2 : evE F ρ (.neNil 0 (.cst (.int 0))) [sB ns a c s] = .ok (.bl (!ns.isEmpty)) [sB ns a c s] := by
    rw [evE, h.b]
    show Res.bind (.ok (T.int 0) [sB ns a c s]) _ = _
    rw [Res.bind_ok]
    show (if datum 60 (.lst (ns.map T.int)) then (Res.ok (T.bl (!(ns.map T.int).isEmpty)) [sB ns a c s] : Res T) else .stuck) = _
    have : datum 60 (.lst (ns.map T.int)) = true := datumL_ints 59 ns
    rw [this, if_pos rfl]
    cases ns <;> rfl
  show Res.bind (evE F ρ (.cmp .eq (.sub (.var 0) (.cst (.int 1))) (.cst (.int 0))) [sB ns a c s]) _ = _
  rw [h1, Res.bind_ok]
  cases hd : decide (a = 0) with
  | false => rfl
  | true =>
    show evE F ρ (.neNil 0 (.cst (.int 0))) [sB ns a c s] = _
    rw [h2] <;> rfl
def nAbs (n : Int) : Int := if n < 0 then -n else n
def mix (s n : Int) : Int := (s * 6151 + nAbs n + 7).fmod 2147483629
def useN (n : Int) : Int := if 1000000000000000000 ≤ nAbs n then nAbs n else 0
theorem wBody_ok {ρ : Env} {m : Int} (h : Sl ρ m) (n : Int) (ns : List Int) (a c s : Int) : evIs F W wBody ρ [sB (n :: ns) a c s] = .ok (.nx, ρ.set 3 (some (.int (nAbs n)))) [sB ns (useN n) c (mix s n)] := by
  have h3 : 3 < ρ.length := by rw [h.len]; decide
  have e1 : evE F ρ (.popAt 0 (.cst (.int 0)) (.cst (.int 0))) [sB (n :: ns) a c s] = .ok (.int n) [sB ns a c s] := by
    rw [evE, h.b]
    show (match popB (sB (n :: ns) a c s) 0 with | some r => Res.ok r.1 [r.2] | none => .stuck) = _
    rw [pop0]
  have s1 : evI1 F W (.asg 3 (.bi .abs [(.popAt 0 (.cst (.int 0)) (.cst (.int 0)))]) []) ρ [sB (n :: ns) a c s] = .ok (.nx, ρ.set 3 (some (.int (nAbs n)))) [sB ns a c s] := by
    rw [evI1, eAbs e1] <;> rfl
  have h' := h.set (i := 3) (by decide) (some (.int (nAbs n)))
  have v3 : getV (ρ.set 3 (some (.int (nAbs n)))) 3 = some (.int (nAbs n)) := by rw [getV_setT h3, if_pos rfl]
  generalize ρ.set 3 (some (.int (nAbs n))) = ρ' at s1 h' v3 ⊢
  have s2 : evI1 F W (.bset 0 (.cst (.int 3)) (.imm (.bin .mod (.bi .int [(.bin .add (.bin .add (.bin .mul (.sub (.var 0) (.cst (.int 3))) (.cst (.int 6151))) (.var 3)) (.cst (.int 7)))]) (.cst (.int 2147483629))))) ρ' [sB ns a c s] = .ok (.nx, ρ') [sB ns a c (mix s n)] :=
    iBset h'.b (eImm (eBin (eInt (eBin (eBin (eBin (eSub h'.b (sub3 ns a c s)) eCst (pMul_c (by decide))) (eVar v3) rfl) eCst rfl)) eCst (pMod (by decide)))) (set3 ns a c s _) (sB_boxless _ _ _ _)
  have p10 : pBin .pow (.int 10) (.int 18) = some (.int 1000000000000000000) := by rfl
  have s3 : evI1 F W (.bset 0 (.cst (.int 1)) (.imm (.ite (.cmp .ge (.var 3) (.bin .pow (.cst (.int 10)) (.cst (.int 18)))) (.imm (.var 3)) (.imm (.cst (.int 0)))))) ρ' [sB ns a c (mix s n)] = .ok (.nx, ρ') [sB ns (useN n) c (mix s n)] := by
    refine iBset h'.b (eImm ?_) (set1 ns a c (mix s n) _) (sB_boxless _ _ _ _)
    have hc : evE F ρ' (.cmp .ge (.var 3) (.bin .pow (.cst (.int 10)) (.cst (.int 18)))) [sB ns a c (mix s n)] = .ok (.bl (decide (1000000000000000000 ≤ nAbs n))) [sB ns a c (mix s n)] := eCmp (eVar v3) (eBin eCst eCst p10) rfl
    rw [evE, hc, Res.bind_ok]
    unfold useN
    by_cases hd : 1000000000000000000 ≤ nAbs n
    · rw [decide_eq_true hd, if_pos hd]
      exact eImm (eVar v3)
    · rw [decide_eq_false hd, if_neg hd] <;> rfl
  show evIs F W [_, _, _] ρ [sB (n :: ns) a c s] = _
  rw [evIs, s1, Res.bind_ok]
  show evIs F W [_, _] ρ' [sB ns a c s] = _
  rw [evIs, s2, Res.bind_ok]
  show evIs F W [_] ρ' _ = _
  rw [evIs, s3, Res.bind_ok] <;> rfl
/-- the loop ends: nothing is left, or a great number is in useN -/
theorem wh_ok {m c : Int} : ∀ (ns : List Int) {ρ : Env} (a s : Int) (k : Nat), ns.length < k → Sl ρ m → 0 ≤ a → 0 ≤ s → s < 2147483629 →
    ∃ ns' a' s' ρ', whLoop (fun ρ μ => evE F ρ wTest μ) (fun ρ μ => evIs F W wBody ρ μ) k ρ [sB ns a c s] = .ok (.nx, ρ') [sB ns' a' c s'] ∧ Sl ρ' m ∧ ns'.length ≤ ns.length ∧ 0 ≤ a' ∧ 0 ≤ s' ∧ s' < 2147483629
  | [], ρ, a, s, k + 1, hk, h, ha, h0, h1 => by
    refine ⟨[], a, s, ρ, ?_, h, Nat.le_refl _, ha, h0, h1⟩
    show Res.bind (evE F ρ wTest [sB [] a c s]) _ = _
    rw [wTest_ok h, Res.bind_ok]
    simp
  | n :: ns, ρ, a, s, k + 1, hk, h, ha, h0, h1 => by
    by_cases hz : a = 0
    · have hs : 0 ≤ mix s n ∧ mix s n < 2147483629 := by
        unfold mix
        rw [Int.fmod_eq_emod_of_nonneg _ (by decide)]
        exact ⟨Int.emod_nonneg _ (by decide), Int.emod_lt_of_pos _ (by decide)⟩
      have hu : 0 ≤ useN n := by
        unfold useN
        split
        · omega
        · decide
      obtain ⟨ns', a', s', ρ', e, q1, q2, q3, q4, q5⟩ := wh_ok ns (c := c) (useN n) (mix s n) k (by simp at hk; omega) (h.set (i := 3) (by decide) (some (.int (nAbs n)))) hu hs.1 hs.2
      refine ⟨ns', a', s', ρ', ?_, q1, by simp; omega, q3, q4, q5⟩
      show Res.bind (evE F ρ wTest [sB (n :: ns) a c s]) _ = _
      rw [wTest_ok h, Res.bind_ok, decide_eq_true hz]
      show Res.bind (evIs F W wBody ρ [sB (n :: ns) a c s]) _ = _
      rw [wBody_ok h, Res.bind_ok]
      exact e
    · refine ⟨n :: ns, a, s, ρ, ?_, h, Nat.le_refl _, ha, h0, h1⟩
      show Res.bind (evE F ρ wTest [sB (n :: ns) a c s]) _ = _
      rw [wTest_ok h, Res.bind_ok, decide_eq_false hz] <;> rfl
/-- a stream with c draws made -/
def IsStream (B : T) (c : Nat) : Prop := ∃ (ns : List Int) (a s : Int), B = sB ns a (c : Int) s ∧ ns.length ≤ 63 ∧ 0 ≤ a ∧ 0 ≤ s ∧ s < 2147483629
theorem draw_ok {B : T} {c : Nat} (h : IsStream B c) (hc : c < 1000000) (hW : 64 ≤ W) {m : Int} (hm : 0 < m) (hm2 : m < 1073741824) : ∃ (d : Int) (B' : T), runD F W dDraw [.box 0, .int m] [B] = .ok (.int d) [B'] ∧ 0 ≤ d ∧ d < m ∧ IsStream B' (c + 1) := by
  obtain ⟨ns, a, s, rfl, hl, ha, h0, h1⟩ := h
  let ρ : Env := [some (.box 0), some (.int m), none, none, none]
  have hρ : Sl ρ m := ⟨rfl, rfl, rfl⟩
  have s1 : evI1 F W (.bset 0 (.cst (.int 2)) (.imm (.bin .add (.sub (.var 0) (.cst (.int 2))) (.cst (.int 1))))) ρ [sB ns a c s] = .ok (.nx, ρ) [sB ns a ((c : Int) + 1) s] :=
    iBset hρ.b (eImm (eBin (eSub hρ.b (sub2 ns a c s)) eCst rfl)) (set2 ns a c s _) (sB_boxless _ _ _ _)
  obtain ⟨ns', a', s', ρ', e2, hρ', l', ha', h0', h1'⟩ := wh_ok (F := F) (W := W) (m := m) (c := (c : Int) + 1) ns a s W (by omega) hρ ha h0 h1
  have cc : ((c : Int) + 1) = ((c + 1 : Nat) : Int) := by omega
  rw [cc] at s1 e2
  have st : ∀ a'', 0 ≤ a'' → IsStream (sB ns' a'' ((c + 1 : Nat) : Int) s') (c + 1) := fun a'' q => ⟨ns', a'', s', rfl, by omega, q, h0', h1'⟩
  have len2 : 2 < ρ'.length := by rw [hρ'.len]; decide
  have len4 : 4 < ρ'.length := by rw [hρ'.len]; decide
  have test : evE F ρ' (.cmp .gt (.sub (.var 0) (.cst (.int 1))) (.cst (.int 0))) [sB ns' a' ((c + 1 : Nat) : Int) s'] = .ok (.bl (decide (0 < a'))) [sB ns' a' ((c + 1 : Nat) : Int) s'] := eCmp (eSub hρ'.b (sub1 _ _ _ _)) eCst rfl
  have e3 : evI1 F W (.wh wTest wBody) ρ [sB ns a ((c + 1 : Nat) : Int) s] = .ok (.nx, ρ') [sB ns' a' ((c + 1 : Nat) : Int) s'] := by rw [evI1]; exact e2
  have fin : ∀ {d : Int} {ρ2 : Env} {B' : T}, evIs F W dDraw.body ρ [sB ns a c s] = .ok (.rt (.int d), ρ2) [B'] → runD F W dDraw [.box 0, .int m] [sB ns a c s] = .ok (.int d) [B'] := fun {d ρ2 B'} e => by
    show (match evIs F W dDraw.body ρ [sB ns a c s] with
      | .ok (.nx, _) μ' => outD .I 1 .non μ'
      | .ok (.rt t, _) μ' => outD .I 1 t μ'
      | .ok (.bk, _) _ => .stuck
      | .exc c t μ' => if Nat.ble μ'.length 1 then .exc c t μ' else if boxBelow 1 t then .exc c t (μ'.take 1) else .stuck
      | .stuck => .stuck) = _
    rw [e] <;> rfl
  have first : ∀ (rest : List IS), evIs F W (.bset 0 (.cst (.int 2)) (.imm (.bin .add (.sub (.var 0) (.cst (.int 2))) (.cst (.int 1)))) :: .wh wTest wBody :: rest) ρ [sB ns a c s] = evIs F W rest ρ' [sB ns' a' ((c + 1 : Nat) : Int) s'] := fun rest => by
    rw [evIs, s1, Res.bind_ok]
    show evIs F W (.wh wTest wBody :: rest) ρ _ = _
    rw [evIs, e3, Res.bind_ok]
  have mz : m ≠ 0 := by omega
  by_cases hp : 0 < a'
  · have md : 0 ≤ a'.fmod m ∧ a'.fmod m < m := by
      rw [Int.fmod_eq_emod_of_nonneg _ (by omega)]
      exact ⟨Int.emod_nonneg _ mz, Int.emod_lt_of_pos _ hm⟩
    have fd : 0 ≤ a'.fdiv m := by
      rw [Int.fdiv_eq_ediv_of_nonneg _ (by omega)]
      exact Int.ediv_nonneg ha' (by omega)
    refine ⟨a'.fmod m, _, fin (ρ2 := ρ'.set 4 (some (.int (a'.fmod m)))) (B' := sB ns' (a'.fdiv m) ((c + 1 : Nat) : Int) s') ?_, md.1, md.2, st _ fd⟩
    show evIs F W (_ :: _ :: _) ρ _ = _
    rw [first]
    have b1 : evI1 F W (.asg 4 (.bin .mod (.bi .int [(.sub (.var 0) (.cst (.int 1)))]) (.var 1)) []) ρ' [sB ns' a' ((c + 1 : Nat) : Int) s'] = .ok (.nx, ρ'.set 4 (some (.int (a'.fmod m)))) [sB ns' a' ((c + 1 : Nat) : Int) s'] := by
      rw [evI1, eBin (eInt (eSub hρ'.b (sub1 _ _ _ _))) (eVar hρ'.m) (pMod mz)] <;> rfl
    have h4 := hρ'.set (i := 4) (by decide) (some (.int (a'.fmod m)))
    have v4 : getV (ρ'.set 4 (some (.int (a'.fmod m)))) 4 = some (.int (a'.fmod m)) := by rw [getV_setT len4, if_pos rfl]
    have b2 : evI1 F W (.bset 0 (.cst (.int 1)) (.imm (.bin .fdiv (.sub (.var 0) (.cst (.int 1))) (.var 1)))) (ρ'.set 4 (some (.int (a'.fmod m)))) [sB ns' a' ((c + 1 : Nat) : Int) s'] = .ok (.nx, ρ'.set 4 (some (.int (a'.fmod m)))) [sB ns' (a'.fdiv m) ((c + 1 : Nat) : Int) s'] :=
      iBset h4.b (eImm (eBin (eSub h4.b (sub1 _ _ _ _)) (eVar h4.m) (pFdiv mz (Nat.ble_eq_true_of_le (by omega))))) (set1 _ _ _ _ _) (sB_boxless _ _ _ _)
    have b3 : evI1 F W (.iff (.cmp .gt (.sub (.var 0) (.cst (.int 1))) (.cst (.int 0))) [(.asg 4 (.bin .mod (.bi .int [(.sub (.var 0) (.cst (.int 1)))]) (.var 1)) []), (.bset 0 (.cst (.int 1)) (.imm (.bin .fdiv (.sub (.var 0) (.cst (.int 1))) (.var 1)))), (.ret (some (.var 4)))] []) ρ' [sB ns' a' ((c + 1 : Nat) : Int) s'] =
        .ok (.rt (.int (a'.fmod m)), ρ'.set 4 (some (.int (a'.fmod m)))) [sB ns' (a'.fdiv m) ((c + 1 : Nat) : Int) s'] := by
      rw [evI1, test, Res.bind_ok, decide_eq_true hp]
      show evIs F W [_, _, _] ρ' _ = _
      rw [evIs, b1, Res.bind_ok]
      show evIs F W [_, _] _ _ = _
      rw [evIs, b2, Res.bind_ok]
      show evIs F W [_] _ _ = _
      rw [evIs, evI1, eVar v4] <;> rfl
    rw [evIs, b3, Res.bind_ok]
  · have b3 : evI1 F W (.iff (.cmp .gt (.sub (.var 0) (.cst (.int 1))) (.cst (.int 0))) [(.asg 4 (.bin .mod (.bi .int [(.sub (.var 0) (.cst (.int 1)))]) (.var 1)) []), (.bset 0 (.cst (.int 1)) (.imm (.bin .fdiv (.sub (.var 0) (.cst (.int 1))) (.var 1)))), (.ret (some (.var 4)))] []) ρ' [sB ns' a' ((c + 1 : Nat) : Int) s'] =
        .ok (.nx, ρ') [sB ns' a' ((c + 1 : Nat) : Int) s'] := by
      rw [evI1, test, Res.bind_ok, decide_eq_false hp] <;> rfl
    generalize hx : ((s' + 8191 * ((c + 1 : Nat) : Int) + 50021) ^ 5).fmod 2147483587 = x
    have hx2 : 0 ≤ x ∧ x < 2147483587 := by
      rw [← hx, Int.fmod_eq_emod_of_nonneg _ (by decide)]
      exact ⟨Int.emod_nonneg _ (by decide), Int.emod_lt_of_pos _ (by decide)⟩
    generalize hy : (((x * 40009 + 20011 * ((c + 1 : Nat) : Int) + 31) ^ 3).fmod 1000000009).fmod m = y
    have hy2 : 0 ≤ y ∧ y < m := by
      rw [← hy, Int.fmod_eq_emod_of_nonneg _ (by omega : 0 ≤ m)]
      exact ⟨Int.emod_nonneg _ mz, Int.emod_lt_of_pos _ hm⟩
    refine ⟨y, _, fin (ρ2 := ρ'.set 2 (some (.int x))) (B' := sB ns' a' ((c + 1 : Nat) : Int) s') ?_, hy2.1, hy2.2, st _ ha'⟩
    show evIs F W (_ :: _ :: _) ρ _ = _
    rw [first, evIs, b3, Res.bind_ok]
    have b4 : evI1 F W (.asg 2 (.bin .mod (.bi .int [(.bin .pow (.bin .add (.bin .add (.sub (.var 0) (.cst (.int 3))) (.bin .mul (.cst (.int 8191)) (.sub (.var 0) (.cst (.int 2))))) (.cst (.int 50021))) (.cst (.int 5)))]) (.cst (.int 2147483587))) []) ρ' [sB ns' a' ((c + 1 : Nat) : Int) s'] = .ok (.nx, ρ'.set 2 (some (.int x))) [sB ns' a' ((c + 1 : Nat) : Int) s'] := by
      have hb : Nat.blt (s' + 8191 * ((c + 1 : Nat) : Int) + 50021).natAbs (2 ^ 64) = true := Nat.ble_eq_true_of_le (by omega)
      have e : evE F ρ' (.bin .mod (.bi .int [(.bin .pow (.bin .add (.bin .add (.sub (.var 0) (.cst (.int 3))) (.bin .mul (.cst (.int 8191)) (.sub (.var 0) (.cst (.int 2))))) (.cst (.int 50021))) (.cst (.int 5)))]) (.cst (.int 2147483587))) [sB ns' a' ((c + 1 : Nat) : Int) s'] = .ok (.int x) [sB ns' a' ((c + 1 : Nat) : Int) s'] := by
        rw [← hx]
        exact eBin (eInt (eBin (eBin (eBin (eSub hρ'.b (sub3 _ _ _ _)) (eBin eCst (eSub hρ'.b (sub2 _ _ _ _)) (pMul_l (by decide))) rfl) eCst rfl) eCst (pPow (j := 5) hb (by decide)))) eCst (pMod (by decide))
      rw [evI1, e] <;> rfl
    have h2 := hρ'.set (i := 2) (by decide) (some (.int x))
    have v2 : getV (ρ'.set 2 (some (.int x))) 2 = some (.int x) := by rw [getV_setT len2, if_pos rfl]
    have b5 : evI1 F W (.ret (some (.bin .mod (.bin .mod (.bi .int [(.bin .pow (.bin .add (.bin .add (.bin .mul (.var 2) (.cst (.int 40009))) (.bin .mul (.cst (.int 20011)) (.sub (.var 0) (.cst (.int 2))))) (.cst (.int 31))) (.cst (.int 3)))]) (.cst (.int 1000000009))) (.var 1)))) (ρ'.set 2 (some (.int x))) [sB ns' a' ((c + 1 : Nat) : Int) s'] =
        .ok (.rt (.int y), ρ'.set 2 (some (.int x))) [sB ns' a' ((c + 1 : Nat) : Int) s'] := by
      have hb : Nat.blt (x * 40009 + 20011 * ((c + 1 : Nat) : Int) + 31).natAbs (2 ^ 64) = true := Nat.ble_eq_true_of_le (by omega)
      have e : evE F (ρ'.set 2 (some (.int x))) (.bin .mod (.bin .mod (.bi .int [(.bin .pow (.bin .add (.bin .add (.bin .mul (.var 2) (.cst (.int 40009))) (.bin .mul (.cst (.int 20011)) (.sub (.var 0) (.cst (.int 2))))) (.cst (.int 31))) (.cst (.int 3)))]) (.cst (.int 1000000009))) (.var 1)) [sB ns' a' ((c + 1 : Nat) : Int) s'] = .ok (.int y) [sB ns' a' ((c + 1 : Nat) : Int) s'] := by
        rw [← hy]
        exact eBin (eBin (eInt (eBin (eBin (eBin (eBin (eVar v2) eCst (pMul_c (by decide))) (eBin eCst (eSub h2.b (sub2 _ _ _ _)) (pMul_l (by decide))) rfl) eCst rfl) eCst (pPow (j := 3) hb (by decide)))) eCst (pMod (by decide))) (eVar h2.m) (pMod mz)
      rw [evI1, e] <;> rfl
    show evIs F W [_, _] ρ' _ = _
    rw [evIs, b4, Res.bind_ok]
    show evIs F W [_] _ _ = _
    rw [evIs, b5, Res.bind_ok]
end MP

/-! D2: loops and comprehensions of the evaluator, in plain Lean. -/
namespace MP
theorem lcGo_map {f : T → Mem → Res (Option T)} {g : T → T} {μ : Mem} : ∀ {xs : List T} {n : Nat}, (∀ x ∈ xs, f x μ = .ok (some (g x)) μ) → n + xs.length ≤ line → lcGo f xs n μ = .ok (xs.map g) μ
  | [], n, _, _ => rfl
  | x :: xs, n, h, hl => by
    rw [List.length_cons] at hl
    have h1 := h x List.mem_cons_self
    have h2 := lcGo_map (f := f) (g := g) (μ := μ) (xs := xs) (n := n + 1) (fun y hy => h y (List.mem_cons_of_mem _ hy)) (by omega)
    show Res.bind (f x μ) _ = _
    rw [h1, Res.bind_ok]
    show (if Nat.blt n line = true then (lcGo f xs (n + 1) μ).bind fun r μ => .ok (g x :: r) μ else .stuck) = _
    have hb : Nat.blt n line = true := Nat.ble_eq_true_of_le (by omega)
    rw [hb, if_pos rfl, h2] <;> rfl
/-- with a test -/
theorem lcGo_filter {f : T → Mem → Res (Option T)} {g : T → Option T} {μ : Mem} : ∀ {xs : List T} {n : Nat}, (∀ x ∈ xs, f x μ = .ok (g x) μ) → n + xs.length ≤ line → lcGo f xs n μ = .ok (xs.filterMap g) μ
  | [], n, _, _ => rfl
  | x :: xs, n, h, hl => by
    rw [List.length_cons] at hl
    have h1 := h x List.mem_cons_self
    show Res.bind (f x μ) _ = _
    rw [h1, Res.bind_ok]
    cases hg : g x with
    | none =>
      have h2 := lcGo_filter (f := f) (g := g) (μ := μ) (xs := xs) (n := n) (fun y hy => h y (List.mem_cons_of_mem _ hy)) (by omega)
      rw [List.filterMap_cons_none hg]
      exact h2
    | some y =>
      have h2 := lcGo_filter (f := f) (g := g) (μ := μ) (xs := xs) (n := n + 1) (fun y hy => h y (List.mem_cons_of_mem _ hy)) (by omega)
      rw [List.filterMap_cons_some hg]
      show (if Nat.blt n line = true then (lcGo f xs (n + 1) μ).bind fun r μ => .ok (y :: r) μ else .stuck) = _
      have hb : Nat.blt n line = true := Nat.ble_eq_true_of_le (by omega)
      rw [hb, if_pos rfl, h2] <;> rfl
theorem forLoop_ok {f : T → Env → Mem → Res (Fl × Env)} {μ : Mem} (P : Nat → Env → Prop) : ∀ {xs : List T} {i : Nat} {ρ : Env}, P i ρ → (∀ j x ρ, xs[j]? = some x → P (i + j) ρ → ∃ ρ', f x ρ μ = .ok (.nx, ρ') μ ∧ P (i + j + 1) ρ') → ∃ ρ', forLoop f xs ρ μ = .ok (.nx, ρ') μ ∧ P (i + xs.length) ρ'
  | [], i, ρ, h, _ => ⟨ρ, rfl, h⟩
  | x :: xs, i, ρ, h, st => by
    obtain ⟨ρ1, e1, p1⟩ := st 0 x ρ rfl h
    obtain ⟨ρ2, e2, p2⟩ := forLoop_ok P (xs := xs) (i := i + 1) p1 (fun j y ρ hy p => by
      have e : i + 1 + j = i + (j + 1) := by omega
      rw [e] at p ⊢
      exact st (j + 1) y ρ (by simpa using hy) p)
    refine ⟨ρ2, ?_, by rw [List.length_cons, show i + (xs.length + 1) = i + 1 + xs.length by omega]; exact p2⟩
    show Res.bind (f x ρ μ) _ = _
    rw [e1, Res.bind_ok]
    exact e2
/-- items of a list of ints -/
theorem atT_ints {xs : List Int} {i : Nat} {v : Int} (h : xs[i]? = some v) : atT (xs.map T.int) (i : Int) = some (.int v) := by
  have hi : i < xs.length := (List.getElem?_eq_some_iff.mp h).1
  have e : L2.ixN (xs.map T.int).length (i : Int) = some i := by
    unfold L2.ixN
    rw [List.length_map, if_pos (by omega), if_pos (by omega)] <;> simp
  unfold atT
  rw [e]
  show (xs.map T.int)[i]? = _
  rw [List.getElem?_map, h] <;> rfl
theorem setT_ints {xs : List Int} {i : Nat} {v : Int} (hi : i < xs.length) : pSet (.lst (xs.map T.int)) (.int (i : Int)) (.int v) = some (.lst ((xs.set i v).map T.int)) := by
  have e : L2.ixN (xs.map T.int).length (i : Int) = some i := by
    unfold L2.ixN
    rw [List.length_map, if_pos (by omega), if_pos (by omega)] <;> simp
  show (match L2.ixN (xs.map T.int).length (i : Int) with | some j => some (T.lst ((xs.map T.int).set j (.int v))) | none => none) = _
  rw [e, List.map_set]
theorem intsOf_map : ∀ xs : List Int, intsOf (xs.map T.int) = some xs
  | [] => rfl
  | x :: xs => by show (intsOf (xs.map T.int)).map (x :: ·) = _; rw [intsOf_map xs] <;> rfl
theorem nodelessL_ints : ∀ xs : List Int, nodelessL (xs.map T.int) = true
  | [] => rfl
  | x :: xs => by show (nodeless (.int x) && nodelessL (xs.map T.int)) = true; rw [nodelessL_ints xs] <;> rfl
theorem rngL_map (lo c : Int) : ∀ n, rngL lo c n = (List.range n).map fun i => T.int (lo + (i : Nat) * c)
  | 0 => rfl
  | n + 1 => by
    rw [List.range_succ_eq_map, List.map_cons, List.map_map]
    show T.int lo :: rngL (lo + c) c n = _
    rw [rngL_map]
    congr 1
    · simp
    · apply List.map_congr_left
      intro i _
      show T.int (lo + c + (i : Nat) * c) = T.int (lo + ((i + 1 : Nat) : Int) * c)
      congr 1
      rw [Int.natCast_add, Int.add_mul]
      omega
end MP

/-! G0: small steps of the evaluator (from the k90 texts). -/
namespace MP
theorem runRt {F : Fns} {W : Nat} {d : Dn} {as : List T} {B B' : T} {t : T} {ρ' : Env} (ha : as.length = d.nps) (h : evIs F W d.body (as.map some ++ List.replicate (d.n - as.length) none) [B] = .ok (.rt t, ρ') [B']) (hi : d.rk ≠ .I ∨ nodeless t = true) : runD F W d as [B] = .ok t [B'] := by
  unfold runD
  have : Nat.beq as.length d.nps = true := by rw [ha]; exact Nat.beq_refl _
  rw [this, if_pos rfl, h]
  show (if (match d.rk with | .I => nodeless t | _ => true) = true then if Nat.ble 1 1 then Res.ok t [B'] else _ else _) = _
  have q : (match d.rk with | .I => nodeless t | _ => true) = true := by
    cases hk : d.rk with
    | I => rcases hi with z | z
           · exact absurd hk z
           · exact z
    | _ => rfl
  rw [q] <;> rfl
theorem runNx {F : Fns} {W : Nat} {d : Dn} {as : List T} {B B' : T} {ρ' : Env} (ha : as.length = d.nps) (h : evIs F W d.body (as.map some ++ List.replicate (d.n - as.length) none) [B] = .ok (.nx, ρ') [B']) : runD F W d as [B] = .ok .non [B'] := by
  unfold runD
  have : Nat.beq as.length d.nps = true := by rw [ha]; exact Nat.beq_refl _
  rw [this, if_pos rfl, h]
  show (if (match d.rk with | .I => nodeless T.non | _ => true) = true then if Nat.ble 1 1 then Res.ok T.non [B'] else _ else _) = _
  have q : (match d.rk with | .I => nodeless T.non | _ => true) = true := by cases d.rk <;> rfl
  rw [q] <;> rfl
section
variable {F : Fns} {W : Nat} {ρ ρ' : Env} {μ μ1 μ2 μ3 : Mem}
theorem ssCons {i : IS} {is : List IS} {r : Res (Fl × Env)} (h : evI1 F W i ρ μ = .ok (.nx, ρ') μ1) (h2 : evIs F W is ρ' μ1 = r) : evIs F W (i :: is) ρ μ = r := by rw [evIs, h, Res.bind_ok]; exact h2
theorem ssRet {i : IS} {is : List IS} {t : T} (h : evI1 F W i ρ μ = .ok (.rt t, ρ') μ1) : evIs F W (i :: is) ρ μ = .ok (.rt t, ρ') μ1 := by rw [evIs, h, Res.bind_ok]
theorem sIf {c : IE} {a b : List IS} {v : Bool} {r : Res (Fl × Env)} (h : evE F ρ c μ = .ok (.bl v) μ1) (h2 : evIs F W (if v then a else b) ρ μ1 = r) : evI1 F W (.iff c a b) ρ μ = r := by
  rw [evI1, h, Res.bind_ok]
  cases v <;> exact h2
theorem sRet {e : IE} {t : T} (h : evE F ρ e μ = .ok t μ1) : evI1 F W (.ret (some e)) ρ μ = .ok (.rt t, ρ) μ1 := by rw [evI1, h] <;> rfl
theorem sAsg {i : Nat} {e : IE} {ks : List Nat} {t : T} (h : evE F ρ e μ = .ok t μ1) : evI1 F W (.asg i e ks) ρ μ = .ok (.nx, (kill ρ ks).set i (some t)) μ1 := by rw [evI1, h] <;> rfl
theorem eOr2 {a b : IE} {x y : Bool} (ha : evE F ρ a μ = .ok (.bl x) μ) (hb : evE F ρ b μ = .ok (.bl y) μ) : evE F ρ (.bop false [a, b]) μ = .ok (.bl (x || y)) μ := by
  show Res.bind (evE F ρ a μ) _ = _
  rw [ha, Res.bind_ok]
  cases x with
  | true => rfl
  | false => show evB F ρ false [b] μ = _; rw [evB, hb] <;> rfl
theorem eAnd2 {a b : IE} {x y : Bool} (ha : evE F ρ a μ = .ok (.bl x) μ) (hb : evE F ρ b μ = .ok (.bl y) μ) : evE F ρ (.bop true [a, b]) μ = .ok (.bl (x && y)) μ := by
  show Res.bind (evE F ρ a μ) _ = _
  rw [ha, Res.bind_ok]
  cases x with
  | false => rfl
  | true => show evB F ρ true [b] μ = _; rw [evB, hb] <;> rfl
theorem eIte {c a b : IE} {v : Bool} {r : Res T} (h : evE F ρ c μ = .ok (.bl v) μ1) (h2 : evE F ρ (if v then a else b) μ1 = r) : evE F ρ (.ite c a b) μ = r := by
  rw [evE, h, Res.bind_ok]
  cases v <;> exact h2
theorem eCall1 {f : Nat} {a : IE} {t : T} {r : Res T} (h : evE F ρ a μ = .ok t μ1) (hf : F f [t] μ1 = r) : evE F ρ (.call f [a] []) μ = r := by
  rw [evE, evL, h, Res.bind_ok, evL, Res.bind_ok, Res.bind_ok, evK, Res.bind_ok]
  exact hf
theorem eCallK {f : Nat} {a : IE} {t : T} {r : Res T} (h : evE F ρ a μ = .ok t μ1) (hf : F f [t] μ1 = r) : evE F ρ (.call f [] [(0, a)]) μ = r := by
  rw [evE, evL, Res.bind_ok, evK, h, Res.bind_ok, evK, Res.bind_ok, Res.bind_ok]
  exact hf
theorem eCall2 {f : Nat} {a b : IE} {t u : T} {r : Res T} (h : evE F ρ a μ = .ok t μ1) (h' : evE F ρ b μ1 = .ok u μ2) (hf : F f [t, u] μ2 = r) : evE F ρ (.call f [a, b] []) μ = r := by
  rw [evE, evL, h, Res.bind_ok, evL, h', Res.bind_ok, evL, Res.bind_ok, Res.bind_ok, Res.bind_ok, evK, Res.bind_ok]
  exact hf
theorem eCall3 {f : Nat} {a b c : IE} {t u v : T} {r : Res T} (h : evE F ρ a μ = .ok t μ1) (h' : evE F ρ b μ1 = .ok u μ2) (h'' : evE F ρ c μ2 = .ok v μ3) (hf : F f [t, u, v] μ3 = r) : evE F ρ (.call f [a, b, c] []) μ = r := by
  rw [evE, evL, h, Res.bind_ok, evL, h', Res.bind_ok, evL, h'', Res.bind_ok, evL, Res.bind_ok, Res.bind_ok, Res.bind_ok, Res.bind_ok, evK, Res.bind_ok]
  exact hf
theorem sEx {e : IE} {t : T} (h : evE F ρ e μ = .ok t μ1) : evI1 F W (.ex e) ρ μ = .ok (.nx, ρ) μ1 := by rw [evI1, h] <;> rfl
theorem sFor {tg : Tg} {it : II} {b : List IS} {xs : List T} {r : Res (Fl × Env)} (h : evI F ρ it μ = .ok xs μ1) (h2 : forLoop (fun x ρ μ => match bindTg tg x ρ with | some ρ' => evIs F W b ρ' μ | none => .stuck) xs ρ μ1 = r) : evI1 F W (.for tg it b []) ρ μ = r := by
  rw [evI1, h, Res.bind_ok]
  exact h2
theorem sForK {tg : Tg} {it : II} {b : List IS} {ks : List Nat} {xs : List T} {r : Res (Fl × Env)} (h : evI F ρ it μ = .ok xs μ1) (h2 : forLoop (fun x ρ μ => match bindTg tg x ρ with | some ρ' => evIs F W b ρ' μ | none => .stuck) xs (kill ρ ks) μ1 = r) : evI1 F W (.for tg it b ks) ρ μ = r := by
  rw [evI1, h, Res.bind_ok]
  exact h2
theorem eLst2 {a b : IE} {x y : Int} (h1 : evE F ρ a μ = .ok (.int x) μ) (h2 : evE F ρ b μ = .ok (.int y) μ) : evE F ρ (.lst [(false, a), (false, b)]) μ = .ok (.lst ([x, y].map .int)) μ := by
  rw [evE, evS, h1, Res.bind_ok]
  dsimp only
  rw [evS, h2, Res.bind_ok]
  rfl
theorem eLst3 {a b c : IE} {x y z : Int} (h1 : evE F ρ a μ = .ok (.int x) μ) (h2 : evE F ρ b μ = .ok (.int y) μ) (h3 : evE F ρ c μ = .ok (.int z) μ) : evE F ρ (.lst [(false, a), (false, b), (false, c)]) μ = .ok (.lst ([x, y, z].map .int)) μ := by
  rw [evE, evS, h1, Res.bind_ok]
  dsimp only
  rw [evS, h2, Res.bind_ok]
  dsimp only
  rw [evS, h3, Res.bind_ok]
  rfl
theorem eStr {i : Nat} {a b : PySem.Str} {op : COp} {v : Bool} (h : getV ρ i = some (.str a)) (hc : pCmp op (.str a) (.str b) = some v) : evE F ρ (.cmp op (.var i) (.cst (.str b))) μ = .ok (.bl v) μ := by
  rw [evE, eVar h, Res.bind_ok]
  show Res.bind (.ok (T.str b) μ) _ = _
  rw [Res.bind_ok]
  show Res.bind (opt (pCmp op (.str a) (.str b)) μ) _ = _
  rw [hc] <;> rfl
theorem eOrT {a b : IE} (ha : evE F ρ a μ = .ok (.bl true) μ) : evE F ρ (.bop false [a, b]) μ = .ok (.bl true) μ := by
  show Res.bind (evE F ρ a μ) _ = _
  rw [ha, Res.bind_ok] <;> rfl
theorem eAndF {a b : IE} (ha : evE F ρ a μ = .ok (.bl false) μ) : evE F ρ (.bop true [a, b]) μ = .ok (.bl false) μ := by
  show Res.bind (evE F ρ a μ) _ = _
  rw [ha, Res.bind_ok] <;> rfl
theorem eNot {a : IE} {v : Bool} (h : evE F ρ a μ = .ok (.bl v) μ) : evE F ρ (.nt a) μ = .ok (.bl (!v)) μ := by rw [evE, h] <;> rfl
theorem sNot {e : IE} {a : List IS} (h : evE F ρ e μ = .ok (.bl true) μ) : evI1 F W (.iff (.nt e) a []) ρ μ = .ok (.nx, ρ) μ := sIf (v := false) (eNot h) rfl
end
theorem enum_get (xs : List Int) (i : Nat) {v : Int} (h : xs[i]? = some v) : (enumL 0 (xs.map T.int))[i]? = some (.tup [.int (i : Int), .int v]) := by
  have := enumL_get (xs.map T.int) 0 i (.int v) (by rw [List.getElem?_map, h] <;> rfl)
  rw [this, Int.zero_add]
theorem enum_mem {xs : List Int} {x : T} (h : x ∈ enumL 0 (xs.map T.int)) : ∃ (i : Nat) (v : Int), xs[i]? = some v ∧ x = .tup [.int (i : Int), .int v] := by
  obtain ⟨i, hi, e⟩ := List.mem_iff_getElem.mp h
  have hl : i < xs.length := by rw [enumL_len, List.length_map] at hi; exact hi
  refine ⟨i, xs[i], List.getElem?_eq_getElem hl, ?_⟩
  have := enum_get xs i (List.getElem?_eq_getElem hl)
  rw [List.getElem?_eq_getElem hi, e] at this
  exact Option.some.inj this
theorem getD_some {xs : List Int} {i : Nat} (h : i < xs.length) : xs[i]? = some (xs.getD i 0) := by
  rw [List.getD_eq_getElem?_getD, List.getElem?_eq_getElem h] <;> rfl
section
variable {F : Fns} {W : Nat} {ρ : Env} {μ : Mem}
theorem eIx {a e : IE} {xs : List Int} {i : Nat} (ha : evE F ρ a μ = .ok (.lst (xs.map .int)) μ) (he : evE F ρ e μ = .ok (.int (i : Int)) μ) (hi : i < xs.length) : evE F ρ (.sub a e) μ = .ok (.int (xs.getD i 0)) μ := by
  rw [evE, ha, Res.bind_ok, he, Res.bind_ok]
  show Res.bind (opt (atT (xs.map T.int) (i : Int)) μ) _ = _
  rw [atT_ints (getD_some hi)] <;> rfl
theorem sSetI {x : Nat} {ei e : IE} {xs : List Int} {i : Nat} {v : Int} (he : evE F ρ e μ = .ok (.int v) μ) (hx : getV ρ x = some (.lst (xs.map .int))) (hi : evE F ρ ei μ = .ok (.int (i : Int)) μ) (hl : i < xs.length) : evI1 F W (.set x ei e []) ρ μ = .ok (.nx, ρ.set x (some (.lst ((xs.set i v).map .int)))) μ := by
  rw [evI1, he, Res.bind_ok]
  have : getN (kill ρ []) x = some (.lst (xs.map .int)) := by
    show getN ρ x = _
    unfold getN
    rw [hx]
  rw [this]
  show Res.bind (.ok (T.lst (xs.map .int)) μ) _ = _
  rw [Res.bind_ok, hi, Res.bind_ok, setT_ints hl] <;> rfl
theorem eSum {e : IE} {xs : List Int} (h : evE F ρ e μ = .ok (.lst (xs.map .int)) μ) : evE F ρ (.bi .sum [e]) μ = .ok (.int xs.sum) μ := by
  rw [evE, evL, h, Res.bind_ok, evL, Res.bind_ok, Res.bind_ok]
  show (if ([T.lst (xs.map .int)].all fun t => kidsOk t (kidsOf (view μ t))) = true then opt ((intsOf (xs.map T.int)).map fun ns => T.int ns.sum) μ else .stuck) = _
  rw [intsOf_map] <;> rfl
end
theorem line_eq1 : line = 16777216 := rfl
theorem rng_item {n j : Nat} {x : T} (h : (rngL 1 1 n)[j]? = some x) : j < n ∧ x = .int ((j + 1 : Nat) : Int) := by
  have hj : j < n := by
    have := (List.getElem?_eq_some_iff.mp h).1
    rw [rngL_len] at this
    exact this
  rw [rngL_get _ _ _ _ hj] at h
  cases h
  exact ⟨hj, by congr 1; omega⟩
theorem rng0_item {n j : Nat} {x : T} (h : (rngL 0 1 n)[j]? = some x) : j < n ∧ x = .int (j : Int) := by
  have hj : j < n := by
    have := (List.getElem?_eq_some_iff.mp h).1
    rw [rngL_len] at this
    exact this
  rw [rngL_get _ _ _ _ hj] at h
  cases h
  exact ⟨hj, by congr 1; omega⟩
theorem lcGo3 {f : T → Mem → Res (Option T)} {a b c x y z : T} {μ : Mem} (h1 : f a μ = .ok (some x) μ) (h2 : f b μ = .ok (some y) μ) (h3 : f c μ = .ok (some z) μ) : lcGo f [a, b, c] 0 μ = .ok [x, y, z] μ := by
  show Res.bind (f a μ) _ = _
  rw [h1, Res.bind_ok]
  show Res.bind (Res.bind (f b μ) _) _ = _
  rw [h2, Res.bind_ok]
  show Res.bind (Res.bind (Res.bind (f c μ) _) _) _ = _
  rw [h3, Res.bind_ok] <;> rfl
theorem draws_go {f : T → Mem → Res (Option T)} {m : Int} (hf : ∀ x B c, IsStream B c → c < 1000000 → ∃ v B', f x [B] = .ok (some (.int v)) [B'] ∧ 0 ≤ v ∧ v < m ∧ IsStream B' (c + 1)) : ∀ (xs : List T) (n c : Nat) (B : T), IsStream B c → c + xs.length ≤ 1000 → n + xs.length ≤ 1000 → ∃ (vs : List Int) (B' : T), lcGo f xs n [B] = .ok (vs.map .int) [B'] ∧ vs.length = xs.length ∧ (∀ v ∈ vs, 0 ≤ v ∧ v < m) ∧ IsStream B' (c + xs.length)
  | [], n, c, B, h, _, _ => ⟨[], B, rfl, rfl, (fun v hv => by cases hv), h⟩
  | x :: xs, n, c, B, h, hc, hn => by
    rw [List.length_cons] at hc hn
    have l1 := line_eq1
    obtain ⟨v, B1, e1, a, b, h1⟩ := hf x B c h (by omega)
    obtain ⟨vs, B2, e2, q, w, h2⟩ := draws_go hf xs (n + 1) (c + 1) B1 h1 (by omega) (by omega)
    refine ⟨v :: vs, B2, ?_, by rw [List.length_cons, List.length_cons, q], ?_, ?_⟩
    · show Res.bind (f x [B]) _ = _
      rw [e1, Res.bind_ok]
      show (if Nat.blt n line = true then (lcGo f xs (n + 1) [B1]).bind fun r μ => .ok (T.int v :: r) μ else .stuck) = _
      have hb : Nat.blt n line = true := Nat.ble_eq_true_of_le (by omega)
      rw [hb, if_pos rfl, e2] <;> rfl
    · intro u hu
      rcases List.mem_cons.mp hu with rfl | hu
      · exact ⟨a, b⟩
      · exact w u hu
    · rw [List.length_cons, show c + (xs.length + 1) = c + 1 + xs.length by omega]
      exact h2
end MP

/-! G1: what the laws' own helpers compute, whatever their places: draws, picks, mixing. -/
namespace MP
abbrev Fam := Nat → Fns
/-- at each level the def at place i is d -/
def DefAt (Fk : Fam) (W i : Nat) (d : Dn) : Prop := ∀ k as μ, Fk (k + 1) i as μ = runD (Fk k) W d as μ
theorem fam_at {Δ : List Dn} {W i : Nat} {d : Dn} (h : Δ[i]? = some d) : DefAt (callF Δ W) W i d := fun k as μ => by
  show (match Δ[i]? with | some d => runD (callF Δ W k) W d as μ | none => spoilF k i as μ) = _
  rw [h]
section
variable {F : Fns} {W : Nat} {ρ : Env} {μ : Mem}
/-- comprehensions -/
theorem lc_map {el : IE} {tg : Tg} {it : II} {xs : List T} (g : T → T) (hi : evI F ρ it μ = .ok xs μ) (hl : xs.length ≤ line) (h : ∀ x ∈ xs, ∃ ρ', bindTg tg x (forget ρ tg.slots) = some ρ' ∧ evE F ρ' el μ = .ok (g x) μ) : evE F ρ (.lc el tg it none) μ = .ok (.lst (xs.map g)) μ := by
  rw [evE, hi, Res.bind_ok, lcGo_map (g := g) (fun x hx => ?_) (by omega)]
  · rfl
  · obtain ⟨ρ', e1, e2⟩ := h x hx
    rw [e1]
    show Res.bind (.ok true μ) _ = _
    rw [Res.bind_ok]
    show Res.bind (evE F ρ' el μ) _ = _
    rw [e2] <;> rfl
theorem lc_filter {el c : IE} {tg : Tg} {it : II} {xs : List T} (p : T → Bool) (g : T → T) (hi : evI F ρ it μ = .ok xs μ) (hl : xs.length ≤ line) (h : ∀ x ∈ xs, ∃ ρ', bindTg tg x (forget ρ tg.slots) = some ρ' ∧ evE F ρ' c μ = .ok (.bl (p x)) μ ∧ (p x = true → evE F ρ' el μ = .ok (g x) μ)) :
    evE F ρ (.lc el tg it (some c)) μ = .ok (.lst ((xs.filter p).map g)) μ := by
  have e : (xs.filter p).map g = xs.filterMap fun x => if p x then some (g x) else none := by
    clear hi hl h
    induction xs with
    | nil => rfl
    | cons x xs ih =>
      cases hp : p x with
      | true => rw [List.filter_cons_of_pos hp, List.map_cons, ih, List.filterMap_cons_some (by rw [hp, if_pos rfl])]
      | false => rw [List.filter_cons_of_neg (by rw [hp]; decide), ih, List.filterMap_cons_none (by rw [hp] <;> rfl)]
  rw [e, evE, hi, Res.bind_ok, lcGo_filter (g := fun x => if p x then some (g x) else none) (fun x hx => ?_) (by omega)]
  · rfl
  · obtain ⟨ρ', e1, e2, e3⟩ := h x hx
    rw [e1]
    show Res.bind (evC F ρ' (some c) μ) _ = _
    have ec : evC F ρ' (some c) μ = .ok (p x) μ := by rw [evC, e2] <;> rfl
    rw [ec, Res.bind_ok]
    cases hp : p x with
    | true =>
      show Res.bind (evE F ρ' el μ) _ = _
      rw [e3 hp] <;> rfl
    | false => rfl
/-- len of a list -/
theorem eLen {e : IE} {xs : List T} (h : evE F ρ e μ = .ok (.lst xs) μ) : evE F ρ (.bi .len [e]) μ = .ok (.int xs.length) μ := by
  rw [evE, evL, h, Res.bind_ok, evL, Res.bind_ok, Res.bind_ok]
  rfl
theorem eLenT {e : IE} {xs : List T} (h : evE F ρ e μ = .ok (.tup xs) μ) : evE F ρ (.bi .len [e]) μ = .ok (.int xs.length) μ := by
  rw [evE, evL, h, Res.bind_ok, evL, Res.bind_ok, Res.bind_ok]
  rfl
/-- all -/
theorem blsOf_map (bs : List Bool) : blsOf (bs.map T.bl) = some bs := by
  induction bs with
  | nil => rfl
  | cons b bs ih => show (blsOf (bs.map T.bl)).map (b :: ·) = _; rw [ih] <;> rfl
theorem eAll {e : IE} {bs : List Bool} (h : evE F ρ e μ = .ok (.lst (bs.map .bl)) μ) : evE F ρ (.bi .all [e]) μ = .ok (.bl (bs.all id)) μ := by
  rw [evE, evL, h, Res.bind_ok, evL, Res.bind_ok, Res.bind_ok]
  show opt ((blsOf (bs.map T.bl)).map fun bs => T.bl (bs.all id)) μ = _
  rw [blsOf_map] <;> rfl
end
section
variable {Fk : Fam} {W iD : Nat}
theorem drawF (hd : DefAt Fk W iD dDraw) {k c : Nat} {B : T} {m : Int} (hs : IsStream B c) (hc : c < 1000000) (hW : 64 ≤ W) (h0 : 0 < m) (h1 : m < 1073741824) : ∃ (d : Int) (B' : T), Fk (k + 1) iD [.box 0, .int m] [B] = .ok (.int d) [B'] ∧ 0 ≤ d ∧ d < m ∧ IsStream B' (c + 1) := by
  obtain ⟨d, B', e, a, b, s⟩ := draw_ok (F := Fk k) (W := W) (m := m) hs hc hW h0 h1
  exact ⟨d, B', by rw [hd]; exact e, a, b, s⟩
theorem atT_nat {xs : List T} {i : Nat} {x : T} (h : xs[i]? = some x) : atT xs (i : Int) = some x := by
  have hi : i < xs.length := (List.getElem?_eq_some_iff.mp h).1
  have e : L2.ixN xs.length (i : Int) = some i := by
    unfold L2.ixN
    rw [if_pos (by omega), if_pos (by omega)] <;> simp
  unfold atT
  rw [e]
  exact h
theorem eIxT {F : Fns} {ρ : Env} {μ μ1 μ2 : Mem} {a e : IE} {xs : List T} {i : Nat} {x : T} (ha : evE F ρ a μ = .ok (.lst xs) μ1) (he : evE F ρ e μ1 = .ok (.int (i : Int)) μ2) (hx : xs[i]? = some x) : evE F ρ (.sub a e) μ = .ok x μ2 := by
  rw [evE, ha, Res.bind_ok, he, Res.bind_ok]
  show Res.bind (opt (atT xs (i : Int)) μ2) _ = _
  rw [atT_nat hx] <;> rfl
theorem eIxU {F : Fns} {ρ : Env} {μ μ1 μ2 : Mem} {a e : IE} {xs : List T} {i : Nat} {x : T} (ha : evE F ρ a μ = .ok (.tup xs) μ1) (he : evE F ρ e μ1 = .ok (.int (i : Int)) μ2) (hx : xs[i]? = some x) : evE F ρ (.sub a e) μ = .ok x μ2 := by
  rw [evE, ha, Res.bind_ok, he, Res.bind_ok]
  show Res.bind (opt (atT xs (i : Int)) μ2) _ = _
  rw [atT_nat hx] <;> rfl
def dPick (iD : Nat) : Dn := ⟨2, 2, [.S, .S], .S, [(.ret (some (.sub (.var 1) (.call iD [(.var 0), (.bi .len [(.var 1)])] []))))]⟩
theorem pickF {iP : Nat} (hd : DefAt Fk W iD dDraw) (hp : DefAt Fk W iP (dPick iD)) {k c : Nat} {B : T} {xs : List T} (hs : IsStream B c) (hc : c < 1000000) (hW : 64 ≤ W) (h0 : 0 < xs.length) (h1 : xs.length < 1073741824) : ∃ (x : T) (B' : T), Fk (k + 2) iP [.box 0, .lst xs] [B] = .ok x [B'] ∧ x ∈ xs ∧ IsStream B' (c + 1) := by
  obtain ⟨d, B', e, a, b, s⟩ := drawF (k := k) (m := (xs.length : Int)) hd hs hc hW (by omega) (by omega)
  have hd' : (d.toNat : Int) = d := Int.toNat_of_nonneg a
  have hlt : d.toNat < xs.length := by omega
  refine ⟨xs[d.toNat], B', ?_, List.getElem_mem hlt, s⟩
  rw [hp]
  let ρ : Env := [some (.box 0), some (.lst xs)]
  have a2 : evE (Fk (k + 1)) ρ (.call iD [(.var 0), (.bi .len [(.var 1)])] []) [B] = .ok (.int (d.toNat : Int)) [B'] := by rw [hd']; exact eCall2 (eVar rfl) (eLen (eVar rfl)) e
  exact runRt (d := dPick iD) (ρ' := ρ) rfl (ssRet (sRet (eIxT (eVar rfl) a2 (List.getElem?_eq_getElem hlt)))) (.inl (by decide : RK.S ≠ RK.I))
def dMixed (iD : Nat) : Dn := ⟨2, 5, [.S, .S, .S, .P, .P], .P, [(.par [3, 4] [(.bi .list [(.var 1)]), (.lst [])] []),
  (.for (.nm 2) (.rng1 (.bi .len [(.var 3)])) [(.appPop 4 3 (some (.call iD [(.var 0), (.bi .len [(.var 3)])] [])))] []),
  (.ret (some (.var 4)))]⟩
/-- a loop of draws: the memory goes on -/
theorem forDraw {f : T → Env → Mem → Res (Fl × Env)} (P : Nat → Env → Prop) : ∀ {xs : List T} {i c : Nat} {ρ : Env} {B : T}, P i ρ → IsStream B c → (∀ j x ρ B c', xs[j]? = some x → P (i + j) ρ → IsStream B c' → c' = c + j → ∃ ρ' B', f x ρ [B] = .ok (.nx, ρ') [B'] ∧ P (i + j + 1) ρ' ∧ IsStream B' (c' + 1)) → ∃ ρ' B', forLoop f xs ρ [B] = .ok (.nx, ρ') [B'] ∧ P (i + xs.length) ρ' ∧ IsStream B' (c + xs.length)
  | [], i, c, ρ, B, h, s, _ => ⟨ρ, B, rfl, h, s⟩
  | x :: xs, i, c, ρ, B, h, s, st => by
    obtain ⟨ρ1, B1, e1, p1, s1⟩ := st 0 x ρ B c rfl h s rfl
    obtain ⟨ρ2, B2, e2, p2, s2⟩ := forDraw P (xs := xs) (i := i + 1) (c := c + 1) p1 s1 (fun j y ρ B c' hy p s hc => by
      have e : i + 1 + j = i + (j + 1) := by omega
      rw [e] at p ⊢
      exact st (j + 1) y ρ B c' (by simpa using hy) p s (by omega))
    refine ⟨ρ2, B2, ?_, by rw [List.length_cons, show i + (xs.length + 1) = i + 1 + xs.length by omega]; exact p2, by rw [List.length_cons, show c + (xs.length + 1) = c + 1 + xs.length by omega]; exact s2⟩
    show Res.bind (f x ρ [B]) _ = _
    rw [e1, Res.bind_ok]
    exact e2
theorem mixedF {iM : Nat} (hd : DefAt Fk W iD dDraw) (hm : DefAt Fk W iM (dMixed iD)) {k c : Nat} {B : T} {xs : List T} (hs : IsStream B c) (hc : c + xs.length < 1000000) (hW : 64 ≤ W) (h1 : xs.length < 1000000) : ∃ (ys : List T) (B' : T), Fk (k + 2) iM [.box 0, .lst xs] [B] = .ok (.lst ys) [B'] ∧ (∀ y ∈ ys, y ∈ xs) ∧ ys.length = xs.length ∧ IsStream B' (c + xs.length) := by
  have l1 := line_eq1
  rw [hm]
  let ρ0 : Env := [some (.box 0), some (.lst xs), none, none, none]
  let ρ1 : Env := [some (.box 0), some (.lst xs), none, some (.lst xs), some (.lst [])]
  have s1 : evI1 (Fk (k + 1)) W (.par [3, 4] [(.bi .list [(.var 1)]), (.lst [])] []) ρ0 [B] = .ok (.nx, ρ1) [B] := rfl
  obtain ⟨ρ', B', e, ⟨o, l, f, rfl, q1, q2, q3, q4⟩, s'⟩ := forDraw (f := fun x ρ μ => match bindTg (.nm 2) x ρ with | some ρ' => evIs (Fk (k + 1)) W [(.appPop 4 3 (some (.call iD [(.var 0), (.bi .len [(.var 3)])] [])))] ρ' μ | none => .stuck) (xs := rngL 0 1 xs.length) (i := 0) (c := c) (ρ := ρ1) (B := B)
    (fun i ρ => ∃ o l f, ρ = [some (.box 0), some (.lst xs), o, some (.lst l), some (.lst f)] ∧ l.length + i = xs.length ∧ f.length = i ∧ (∀ y ∈ l, y ∈ xs) ∧ ∀ y ∈ f, y ∈ xs)
    ⟨none, xs, [], rfl, rfl, rfl, (fun y h => h), fun y h => by cases h⟩ hs (fun j x ρ B c' hx hp hs' hcc => by
      obtain ⟨o, l, f, rfl, q1, q2, q3, q4⟩ := hp
      obtain ⟨hj, rfl⟩ := rng0_item hx
      rw [Nat.zero_add] at q1 q2
      obtain ⟨d, B', e, a, b, s⟩ := drawF (k := k) (m := (l.length : Int)) hd hs' (by omega) hW (by omega) (by omega)
      have hd' : (d.toNat : Int) = d := Int.toNat_of_nonneg a
      have hlt : d.toNat < l.length := by omega
      let ρ : Env := [some (.box 0), some (.lst xs), some (.int (j : Int)), some (.lst l), some (.lst f)]
      have ec : evE (Fk (k + 1)) ρ (.call iD [(.var 0), (.bi .len [(.var 3)])] []) [B] = .ok (.int d) [B'] := eCall2 (eVar rfl) (eLen (eVar rfl)) e
      have ep : pPop (.lst l) (some (.int d)) = some (l[d.toNat], .lst (l.eraseIdx d.toNat)) := by
        have q : smallI d = true := by simp only [smallI, Bool.and_eq_true, decide_eq_true_eq]; omega
        have ei : L2.ixN l.length d = some d.toNat := by
          unfold L2.ixN
          rw [if_pos a, if_pos (by omega)]
        simp only [pPop]
        rw [if_pos q, ei]
        dsimp only
        rw [List.getElem?_eq_getElem hlt]
      have hb : Nat.blt f.length line = true := Nat.ble_eq_true_of_le (by omega)
      have st : evI1 (Fk (k + 1)) W (.appPop 4 3 (some (.call iD [(.var 0), (.bi .len [(.var 3)])] []))) ρ [B] = .ok (.nx, [some (.box 0), some (.lst xs), some (.int (j : Int)), some (.lst (l.eraseIdx d.toNat)), some (.lst (f ++ [l[d.toNat]]))]) [B'] := by
        rw [evI1]
        show Res.bind (.ok f [B]) _ = _
        rw [Res.bind_ok]
        show Res.bind (.ok l [B]) _ = _
        rw [Res.bind_ok]
        show Res.bind ((evE (Fk (k + 1)) ρ _ [B]).bind _) _ = _
        rw [ec, Res.bind_ok, Res.bind_ok, ep]
        show (if Nat.blt f.length line = true then _ else _) = _
        rw [hb] <;> rfl
      refine ⟨_, B', ssCons st rfl, ⟨some (.int (j : Int)), _, _, rfl, ?_, ?_, fun y hy => q3 y (List.mem_of_mem_eraseIdx hy), fun y hy => ?_⟩, s⟩
      · rw [List.length_eraseIdx_of_lt hlt]
        omega
      · rw [List.length_append, List.length_singleton]
        omega
      · rcases List.mem_append.mp hy with hy | hy
        · exact q4 y hy
        · rw [List.mem_singleton.mp hy]
          exact q3 _ (List.getElem_mem hlt))
  rw [rngL_len] at *
  have hi : evI (Fk (k + 1)) ρ1 (.rng1 (.bi .len [(.var 3)])) [B] = .ok (rngL 0 1 xs.length) [B] := by
    have q2 : smallI (xs.length : Int) = true := by simp only [smallI, Bool.and_eq_true, decide_eq_true_eq]; omega
    have q3 : evE (Fk (k + 1)) ρ1 (.bi .len [(.var 3)]) [B] = .ok (.int (xs.length : Int)) [B] := eLen (eVar rfl)
    rw [evI, q3, Res.bind_ok]
    dsimp only
    rw [if_pos q2, Int.toNat_natCast]
  refine ⟨f, B', ?_, q4, by omega, s'⟩
  exact runRt (d := dMixed iD) rfl (ssCons s1 (ssCons (sFor hi e) (ssRet (sRet (eVar rfl))))) (.inl (by decide : RK.P ≠ RK.I))
end
end MP

/-! G2: descending lists and sorting, plain. -/
namespace MP
def asc : List Int → Prop
  | [] => True
  | [_] => True
  | a :: b :: r => a ≤ b ∧ asc (b :: r)
def desc : List Int → Prop
  | [] => True
  | [_] => True
  | a :: b :: r => b ≤ a ∧ desc (b :: r)
instance descD : ∀ l : List Int, Decidable (desc l)
  | [] => .isTrue trivial
  | [_] => .isTrue trivial
  | a :: b :: r => @instDecidableAnd (b ≤ a) (desc (b :: r)) _ (descD (b :: r))
theorem desc_tail {a : Int} {l : List Int} (h : desc (a :: l)) : desc l := by
  cases l with
  | nil => trivial
  | cons b r => exact h.2
theorem asc_tail {a : Int} {l : List Int} (h : asc (a :: l)) : asc l := by
  cases l with
  | nil => trivial
  | cons b r => exact h.2
theorem desc_head {a : Int} : ∀ {l : List Int}, desc (a :: l) → ∀ x ∈ l, x ≤ a
  | [], _, x, hx => by cases hx
  | b :: r, h, x, hx => by
    rcases List.mem_cons.mp hx with rfl | hx
    · exact h.1
    · exact Int.le_trans (desc_head h.2 x hx) h.1
theorem desc_cons {a : Int} {l : List Int} (h1 : ∀ x ∈ l, x ≤ a) (h2 : desc l) : desc (a :: l) := by
  cases l with
  | nil => trivial
  | cons b r => exact ⟨h1 b List.mem_cons_self, h2⟩
theorem asc_cons {a : Int} {l : List Int} (h1 : ∀ x ∈ l, a ≤ x) (h2 : asc l) : asc (a :: l) := by
  cases l with
  | nil => trivial
  | cons b r => exact ⟨h1 b List.mem_cons_self, h2⟩
theorem asc_head {a : Int} : ∀ {l : List Int}, asc (a :: l) → ∀ x ∈ l, a ≤ x
  | [], _, x, hx => by cases hx
  | b :: r, h, x, hx => by
    rcases List.mem_cons.mp hx with rfl | hx
    · exact h.1
    · exact Int.le_trans h.1 (asc_head h.2 x hx)
theorem mem_ins {i x : Int} : ∀ {l : List Int}, x ∈ ins i l ↔ x = i ∨ x ∈ l
  | [] => by simp [ins]
  | j :: r => by
    unfold ins
    split
    · simp
    · rw [List.mem_cons, mem_ins (l := r), List.mem_cons]
      constructor
      · rintro (h | h | h)
        · exact .inr (.inl h)
        · exact .inl h
        · exact .inr (.inr h)
      · rintro (h | h | h)
        · exact .inr (.inl h)
        · exact .inl h
        · exact .inr (.inr h)
theorem mem_isort {x : Int} : ∀ {l : List Int}, x ∈ isort l ↔ x ∈ l
  | [] => by simp [isort]
  | i :: r => by
    show x ∈ ins i (isort r) ↔ _
    rw [mem_ins, mem_isort (l := r), List.mem_cons]
theorem len_ins (i : Int) : ∀ l : List Int, (ins i l).length = l.length + 1
  | [] => rfl
  | j :: r => by
    unfold ins
    split
    · rfl
    · rw [List.length_cons, len_ins i r, List.length_cons]
theorem len_isort : ∀ l : List Int, (isort l).length = l.length
  | [] => rfl
  | i :: r => by show (ins i (isort r)).length = _; rw [len_ins, len_isort r, List.length_cons]
theorem asc_ins {i : Int} : ∀ {l : List Int}, asc l → asc (ins i l)
  | [], _ => trivial
  | j :: r, h => by
    unfold ins
    split
    · rename_i hij
      exact ⟨hij, h⟩
    · rename_i hij
      refine asc_cons (fun x hx => ?_) (asc_ins (asc_tail h))
      rcases mem_ins.mp hx with rfl | hx
      · omega
      · exact asc_head h x hx
theorem asc_isort : ∀ l : List Int, asc (isort l)
  | [] => trivial
  | i :: r => asc_ins (asc_isort r)
/-- the greatest goes to the end -/
theorem ins_last {i : Int} : ∀ {l : List Int}, asc l → (∀ x ∈ l, x ≤ i) → ins i l = l ++ [i]
  | [], _, _ => rfl
  | j :: r, h, hi => by
    unfold ins
    split
    · rename_i hij
      have hj := hi j List.mem_cons_self
      have e : j = i := by omega
      subst e
      have all : ∀ x ∈ r, x = j := fun x hx => by
        have h1 := asc_head h x hx
        have h2 := hi x (List.mem_cons_of_mem _ hx)
        omega
      clear h hi hij hj
      show j :: j :: r = j :: (r ++ [j])
      congr 1
      induction r with
      | nil => rfl
      | cons x r ih =>
        have hx := all x List.mem_cons_self
        subst hx
        rw [List.cons_append, ← ih fun y hy => all y (List.mem_cons_of_mem _ hy)]
    · rw [ins_last (asc_tail h) fun x hx => hi x (List.mem_cons_of_mem _ hx)]
      rfl
theorem asc_snoc {i : Int} : ∀ {l : List Int}, asc l → (∀ x ∈ l, x ≤ i) → asc (l ++ [i])
  | [], _, _ => trivial
  | j :: r, h, hi => by
    refine asc_cons (fun x hx => ?_) (asc_snoc (asc_tail h) fun x hx => hi x (List.mem_cons_of_mem _ hx))
    rcases List.mem_append.mp hx with hx | hx
    · exact asc_head h x hx
    · rw [List.mem_singleton.mp hx]
      exact hi j List.mem_cons_self
theorem desc_snoc {i : Int} : ∀ {l : List Int}, desc l → (∀ x ∈ l, i ≤ x) → desc (l ++ [i])
  | [], _, _ => trivial
  | j :: r, h, hi => by
    refine desc_cons (fun x hx => ?_) (desc_snoc (desc_tail h) fun x hx => hi x (List.mem_cons_of_mem _ hx))
    rcases List.mem_append.mp hx with hx | hx
    · exact desc_head h x hx
    · rw [List.mem_singleton.mp hx]
      exact hi j List.mem_cons_self
theorem asc_rev : ∀ {l : List Int}, desc l → asc l.reverse
  | [], _ => trivial
  | a :: r, h => by
    rw [List.reverse_cons]
    exact asc_snoc (asc_rev (desc_tail h)) fun x hx => desc_head h x (List.mem_reverse.mp hx)
theorem desc_rev : ∀ {l : List Int}, asc l → desc l.reverse
  | [], _ => trivial
  | a :: r, h => by
    rw [List.reverse_cons]
    exact desc_snoc (desc_rev (asc_tail h)) fun x hx => asc_head h x (List.mem_reverse.mp hx)
theorem isort_desc : ∀ {l : List Int}, desc l → isort l = l.reverse
  | [], _ => rfl
  | a :: r, h => by
    show ins a (isort r) = _
    rw [isort_desc (desc_tail h), List.reverse_cons, ins_last (asc_rev (desc_tail h)) fun x hx => desc_head h x (List.mem_reverse.mp hx)]
theorem desc_iff {l : List Int} : desc l ↔ l = (isort l).reverse := by
  constructor
  · intro h
    rw [isort_desc h, List.reverse_reverse]
  · intro h
    rw [h]
    exact desc_rev (asc_isort l)
theorem desc_drop : ∀ {l : List Int} (k : Nat), desc l → desc (l.drop k)
  | [], k, _ => by rw [List.drop_nil]; trivial
  | a :: r, 0, h => h
  | a :: r, k + 1, h => desc_drop k (desc_tail h)
theorem desc_get : ∀ {l : List Int} {i j : Nat}, desc l → i ≤ j → ∀ {x y : Int}, l[i]? = some x → l[j]? = some y → y ≤ x
  | [], _, _, _, _, _, _, hx, _ => by simp at hx
  | a :: r, 0, 0, _, _, x, y, hx, hy => by
    rw [hx] at hy
    cases hy
    exact Int.le_refl _
  | a :: r, 0, j + 1, h, _, x, y, hx, hy => by
    have hx : some a = some x := by simpa using hx
    cases hx
    exact desc_head h y (List.mem_of_getElem? (by simpa using hy))
  | a :: r, i + 1, 0, _, hij, _, _, _, _ => by omega
  | a :: r, i + 1, j + 1, h, hij, x, y, hx, hy => desc_get (desc_tail h) (Nat.le_of_succ_le_succ hij) (by simpa using hx) (by simpa using hy)
/-- the neighbours, as the program looks at them -/
theorem zip_desc : ∀ l : List Int, ((l.zip (l.drop 1)).all fun p => decide (p.2 ≤ p.1)) = decide (desc l)
  | [] => rfl
  | [a] => rfl
  | a :: b :: r => by
    have ih := zip_desc (b :: r)
    show (decide (b ≤ a) && (((b :: r).zip ((b :: r).drop 1)).all fun p => decide (p.2 ≤ p.1))) = _
    rw [ih]
    by_cases h1 : b ≤ a
    · by_cases h2 : desc (b :: r)
      · rw [decide_eq_true h1, decide_eq_true h2, decide_eq_true (show desc (a :: b :: r) from ⟨h1, h2⟩)] <;> rfl
      · rw [decide_eq_false h2, decide_eq_false (show ¬ desc (a :: b :: r) from fun z => h2 z.2), Bool.and_false]
    · rw [decide_eq_false h1, decide_eq_false (show ¬ desc (a :: b :: r) from fun z => h1 z.1), Bool.false_and]
end MP

/-! G3: the same, loosened, copied. -/
namespace MP
def dSame (i : Nat) : Dn := ⟨2, 4, [.S, .S, .S, .S], .I, [(.iff (.isi (.var 1) [.list, .tuple] false) [(.iff (.bop false [(.cmp .ne (.isi (.var 0) [.list] true) (.isi (.var 1) [.list] true)), (.cmp .ne (.isi (.var 0) [.tuple] true) (.isi (.var 1) [.tuple] true))]) [(.ret (some (.cst (.bl false))))] []), (.ret (some (.bop true [(.cmp .eq (.bi .len [(.var 0)]) (.bi .len [(.var 1)])), (.bi .all [(.lc (.call i [(.var 2), (.var 3)] []) (.tp [(.nm 2), (.nm 3)]) (.zip (.var 0) (.var 1)) none)])])))] []),
  (.iff (.isi (.var 1) [.dict] true) [(.ret (some (.bop true [(.isi (.var 0) [.dict] true), (.call i [(.itm (.var 0)), (.itm (.var 1))] [])])))] []),
  (.iff (.bop false [(.isi (.var 1) [.bool] true), (.isi (.var 0) [.bool] true)]) [(.ret (some (.bop true [(.isi (.var 1) [.bool] true), (.isi (.var 0) [.bool] true), (.cmp .eq (.var 0) (.var 1))])))] []),
  (.iff (.bop false [(.cmp .isN (.var 1) (.cst .non)), (.cmp .isN (.var 0) (.cst .non))]) [(.ret (some (.bop true [(.cmp .isN (.var 1) (.cst .non)), (.cmp .isN (.var 0) (.cst .non))])))] []),
  (.iff (.bop false [(.cmp .ne (.isi (.var 1) [.int] true) (.isi (.var 0) [.int] true)), (.cmp .ne (.isi (.var 1) [.str] true) (.isi (.var 0) [.str] true))]) [(.ret (some (.cst (.bl false))))] []),
  (.ret (some (.bop true [(.nt (.isi (.var 0) [.list, .tuple, .dict] false)), (.cmp .eq (.var 0) (.var 1))])))]⟩
mutual
/-- what the laws compare: no dict, so deep, not too long -/
def sameOk : Nat → T → Bool
  | _, .non => true
  | _, .bl _ => true
  | _, .int _ => true
  | _, .str x => x.cps.all (· < 0x110000)
  | d, .dk ks vs => (match d with | d + 2 => ks.isEmpty && vs.isEmpty | _ => false)
  | d, .lst xs => (match d with | 0 => false | d + 1 => Nat.ble xs.length line && sameOkL d xs)
  | d, .tup xs => (match d with | 0 => false | d + 1 => Nat.ble xs.length line && sameOkL d xs)
  | _, _ => false
def sameOkL : Nat → List T → Bool
  | _, [] => true
  | d, x :: xs => sameOk d x && sameOkL d xs
end
theorem sameOkL_mem {d : Nat} : ∀ {xs : List T} {x : T}, sameOkL d xs = true → x ∈ xs → sameOk d x = true
  | [], x, _, h => by cases h
  | y :: ys, x, e, h => by
    have e : (sameOk d y && sameOkL d ys) = true := by cases d <;> exact e
    rw [Bool.and_eq_true] at e
    rcases List.mem_cons.mp h with rfl | h
    · exact e.1
    · exact sameOkL_mem e.2 h
theorem sameOkL_all {d : Nat} : ∀ {xs : List T}, (∀ x ∈ xs, sameOk d x = true) → sameOkL d xs = true
  | [], _ => by cases d <;> rfl
  | y :: ys, h => by
    have e : sameOkL d (y :: ys) = (sameOk d y && sameOkL d ys) := by cases d <;> rfl
    rw [e, h y List.mem_cons_self, sameOkL_all fun x hx => h x (List.mem_cons_of_mem _ hx)] <;> rfl
theorem zip_self (xs : List T) : zipL xs xs = xs.map fun a => T.tup [a, a] := by
  induction xs with
  | nil => rfl
  | cons x xs ih => show T.tup [x, x] :: zipL xs xs = _; rw [ih] <;> rfl
section
variable {Fk : Fam} {W iS iD : Nat} {B : T}
theorem same_str {F : Fns} {a : PySem.Str} (h : a.cps.all (fun c => decide (c < 0x110000)) = true) : runD F W (dSame iS) [.str a, .str a] [B] = .ok (.bl true) [B] := by
  have e : pCmp .eq (.str a) (.str a) = some true := by
    show (if (datum 60 (.str a) && datum 60 (.str a)) = true then some (decide (a = a)) else none) = _
    have d : datum 60 (.str a) = true := h
    rw [d, decide_eq_true rfl] <;> rfl
  have c : evE F [some (.str a), some (.str a), none, none] (.bop true [(.nt (.isi (.var 0) [.list, .tuple, .dict] false)), (.cmp .eq (.var 0) (.var 1))]) [B] = .ok (.bl true) [B] := by
    have h1 : evE F [some (.str a), some (.str a), none, none] (.nt (.isi (.var 0) [.list, .tuple, .dict] false)) [B] = .ok (.bl true) [B] := rfl
    have h2 : evE F [some (.str a), some (.str a), none, none] (.cmp .eq (.var 0) (.var 1)) [B] = .ok (.bl true) [B] := by
      show (opt (pCmp .eq (.str a) (.str a)) [B]).bind (fun r μ => Res.ok (T.bl r) μ) = _
      rw [e] <;> rfl
    exact eAnd2 h1 h2
  exact runRt (d := dSame iS) (ρ' := [some (.str a), some (.str a), none, none]) rfl (ssCons (sIf (v := false) rfl rfl) (ssCons (sIf (v := false) rfl rfl) (ssCons (sIf (v := false) rfl rfl) (ssCons (sIf (v := false) rfl rfl) (ssCons (sIf (v := false) rfl rfl) (ssRet (sRet c))))))) (.inr rfl)
theorem same_refl (hs : DefAt Fk W iS (dSame iS)) : ∀ (k : Nat) (t : T), sameOk k t = true → Fk (k + 1) iS [t, t] [B] = .ok (.bl true) [B] := by
  intro k
  induction k with
  | zero =>
    intro t ht
    rw [hs]
    cases t with
    | int a =>
      have c : evE (Fk 0) [some (.int a), some (.int a), none, none] (.bop true [(.nt (.isi (.var 0) [.list, .tuple, .dict] false)), (.cmp .eq (.var 0) (.var 1))]) [B] = .ok (.bl true) [B] := by
        have h1 : evE (Fk 0) [some (.int a), some (.int a), none, none] (.nt (.isi (.var 0) [.list, .tuple, .dict] false)) [B] = .ok (.bl true) [B] := rfl
        have h2 : evE (Fk 0) [some (.int a), some (.int a), none, none] (.cmp .eq (.var 0) (.var 1)) [B] = .ok (.bl (decide (a = a))) [B] := eCmp (eVar rfl) (eVar rfl) rfl
        rw [decide_eq_true rfl] at h2
        exact eAnd2 h1 h2
      exact runRt (d := dSame iS) (ρ' := [some (.int a), some (.int a), none, none]) rfl (ssCons (sIf (v := false) rfl rfl) (ssCons (sIf (v := false) rfl rfl) (ssCons (sIf (v := false) rfl rfl) (ssCons (sIf (v := false) rfl rfl) (ssCons (sIf (v := false) rfl rfl) (ssRet (sRet c))))))) (.inr rfl)
    | bl b => cases b <;> rfl
    | non => rfl
    | str a => exact same_str ht
    | _ => cases ht
  | succ k ih =>
    intro t ht
    rw [hs]
    have seq : ∀ (xs : List T) (ρ : Env) (h1 : evE (Fk (k + 1)) ρ (.bi .len [(.var 0)]) [B] = .ok (.int xs.length) [B]) (h2 : evE (Fk (k + 1)) ρ (.bi .len [(.var 1)]) [B] = .ok (.int xs.length) [B]) (hz : evI (Fk (k + 1)) ρ (.zip (.var 0) (.var 1)) [B] = .ok (zipL xs xs) [B]) (hl : xs.length ≤ line) (ho : sameOkL k xs = true) (hb : ∀ x, bindTg (.tp [(.nm 2), (.nm 3)]) (.tup [x, x]) (forget ρ (Tg.slots (.tp [(.nm 2), (.nm 3)]))) = some ((ρ.set 2 (some x)).set 3 (some x))) (hlen : ρ.length = 4),
        evE (Fk (k + 1)) ρ (.bop true [(.cmp .eq (.bi .len [(.var 0)]) (.bi .len [(.var 1)])), (.bi .all [(.lc (.call iS [(.var 2), (.var 3)] []) (.tp [(.nm 2), (.nm 3)]) (.zip (.var 0) (.var 1)) none)])]) [B] = .ok (.bl true) [B] := fun xs ρ h1 h2 hz hl ho hb hlen => by
      have c1 : evE (Fk (k + 1)) ρ (.cmp .eq (.bi .len [(.var 0)]) (.bi .len [(.var 1)])) [B] = .ok (.bl (decide ((xs.length : Int) = (xs.length : Int)))) [B] := eCmp h1 h2 rfl
      rw [decide_eq_true rfl] at c1
      have c2 : evE (Fk (k + 1)) ρ (.lc (.call iS [(.var 2), (.var 3)] []) (.tp [(.nm 2), (.nm 3)]) (.zip (.var 0) (.var 1)) none) [B] = .ok (.lst ((zipL xs xs).map fun _ => T.bl true)) [B] := by
        refine lc_map (fun _ => .bl true) hz (by rw [zip_self, List.length_map]; exact hl) fun x hx => ?_
        rw [zip_self] at hx
        obtain ⟨a, ha, rfl⟩ := List.mem_map.mp hx
        refine ⟨_, hb a, ?_⟩
        have g2 : getV ((ρ.set 2 (some a)).set 3 (some a)) 2 = some a := by
          unfold getV
          rw [List.getElem?_set_ne (by decide), List.getElem?_set_self (by omega)]
        have g3 : getV ((ρ.set 2 (some a)).set 3 (some a)) 3 = some a := by
          unfold getV
          rw [List.getElem?_set_self (by rw [List.length_set]; omega)]
        exact eCall2 (eVar g2) (eVar g3) (ih a (sameOkL_mem ho ha))
      have e : (zipL xs xs).map (fun _ => T.bl true) = ((zipL xs xs).map fun _ => true).map T.bl := by rw [List.map_map] <;> rfl
      rw [e] at c2
      have c3 := eAll c2
      have e2 : ((zipL xs xs).map fun _ => true).all id = true := List.all_eq_true.mpr fun x hx => by
        obtain ⟨_, _, rfl⟩ := List.mem_map.mp hx
        rfl
      rw [e2] at c3
      exact eAnd2 c1 c3
    cases t with
    | int a =>
      have c : evE (Fk (k + 1)) [some (.int a), some (.int a), none, none] (.bop true [(.nt (.isi (.var 0) [.list, .tuple, .dict] false)), (.cmp .eq (.var 0) (.var 1))]) [B] = .ok (.bl true) [B] := by
        have h1 : evE (Fk (k + 1)) [some (.int a), some (.int a), none, none] (.nt (.isi (.var 0) [.list, .tuple, .dict] false)) [B] = .ok (.bl true) [B] := rfl
        have h2 : evE (Fk (k + 1)) [some (.int a), some (.int a), none, none] (.cmp .eq (.var 0) (.var 1)) [B] = .ok (.bl (decide (a = a))) [B] := eCmp (eVar rfl) (eVar rfl) rfl
        rw [decide_eq_true rfl] at h2
        exact eAnd2 h1 h2
      exact runRt (d := dSame iS) (ρ' := [some (.int a), some (.int a), none, none]) rfl (ssCons (sIf (v := false) rfl rfl) (ssCons (sIf (v := false) rfl rfl) (ssCons (sIf (v := false) rfl rfl) (ssCons (sIf (v := false) rfl rfl) (ssCons (sIf (v := false) rfl rfl) (ssRet (sRet c))))))) (.inr rfl)
    | bl b => cases b <;> rfl
    | non => rfl
    | lst xs =>
      have ht : (Nat.ble xs.length line && sameOkL k xs) = true := ht
      rw [Bool.and_eq_true] at ht
      have c := seq xs [some (.lst xs), some (.lst xs), none, none] (eLen (eVar rfl)) (eLen (eVar rfl)) rfl (Nat.le_of_ble_eq_true ht.1) ht.2 (fun x => rfl) rfl
      exact runRt (d := dSame iS) (ρ' := [some (.lst xs), some (.lst xs), none, none]) rfl (ssRet (sIf (v := true) rfl (ssCons (sIf (v := false) rfl rfl) (ssRet (sRet c))))) (.inr rfl)
    | tup xs =>
      have ht : (Nat.ble xs.length line && sameOkL k xs) = true := ht
      rw [Bool.and_eq_true] at ht
      have c := seq xs [some (.tup xs), some (.tup xs), none, none] (eLenT (eVar rfl)) (eLenT (eVar rfl)) rfl (Nat.le_of_ble_eq_true ht.1) ht.2 (fun x => rfl) rfl
      exact runRt (d := dSame iS) (ρ' := [some (.tup xs), some (.tup xs), none, none]) rfl (ssRet (sIf (v := true) rfl (ssCons (sIf (v := false) rfl rfl) (ssRet (sRet c))))) (.inr rfl)
    | str a => exact same_str ht
    | dk ks vs =>
      cases k with
      | zero => cases ht
      | succ d =>
        have ht : (ks.isEmpty && vs.isEmpty) = true := ht
        rw [Bool.and_eq_true] at ht
        obtain rfl := List.isEmpty_iff.mp ht.1
        obtain rfl := List.isEmpty_iff.mp ht.2
        have c1 : evE (Fk (d + 1 + 1)) [some (.dk [] []), some (.dk [] []), none, none] (.call iS [(.itm (.var 0)), (.itm (.var 1))] []) [B] = .ok (.bl true) [B] := eCall2 (t := .lst []) (u := .lst []) rfl rfl (ih (.lst []) rfl)
        have c2 : evE (Fk (d + 1 + 1)) [some (.dk [] []), some (.dk [] []), none, none] (.bop true [(.isi (.var 0) [.dict] true), (.call iS [(.itm (.var 0)), (.itm (.var 1))] [])]) [B] = .ok (.bl true) [B] := eAnd2 (x := true) rfl c1
        exact runRt (d := dSame iS) (ρ' := [some (.dk [] []), some (.dk [] []), none, none]) rfl (ssCons (sIf (v := false) rfl rfl) (ssRet (sIf (v := true) rfl (ssRet (sRet c2))))) (.inr rfl)
    | _ => cases ht
theorem sameOk_up : ∀ {d : Nat} {t : T}, sameOk d t = true → sameOk (d + 1) t = true := by
  intro d
  induction d with
  | zero =>
    intro t h
    cases t <;> first | rfl | exact h | cases h
  | succ d ih =>
    intro t h
    have up : ∀ xs, sameOkL d xs = true → sameOkL (d + 1) xs = true := fun xs hx => sameOkL_all fun x hm => ih (sameOkL_mem hx hm)
    cases t with
    | lst xs =>
      have h : (Nat.ble xs.length line && sameOkL d xs) = true := h
      rw [Bool.and_eq_true] at h
      show (Nat.ble xs.length line && sameOkL (d + 1) xs) = true
      rw [h.1, up xs h.2] <;> rfl
    | tup xs =>
      have h : (Nat.ble xs.length line && sameOkL d xs) = true := h
      rw [Bool.and_eq_true] at h
      show (Nat.ble xs.length line && sameOkL (d + 1) xs) = true
      rw [h.1, up xs h.2] <;> rfl
    | non => rfl
    | bl _ => rfl
    | int _ => rfl
    | str _ => exact h
    | dk ks vs => cases d with | zero => cases h | succ d => exact h
    | _ => cases h
theorem sameOk_le {d e : Nat} {t : T} (h : sameOk d t = true) (hl : d ≤ e) : sameOk e t = true := by
  obtain ⟨n, rfl⟩ := Nat.exists_eq_add_of_le hl
  clear hl
  induction n with
  | zero => exact h
  | succ n ih => exact sameOk_up ih
/-! ### loosened -/
def dLoose (i iD : Nat) : Dn := ⟨2, 4, [.S, .S, .D, .S], .D, [(.iff (.isi (.var 1) [.list, .tuple] false) [(.asg 2 (.lc (.call i [(.var 0), (.var 3)] []) (.nm 3) (.seq (.var 1)) none) []), (.ret (some (.ite (.cmp .eq (.call iD [(.var 0), (.cst (.int 2))] []) (.cst (.int 0))) (.var 2) (.bi .tuple [(.var 2)]))))] []),
  (.ret (some (.imm (.var 1))))]⟩
theorem eTuple {F : Fns} {ρ : Env} {μ : Mem} {e : IE} {xs : List T} (h : evE F ρ e μ = .ok (.lst xs) μ) : evE F ρ (.bi .tuple [e]) μ = .ok (.tup xs) μ := by
  rw [evE, evL, h, Res.bind_ok, evL, Res.bind_ok, Res.bind_ok]
  rfl
theorem looseF {iL : Nat} (hd : DefAt Fk W iD dDraw) (hL : DefAt Fk W iL (dLoose iL iD)) {k c : Nat} (hs : IsStream B c) (hc : c < 1000000) (hW : 64 ≤ W) (is : List Int) (hl : is.length ≤ line) (t : T) (ht : t = .lst (is.map .int) ∨ t = .tup (is.map .int)) :
    ∃ r B', Fk (k + 2) iL [.box 0, t] [B] = .ok r [B'] ∧ (r = .lst (is.map .int) ∨ r = .tup (is.map .int)) ∧ IsStream B' (c + 1) := by
  obtain ⟨d, B', e, a, b, s⟩ := drawF (k := k) (m := 2) hd hs hc hW (by decide) (by decide)
  have hseq : seqOf t = some (is.map .int) := by rcases ht with rfl | rfl <;> rfl
  have hisi : evE (Fk (k + 1)) [some (.box 0), some t, none, none] (.isi (.var 1) [.list, .tuple] false) [B] = .ok (.bl true) [B] := by rcases ht with rfl | rfl <;> rfl
  have item : ∀ x : Int, Fk (k + 1) iL [.box 0, .int x] [B] = .ok (.int x) [B] := fun x => by
    rw [hL]
    exact runRt (d := dLoose iL iD) (ρ' := [some (.box 0), some (.int x), none, none]) rfl (ssCons (sIf (v := false) rfl rfl) (ssRet (sRet (eImm (eVar rfl))))) (.inl (by decide : RK.D ≠ RK.I))
  have hlc : evE (Fk (k + 1)) [some (.box 0), some t, none, none] (.lc (.call iL [(.var 0), (.var 3)] []) (.nm 3) (.seq (.var 1)) none) [B] = .ok (.lst ((is.map T.int).map fun x => x)) [B] := by
    have hi : evI (Fk (k + 1)) [some (.box 0), some t, none, none] (.seq (.var 1)) [B] = .ok (is.map .int) [B] := by
      show opt (seqOf t) [B] = _
      rw [hseq] <;> rfl
    refine lc_map (fun x => x) hi (by rw [List.length_map]; exact hl) fun x hx => ?_
    obtain ⟨y, _, rfl⟩ := List.mem_map.mp hx
    exact ⟨_, rfl, eCall2 (eVar rfl) (eVar rfl) (item y)⟩
  rw [List.map_id'] at hlc
  have hcmp : evE (Fk (k + 1)) [some (.box 0), some t, some (.lst (is.map .int)), none] (.cmp .eq (.call iD [(.var 0), (.cst (.int 2))] []) (.cst (.int 0))) [B] = .ok (.bl (decide (d = 0))) [B'] := eCmp (eCall2 (eVar rfl) eCst e) eCst rfl
  refine ⟨if d = 0 then .lst (is.map .int) else .tup (is.map .int), B', ?_, by split <;> simp, s⟩
  rw [hL]
  have hret : evE (Fk (k + 1)) [some (.box 0), some t, some (.lst (is.map .int)), none] (.ite (.cmp .eq (.call iD [(.var 0), (.cst (.int 2))] []) (.cst (.int 0))) (.var 2) (.bi .tuple [(.var 2)])) [B] = .ok (if d = 0 then .lst (is.map .int) else .tup (is.map .int)) [B'] := by
    refine eIte hcmp ?_
    by_cases h : d = 0
    · rw [decide_eq_true h, if_pos h]
      exact eVar rfl
    · rw [decide_eq_false h, if_neg h]
      exact eTuple (eVar rfl)
  exact runRt (d := dLoose iL iD) rfl (ssRet (sIf (v := true) hisi (ssCons (sAsg hlc) (ssRet (sRet hret))))) (.inl (by decide : RK.D ≠ RK.I))
/-! ### copied -/
def dCopied (i : Nat) : Dn := ⟨1, 4, [.S, .D, .S, .S], .D, [(.iff (.isi (.var 0) [.list, .tuple] false) [(.asg 1 (.lc (.call i [(.var 2)] []) (.nm 2) (.seq (.var 0)) none) []), (.ret (some (.ite (.isi (.var 0) [.list] true) (.var 1) (.bi .tuple [(.var 1)]))))] []),
  (.iff (.isi (.var 0) [.dict] true) [(.ret (some (.bi .dict [(.lc (.tup [(.imm (.var 3)), (.call i [(.sub (.var 0) (.var 3))] [])]) (.nm 3) (.keys (.var 0)) none)])))] []),
  (.ret (some (.imm (.var 0))))]⟩
mutual
def copyOk : Nat → T → Bool
  | _, .non => true
  | _, .bl _ => true
  | _, .int _ => true
  | _, .str _ => true
  | _, .dk [] [] => true
  | d, .lst xs => (match d with | 0 => false | d + 1 => Nat.ble xs.length line && copyOkL d xs)
  | d, .tup xs => (match d with | 0 => false | d + 1 => Nat.ble xs.length line && copyOkL d xs)
  | _, _ => false
def copyOkL : Nat → List T → Bool
  | _, [] => true
  | d, x :: xs => copyOk d x && copyOkL d xs
end
theorem copyOkL_mem {d : Nat} : ∀ {xs : List T} {x : T}, copyOkL d xs = true → x ∈ xs → copyOk d x = true
  | [], x, _, h => by cases h
  | y :: ys, x, e, h => by
    have e : (copyOk d y && copyOkL d ys) = true := by cases d <;> exact e
    rw [Bool.and_eq_true] at e
    rcases List.mem_cons.mp h with rfl | h
    · exact e.1
    · exact copyOkL_mem e.2 h
theorem copyF {iC : Nat} (hC : DefAt Fk W iC (dCopied iC)) : ∀ (k : Nat) (t : T), copyOk k t = true → Fk (k + 1) iC [t] [B] = .ok t [B] := by
  intro k
  induction k with
  | zero =>
    intro t ht
    rw [hC]
    cases t with
    | dk ks vs => cases ks <;> cases vs <;> first | rfl | cases ht
    | non => rfl
    | bl _ => rfl
    | int _ => rfl
    | str _ => rfl
    | _ => cases ht
  | succ k ih =>
    intro t ht
    rw [hC]
    have seq : ∀ (xs : List T) (t : T), seqOf t = some xs → Nat.ble xs.length line = true → copyOkL k xs = true → evE (Fk (k + 1)) [some t, none, none, none] (.lc (.call iC [(.var 2)] []) (.nm 2) (.seq (.var 0)) none) [B] = .ok (.lst xs) [B] := fun xs t hs hl ho => by
      have hi : evI (Fk (k + 1)) [some t, none, none, none] (.seq (.var 0)) [B] = .ok xs [B] := by
        show opt (seqOf t) [B] = _
        rw [hs] <;> rfl
      have := lc_map (F := Fk (k + 1)) (ρ := [some t, none, none, none]) (μ := [B]) (el := .call iC [(.var 2)] []) (tg := .nm 2) (fun x => x) hi (Nat.le_of_ble_eq_true hl) fun x hx => ⟨_, rfl, eCall1 (eVar rfl) (ih x (copyOkL_mem ho hx))⟩
      rw [List.map_id'] at this
      exact this
    cases t with
    | dk ks vs => cases ks <;> cases vs <;> first | rfl | cases ht
    | non => rfl
    | bl _ => rfl
    | int _ => rfl
    | str _ => rfl
    | lst xs =>
      have ht : (Nat.ble xs.length line && copyOkL k xs) = true := ht
      rw [Bool.and_eq_true] at ht
      have c := seq xs (.lst xs) rfl ht.1 ht.2
      exact runRt (d := dCopied iC) (ρ' := [some (.lst xs), some (.lst xs), none, none]) rfl (ssRet (sIf (v := true) rfl (ssCons (sAsg c) (ssRet (sRet (eIte (v := true) rfl (eVar rfl))))))) (.inl (by decide : RK.D ≠ RK.I))
    | tup xs =>
      have ht : (Nat.ble xs.length line && copyOkL k xs) = true := ht
      rw [Bool.and_eq_true] at ht
      have c := seq xs (.tup xs) rfl ht.1 ht.2
      exact runRt (d := dCopied iC) (ρ' := [some (.tup xs), some (.lst xs), none, none]) rfl (ssRet (sIf (v := true) rfl (ssCons (sAsg c) (ssRet (sRet (eIte (v := false) rfl (eTuple (eVar rfl)))))))) (.inl (by decide : RK.D ≠ RK.I))
    | _ => cases ht
end
end MP

/-! G4: falling rows: what is one, of any object. -/
namespace MP
/-- no box and no script -/
def plnT : T → Bool
  | .scr _ => false
  | .box _ => false
  | _ => true
def isLT : T → Bool
  | .lst _ => true
  | .tup _ => true
  | _ => false
def isW : T → Bool
  | .int _ => true
  | _ => false
def posI : T → Bool
  | .int i => decide (0 < i)
  | _ => false
def fallL (xs : List T) : Bool := xs.all posI && (match intsOf xs with
  | some is => decide (desc is)
  | none => false)
def fallT : T → Bool
  | .lst xs => fallL xs
  | .tup xs => fallL xs
  | _ => false
/-- a thing and its items: no box, no script; not too long -/
def okT (t : T) : Prop := plnT t = true ∧ (∀ x ∈ kidsOf t, plnT x = true) ∧ (kidsOf t).length ≤ line
theorem posI_ints : ∀ {xs : List T}, xs.all posI = true → ∃ is : List Int, xs = is.map .int ∧ ∀ i ∈ is, 0 < i
  | [], _ => ⟨[], rfl, fun i hi => by cases hi⟩
  | x :: xs, h => by
    rw [List.all_cons, Bool.and_eq_true] at h
    obtain ⟨is, rfl, hp⟩ := posI_ints h.2
    cases x with
    | int i =>
      refine ⟨i :: is, rfl, fun j hj => ?_⟩
      rcases List.mem_cons.mp hj with rfl | hj
      · exact of_decide_eq_true h.1
      · exact hp j hj
    | _ => cases h.1
theorem all_posI {is : List Int} (h : ∀ i ∈ is, 0 < i) : (is.map T.int).all posI = true := List.all_eq_true.mpr fun x hx => by
  obtain ⟨i, hi, rfl⟩ := List.mem_map.mp hx
  exact decide_eq_true (h i hi)
theorem fallL_ints {is : List Int} (h : ∀ i ∈ is, 0 < i) : fallL (is.map .int) = decide (desc is) := by
  unfold fallL
  rw [all_posI h, intsOf_map] <;> rfl
theorem eqTL_ints : ∀ a b : List Int, eqTL (a.map T.int) (b.map T.int) = decide (a = b)
  | [], [] => rfl
  | [], b :: bs => rfl
  | a :: as, [] => rfl
  | a :: as, b :: bs => by
    show (decide (a = b) && eqTL (as.map T.int) (bs.map T.int)) = _
    rw [eqTL_ints as bs]
    by_cases h1 : a = b
    · by_cases h2 : as = bs
      · rw [decide_eq_true h1, decide_eq_true h2, decide_eq_true (by rw [h1, h2])] <;> rfl
      · rw [decide_eq_false h2, Bool.and_false, decide_eq_false fun z => h2 (List.cons.inj z).2]
    · rw [decide_eq_false h1, Bool.false_and, decide_eq_false fun z => h1 (List.cons.inj z).1]
theorem cut_lo (xs : List T) (k : Nat) : cutT xs (some (k : Int)) none = xs.drop k := by
  unfold cutT
  rw [HT.sIx_nat, HT.sIx_none]
  by_cases h : k ≤ xs.length
  · rw [Nat.min_eq_left h, List.take_of_length_le (by rw [List.length_drop]; exact Nat.le_refl _)]
  · rw [Nat.min_eq_right (by omega), List.drop_eq_nil_of_le (by omega : xs.length ≤ k), List.drop_eq_nil_of_le (Nat.le_refl _), List.take_nil]
theorem cut_hi (xs : List T) (k : Nat) : cutT xs none (some (k : Int)) = xs.take k := by
  unfold cutT
  rw [HT.sIx_nat, HT.sIx_none, Nat.sub_zero, List.drop_zero]
  by_cases h : k ≤ xs.length
  · rw [Nat.min_eq_left h]
  · rw [Nat.min_eq_right (by omega), List.take_of_length_le (Nat.le_refl _), List.take_of_length_le (by omega)]
theorem zipL_ints (as bs : List Int) : zipL (as.map T.int) (bs.map T.int) = (as.zip bs).map fun p => T.tup [.int p.1, .int p.2] := by
  induction as generalizing bs with
  | nil => rfl
  | cons a as ih =>
    cases bs with
    | nil => rfl
    | cons b bs => show T.tup [.int a, .int b] :: zipL (as.map T.int) (bs.map T.int) = _; rw [ih] <;> rfl
section
variable {F : Fns} {W : Nat} {ρ : Env} {B : T}
theorem view_plain {t : T} (h : plnT t = true) : view [B] t = t := by
  cases t <;> first | rfl | cases h
theorem kidsOk_plain {t : T} (xs : List T) (h : plnT t = true) : kidsOk t xs = true := by
  cases t <;> first | rfl | cases h
theorem eIsi {i : Nat} {t : T} {cs : List Ty} {o : Bool} (h : getV ρ i = some t) (hp : plnT t = true) : evE F ρ (.isi (.var i) cs o) [B] = .ok (.bl (cs.any (kTy t))) [B] := by
  rw [evE, eVar h, Res.bind_ok, view_plain hp]
/-- a comprehension of truths, all of them -/
theorem all_map {el : IE} {tg : Tg} {it : II} {xs : List T} {μ : Mem} (g : T → Bool) (hi : evI F ρ it μ = .ok xs μ) (hl : xs.length ≤ line) (h : ∀ x ∈ xs, ∃ ρ', bindTg tg x (forget ρ tg.slots) = some ρ' ∧ evE F ρ' el μ = .ok (.bl (g x)) μ) : evE F ρ (.bi .all [.lc el tg it none]) μ = .ok (.bl (xs.all g)) μ := by
  have e := lc_map (fun x => T.bl (g x)) hi hl h
  have e2 : xs.map (fun x => T.bl (g x)) = (xs.map g).map T.bl := by rw [List.map_map] <;> rfl
  rw [e2] at e
  have := eAll e
  rw [List.all_map] at this
  exact this
end
def dIsList : Dn := ⟨1, 1, [.S], .I, [(.ret (some (.isi (.var 0) [.list, .tuple] false)))]⟩
def dWhole : Dn := ⟨1, 1, [.S], .I, [(.ret (some (.bop true [(.isi (.var 0) [.int] true), (.nt (.isi (.var 0) [.bool] true))])))]⟩
def dFallOf (iL iW : Nat) : Dn := ⟨1, 4, [.S, .S, .S, .S], .I, [(.iff (.bop false [(.nt (.call iL [(.var 0)] [])), (.nt (.bi .all [(.lc (.bop true [(.call iW [(.var 3)] []), (.cmp .gt (.var 3) (.cst (.int 0)))]) (.nm 3) (.seq (.var 0)) none)]))]) [(.ret (some (.cst (.bl false))))] []),
  (.ret (some (.bi .all [(.lc (.cmp .ge (.var 1) (.var 2)) (.tp [(.nm 1), (.nm 2)]) (.zip (.var 0) (.slc (.var 0) (some (.cst (.int 1))) none)) none)])))]⟩
def dPass (i : Nat) : Dn := ⟨1, 1, [.S], .I, [(.ret (some (.call i [(.var 0)] [])))]⟩
def dCheck (i : Nat) (st : IS := .never) : Dn := ⟨1, 1, [.S], .I, [(.iff (.nt (.call i [(.var 0)] [])) [st] [])]⟩
def dLawIsRow (iW : Nat) : Dn := ⟨1, 2, [.S, .S], .I, [(.iff (.bop false [(.nt (.isi (.var 0) [.list, .tuple] false)), (.nt (.bi .all [(.lc (.bop true [(.call iW [(.var 1)] []), (.cmp .gt (.var 1) (.cst (.int 0)))]) (.nm 1) (.seq (.var 0)) none)]))]) [(.ret (some (.cst (.bl false))))] []),
  (.ret (some (.cmp .eq (.bi .list [(.var 0)]) (.rev (.bi .sorted [(.var 0)])))))]⟩
section
variable {Fk : Fam} {W : Nat} {B : T}
theorem isListF {i : Nat} (h : DefAt Fk W i dIsList) {k : Nat} {t : T} (hp : plnT t = true) : Fk (k + 1) i [t] [B] = .ok (.bl (isLT t)) [B] := by
  rw [h]
  cases t <;> first | rfl | cases hp
theorem wholeF {i : Nat} (h : DefAt Fk W i dWhole) {k : Nat} {t : T} (hp : plnT t = true) : Fk (k + 1) i [t] [B] = .ok (.bl (isW t)) [B] := by
  rw [h]
  cases t <;> first | rfl | cases hp
theorem posE {ρ : Env} {iW s : Nat} (hW : DefAt Fk W iW dWhole) {k : Nat} {x : T} (hx : plnT x = true) (h : getV ρ s = some x) : evE (Fk (k + 1)) ρ (.bop true [(.call iW [(.var s)] []), (.cmp .gt (.var s) (.cst (.int 0)))]) [B] = .ok (.bl (posI x)) [B] := by
  have h1 : evE (Fk (k + 1)) ρ (.call iW [(.var s)] []) [B] = .ok (.bl (isW x)) [B] := eCall1 (eVar h) (wholeF hW hx)
  cases x with
  | int i =>
    have h2 : evE (Fk (k + 1)) ρ (.cmp .gt (.var s) (.cst (.int 0))) [B] = .ok (.bl (decide (0 < i))) [B] := eCmp (eVar h) eCst rfl
    exact eAnd2 h1 h2
  | box _ => cases hx
  | scr _ => cases hx
  | _ => exact eAndF h1
theorem seqOf_lt {t : T} (hp : plnT t = true) (h : isLT t = true) : seqOf t = some (kidsOf t) := by
  cases t <;> first | rfl | cases h
theorem fallT_lt {t : T} (h : isLT t = true) : fallT t = fallL (kidsOf t) := by
  cases t <;> first | rfl | cases h
theorem fallOfF {i iL iW : Nat} (hd : DefAt Fk W i (dFallOf iL iW)) (hL : DefAt Fk W iL dIsList) (hW : DefAt Fk W iW dWhole) {k : Nat} {t : T} (ht : okT t) : Fk (k + 2) i [t] [B] = .ok (.bl (fallT t)) [B] := by
  obtain ⟨hp, hk, hl⟩ := ht
  rw [hd]
  have c1 : evE (Fk (k + 1)) [some t, none, none, none] (.nt (.call iL [(.var 0)] [])) [B] = .ok (.bl (!isLT t)) [B] := eNot (eCall1 (eVar rfl) (isListF hL hp))
  cases ht : isLT t with
  | false =>
    rw [ht] at c1
    have e : fallT t = false := by cases t <;> first | rfl | cases ht
    rw [e]
    exact runRt (d := dFallOf iL iW) (ρ' := [some t, none, none, none]) rfl (ssRet (sIf (v := true) (eOrT c1) (ssRet (sRet rfl)))) (.inr rfl)
  | true =>
    rw [ht] at c1
    have hs := seqOf_lt hp ht
    rw [fallT_lt ht]
    have hi : evI (Fk (k + 1)) [some t, none, none, none] (.seq (.var 0)) [B] = .ok (kidsOf t) [B] := by
      show opt (seqOf t) [B] = _
      rw [hs] <;> rfl
    have c2 := all_map (el := .bop true [(.call iW [(.var 3)] []), (.cmp .gt (.var 3) (.cst (.int 0)))]) (tg := .nm 3) posI hi hl fun x hx => ⟨_, rfl, posE hW (hk x hx) rfl⟩
    have c3 := eOr2 c1 (eNot c2)
    rw [Bool.not_true, Bool.false_or] at c3
    cases ha : (kidsOf t).all posI with
    | false =>
      rw [ha] at c3
      have e : fallL (kidsOf t) = false := by unfold fallL; rw [ha] <;> rfl
      rw [e]
      exact runRt (d := dFallOf iL iW) (ρ' := [some t, none, none, none]) rfl (ssRet (sIf (v := true) c3 (ssRet (sRet rfl)))) (.inr rfl)
    | true =>
      rw [ha] at c3
      obtain ⟨is, e, hpos⟩ := posI_ints ha
      rw [e, fallL_ints hpos]
      have hz : evI (Fk (k + 1)) [some t, none, none, none] (.zip (.var 0) (.slc (.var 0) (some (.cst (.int 1))) none)) [B] = .ok ((is.zip (is.drop 1)).map fun p => T.tup [.int p.1, .int p.2]) [B] := by
        have e1 : cutT (is.map T.int) (some 1) none = (is.drop 1).map T.int := by rw [show (1 : Int) = ((1 : Nat) : Int) from rfl, cut_lo, List.map_drop]
        cases t with
        | lst xs =>
          have e : xs = is.map .int := e
          subst e
          show Res.ok (zipL (is.map T.int) (cutT (is.map T.int) (some 1) none)) [B] = _
          rw [e1, zipL_ints]
        | tup xs =>
          have e : xs = is.map .int := e
          subst e
          show Res.ok (zipL (is.map T.int) (cutT (is.map T.int) (some 1) none)) [B] = _
          rw [e1, zipL_ints]
        | _ => cases ht
      have hlen : ((is.zip (is.drop 1)).map fun p => T.tup [.int p.1, .int p.2]).length ≤ line := by
        rw [e, List.length_map] at hl
        rw [List.length_map, List.length_zip]
        omega
      have c4 := all_map (el := .cmp .ge (.var 1) (.var 2)) (tg := .tp [(.nm 1), (.nm 2)]) (fun x => match x with | .tup [.int a, .int b] => decide (b ≤ a) | _ => false) hz hlen fun x hx => by
        obtain ⟨p, _, rfl⟩ := List.mem_map.mp hx
        exact ⟨_, rfl, eCmp (eVar rfl) (eVar rfl) rfl⟩
      rw [List.all_map] at c4
      have c5 : evE (Fk (k + 1)) [some t, none, none, none] (.bi .all [(.lc (.cmp .ge (.var 1) (.var 2)) (.tp [(.nm 1), (.nm 2)]) (.zip (.var 0) (.slc (.var 0) (some (.cst (.int 1))) none)) none)]) [B] = .ok (.bl (decide (desc is))) [B] := by rw [← zip_desc]; exact c4
      exact runRt (d := dFallOf iL iW) (ρ' := [some t, none, none, none]) rfl (ssCons (sIf (v := false) c3 rfl) (ssRet (sRet c5))) (.inr rfl)
theorem fallF {j i iL iW : Nat} (hj : DefAt Fk W j (dPass i)) (hd : DefAt Fk W i (dFallOf iL iW)) (hL : DefAt Fk W iL dIsList) (hW : DefAt Fk W iW dWhole) {k : Nat} {t : T} (ht : okT t) : Fk (k + 3) j [t] [B] = .ok (.bl (fallT t)) [B] := by
  rw [hj]
  exact runRt (d := dPass i) (ρ' := [some t]) rfl (ssRet (sRet (eCall1 (eVar rfl) (fallOfF hd hL hW ht)))) (.inr rfl)
theorem checkF {j i iL iW : Nat} {st : IS} (hj : DefAt Fk W j (dCheck i st)) (hd : DefAt Fk W i (dFallOf iL iW)) (hL : DefAt Fk W iL dIsList) (hW : DefAt Fk W iW dWhole) {k : Nat} {t : T} (ht : okT t) (hf : fallT t = true) : Fk (k + 3) j [t] [B] = .ok .non [B] := by
  rw [hj]
  have c := fallOfF (B := B) (k := k) hd hL hW ht
  rw [hf] at c
  exact runNx (d := dCheck i st) (ρ' := [some t]) rfl (ssCons (sNot (eCall1 (eVar rfl) c)) rfl)
theorem lawIsRowF {i iW : Nat} (hd : DefAt Fk W i (dLawIsRow iW)) (hW : DefAt Fk W iW dWhole) {k : Nat} {t : T} (ht : okT t) : Fk (k + 2) i [t] [B] = .ok (.bl (fallT t)) [B] := by
  obtain ⟨hp, hk, hl⟩ := ht
  rw [hd]
  have c1 : evE (Fk (k + 1)) [some t, none] (.nt (.isi (.var 0) [.list, .tuple] false)) [B] = .ok (.bl (!isLT t)) [B] := by
    cases t <;> first | rfl | cases hp
  cases ht : isLT t with
  | false =>
    rw [ht] at c1
    have e : fallT t = false := by cases t <;> first | rfl | cases ht
    rw [e]
    exact runRt (d := dLawIsRow iW) (ρ' := [some t, none]) rfl (ssRet (sIf (v := true) (eOrT c1) (ssRet (sRet rfl)))) (.inr rfl)
  | true =>
    rw [ht] at c1
    have hs := seqOf_lt hp ht
    rw [fallT_lt ht]
    have hi : evI (Fk (k + 1)) [some t, none] (.seq (.var 0)) [B] = .ok (kidsOf t) [B] := by
      show opt (seqOf t) [B] = _
      rw [hs] <;> rfl
    have c2 := all_map (el := .bop true [(.call iW [(.var 1)] []), (.cmp .gt (.var 1) (.cst (.int 0)))]) (tg := .nm 1) posI hi hl fun x hx => ⟨_, rfl, posE hW (hk x hx) rfl⟩
    have c3 := eOr2 c1 (eNot c2)
    rw [Bool.not_true, Bool.false_or] at c3
    cases ha : (kidsOf t).all posI with
    | false =>
      rw [ha] at c3
      have e : fallL (kidsOf t) = false := by unfold fallL; rw [ha] <;> rfl
      rw [e]
      exact runRt (d := dLawIsRow iW) (ρ' := [some t, none]) rfl (ssRet (sIf (v := true) c3 (ssRet (sRet rfl)))) (.inr rfl)
    | true =>
      rw [ha] at c3
      obtain ⟨is, e, hpos⟩ := posI_ints ha
      rw [e, fallL_ints hpos]
      have l1 : evE (Fk (k + 1)) [some t, none] (.bi .list [(.var 0)]) [B] = .ok (.lst (is.map .int)) [B] := by
        cases t with
        | lst xs => rw [show xs = is.map .int from e] <;> rfl
        | tup xs => rw [show xs = is.map .int from e] <;> rfl
        | _ => cases ht
      have l2 : evE (Fk (k + 1)) [some t, none] (.rev (.bi .sorted [(.var 0)])) [B] = .ok (.lst ((isort is).reverse.map .int)) [B] := by
        have l3 : evE (Fk (k + 1)) [some t, none] (.bi .sorted [(.var 0)]) [B] = .ok (.lst ((isort is).map .int)) [B] := by
          cases t with
          | lst xs =>
            rw [show xs = is.map .int from e]
            show opt (match intsOf (is.map T.int) with
    | some ns => some (T.lst ((isort ns).map .int))
    | none => (rowsOf (is.map T.int)).map fun rs => T.lst ((sortR rs).map fun is => T.lst (is.map .int))) [B] = _
            rw [intsOf_map] <;> rfl
          | tup xs =>
            rw [show xs = is.map .int from e]
            show opt ((intsOf (is.map T.int)).map fun ns => T.lst ((isort ns).map .int)) [B] = _
            rw [intsOf_map] <;> rfl
          | _ => cases ht
        rw [evE, l3, Res.bind_ok]
        show Res.ok (T.lst ((isort is).map T.int).reverse) [B] = _
        rw [List.map_reverse]
      have l4 : evE (Fk (k + 1)) [some t, none] (.cmp .eq (.bi .list [(.var 0)]) (.rev (.bi .sorted [(.var 0)]))) [B] = .ok (.bl (decide (desc is))) [B] := by
        rw [evE, l1, Res.bind_ok, l2, Res.bind_ok]
        show Res.bind (opt (if datumL 59 (is.map T.int) && datumL 59 ((isort is).reverse.map T.int) then some (eqTL (is.map T.int) ((isort is).reverse.map T.int)) else none) [B]) _ = _
        rw [datumL_ints, datumL_ints, eqTL_ints]
        show Res.ok (T.bl (decide (is = (isort is).reverse))) [B] = _
        rw [decide_eq_decide.mpr (desc_iff (l := is)).symm]
      exact runRt (d := dLawIsRow iW) (ρ' := [some t, none]) rfl (ssCons (sIf (v := false) c3 rfl) (ssRet (sRet l4))) (.inr rfl)
end
end MP

/-! G5: rows turned, cells, hooks: plain. -/
namespace MP
/-- how many are greater -/
def cnt (p : Int) (is : List Int) : Nat := (is.filter fun x => decide (p < x)).length
structure Row (is : List Int) : Prop where
  pos : ∀ i ∈ is, 0 < i
  le : ∀ i ∈ is, i ≤ 1000
  len : is.length ≤ 1000
  ds : desc is
def turnV (is : List Int) : List Int := (List.range (is.headD 0).toNat).map fun p : Nat => (cnt (p : Int) is : Int)
theorem cnt_le (p : Int) (is : List Int) : cnt p is ≤ is.length := List.length_filter_le ..
theorem cnt_cons (p a : Int) (is : List Int) : cnt p (a :: is) = (if p < a then 1 else 0) + cnt p is := by
  unfold cnt
  by_cases h : p < a
  · rw [List.filter_cons_of_pos (p := fun x => decide (p < x)) (decide_eq_true h), List.length_cons, if_pos h, Nat.add_comm]
  · rw [List.filter_cons_of_neg (p := fun x => decide (p < x)) (by rw [decide_eq_false h]; decide), if_neg h, Nat.zero_add]
theorem cnt_none {p : Int} : ∀ {is : List Int}, (∀ x ∈ is, x ≤ p) → cnt p is = 0
  | [], _ => rfl
  | a :: r, h => by
    rw [cnt_cons, cnt_none fun x hx => h x (List.mem_cons_of_mem _ hx), if_neg]
    have := h a List.mem_cons_self
    omega
theorem cnt_all {p : Int} : ∀ {is : List Int}, (∀ x ∈ is, p < x) → cnt p is = is.length
  | [], _ => rfl
  | a :: r, h => by
    rw [cnt_cons, cnt_all fun x hx => h x (List.mem_cons_of_mem _ hx), if_pos (h a List.mem_cons_self), List.length_cons, Nat.add_comm]
theorem cnt_gt {p : Int} : ∀ {is : List Int} {i : Nat}, desc is → (i < cnt p is ↔ ∃ x, is[i]? = some x ∧ p < x)
  | [], i, _ => by simp [cnt]
  | a :: r, i, h => by
    rw [cnt_cons]
    by_cases hp : p < a
    · rw [if_pos hp]
      cases i with
      | zero => exact ⟨fun _ => ⟨a, rfl, hp⟩, fun _ => by omega⟩
      | succ i =>
        have ih := cnt_gt (p := p) (is := r) (i := i) (desc_tail h)
        rw [List.getElem?_cons_succ]
        rw [← ih]
        omega
    · rw [if_neg hp, cnt_none fun x hx => by have := desc_head h x hx; omega]
      refine ⟨fun z => by omega, fun ⟨x, hx, hx2⟩ => ?_⟩
      have := List.mem_of_getElem? hx
      rcases List.mem_cons.mp this with rfl | hm
      · exact absurd hx2 hp
      · have := desc_head h x hm
        omega
theorem cnt_mono {p q : Int} (h : p ≤ q) : ∀ is : List Int, cnt q is ≤ cnt p is
  | [] => Nat.le_refl _
  | a :: r => by
    have ih := cnt_mono h r
    rw [cnt_cons, cnt_cons]
    split <;> split <;> omega
/-- the cells below one -/
theorem cnt_split {p : Int} : ∀ {is : List Int} {i : Nat} {x : Int}, desc is → is[i]? = some x → p < x → cnt p is = i + 1 + cnt p (is.drop (i + 1))
  | [], i, x, _, h, _ => by simp at h
  | a :: r, 0, x, hd, h, hp => by
    have h : some a = some x := by simpa using h
    cases h
    rw [cnt_cons, if_pos hp] <;> rfl
  | a :: r, i + 1, x, hd, h, hp => by
    have h : r[i]? = some x := by simpa using h
    have ha := desc_head hd x (List.mem_of_getElem? h)
    have ih := cnt_split (desc_tail hd) h hp
    rw [cnt_cons, if_pos (by omega), ih]
    show 1 + (i + 1 + cnt p (r.drop (i + 1))) = i + 1 + 1 + cnt p (r.drop (i + 1))
    omega
theorem head_le {is : List Int} (h : Row is) : 0 ≤ is.headD 0 ∧ is.headD 0 ≤ 1000 ∧ ∀ x ∈ is, x ≤ is.headD 0 := by
  cases is with
  | nil => exact ⟨by decide, by decide, fun x hx => by cases hx⟩
  | cons a r =>
    have h1 := h.pos a List.mem_cons_self
    have h2 := h.le a List.mem_cons_self
    refine ⟨?_, h2, fun x hx => ?_⟩
    · show 0 ≤ a
      omega
    · rcases List.mem_cons.mp hx with rfl | hx
      · exact Int.le_refl _
      · exact desc_head h.ds x hx
theorem turn_len (is : List Int) : (turnV is).length = (is.headD 0).toNat := by
  unfold turnV
  rw [List.length_map, List.length_range]
theorem turn_get {is : List Int} {p : Nat} (h : p < (is.headD 0).toNat) : (turnV is)[p]? = some (cnt (p : Int) is : Int) := by
  unfold turnV
  rw [List.getElem?_map, List.getElem?_range h] <;> rfl
theorem desc_of_get : ∀ {l : List Int}, (∀ (i : Nat) (x y : Int), l[i]? = some x → l[i + 1]? = some y → y ≤ x) → desc l
  | [], _ => trivial
  | [_], _ => trivial
  | a :: b :: r, h => ⟨h 0 a b rfl rfl, desc_of_get (l := b :: r) fun i x y hx hy => h (i + 1) x y (by simpa using hx) (by simpa using hy)⟩
theorem turn_row {is : List Int} (h : Row is) : Row (turnV is) where
  pos := fun i hi => by
    obtain ⟨p, hp, rfl⟩ := List.mem_map.mp hi
    rw [List.mem_range] at hp
    cases is with
    | nil => exact absurd hp (Nat.not_lt_zero p)
    | cons a r =>
      have hp : p < a.toNat := hp
      rw [cnt_cons, if_pos (by omega)]
      omega
  le := fun i hi => by
    obtain ⟨p, hp, rfl⟩ := List.mem_map.mp hi
    have := cnt_le (p : Int) is
    have := h.len
    omega
  len := by
    rw [turn_len]
    have := (head_le h).2.1
    omega
  ds := desc_of_get fun i x y hx hy => by
    have h1 : i + 1 < (turnV is).length := (List.getElem?_eq_some_iff.mp hy).1
    rw [turn_len] at h1
    rw [turn_get (by omega)] at hx
    rw [turn_get h1] at hy
    cases hx
    cases hy
    have := cnt_mono (p := (i : Int)) (q := ((i + 1 : Nat) : Int)) (by omega) is
    omega
theorem range_lt (n m : Nat) (h : m ≤ n) : ((List.range n).filter fun p => decide (p < m)).length = m := by
  induction n with
  | zero => rw [show m = 0 by omega] <;> rfl
  | succ n ih =>
    rw [List.range_succ, List.filter_append, List.length_append]
    by_cases e : m = n + 1
    · subst e
      have : (List.range n).filter (fun p => decide (p < n + 1)) = List.range n := List.filter_eq_self.mpr fun p hp => decide_eq_true (by rw [List.mem_range] at hp; omega)
      rw [this, List.length_range, List.filter_cons_of_pos (p := fun p => decide (p < n + 1)) (decide_eq_true (by omega))] <;> rfl
    · rw [ih (by omega), List.filter_cons_of_neg (p := fun p => decide (p < m)) (by rw [decide_eq_false (by omega)]; decide)] <;> rfl
/-- turned twice -/
theorem turn_turn {is : List Int} (h : Row is) : turnV (turnV is) = is := by
  have hh : ((turnV is).headD 0).toNat = is.length := by
    cases is with
    | nil => rfl
    | cons a r =>
      have ha := h.pos a List.mem_cons_self
      have e : (turnV (a :: r))[0]? = some (cnt ((0 : Nat) : Int) (a :: r) : Int) := turn_get (by show 0 < a.toNat; omega)
      have e2 : (turnV (a :: r)).headD 0 = (cnt ((0 : Nat) : Int) (a :: r) : Int) := by
        cases ht : turnV (a :: r) with
        | nil => rw [ht] at e; cases e
        | cons b s => rw [ht] at e; exact Option.some.inj e
      rw [e2, Int.toNat_natCast]
      exact cnt_all (p := 0) fun x hx => h.pos x hx
  apply List.ext_getElem?
  intro i
  by_cases hi : i < is.length
  · rw [turn_get (by rw [hh]; exact hi), List.getElem?_eq_getElem hi]
    congr 1
    have hx := h.pos is[i] (List.getElem_mem hi)
    have hle := (head_le h).2.2 is[i] (List.getElem_mem hi)
    have e : cnt (i : Int) (turnV is) = ((List.range (is.headD 0).toNat).filter fun p => decide (p < is[i].toNat)).length := by
      unfold cnt turnV
      rw [List.filter_map, List.length_map]
      congr 1
      apply List.filter_congr
      intro p hp
      show decide ((i : Int) < ((cnt (p : Int) is : Nat) : Int)) = _
      apply decide_eq_decide.mpr
      have := cnt_gt (p := (p : Int)) (is := is) (i := i) h.ds
      constructor
      · intro q
        obtain ⟨x, hx1, hx2⟩ := this.mp (by omega)
        rw [List.getElem?_eq_getElem hi] at hx1
        cases hx1
        omega
      · intro q
        have := this.mpr ⟨is[i], List.getElem?_eq_getElem hi, by omega⟩
        omega
    rw [e, range_lt _ _ (by omega)]
    omega
  · have h1 : (turnV (turnV is)).length ≤ i := by
      rw [turn_len, hh]
      omega
    rw [List.getElem?_eq_none h1, List.getElem?_eq_none (by omega)]
/-! ### cells -/
def cellsV : Nat → List Int → List T
  | _, [] => []
  | k, a :: r => ((List.range a.toNat).map fun j : Nat => T.tup [.int (k : Int), .int (j : Int)]) ++ cellsV (k + 1) r
theorem cells_mem : ∀ {is : List Int} {k : Nat} {c : T}, c ∈ cellsV k is → ∃ (i p : Nat) (x : Int), is[i]? = some x ∧ p < x.toNat ∧ c = .tup [.int ((k + i : Nat) : Int), .int (p : Int)]
  | [], k, c, h => by cases h
  | a :: r, k, c, h => by
    rcases List.mem_append.mp h with h | h
    · obtain ⟨j, hj, rfl⟩ := List.mem_map.mp h
      exact ⟨0, j, a, rfl, List.mem_range.mp hj, rfl⟩
    · obtain ⟨i, p, x, h1, h2, rfl⟩ := cells_mem h
      exact ⟨i + 1, p, x, by simpa using h1, h2, by rw [show k + 1 + i = k + (i + 1) by omega]⟩
theorem cells_len : ∀ {is : List Int} {k : Nat}, (∀ i ∈ is, i ≤ 1000) → (cellsV k is).length ≤ 1000 * is.length
  | [], k, _ => Nat.le_refl _
  | a :: r, k, h => by
    have ih := cells_len (is := r) (k := k + 1) fun i hi => h i (List.mem_cons_of_mem _ hi)
    have := h a List.mem_cons_self
    show (((List.range a.toNat).map fun j : Nat => T.tup [.int (k : Int), .int (j : Int)]) ++ cellsV (k + 1) r).length ≤ _
    rw [List.length_append, List.length_map, List.length_range, List.length_cons]
    omega
def enumMap (g : Nat → Int → T) : Nat → List Int → List T
  | _, [] => []
  | k, a :: r => g k a :: enumMap g (k + 1) r
theorem enumMap_eq (g : Nat → Int → T) (G : T → T) (hG : ∀ (i : Nat) (a : Int), G (.tup [.int (i : Int), .int a]) = g i a) : ∀ (is : List Int) (k : Nat), (enumL (k : Int) (is.map T.int)).map G = enumMap g k is
  | [], k => rfl
  | a :: r, k => by
    have ih := enumMap_eq g G hG r (k + 1)
    rw [show ((k + 1 : Nat) : Int) = (k : Int) + 1 by omega] at ih
    show G (.tup [.int (k : Int), .int a]) :: (enumL ((k : Int) + 1) (r.map T.int)).map G = _
    rw [ih, hG] <;> rfl
theorem enumMap_len (g : Nat → Int → T) : ∀ (is : List Int) (k : Nat), (enumMap g k is).length = is.length
  | [], k => rfl
  | a :: r, k => by show (enumMap g (k + 1) r).length + 1 = _; rw [enumMap_len] <;> rfl
theorem enumMap_mem {g : Nat → Int → T} : ∀ {is : List Int} {k : Nat} {t : T}, t ∈ enumMap g k is → ∃ (i : Nat) (a : Int), is[i]? = some a ∧ t = g (k + i) a
  | [], k, t, h => by cases h
  | a :: r, k, t, h => by
    rcases List.mem_cons.mp h with rfl | h
    · exact ⟨0, a, rfl, rfl⟩
    · obtain ⟨i, b, h1, rfl⟩ := enumMap_mem h
      exact ⟨i + 1, b, by simpa using h1, by rw [show k + 1 + i = k + (i + 1) by omega]⟩
theorem enumMap_congr {g g' : Nat → Int → T} : ∀ {is : List Int} {k : Nat}, (∀ (i : Nat) (a : Int), is[i]? = some a → g (k + i) a = g' (k + i) a) → enumMap g k is = enumMap g' k is
  | [], k, _ => rfl
  | a :: r, k, h => by
    show g k a :: enumMap g (k + 1) r = g' k a :: enumMap g' (k + 1) r
    have ih := enumMap_congr (g := g) (g' := g') (is := r) (k := k + 1) fun i b hb => by
      rw [show k + 1 + i = k + (i + 1) by omega]
      exact h (i + 1) b (by simpa using hb)
    rw [show g k a = g' k a from h 0 a rfl, ih]
/-- the hook at a cell, as the law says -/
def hkV (is : List Int) (i p : Nat) : Int := is.getD i 0 - (p : Int) + (cnt (p : Int) (is.drop (i + 1)) : Int)
theorem hk_prog {is : List Int} (h : Row is) {i p : Nat} {x : Int} (hi : is[i]? = some x) (hp : p < x.toNat) : x - (p : Int) + (cnt (p : Int) is : Int) - (i : Int) - 1 = hkV is i p := by
  have e := cnt_split (p := (p : Int)) h.ds hi (by omega)
  unfold hkV
  rw [List.getD_eq_getElem?_getD, hi]
  show _ = x - (p : Int) + _
  rw [e]
  omega
def gridV (is : List Int) : List T := enumMap (fun i a => T.lst ((List.range a.toNat).map fun p : Nat => T.int (hkV is i p))) 0 is
end MP

/-! G6: the program's and the law's turned, cells, hook, hooks. -/
namespace MP
/-- a row as a list or a tuple -/
def RowT (t : T) (is : List Int) : Prop := t = .lst (is.map .int) ∨ t = .tup (is.map .int)
def CellT (c : T) (i p : Nat) : Prop := c = .tup [.int (i : Int), .int (p : Int)] ∨ c = .lst [.int (i : Int), .int (p : Int)]
theorem line_big : 16777216 = line := rfl
theorem Row.okT {t : T} {is : List Int} (h : Row is) (ht : RowT t is) : okT t := by
  have hl := h.len
  have e := line_big
  refine ⟨?_, fun x hx => ?_, ?_⟩
  · rcases ht with rfl | rfl <;> rfl
  · have hx : x ∈ is.map T.int := by rcases ht with rfl | rfl <;> exact hx
    obtain ⟨i, _, rfl⟩ := List.mem_map.mp hx
    rfl
  · have : kidsOf t = is.map .int := by rcases ht with rfl | rfl <;> rfl
    rw [this, List.length_map]
    omega
theorem Row.fall {t : T} {is : List Int} (h : Row is) (ht : RowT t is) : fallT t = true := by
  have : fallT t = fallL (is.map .int) := by rcases ht with rfl | rfl <;> rfl
  rw [this, fallL_ints h.pos, decide_eq_true h.ds]
theorem rng_rg (n : Nat) : rngL 0 1 n = (List.range n).map fun j : Nat => T.int (j : Int) := by
  rw [rngL_map]
  apply List.map_congr_left
  intro i _
  show T.int _ = T.int _
  congr 1
  omega
section
variable {F : Fns} {W : Nat} {ρ : Env} {μ : Mem} {B : T}
theorem evRng {e : IE} {n : Int} (h : evE F ρ e μ = .ok (.int n) μ) (h0 : 0 ≤ n) (hs : n ≤ 1000000) : evI F ρ (.rng1 e) μ = .ok ((List.range n.toNat).map fun j : Nat => T.int (j : Int)) μ := by
  have q : smallI n = true := by simp only [smallI, Bool.and_eq_true, decide_eq_true_eq]; omega
  rw [evI, h, Res.bind_ok]
  dsimp only
  rw [if_pos q, rng_rg]
theorem lc_rng {el : IE} {s n : Nat} {it : II} (g : Nat → T) (hi : evI F ρ it μ = .ok ((List.range n).map fun j : Nat => T.int (j : Int)) μ) (hl : n ≤ 1000000) (h : ∀ p < n, evE F ((ρ.set s none).set s (some (.int (p : Int)))) el μ = .ok (g p) μ) : evE F ρ (.lc el (.nm s) it none) μ = .ok (.lst ((List.range n).map g)) μ := by
  have lb := line_big
  have e := lc_map (el := el) (tg := .nm s) (fun x => match x with | .int i => g i.toNat | _ => .non) hi (by rw [List.length_map, List.length_range]; omega) fun x hx => by
    obtain ⟨p, hp, rfl⟩ := List.mem_map.mp hx
    exact ⟨_, rfl, h p (List.mem_range.mp hp)⟩
  rw [e, List.map_map]
  congr 2
theorem lc_enum {el : IE} {tg : Tg} {it : II} {is : List Int} (g : Nat → Int → T) (hi : evI F ρ it μ = .ok (enumL 0 (is.map .int)) μ) (hl : is.length ≤ 1000000) (h : ∀ (i : Nat) (a : Int), is[i]? = some a → ∃ ρ', bindTg tg (.tup [.int (i : Int), .int a]) (forget ρ tg.slots) = some ρ' ∧ evE F ρ' el μ = .ok (g i a) μ) : evE F ρ (.lc el tg it none) μ = .ok (.lst (enumMap g 0 is)) μ := by
  have lb := line_big
  have e := lc_map (el := el) (tg := tg) (fun x => match x with | .tup [.int i, .int a] => g i.toNat a | _ => .non) hi (by rw [enumL_len, List.length_map]; omega) fun x hx => by
    obtain ⟨i, a, ha, rfl⟩ := enum_mem hx
    exact h i a ha
  rw [e]
  congr 2
  exact enumMap_eq g _ (fun i a => rfl) is 0
theorem cnt_lc {e c : IE} {s : Nat} {is : List Int} {p : Int} (hi : evI F ρ (.seq e) μ = .ok (is.map .int) μ) (hl : is.length ≤ 1000000) (hg : ∀ x : Int, getV ((ρ.set s none).set s (some (.int x))) s = some (.int x)) (hc : ∀ x : Int, evE F ((ρ.set s none).set s (some (.int x))) c μ = .ok (.bl (decide (p < x))) μ) : evE F ρ (.bi .len [.lc (.var s) (.nm s) (.seq e) (some c)]) μ = .ok (.int (cnt p is : Int)) μ := by
  have lb := line_big
  have e1 := lc_filter (el := .var s) (c := c) (tg := .nm s) (fun x => match x with | .int i => decide (p < i) | _ => false) (fun x => x) hi (by rw [List.length_map]; omega) fun x hx => by
    obtain ⟨i, _, rfl⟩ := List.mem_map.mp hx
    exact ⟨_, rfl, hc i, fun _ => eVar (hg i)⟩
  rw [eLen e1]
  congr 2
  rw [List.length_map, List.filter_map, List.length_map]
  rfl
theorem eLenR {e : IE} {t : T} {is : List Int} (ht : RowT t is) (h : evE F ρ e μ = .ok t μ) : evE F ρ (.bi .len [e]) μ = .ok (.int is.length) μ := by
  rcases ht with rfl | rfl
  · rw [eLen h, List.length_map]
  · rw [eLenT h, List.length_map]
theorem eIxR {a e : IE} {t : T} {is : List Int} {i : Nat} {x : Int} (ht : RowT t is) (ha : evE F ρ a μ = .ok t μ) (he : evE F ρ e μ = .ok (.int (i : Int)) μ) (hx : is[i]? = some x) : evE F ρ (.sub a e) μ = .ok (.int x) μ := by
  have hx' : (is.map T.int)[i]? = some (.int x) := by rw [List.getElem?_map, hx] <;> rfl
  rcases ht with rfl | rfl
  · exact eIxT ha he hx'
  · exact eIxU ha he hx'
theorem iSeqR {e : IE} {t : T} {is : List Int} (ht : RowT t is) (h : evE F ρ e μ = .ok t μ) : evI F ρ (.seq e) μ = .ok (is.map .int) μ := by
  rw [evI, h, Res.bind_ok]
  rcases ht with rfl | rfl <;> rfl
theorem iEnumR {e : IE} {t : T} {is : List Int} (ht : RowT t is) (h : evE F ρ e μ = .ok t μ) : evI F ρ (.enum e) μ = .ok (enumL 0 (is.map .int)) μ := by
  rw [evI, h, Res.bind_ok]
  rcases ht with rfl | rfl <;> rfl
theorem eCell0 {a : IE} {c : T} {i p : Nat} (hc : CellT c i p) (h : evE F ρ a μ = .ok c μ) : evE F ρ (.sub a (.cst (.int 0))) μ = .ok (.int (i : Int)) μ := by
  rcases hc with rfl | rfl
  · exact eIxU (i := 0) h eCst rfl
  · exact eIxT (i := 0) h eCst rfl
theorem eCell1 {a : IE} {c : T} {i p : Nat} (hc : CellT c i p) (h : evE F ρ a μ = .ok c μ) : evE F ρ (.sub a (.cst (.int 1))) μ = .ok (.int (p : Int)) μ := by
  rcases hc with rfl | rfl
  · exact eIxU (i := 1) h eCst rfl
  · exact eIxT (i := 1) h eCst rfl
theorem eChn {op op' : COp} {a b c : IE} {x y z : Int} {r : Bool} (ha : evE F ρ a μ = .ok (.int x) μ) (hb : evE F ρ b μ = .ok (.int y) μ) (h1 : pCmp op (.int x) (.int y) = some true) (hc : evE F ρ c μ = .ok (.int z) μ) (h2 : pCmp op' (.int y) (.int z) = some r) : evE F ρ (.chn op op' a b c) μ = .ok (.bl r) μ := by
  rw [evE, ha, Res.bind_ok, hb, Res.bind_ok]
  show Res.bind (opt (pCmp op (.int x) (.int y)) μ) _ = _
  rw [h1]
  show Res.bind (evE F ρ c μ) _ = _
  rw [hc, Res.bind_ok]
  show Res.bind (opt (pCmp op' (.int y) (.int z)) μ) _ = _
  rw [h2] <;> rfl
theorem eOr3f {a b c : IE} (ha : evE F ρ a μ = .ok (.bl false) μ) (hb : evE F ρ b μ = .ok (.bl false) μ) (hc : evE F ρ c μ = .ok (.bl false) μ) : evE F ρ (.bop false [a, b, c]) μ = .ok (.bl false) μ := by
  show Res.bind (evE F ρ a μ) _ = _
  rw [ha, Res.bind_ok]
  show Res.bind (evE F ρ b μ) _ = _
  rw [hb, Res.bind_ok]
  show evE F ρ c μ = _
  rw [hc]
end
def dTurnedOf : Dn := ⟨1, 3, [.S, .S, .S], .D, [(.ret (some (.ite (.cmp .gt (.bi .len [(.var 0)]) (.cst (.int 0))) (.lc (.bi .len [(.lc (.var 2) (.nm 2) (.seq (.var 0)) (some (.cmp .gt (.var 2) (.var 1))))]) (.nm 1) (.rng1 (.sub (.var 0) (.cst (.int 0)))) none) (.lst []))))]⟩
def dVia (iC i : Nat) : Dn := ⟨1, 1, [.S], .D, [(.ex (.call iC [(.var 0)] [])), (.ret (some (.call i [(.var 0)] [])))]⟩
def dCellsOf : Dn := ⟨1, 5, [.S, .D, .S, .S, .S], .D, [(.asg 1 (.lst []) []),
  (.for (.tp [(.nm 2), (.nm 3)]) (.enum (.var 0)) [(.ext 1 (.lc (.tup [(.imm (.var 2)), (.imm (.var 4))]) (.nm 4) (.rng1 (.var 3)) none) [])] []),
  (.ret (some (.var 1)))]⟩
def dIsRow (iL : Nat) : Dn := ⟨2, 2, [.S, .S], .I, [(.ret (some (.bop true [(.call iL [(.var 0)] []), (.cmp .eq (.bi .len [(.var 0)]) (.var 1))])))]⟩
def dIsCell (iR iW : Nat) : Dn := ⟨2, 2, [.S, .S], .I, [(.iff (.bop false [(.nt (.call iR [(.var 1), (.cst (.int 2))] [])), (.nt (.call iW [(.sub (.var 1) (.cst (.int 0)))] [])), (.nt (.call iW [(.sub (.var 1) (.cst (.int 1)))] []))]) [(.ret (some (.cst (.bl false))))] []),
  (.ret (some (.bop true [(.chn .le .lt (.cst (.int 0)) (.sub (.var 1) (.cst (.int 0))) (.bi .len [(.var 0)])), (.chn .le .lt (.cst (.int 0)) (.sub (.var 1) (.cst (.int 1))) (.sub (.var 0) (.sub (.var 1) (.cst (.int 0)))))])))]⟩
def dHookOf : Dn := ⟨3, 3, [.S, .S, .S], .I, [(.ret (some (.bin .sub (.bin .sub (.bin .add (.bin .sub (.sub (.var 0) (.sub (.var 2) (.cst (.int 0)))) (.sub (.var 2) (.cst (.int 1)))) (.sub (.var 1) (.sub (.var 2) (.cst (.int 1))))) (.sub (.var 2) (.cst (.int 0)))) (.cst (.int 1)))))]⟩
def dHook (iK iC iH iT : Nat) (st : IS := .never) : Dn := ⟨2, 2, [.S, .S], .I, [(.ex (.call iK [(.var 0)] [])),
  (.iff (.nt (.call iC [(.var 0), (.var 1)] [])) [st] []),
  (.ret (some (.call iH [(.var 0), (.call iT [(.var 0)] []), (.var 1)] [])))]⟩
def dHooks (iK iH iT : Nat) : Dn := ⟨1, 5, [.S, .S, .S, .S, .S], .D, [(.ex (.call iK [(.var 0)] [])),
  (.asg 1 (.call iT [(.var 0)] []) []),
  (.ret (some (.lc (.lc (.call iH [(.var 0), (.var 1), (.tup [(.var 3), (.var 2)])] []) (.nm 2) (.rng1 (.var 4)) none) (.tp [(.nm 3), (.nm 4)]) (.enum (.var 0)) none)))]⟩
def dLawTurned : Dn := ⟨1, 3, [.S, .S, .S], .D, [(.ret (some (.lc (.bi .len [(.lc (.var 2) (.nm 2) (.seq (.var 0)) (some (.cmp .gt (.var 2) (.var 1))))]) (.nm 1) (.rng1 (.bi .max1 [(.bin .add (.lst [(false, (.cst (.int 0)))]) (.bi .list [(.var 0)]))])) none)))]⟩
def dLawHook : Dn := ⟨2, 5, [.S, .S, .S, .S, .S], .I, [(.unp (.tp [(.nm 2), (.nm 3)]) (.var 1) []),
  (.ret (some (.bin .add (.bin .sub (.sub (.var 0) (.var 2)) (.var 3)) (.bi .len [(.lc (.var 4) (.nm 4) (.seq (.slc (.var 0) (some (.bin .add (.var 2) (.cst (.int 1)))) none)) (some (.cmp .gt (.var 4) (.var 3))))]))))]⟩
section
variable {Fk : Fam} {W : Nat} {B : T}
theorem turned_lc {F : Fns} {t : T} {is : List Int} {it : II} (h : Row is) (ht : RowT t is) (hi : evI F [some t, none, none] it [B] = .ok ((List.range (is.headD 0).toNat).map fun j : Nat => T.int (j : Int)) [B]) : evE F [some t, none, none] (.lc (.bi .len [(.lc (.var 2) (.nm 2) (.seq (.var 0)) (some (.cmp .gt (.var 2) (.var 1))))]) (.nm 1) it none) [B] = .ok (.lst ((turnV is).map .int)) [B] := by
  have hh := head_le h
  have hl := h.len
  have e : (turnV is).map T.int = (List.range (is.headD 0).toNat).map fun p : Nat => T.int (cnt (p : Int) is : Int) := by
    unfold turnV
    rw [List.map_map]
    rfl
  rw [e]
  refine lc_rng (s := 1) (fun p => T.int (cnt (p : Int) is : Int)) hi (by omega) fun p hp => ?_
  exact cnt_lc (ρ := [some t, some (.int (p : Int)), none]) (iSeqR ht (eVar rfl)) (by omega) (fun x => rfl) fun x => eCmp (eVar rfl) (eVar rfl) rfl
theorem turnedOfF {i : Nat} (hd : DefAt Fk W i dTurnedOf) {k : Nat} {t : T} {is : List Int} (h : Row is) (ht : RowT t is) : Fk (k + 1) i [t] [B] = .ok (.lst ((turnV is).map .int)) [B] := by
  rw [hd]
  have hh := head_le h
  have c1 : evE (Fk k) [some t, none, none] (.cmp .gt (.bi .len [(.var 0)]) (.cst (.int 0))) [B] = .ok (.bl (decide (0 < (is.length : Int)))) [B] := eCmp (eLenR ht (eVar rfl)) eCst rfl
  have c2 : evE (Fk k) [some t, none, none] (.ite (.cmp .gt (.bi .len [(.var 0)]) (.cst (.int 0))) (.lc (.bi .len [(.lc (.var 2) (.nm 2) (.seq (.var 0)) (some (.cmp .gt (.var 2) (.var 1))))]) (.nm 1) (.rng1 (.sub (.var 0) (.cst (.int 0)))) none) (.lst [])) [B] = .ok (.lst ((turnV is).map .int)) [B] := by
    refine eIte c1 ?_
    cases is with
    | nil => rfl
    | cons a r =>
      rw [decide_eq_true (by rw [List.length_cons]; omega), if_pos rfl]
      refine turned_lc h ht (evRng (eIxR (i := 0) ht (eVar rfl) eCst rfl) hh.1 ?_)
      have : a ≤ 1000 := hh.2.1
      omega
  exact runRt (d := dTurnedOf) (ρ' := [some t, none, none]) rfl (ssRet (sRet c2)) (.inl (by decide : RK.D ≠ RK.I))
theorem lmax_le {m : Int} : ∀ {l : List Int}, (∀ x ∈ l, x ≤ m) → lmax m l = m
  | [], _ => rfl
  | a :: r, h => by
    show lmax (if m < a then a else m) r = m
    rw [if_neg (by have := h a List.mem_cons_self; omega)]
    exact lmax_le fun x hx => h x (List.mem_cons_of_mem _ hx)
theorem lmax_row {is : List Int} (h : Row is) : lmax 0 is = is.headD 0 := by
  cases is with
  | nil => rfl
  | cons a r =>
    have ha := h.pos a List.mem_cons_self
    show lmax (if 0 < a then a else 0) r = a
    rw [if_pos ha]
    exact lmax_le fun x hx => desc_head h.ds x hx
theorem max_list {F : Fns} {ρ : Env} {e : IE} {is : List Int} (h : Row is) (he : evE F ρ e [B] = .ok (.lst (is.map .int)) [B]) : evE F ρ (.bi .max1 [(.bin .add (.lst [(false, (.cst (.int 0)))]) (.bi .list [e]))]) [B] = .ok (.int (is.headD 0)) [B] := by
  have hl := h.len
  have lb := line_big
  have c1 : evE F ρ (.bi .list [e]) [B] = .ok (.lst (is.map .int)) [B] := by
    rw [evE, evL, he, Res.bind_ok, evL, Res.bind_ok, Res.bind_ok] <;> rfl
  have hb : Nat.ble (1 + (is.map T.int).length) line = true := Nat.ble_eq_true_of_le (by rw [List.length_map]; omega)
  have c2 : evE F ρ (.bin .add (.lst [(false, (.cst (.int 0)))]) (.bi .list [e])) [B] = .ok (.lst ((0 :: is).map .int)) [B] := by
    rw [evE]
    show Res.bind (.ok (T.lst [.int 0]) [B]) _ = _
    rw [Res.bind_ok, c1, Res.bind_ok]
    show opt (if Nat.ble (1 + (is.map T.int).length) line then some (T.lst ([.int 0] ++ is.map T.int)) else none) [B] = _
    rw [hb] <;> rfl
  rw [evE, evL, c2, Res.bind_ok, evL, Res.bind_ok, Res.bind_ok]
  show opt (match intsOf ((0 :: is).map T.int) with | some (n :: ns) => some (T.int (lmax n ns)) | _ => none) [B] = _
  rw [intsOf_map]
  show Res.ok (T.int (lmax 0 is)) [B] = _
  rw [lmax_row h]
theorem lawTurnedF {i : Nat} (hd : DefAt Fk W i dLawTurned) {k : Nat} {is : List Int} (h : Row is) : Fk (k + 1) i [.lst (is.map .int)] [B] = .ok (.lst ((turnV is).map .int)) [B] := by
  rw [hd]
  have hh := head_le h
  exact runRt (d := dLawTurned) (ρ' := [some (.lst (is.map .int)), none, none]) rfl (ssRet (sRet (turned_lc h (.inl rfl) (evRng (max_list h (eVar rfl)) hh.1 (by omega))))) (.inl (by decide : RK.D ≠ RK.I))
/-- cells -/
theorem cells_loop {F : Fns} {t : T} : ∀ (is : List Int) (k : Nat) (acc : List T) (o2 o3 : Option T), (∀ i ∈ is, 0 ≤ i ∧ i ≤ 1000) → acc.length + 1000 * is.length ≤ 1000000 →
    ∃ o2' o3', forLoop (fun x ρ μ => match bindTg (.tp [(.nm 2), (.nm 3)]) x ρ with | some ρ' => evIs F W [(.ext 1 (.lc (.tup [(.imm (.var 2)), (.imm (.var 4))]) (.nm 4) (.rng1 (.var 3)) none) [])] ρ' μ | none => .stuck) (enumL (k : Int) (is.map .int)) [some t, some (.lst acc), o2, o3, none] [B] = .ok (.nx, [some t, some (.lst (acc ++ cellsV k is)), o2', o3', none]) [B]
  | [], k, acc, o2, o3, _, _ => ⟨o2, o3, by rw [show cellsV k [] = [] from rfl, List.append_nil] <;> rfl⟩
  | a :: r, k, acc, o2, o3, hb, hl => by
    have lb := line_big
    rw [List.length_cons] at hl
    have ha := hb a List.mem_cons_self
    let cs : List T := (List.range a.toNat).map fun j : Nat => T.tup [.int (k : Int), .int (j : Int)]
    have hcs : cs.length = a.toNat := by
      show ((List.range a.toNat).map _).length = _
      rw [List.length_map, List.length_range]
    obtain ⟨p2, p3, ih⟩ := cells_loop (F := F) (t := t) r (k + 1) (acc ++ cs) (some (.int (k : Int))) (some (.int a)) (fun i hi => hb i (List.mem_cons_of_mem _ hi)) (by rw [List.length_append, hcs]; omega)
    refine ⟨p2, p3, ?_⟩
    have c : evE F [some t, some (.lst acc), some (.int (k : Int)), some (.int a), none] (.lc (.tup [(.imm (.var 2)), (.imm (.var 4))]) (.nm 4) (.rng1 (.var 3)) none) [B] = .ok (.lst cs) [B] :=
      lc_rng (s := 4) (fun j : Nat => T.tup [.int (k : Int), .int (j : Int)]) (evRng (eVar rfl) ha.1 (by omega)) (by omega) fun p hp => rfl
    have hle : Nat.ble (acc.length + cs.length) line = true := Nat.ble_eq_true_of_le (by rw [hcs]; omega)
    have st : evI1 F W (.ext 1 (.lc (.tup [(.imm (.var 2)), (.imm (.var 4))]) (.nm 4) (.rng1 (.var 3)) none) []) [some t, some (.lst acc), some (.int (k : Int)), some (.int a), none] [B] = .ok (.nx, [some t, some (.lst (acc ++ cs)), some (.int (k : Int)), some (.int a), none]) [B] := by
      rw [evI1]
      show Res.bind (.ok acc [B]) _ = _
      rw [Res.bind_ok, c, Res.bind_ok]
      dsimp only
      rw [hle] <;> rfl
    show Res.bind (evIs F W _ [some t, some (.lst acc), some (.int (k : Int)), some (.int a), none] [B]) _ = _
    rw [ssCons st rfl]
    show Res.bind (.ok _ [B]) _ = _
    rw [Res.bind_ok]
    show forLoop _ (enumL ((k : Int) + 1) (r.map T.int)) _ _ = _
    rw [show (k : Int) + 1 = ((k + 1 : Nat) : Int) by omega]
    rw [show acc ++ cellsV k (a :: r) = acc ++ cs ++ cellsV (k + 1) r by rw [List.append_assoc] <;> rfl]
    exact ih
theorem cellsOfF {i : Nat} (hd : DefAt Fk W i dCellsOf) {k : Nat} {t : T} {is : List Int} (h : Row is) (ht : RowT t is) : Fk (k + 1) i [t] [B] = .ok (.lst (cellsV 0 is)) [B] := by
  rw [hd]
  obtain ⟨o2, o3, e⟩ := cells_loop (F := Fk k) (W := W) (B := B) (t := t) is 0 [] none none (fun i hi => by have := h.pos i hi; have := h.le i hi; omega) (by have := h.len; rw [List.length_nil]; omega)
  rw [List.nil_append] at e
  exact runRt (d := dCellsOf) rfl (ssCons (sAsg rfl) (ssCons (sFor (iEnumR ht (eVar rfl)) e) (ssRet (sRet (eVar rfl))))) (.inl (by decide : RK.D ≠ RK.I))
/-- a function behind its check -/
theorem viaF {j iC i : Nat} (hj : DefAt Fk W j (dVia iC i)) {k : Nat} {t r : T} (hc : Fk k iC [t] [B] = .ok .non [B]) (hi : Fk k i [t] [B] = .ok r [B]) : Fk (k + 1) j [t] [B] = .ok r [B] := by
  rw [hj]
  exact runRt (d := dVia iC i) (ρ' := [some t]) rfl (ssCons (sEx (eCall1 (eVar rfl) hc)) (ssRet (sRet (eCall1 (eVar rfl) hi)))) (.inl (by decide : RK.D ≠ RK.I))
theorem hookOfF {i : Nat} (hd : DefAt Fk W i dHookOf) {k : Nat} {t c : T} {is : List Int} {a p : Nat} {x : Int} (h : Row is) (ht : RowT t is) (hc : CellT c a p) (hx : is[a]? = some x) (hp : p < x.toNat) : Fk (k + 1) i [t, .lst ((turnV is).map .int), c] [B] = .ok (.int (hkV is a p)) [B] := by
  rw [hd]
  have hy : (turnV is)[p]? = some (cnt (p : Int) is : Int) := turn_get (by have := (head_le h).2.2 x (List.mem_of_getElem? hx); omega)
  let ρ : Env := [some t, some (.lst ((turnV is).map .int)), some c]
  have a0 : evE (Fk k) ρ (.sub (.var 2) (.cst (.int 0))) [B] = .ok (.int (a : Int)) [B] := eCell0 hc (eVar rfl)
  have a1 : evE (Fk k) ρ (.sub (.var 2) (.cst (.int 1))) [B] = .ok (.int (p : Int)) [B] := eCell1 hc (eVar rfl)
  have r0 : evE (Fk k) ρ (.sub (.var 0) (.sub (.var 2) (.cst (.int 0)))) [B] = .ok (.int x) [B] := eIxR ht (eVar rfl) a0 hx
  have r1 : evE (Fk k) ρ (.sub (.var 1) (.sub (.var 2) (.cst (.int 1)))) [B] = .ok (.int (cnt (p : Int) is : Int)) [B] := eIxR (.inl rfl) (eVar rfl) a1 hy
  rw [← hk_prog h hx hp]
  exact runRt (d := dHookOf) (ρ' := ρ) rfl (ssRet (sRet (eBin (eBin (eBin (eBin r0 a1 rfl) r1 rfl) a0 rfl) eCst rfl))) (.inr rfl)
theorem hooksF {j iK iH iT : Nat} (hj : DefAt Fk W j (dHooks iK iH iT)) (hH : DefAt Fk W iH dHookOf) (hT : DefAt Fk W iT dTurnedOf) {k : Nat} {t : T} {is : List Int} (h : Row is) (ht : RowT t is) (hc : Fk (k + 1) iK [t] [B] = .ok .non [B]) : Fk (k + 2) j [t] [B] = .ok (.lst (gridV is)) [B] := by
  rw [hj]
  have hl := h.len
  have c : evE (Fk (k + 1)) [some t, some (.lst ((turnV is).map .int)), none, none, none] (.lc (.lc (.call iH [(.var 0), (.var 1), (.tup [(.var 3), (.var 2)])] []) (.nm 2) (.rng1 (.var 4)) none) (.tp [(.nm 3), (.nm 4)]) (.enum (.var 0)) none) [B] = .ok (.lst (gridV is)) [B] := by
    refine lc_enum _ (iEnumR ht (eVar rfl)) (by omega) fun i a ha => ⟨_, rfl, ?_⟩
    have m := List.mem_of_getElem? ha
    have h1 := h.pos a m
    have h2 := h.le a m
    refine lc_rng (ρ := [some t, some (.lst ((turnV is).map .int)), none, some (.int (i : Int)), some (.int a)]) (s := 2) (fun p : Nat => T.int (hkV is i p)) (evRng (eVar rfl) (by omega) (by omega)) (by omega) fun p hp => ?_
    exact eCall3 (t := t) (u := .lst ((turnV is).map .int)) (v := .tup [.int (i : Int), .int (p : Int)]) (eVar rfl) (eVar rfl) rfl (hookOfF hH h ht (.inl rfl) ha hp)
  exact runRt (d := dHooks iK iH iT) rfl (ssCons (sEx (eCall1 (eVar rfl) hc)) (ssCons (sAsg (eCall1 (eVar rfl) (turnedOfF hT h ht))) (ssRet (sRet c)))) (.inl (by decide : RK.D ≠ RK.I))
theorem isCellF {j iR iW iL : Nat} (hj : DefAt Fk W j (dIsCell iR iW)) (hR : DefAt Fk W iR (dIsRow iL)) (hL : DefAt Fk W iL dIsList) (hW : DefAt Fk W iW dWhole) {k : Nat} {t c : T} {is : List Int} {a p : Nat} {x : Int} (ht : RowT t is) (hc : CellT c a p) (hx : is[a]? = some x) (hp : p < x.toNat) : Fk (k + 3) j [t, c] [B] = .ok (.bl true) [B] := by
  rw [hj]
  let ρ : Env := [some t, some c]
  have hpc : plnT c = true := by rcases hc with rfl | rfl <;> rfl
  have hlc : isLT c = true := by rcases hc with rfl | rfl <;> rfl
  have r : Fk (k + 2) iR [c, .int 2] [B] = .ok (.bl true) [B] := by
    rw [hR]
    have l1 : evE (Fk (k + 1)) [some c, some (.int 2)] (.call iL [(.var 0)] []) [B] = .ok (.bl true) [B] := by
      have := isListF (B := B) hL (k := k) hpc
      rw [hlc] at this
      exact eCall1 (eVar rfl) this
    have l2 : evE (Fk (k + 1)) [some c, some (.int 2)] (.cmp .eq (.bi .len [(.var 0)]) (.var 1)) [B] = .ok (.bl true) [B] := by
      have l3 : evE (Fk (k + 1)) [some c, some (.int 2)] (.bi .len [(.var 0)]) [B] = .ok (.int 2) [B] := by
        rcases hc with rfl | rfl
        · exact eLenT (xs := [.int (a : Int), .int (p : Int)]) (eVar rfl)
        · exact eLen (xs := [.int (a : Int), .int (p : Int)]) (eVar rfl)
      exact eCmp l3 (eVar rfl) rfl
    exact runRt (d := dIsRow iL) (ρ' := [some c, some (.int 2)]) rfl (ssRet (sRet (eAnd2 l1 l2))) (.inr rfl)
  have a0 : evE (Fk (k + 2)) ρ (.sub (.var 1) (.cst (.int 0))) [B] = .ok (.int (a : Int)) [B] := eCell0 hc (eVar rfl)
  have a1 : evE (Fk (k + 2)) ρ (.sub (.var 1) (.cst (.int 1))) [B] = .ok (.int (p : Int)) [B] := eCell1 hc (eVar rfl)
  have o : evE (Fk (k + 2)) ρ (.bop false [(.nt (.call iR [(.var 1), (.cst (.int 2))] [])), (.nt (.call iW [(.sub (.var 1) (.cst (.int 0)))] [])), (.nt (.call iW [(.sub (.var 1) (.cst (.int 1)))] []))]) [B] = .ok (.bl false) [B] :=
    eOr3f (eNot (v := true) (eCall2 (t := c) (eVar rfl) eCst r)) (eNot (v := true) (eCall1 a0 (wholeF (k := k + 1) hW rfl))) (eNot (v := true) (eCall1 a1 (wholeF (k := k + 1) hW rfl)))
  have hal : a < is.length := (List.getElem?_eq_some_iff.mp hx).1
  have g1 : evE (Fk (k + 2)) ρ (.chn .le .lt (.cst (.int 0)) (.sub (.var 1) (.cst (.int 0))) (.bi .len [(.var 0)])) [B] = .ok (.bl true) [B] :=
    eChn (x := 0) (y := (a : Int)) (z := (is.length : Int)) eCst a0 (by show some (decide ((0 : Int) ≤ (a : Int))) = _; rw [decide_eq_true (by omega)]) (eLenR ht (eVar rfl)) (by show some (decide ((a : Int) < (is.length : Int))) = _; rw [decide_eq_true (by omega)])
  have g2 : evE (Fk (k + 2)) ρ (.chn .le .lt (.cst (.int 0)) (.sub (.var 1) (.cst (.int 1))) (.sub (.var 0) (.sub (.var 1) (.cst (.int 0))))) [B] = .ok (.bl true) [B] :=
    eChn (x := 0) (y := (p : Int)) (z := x) eCst a1 (by show some (decide ((0 : Int) ≤ (p : Int))) = _; rw [decide_eq_true (by omega)]) (eIxR ht (eVar rfl) a0 hx) (by show some (decide ((p : Int) < x)) = _; rw [decide_eq_true (by omega)])
  exact runRt (d := dIsCell iR iW) (ρ' := ρ) rfl (ssCons (sIf (v := false) o rfl) (ssRet (sRet (eAnd2 g1 g2)))) (.inr rfl)
theorem hookF {j iK iC iH iT : Nat} {st : IS} (hj : DefAt Fk W j (dHook iK iC iH iT st)) (hH : DefAt Fk W iH dHookOf) (hT : DefAt Fk W iT dTurnedOf) {k : Nat} {t c : T} {is : List Int} {a p : Nat} {x : Int} (h : Row is) (ht : RowT t is) (hc : CellT c a p) (hx : is[a]? = some x) (hp : p < x.toNat) (h1 : Fk (k + 1) iK [t] [B] = .ok .non [B]) (h2 : Fk (k + 1) iC [t, c] [B] = .ok (.bl true) [B]) : Fk (k + 2) j [t, c] [B] = .ok (.int (hkV is a p)) [B] := by
  rw [hj]
  exact runRt (d := dHook iK iC iH iT st) (ρ' := [some t, some c]) rfl (ssCons (sEx (eCall1 (eVar rfl) h1)) (ssCons (sNot (eCall2 (eVar rfl) (eVar rfl) h2)) (ssRet (sRet (eCall3 (eVar rfl) (eCall1 (eVar rfl) (turnedOfF hT h ht)) (eVar rfl) (hookOfF hH h ht hc hx hp)))))) (.inr rfl)
theorem lawHookF {i : Nat} (hd : DefAt Fk W i dLawHook) {k : Nat} {is : List Int} {a p : Nat} {x : Int} (h : Row is) (hx : is[a]? = some x) : Fk (k + 1) i [.lst (is.map .int), .tup [.int (a : Int), .int (p : Int)]] [B] = .ok (.int (hkV is a p)) [B] := by
  rw [hd]
  have hl := h.len
  let ρ : Env := [some (.lst (is.map .int)), some (.tup [.int (a : Int), .int (p : Int)]), some (.int (a : Int)), some (.int (p : Int)), none]
  have s : evI (Fk k) ρ (.seq (.slc (.var 0) (some (.bin .add (.var 2) (.cst (.int 1)))) none)) [B] = .ok ((is.drop (a + 1)).map .int) [B] := by
    have e : evE (Fk k) ρ (.slc (.var 0) (some (.bin .add (.var 2) (.cst (.int 1)))) none) [B] = .ok (.lst ((is.drop (a + 1)).map .int)) [B] := by
      show Res.ok (T.lst (cutT (is.map T.int) (some ((a : Int) + 1)) none)) [B] = _
      rw [show (a : Int) + 1 = ((a + 1 : Nat) : Int) by omega, cut_lo, List.map_drop]
    exact iSeqR (.inl rfl) e
  have c := cnt_lc (F := Fk k) (ρ := ρ) (c := .cmp .gt (.var 4) (.var 3)) (s := 4) (p := (p : Int)) s (by rw [List.length_drop]; omega) (fun x => rfl) fun x => eCmp (eVar rfl) (eVar rfl) rfl
  have r0 : evE (Fk k) ρ (.sub (.var 0) (.var 2)) [B] = .ok (.int x) [B] := eIxR (.inl rfl) (eVar rfl) (eVar rfl) hx
  have e : hkV is a p = x - (p : Int) + (cnt (p : Int) (is.drop (a + 1)) : Int) := by
    unfold hkV
    rw [List.getD_eq_getElem?_getD, hx] <;> rfl
  rw [e]
  exact runRt (d := dLawHook) (ρ' := ρ) rfl (ssCons rfl (ssRet (sRet (eBin (eBin r0 (eVar rfl) rfl) c rfl)))) (.inr rfl)
end
end MP

/-! G7: what repr needs. -/
namespace MP
open PySem
def txtB (n : Nat) (s : PySem.Str) : Bool := Nat.ble s.length n && s.cps.toList.all fun c => decide (c < 0x110000)
def txt (n : Nat) (s : PySem.Str) : Prop := s.length ≤ n ∧ ∀ c ∈ s.cps.toList, c < 0x110000
theorem txt_of {n : Nat} {s : PySem.Str} (h : txtB n s = true) : txt n s := by
  unfold txtB at h
  rw [Bool.and_eq_true] at h
  exact ⟨Nat.le_of_ble_eq_true h.1, fun c hc => of_decide_eq_true (List.all_eq_true.mp h.2 c hc)⟩
theorem txt_app {n m : Nat} {a b : PySem.Str} (ha : txt n a) (hb : txt m b) : txt (n + m) (a ++ b) := by
  refine ⟨by rw [PySem.Str.length_append]; have := ha.1; have := hb.1; omega, fun c hc => ?_⟩
  have hc : c ∈ (a.cps ++ b.cps).toList := hc
  rw [Array.toList_append] at hc
  rcases List.mem_append.mp hc with h | h
  · exact ha.2 c h
  · exact hb.2 c h
theorem txt_le {n m : Nat} {a : PySem.Str} (ha : txt n a) (h : n ≤ m) : txt m a := ⟨by have := ha.1; omega, ha.2⟩
theorem txt_from {m : Nat} : ∀ {ts : List PySem.Str} {k a : Nat} {acc : PySem.Str}, txt a acc → (∀ t ∈ ts, txt m t) → txt (a + ts.length * (m + 2)) (textFrom k acc ts)
  | [], k, a, acc, ha, _ => by rw [List.length_nil, Nat.zero_mul]; exact ha
  | t :: ts, k, a, acc, ha, h => by
    have s : txt 2 ((if k > 0 then ", " else "" : String) : PySem.Str) := by
      split
      · exact txt_of (by decide +kernel)
      · exact txt_of (by decide +kernel)
    have := txt_from (k := k + 1) (txt_app (txt_app ha s) (h t List.mem_cons_self)) fun u hu => h u (List.mem_cons_of_mem _ hu)
    refine txt_le this ?_
    rw [List.length_cons, Nat.add_mul]
    omega
theorem txt_join {m : Nat} : ∀ {ts : List PySem.Str}, (∀ t ∈ ts, txt m t) → txt (ts.length * (m + 2)) (PySem.Str.join ", " ts)
  | [], _ => txt_le (txt_of (n := 0) (by decide +kernel)) (Nat.zero_le _)
  | [t], h => txt_le (h t List.mem_cons_self) (by rw [List.length_singleton]; omega)
  | t :: u :: r, h => by
    have s : txt 2 ((", " : String) : PySem.Str) := txt_of (by decide +kernel)
    have ih := txt_join (ts := u :: r) fun x hx => h x (List.mem_cons_of_mem _ hx)
    refine txt_le (txt_app (txt_app (h t List.mem_cons_self) s) ih) ?_
    rw [List.length_cons (a := t), Nat.add_mul]
    omega
theorem txt_list {m : Nat} {ts : List PySem.Str} (h : ∀ t ∈ ts, txt m t) : txt (ts.length * (m + 2) + 2) (listText ts) := by
  have a : txt 1 (("[" : String) : PySem.Str) := txt_of (by decide +kernel)
  have b : txt 1 (("]" : String) : PySem.Str) := txt_of (by decide +kernel)
  exact txt_le (txt_app (txt_from a h) b) (by omega)
theorem txt_tup {m : Nat} {ts : List PySem.Str} (h : ∀ t ∈ ts, txt m t) : txt (ts.length * (m + 2) + 3) (tupleText ts) := by
  have a : txt 1 (("(" : String) : PySem.Str) := txt_of (by decide +kernel)
  have b : txt 2 ((if ts.length == 1 then ",)" else ")" : String) : PySem.Str) := by
    split
    · exact txt_of (by decide +kernel)
    · exact txt_of (by decide +kernel)
  exact txt_le (txt_app (txt_app a (txt_join h)) b) (by omega)
theorem txt_ints : (List.range 1010).all (fun n => txtB 8 (PyData.shown (.int ((n : Int) - 5)))) = true := by decide +kernel
theorem txt_int {i : Int} (h1 : -5 ≤ i) (h2 : i ≤ 1004) : txt 8 (PyData.shown (.int i)) := by
  have := List.all_eq_true.mp txt_ints (i + 5).toNat (List.mem_range.mpr (by omega))
  rw [show ((i + 5).toNat : Int) - 5 = i by omega] at this
  exact txt_of this
/-- what may be shown in so many signs, so deep -/
structure Rp (d n : Nat) (t : T) : Prop where
  dat : datum d t = true
  run : ∃ p, dataOf t = some p ∧ p.showable = true ∧ txt n p.shown
theorem datumL_of {d : Nat} : ∀ {xs : List T}, (∀ x ∈ xs, datum d x = true) → datumL d xs = true
  | [], _ => by cases d <;> rfl
  | x :: xs, h => by
    have e : datumL d (x :: xs) = (datum d x && datumL d xs) := by cases d <;> rfl
    rw [e, h x List.mem_cons_self, datumL_of fun y hy => h y (List.mem_cons_of_mem _ hy)] <;> rfl
theorem rp_all {d n : Nat} : ∀ {xs : List T}, (∀ x ∈ xs, Rp d n x) → ∃ ps, dataOfL xs = some ps ∧ PyData.showableAll ps = true ∧ (PyData.shownAll ps).length = xs.length ∧ ∀ t ∈ PyData.shownAll ps, txt n t
  | [], _ => ⟨[], rfl, rfl, rfl, fun t ht => by cases ht⟩
  | x :: xs, h => by
    obtain ⟨p, e1, e2, e3⟩ := (h x List.mem_cons_self).run
    obtain ⟨ps, q1, q2, q3, q4⟩ := rp_all fun y hy => h y (List.mem_cons_of_mem _ hy)
    refine ⟨p :: ps, ?_, ?_, ?_, fun t ht => ?_⟩
    · show (match dataOf x, dataOfL xs with | some d, some ds => some (d :: ds) | _, _ => none) = _
      rw [e1, q1]
    · show (PyData.showable p && PyData.showableAll ps) = true
      rw [e2, q2] <;> rfl
    · show (PyData.shownAll ps).length + 1 = _
      rw [q3] <;> rfl
    · have ht : t ∈ PyData.shown p :: PyData.shownAll ps := ht
      rcases List.mem_cons.mp ht with rfl | ht
      · exact e3
      · exact q4 t ht
theorem rp_lst {d n : Nat} {xs : List T} (h : ∀ x ∈ xs, Rp d n x) : Rp (d + 1) (xs.length * (n + 2) + 3) (.lst xs) := by
  obtain ⟨ps, q1, q2, q3, q4⟩ := rp_all h
  refine ⟨datumL_of fun x hx => (h x hx).dat, .list ps, ?_, q2, ?_⟩
  · show (dataOfL xs).map PyData.list = _
    rw [q1] <;> rfl
  · rw [← q3]
    exact txt_le (txt_list q4) (by omega)
theorem rp_tup {d n : Nat} {xs : List T} (h : ∀ x ∈ xs, Rp d n x) : Rp (d + 1) (xs.length * (n + 2) + 3) (.tup xs) := by
  obtain ⟨ps, q1, q2, q3, q4⟩ := rp_all h
  refine ⟨datumL_of fun x hx => (h x hx).dat, .tuple ps, ?_, q2, ?_⟩
  · show (dataOfL xs).map PyData.tuple = _
    rw [q1] <;> rfl
  · rw [← q3]
    exact txt_tup q4
theorem rp_int {d : Nat} {i : Int} (h1 : -5 ≤ i) (h2 : i ≤ 1004) : Rp d 8 (.int i) := by
  refine ⟨by cases d <;> rfl, .int i, rfl, ?_, txt_int h1 h2⟩
  show decide (i.natAbs.log2 < 1920) = true
  refine decide_eq_true (Nat.lt_of_le_of_lt (Nat.log2_le_self _) ?_)
  omega
theorem rp_le {d e n m : Nat} {t : T} (h : Rp d n t) (hd : datum e t = true) (hn : n ≤ m) : Rp e m t := by
  obtain ⟨p, e1, e2, e3⟩ := h.run
  exact ⟨hd, p, e1, e2, txt_le e3 hn⟩
theorem datum_up : ∀ {d : Nat} {t : T}, datum d t = true → datum (d + 1) t = true := by
  intro d
  induction d with
  | zero =>
    intro t h
    cases t <;> first | rfl | exact h | cases h
  | succ d ih =>
    intro t h
    have mem : ∀ {xs : List T}, datumL d xs = true → ∀ x ∈ xs, datum d x = true := by
      intro xs
      induction xs with
      | nil => intro _ x hx; cases hx
      | cons y ys ihx =>
        intro e x hx
        have e : (datum d y && datumL d ys) = true := by cases d <;> exact e
        rw [Bool.and_eq_true] at e
        rcases List.mem_cons.mp hx with rfl | hx
        · exact e.1
        · exact ihx e.2 x hx
    cases t with
    | lst xs => exact datumL_of fun x hx => ih (mem (xs := xs) h x hx)
    | tup xs => exact datumL_of fun x hx => ih (mem (xs := xs) h x hx)
    | non => rfl
    | bl _ => rfl
    | int _ => rfl
    | str _ => exact h
    | _ => cases h
theorem datum_le {d e : Nat} {t : T} (h : datum d t = true) (hl : d ≤ e) : datum e t = true := by
  obtain ⟨n, rfl⟩ := Nat.exists_eq_add_of_le hl
  clear hl
  induction n with
  | zero => exact h
  | succ n ih => exact datum_up ih
/-- repr gives a text, in any place and memory -/
def ReprOk (t : T) : Prop := ∃ s : PySem.Str, pBI .repr [t] = some (.str s) ∧ s.cps.all (fun c => decide (c < 0x110000)) = true
theorem txt_arr {n : Nat} {s : PySem.Str} (h : txt n s) : s.cps.all (fun c => decide (c < 0x110000)) = true := by
  rw [← Array.all_toList]
  exact List.all_eq_true.mpr fun c hc => decide_eq_true (h.2 c hc)
theorem Rp.ok {d n : Nat} {t : T} (h : Rp d n t) (hd : d ≤ 40) (hn : n ≤ 16777216) : ReprOk t := by
  obtain ⟨p, e1, e2, e3⟩ := h.run
  have hdat := datum_le h.dat hd
  refine ⟨p.shown, ?_, txt_arr e3⟩
  have e : pBI .repr [t] = if datum 40 t then (match dataOf t with
    | some d => if d.showable && Nat.ble d.shown.length line then some (.str d.shown) else none
    | none => none) else none := by
    cases t with
    | dk ks vs => cases hdat
    | _ => rfl
  have hb : Nat.ble p.shown.length line = true := Nat.ble_eq_true_of_le (by have := e3.1; have := line_big; omega)
  rw [e, hdat, if_pos rfl, e1]
  dsimp only
  rw [e2, hb] <;> rfl
theorem reprOk_dk : ReprOk (.dk [] []) := ⟨(PyData.dict []).shown, rfl, by decide +kernel⟩
section
variable {F : Fns} {ρ : Env} {B : T}
theorem eRepr {e : IE} {t : T} {s : PySem.Str} (h : evE F ρ e [B] = .ok t [B]) (hp : plnT t = true) (hs : pBI .repr [t] = some (.str s)) : evE F ρ (.bi .repr [e]) [B] = .ok (.str s) [B] := by
  rw [evE, evL, h, Res.bind_ok, evL, Res.bind_ok, Res.bind_ok]
  have hk : ([t].all fun t => kidsOk t (kidsOf (view [B] t))) = true := by
    show (kidsOk t (kidsOf (view [B] t)) && true) = true
    rw [kidsOk_plain _ hp] <;> rfl
  rw [hk, if_pos rfl]
  show opt (pBI .repr [view [B] t]) [B] = _
  rw [view_plain hp, hs] <;> rfl
/-- the same text told again -/
theorem eNeS {a b : IE} {s : PySem.Str} (ha : evE F ρ a [B] = .ok (.str s) [B]) (hb : evE F ρ b [B] = .ok (.str s) [B]) (hs : s.cps.all (fun c => decide (c < 0x110000)) = true) : evE F ρ (.cmp .ne a b) [B] = .ok (.bl false) [B] := by
  rw [evE, ha, Res.bind_ok, hb, Res.bind_ok]
  show Res.bind (opt (if s.cps.all (fun c => decide (c < 0x110000)) && s.cps.all (fun c => decide (c < 0x110000)) then some (!decide (s = s)) else none) [B]) _ = _
  rw [hs, decide_eq_true rfl] <;> rfl
end
theorem row_repr {t : T} {is : List Int} (h : Row is) (ht : RowT t is) : ReprOk t := by
  have hi : ∀ x ∈ is.map T.int, Rp 0 8 x := fun x hx => by
    obtain ⟨i, hi, rfl⟩ := List.mem_map.mp hx
    have := h.pos i hi
    have := h.le i hi
    exact rp_int (by omega) (by omega)
  have hl := h.len
  rcases ht with rfl | rfl
  · exact (rp_lst hi).ok (by decide) (by rw [List.length_map]; omega)
  · exact (rp_tup hi).ok (by decide) (by rw [List.length_map]; omega)
end MP

/-! G8: the law's drawn row. -/
namespace MP
section
variable {F : Fns} {W : Nat} {ρ ρ' : Env} {μ μ1 μ2 μ3 : Mem}
theorem sPar2 {xs : List Nat} {a b : IE} {ks : List Nat} {t u : T} (h1 : evE F ρ a μ = .ok t μ1) (h2 : evE F ρ b μ1 = .ok u μ2) (hs : setAll (kill ρ ks) xs [t, u] = some ρ') : evI1 F W (.par xs [a, b] ks) ρ μ = .ok (.nx, ρ') μ2 := by
  rw [evI1, evL, h1, Res.bind_ok, evL, h2, Res.bind_ok, evL, Res.bind_ok, Res.bind_ok, Res.bind_ok, hs] <;> rfl
theorem sPar3 {xs : List Nat} {a b c : IE} {ks : List Nat} {t u v : T} (h1 : evE F ρ a μ = .ok t μ1) (h2 : evE F ρ b μ1 = .ok u μ2) (h3 : evE F ρ c μ2 = .ok v μ3) (hs : setAll (kill ρ ks) xs [t, u, v] = some ρ') : evI1 F W (.par xs [a, b, c] ks) ρ μ = .ok (.nx, ρ') μ3 := by
  rw [evI1, evL, h1, Res.bind_ok, evL, h2, Res.bind_ok, evL, h3, Res.bind_ok, evL, Res.bind_ok, Res.bind_ok, Res.bind_ok, Res.bind_ok, hs] <;> rfl
theorem sApp {x : Nat} {e : IE} {ks : List Nat} {xs : List T} {t : T} (hx : getL (kill ρ ks) x = some xs) (he : evE F ρ e μ = .ok t μ1) (hl : xs.length < line) : evI1 F W (.app x e ks) ρ μ = .ok (.nx, (kill ρ ks).set x (some (.lst (xs ++ [t])))) μ1 := by
  rw [evI1, hx]
  show Res.bind (.ok xs μ) _ = _
  rw [Res.bind_ok, he, Res.bind_ok]
  have hb : Nat.blt xs.length line = true := Nat.ble_eq_true_of_le hl
  rw [hb] <;> rfl
end
theorem sum_ins (i : Int) : ∀ l : List Int, (ins i l).sum = i + l.sum
  | [] => rfl
  | j :: r => by
    unfold ins
    split
    · rfl
    · show j + (ins i r).sum = i + (j + r.sum)
      rw [sum_ins i r]
      omega
theorem sum_isort : ∀ l : List Int, (isort l).sum = l.sum
  | [] => rfl
  | i :: r => by
    show (ins i (isort r)).sum = i + r.sum
    rw [sum_ins, sum_isort r]
theorem sum_app (a b : List Int) : (a ++ b).sum = a.sum + b.sum := by
  induction a with
  | nil => show b.sum = 0 + b.sum; omega
  | cons x a ih => show x + (a ++ b).sum = x + a.sum + b.sum; rw [ih]; omega
theorem sum_rev : ∀ l : List Int, l.reverse.sum = l.sum
  | [] => rfl
  | a :: r => by
    rw [List.reverse_cons, sum_app, sum_rev r]
    show r.sum + (a + 0) = a + r.sum
    omega
theorem mem_sum : ∀ {l : List Int}, (∀ x ∈ l, 0 < x) → (l.length : Int) ≤ l.sum ∧ ∀ x ∈ l, x ≤ l.sum
  | [], _ => ⟨by decide, fun x hx => by cases hx⟩
  | a :: r, h => by
    have ha := h a List.mem_cons_self
    have ih := mem_sum fun x hx => h x (List.mem_cons_of_mem _ hx)
    show ((r.length + 1 : Nat) : Int) ≤ a + r.sum ∧ ∀ x ∈ a :: r, x ≤ a + r.sum
    refine ⟨by omega, fun x hx => ?_⟩
    rcases List.mem_cons.mp hx with rfl | hx
    · omega
    · have := ih.2 x hx
      omega
/-- sorted, from the end -/
theorem sort_row {f : List Int} (hp : ∀ x ∈ f, 0 < x) (hs : f.sum ≤ 1000) : Row (isort f).reverse ∧ (isort f).reverse.sum = f.sum := by
  have m := mem_sum hp
  have q : ∀ x ∈ (isort f).reverse, x ∈ f := fun x hx => mem_isort.mp (List.mem_reverse.mp hx)
  refine ⟨⟨fun i hi => hp i (q i hi), fun i hi => by have := m.2 i (q i hi); omega, ?_, desc_rev (asc_isort f)⟩, by rw [sum_rev, sum_isort]⟩
  rw [List.length_reverse, len_isort]
  omega
def downL : Nat → List Int
  | 0 => []
  | n + 1 => ((n + 1 : Nat) : Int) :: downL n
theorem down_mem : ∀ {n : Nat} {x : Int}, x ∈ downL n → 0 < x ∧ x ≤ (n : Int)
  | 0, x, h => by cases h
  | n + 1, x, h => by
    rcases List.mem_cons.mp h with rfl | h
    · omega
    · have := down_mem h
      omega
theorem down_len : ∀ n, (downL n).length = n
  | 0 => rfl
  | n + 1 => by show (downL n).length + 1 = _; rw [down_len]
theorem down_desc : ∀ n, desc (downL n)
  | 0 => trivial
  | n + 1 => desc_cons (fun x hx => by have := down_mem hx; omega) (down_desc n)
theorem down_rng : ∀ n : Nat, rngL (n : Int) (-1) n = (downL n).map .int
  | 0 => rfl
  | n + 1 => by
    show T.int ((n + 1 : Nat) : Int) :: rngL (((n + 1 : Nat) : Int) + -1) (-1) n = _
    rw [show (((n + 1 : Nat) : Int) + -1) = (n : Int) by omega, down_rng n] <;> rfl
theorem desc_sub {a b : List Int} (h : a.Sublist b) (hb : desc b) : desc a := by
  induction h with
  | slnil => trivial
  | cons x _ ih => exact ih (desc_tail hb)
  | cons_cons x hs ih => exact desc_cons (fun y hy => desc_head hb y (hs.subset hy)) (ih (desc_tail hb))
theorem sum_le_mul {m : Int} : ∀ {l : List Int}, (∀ x ∈ l, x ≤ m) → l.sum ≤ m * (l.length : Int)
  | [], _ => by show (0 : Int) ≤ m * 0; omega
  | a :: r, h => by
    have ih := sum_le_mul (m := m) (l := r) fun x hx => h x (List.mem_cons_of_mem _ hx)
    have ha := h a List.mem_cons_self
    show a + r.sum ≤ m * ((r.length + 1 : Nat) : Int)
    rw [Int.natCast_add, Int.mul_add]
    omega
/-- of a range downwards, some -/
theorem sub_row {b : Nat} (hb : b ≤ 9) {f : List Int} (h : f.Sublist (downL b)) : Row f ∧ f.sum ≤ 81 := by
  have hl := h.length_le
  rw [down_len] at hl
  refine ⟨⟨fun i hi => (down_mem (h.subset hi)).1, fun i hi => by have := (down_mem (h.subset hi)).2; omega, by omega, desc_sub h (down_desc b)⟩, ?_⟩
  have := sum_le_mul (m := 9) (l := f) fun x hx => by have := (down_mem (h.subset hx)).2; omega
  omega
/-- a comprehension that draws and keeps some -/
theorem draws_sub {f : T → Mem → Res (Option T)} : ∀ (xs : List T) (n c : Nat) (B : T), (∀ x ∈ xs, ∀ B c, IsStream B c → c < 1000000 → ∃ (o : Option T) (B' : T), f x [B] = .ok o [B'] ∧ (o = none ∨ o = some x) ∧ IsStream B' (c + 1)) → IsStream B c → c + xs.length ≤ 1000000 → n + xs.length ≤ line → ∃ (ys : List T) (B' : T), lcGo f xs n [B] = .ok ys [B'] ∧ ys.Sublist xs ∧ IsStream B' (c + xs.length)
  | [], n, c, B, _, h, _, _ => ⟨[], B, rfl, List.Sublist.slnil, h⟩
  | x :: xs, n, c, B, hf, h, hc, hn => by
    rw [List.length_cons] at hc hn
    obtain ⟨o, B1, e1, ho, h1⟩ := hf x List.mem_cons_self B c h (by omega)
    rcases ho with rfl | rfl
    · obtain ⟨ys, B2, e2, q, h2⟩ := draws_sub xs n (c + 1) B1 (fun y hy => hf y (List.mem_cons_of_mem _ hy)) h1 (by omega) (by omega)
      refine ⟨ys, B2, ?_, q.cons _, by rw [List.length_cons, show c + (xs.length + 1) = c + 1 + xs.length by omega]; exact h2⟩
      show Res.bind (f x [B]) _ = _
      rw [e1, Res.bind_ok]
      exact e2
    · obtain ⟨ys, B2, e2, q, h2⟩ := draws_sub xs (n + 1) (c + 1) B1 (fun y hy => hf y (List.mem_cons_of_mem _ hy)) h1 (by omega) (by omega)
      refine ⟨x :: ys, B2, ?_, q.cons_cons _, by rw [List.length_cons, show c + (xs.length + 1) = c + 1 + xs.length by omega]; exact h2⟩
      show Res.bind (f x [B]) _ = _
      rw [e1, Res.bind_ok]
      show (if Nat.blt n line = true then (lcGo f xs (n + 1) [B1]).bind fun r μ => .ok (x :: r) μ else .stuck) = _
      have hb : Nat.blt n line = true := Nat.ble_eq_true_of_le (by omega)
      rw [hb, if_pos rfl, e2] <;> rfl
def wRow (iD : Nat) : List IS := [(.asg 7 (.bin .add (.cst (.int 1)) (.call iD [(.var 0), (.bi .min2 [(.var 3), (.var 2)])] [])) []), (.app 5 (.imm (.var 7)) []), (.asg 3 (.bin .sub (.var 3) (.var 7)) [])]
def dLawRow (iD : Nat) : Dn := ⟨2, 8, [.S, .S, .S, .S, .S, .D, .S, .S], .D, [(.par [3, 4, 5] [(.call iD [(.var 0), (.bin .add (.var 1) (.cst (.int 1)))] []), (.call iD [(.var 0), (.cst (.int 5))] []), (.lst [])] []),
  (.asg 2 (.sub (.lst [(false, (.cst (.int 3))), (false, (.cst (.int 9))), (false, (.bin .add (.var 1) (.cst (.int 1)))), (false, (.cst (.int 2))), (false, (.bin .add (.var 1) (.cst (.int 1))))]) (.var 4)) []),
  (.iff (.cmp .eq (.var 4) (.cst (.int 2))) [(.asg 6 (.bin .add (.cst (.int 1)) (.call iD [(.var 0), (.cst (.int 9))] [])) []), (.ret (some (.ite (.cmp .lt (.bin .mul (.var 6) (.var 6)) (.var 1)) (.lc (.imm (.var 7)) (.nm 7) (.rng3 (.var 6) (.cst (.int 0)) (.un (.cst (.int 1)))) (some (.cmp .gt (.bin .mul (.var 7) (.cst (.int 2))) (.call iD [(.var 0), (.bin .add (.var 6) (.cst (.int 1)))] [])))) (.lst [(false, (.cst (.int 1)))]))))] []),
  (.wh (.cmp .gt (.var 3) (.cst (.int 0))) (wRow iD)),
  (.ret (some (.rev (.bi .sorted [(.var 5)]))))]⟩
section
variable {Fk : Fam} {W iD : Nat}
/-- the loop of parts -/
theorem row_loop (hd : DefAt Fk W iD dDraw) (hW : 64 ≤ W) {k : Nat} {most wide way : Int} {o6 : Option T} (hw : 1 ≤ wide ∧ wide ≤ 1000000) : ∀ (n : Nat) (r : Int) (f : List Int) (o7 : Option T) (c : Nat) (B : T), r.toNat < n → 0 ≤ r → r ≤ 1000 → IsStream B c → c + r.toNat < 1000000 → (∀ x ∈ f, 0 < x) → f.sum + r ≤ 1000 →
    ∃ (f' : List Int) (ρ' : Env) (c' : Nat) (B' : T), whLoop (fun ρ μ => evE (Fk (k + 1)) ρ (.cmp .gt (.var 3) (.cst (.int 0))) μ) (fun ρ μ => evIs (Fk (k + 1)) W (wRow iD) ρ μ) n [some (.box 0), some (.int most), some (.int wide), some (.int r), some (.int way), some (.lst (f.map .int)), o6, o7] [B] = .ok (.nx, ρ') [B'] ∧ getV ρ' 5 = some (.lst (f'.map .int)) ∧ (∀ x ∈ f', 0 < x) ∧ f'.sum = f.sum + r ∧ c' ≤ c + r.toNat ∧ IsStream B' c'
  | 0, r, f, o7, c, B, hn, _, _, _, _, _, _ => absurd hn (Nat.not_lt_zero _)
  | n + 1, r, f, o7, c, B, hn, h0, h1, hs, hc, hp, hsum => by
    let ρ : Env := [some (.box 0), some (.int most), some (.int wide), some (.int r), some (.int way), some (.lst (f.map .int)), o6, o7]
    have t : evE (Fk (k + 1)) ρ (.cmp .gt (.var 3) (.cst (.int 0))) [B] = .ok (.bl (decide (0 < r))) [B] := eCmp (eVar rfl) eCst rfl
    by_cases hr : 0 < r
    · let m : Int := if wide < r then wide else r
      have hm : 0 < m ∧ m ≤ r := by
        show 0 < (if wide < r then wide else r) ∧ (if wide < r then wide else r) ≤ r
        split <;> omega
      obtain ⟨d, B1, e, d0, d1, s1⟩ := drawF (k := k) (m := m) hd hs (by omega) hW hm.1 (by omega)
      have em : evE (Fk (k + 1)) ρ (.bi .min2 [(.var 3), (.var 2)]) [B] = .ok (.int m) [B] := rfl
      have a1 : evE (Fk (k + 1)) ρ (.bin .add (.cst (.int 1)) (.call iD [(.var 0), (.bi .min2 [(.var 3), (.var 2)])] [])) [B] = .ok (.int (1 + d)) [B1] := eBin eCst (eCall2 (eVar rfl) em e) rfl
      have ms := mem_sum hp
      have lb := line_big
      have b1 := sApp (F := Fk (k + 1)) (W := W) (ρ := [some (.box 0), some (.int most), some (.int wide), some (.int r), some (.int way), some (.lst (f.map .int)), o6, some (.int (1 + d))]) (μ := [B1]) (x := 5) (ks := []) (e := .imm (.var 7)) (xs := f.map .int) (t := .int (1 + d)) rfl (eImm (eVar rfl)) (by rw [List.length_map]; omega)
      have body : evIs (Fk (k + 1)) W (wRow iD) ρ [B] = .ok (.nx, [some (.box 0), some (.int most), some (.int wide), some (.int (r - (1 + d))), some (.int way), some (.lst ((f ++ [1 + d]).map .int)), o6, some (.int (1 + d))]) [B1] := by
        refine ssCons (sAsg a1) (ssCons b1 ?_)
        rw [List.map_append]
        exact ssCons (sAsg (t := .int (r - (1 + d))) rfl) rfl
      obtain ⟨f', ρ', c', B', e', q1, q2, q3, q4, q5⟩ := row_loop hd hW (k := k) (most := most) (wide := wide) (way := way) (o6 := o6) hw n (r - (1 + d)) (f ++ [1 + d]) (some (.int (1 + d))) (c + 1) B1 (by omega) (by omega) (by omega) s1 (by omega) (fun x hx => by
        rcases List.mem_append.mp hx with hx | hx
        · exact hp x hx
        · rw [List.mem_singleton.mp hx]
          omega) (by
        rw [sum_app]
        show f.sum + (1 + d + 0) + (r - (1 + d)) ≤ 1000
        omega)
      refine ⟨f', ρ', c', B', ?_, q1, q2, ?_, by omega, q5⟩
      · show Res.bind (evE (Fk (k + 1)) ρ (.cmp .gt (.var 3) (.cst (.int 0))) [B]) _ = _
        rw [t, Res.bind_ok, decide_eq_true hr]
        show Res.bind (evIs (Fk (k + 1)) W (wRow iD) ρ [B]) _ = _
        rw [body, Res.bind_ok]
        exact e'
      · rw [q3, sum_app]
        show f.sum + (1 + d + 0) + (r - (1 + d)) = _
        omega
    · refine ⟨f, ρ, c, B, ?_, rfl, hp, by omega, by omega, hs⟩
      show Res.bind (evE (Fk (k + 1)) ρ (.cmp .gt (.var 3) (.cst (.int 0))) [B]) _ = _
      rw [t, Res.bind_ok, decide_eq_false hr] <;> rfl
theorem eLst1 {F : Fns} {ρ : Env} {μ μ1 : Mem} {a : IE} {t : T} (h : evE F ρ a μ = .ok t μ1) : evE F ρ (.lst [(false, a)]) μ = .ok (.lst [t]) μ1 := by
  rw [evE, evS, h, Res.bind_ok]
  rfl
theorem eSorted {F : Fns} {ρ : Env} {μ : Mem} {e : IE} {is : List Int} (h : evE F ρ e μ = .ok (.lst (is.map .int)) μ) : evE F ρ (.bi .sorted [e]) μ = .ok (.lst ((isort is).map .int)) μ := by
  rw [evE, evL, h, Res.bind_ok, evL, Res.bind_ok, Res.bind_ok]
  show opt (match intsOf (is.map T.int) with
    | some ns => some (T.lst ((isort ns).map .int))
    | none => (rowsOf (is.map T.int)).map fun rs => T.lst ((sortR rs).map fun is => T.lst (is.map .int))) μ = _
  rw [intsOf_map] <;> rfl
theorem eRev {F : Fns} {ρ : Env} {μ : Mem} {e : IE} {is : List Int} (h : evE F ρ e μ = .ok (.lst (is.map .int)) μ) : evE F ρ (.rev e) μ = .ok (.lst (is.reverse.map .int)) μ := by
  rw [evE, h, Res.bind_ok]
  show Res.ok (T.lst (is.map T.int).reverse) μ = _
  rw [List.map_reverse]
theorem lawRowS {i : Nat} (hi : DefAt Fk W i (dLawRow iD)) (hd : DefAt Fk W iD dDraw) (hW : 2000 ≤ W) {k c : Nat} {B : T} {most : Int} (hs : IsStream B c) (hc : c < 900000) (h0 : 1 ≤ most) (h1 : most ≤ 1000) :
    ∃ (is : List Int) (c' : Nat) (B' : T), Fk (k + 2) i [.box 0, .int most] [B] = .ok (.lst (is.map .int)) [B'] ∧ Row is ∧ is.sum ≤ 1000 ∧ c' ≤ c + 1010 ∧ IsStream B' c' ∧ is.sum ≤ most + 81 := by
  have lb := line_big
  obtain ⟨rest, B1, e1, r0, r1, s1⟩ := drawF (k := k) (m := most + 1) hd hs (by omega) (by omega) (by omega) (by omega)
  obtain ⟨way, B2, e2, w0, w1, s2⟩ := drawF (k := k) (m := 5) hd s1 (by omega) (by omega) (by omega) (by omega)
  have hway : (way.toNat : Int) = way := Int.toNat_of_nonneg w0
  have wide : ∃ w : Int, 1 ≤ w ∧ w ≤ 1000000 ∧ [T.int 3, .int 9, .int (most + 1), .int 2, .int (most + 1)][way.toNat]? = some (.int w) := by
    have : way.toNat = 0 ∨ way.toNat = 1 ∨ way.toNat = 2 ∨ way.toNat = 3 ∨ way.toNat = 4 := by omega
    rcases this with q | q | q | q | q <;> rw [q]
    · exact ⟨3, by decide, by decide, rfl⟩
    · exact ⟨9, by decide, by decide, rfl⟩
    · exact ⟨most + 1, by omega, by omega, rfl⟩
    · exact ⟨2, by decide, by decide, rfl⟩
    · exact ⟨most + 1, by omega, by omega, rfl⟩
  obtain ⟨wd, hw0, hw1, hw⟩ := wide
  let ρ0 : Env := [some (.box 0), some (.int most), none, none, none, none, none, none]
  let ρ1 : Env := [some (.box 0), some (.int most), none, some (.int rest), some (.int way), some (.lst []), none, none]
  let ρ2 : Env := [some (.box 0), some (.int most), some (.int wd), some (.int rest), some (.int way), some (.lst []), none, none]
  have p1 : evI1 (Fk (k + 1)) W (.par [3, 4, 5] [(.call iD [(.var 0), (.bin .add (.var 1) (.cst (.int 1)))] []), (.call iD [(.var 0), (.cst (.int 5))] []), (.lst [])] []) ρ0 [B] = .ok (.nx, ρ1) [B2] :=
    sPar3 (eCall2 (eVar rfl) (eBin (eVar rfl) eCst rfl) e1) (eCall2 (eVar rfl) eCst e2) (t := .int rest) (u := .int way) (v := .lst []) rfl rfl
  have p2 : evI1 (Fk (k + 1)) W (.asg 2 (.sub (.lst [(false, (.cst (.int 3))), (false, (.cst (.int 9))), (false, (.bin .add (.var 1) (.cst (.int 1)))), (false, (.cst (.int 2))), (false, (.bin .add (.var 1) (.cst (.int 1))))]) (.var 4)) []) ρ1 [B2] = .ok (.nx, ρ2) [B2] := by
    have : evE (Fk (k + 1)) ρ1 (.sub (.lst [(false, (.cst (.int 3))), (false, (.cst (.int 9))), (false, (.bin .add (.var 1) (.cst (.int 1)))), (false, (.cst (.int 2))), (false, (.bin .add (.var 1) (.cst (.int 1))))]) (.var 4)) [B2] = .ok (.int wd) [B2] :=
      eIxT (xs := [T.int 3, .int 9, .int (most + 1), .int 2, .int (most + 1)]) (i := way.toNat) rfl (by rw [hway]; exact eVar rfl) hw
    exact sAsg this
  have t2 : evE (Fk (k + 1)) ρ2 (.cmp .eq (.var 4) (.cst (.int 2))) [B2] = .ok (.bl (decide (way = 2))) [B2] := eCmp (eVar rfl) eCst rfl
  by_cases hway2 : way = 2
  · rw [decide_eq_true hway2] at t2
    obtain ⟨d, B3, e3, d0, d1, s3⟩ := drawF (k := k) (m := 9) hd s2 (by omega) (by omega) (by omega) (by omega)
    let ρ3 : Env := [some (.box 0), some (.int most), some (.int wd), some (.int rest), some (.int way), some (.lst []), some (.int (1 + d)), none]
    have b : (1 + d) = ((1 + d.toNat : Nat) : Int) := by omega
    have p3 : evE (Fk (k + 1)) ρ2 (.bin .add (.cst (.int 1)) (.call iD [(.var 0), (.cst (.int 9))] [])) [B2] = .ok (.int (1 + d)) [B3] := eBin eCst (eCall2 (eVar rfl) eCst e3) rfl
    have hmul : pBin .mul (.int (1 + d)) (.int (1 + d)) = some (.int ((1 + d) * (1 + d))) := pMul_c (by unfold inMul; rw [decide_eq_true (by omega), decide_eq_true (by omega)] <;> rfl)
    have t3 : evE (Fk (k + 1)) ρ3 (.cmp .lt (.bin .mul (.var 6) (.var 6)) (.var 1)) [B3] = .ok (.bl (decide ((1 + d) * (1 + d) < most))) [B3] := eCmp (eBin (eVar rfl) (eVar rfl) hmul) (eVar rfl) rfl
    by_cases hlt : (1 + d) * (1 + d) < most
    · rw [decide_eq_true hlt] at t3
      have hrng : evI (Fk (k + 1)) ρ3 (.rng3 (.var 6) (.cst (.int 0)) (.un (.cst (.int 1)))) [B3] = .ok ((downL (1 + d.toNat)).map .int) [B3] := by
        have q : (smallI (1 + d) && smallI 0) = true := by simp only [smallI, Bool.and_eq_true, decide_eq_true_eq]; omega
        show (if (smallI (1 + d) && smallI 0) = true then Res.ok (rngL (1 + d) (-1) (1 + d - 0).toNat) [B3] else .stuck) = _
        rw [q, if_pos rfl, show (1 + d - 0).toNat = 1 + d.toNat by omega, b, down_rng]
      obtain ⟨ys, B4, e4, sub, s4⟩ := draws_sub (f := fun x μ => match bindTg (.nm 7) x (forget ρ3 (Tg.slots (.nm 7))) with
        | some ρ' => (evC (Fk (k + 1)) ρ' (some (.cmp .gt (.bin .mul (.var 7) (.cst (.int 2))) (.call iD [(.var 0), (.bin .add (.var 6) (.cst (.int 1)))] []))) μ).bind fun b μ => (match b with | true => (evE (Fk (k + 1)) ρ' (.imm (.var 7)) μ).bind fun y μ => .ok (some y) μ | false => .ok none μ)
        | none => .stuck) ((downL (1 + d.toNat)).map .int) 0 (c + 1 + 1 + 1) B3 (fun x hx B c hs hc => by
          obtain ⟨v, hv, rfl⟩ := List.mem_map.mp hx
          have hv := down_mem hv
          obtain ⟨g, B', e, g0, g1, s'⟩ := drawF (k := k) (m := 1 + d + 1) hd hs hc (by omega) (by omega) (by omega)
          let ρ4 : Env := [some (.box 0), some (.int most), some (.int wd), some (.int rest), some (.int way), some (.lst []), some (.int (1 + d)), some (.int v)]
          have hm2 : pBin .mul (.int v) (.int 2) = some (.int (v * 2)) := pMul_c rfl
          have t : evC (Fk (k + 1)) ρ4 (some (.cmp .gt (.bin .mul (.var 7) (.cst (.int 2))) (.call iD [(.var 0), (.bin .add (.var 6) (.cst (.int 1)))] []))) [B] = .ok (decide (g < v * 2)) [B'] := by
            have : evE (Fk (k + 1)) ρ4 (.cmp .gt (.bin .mul (.var 7) (.cst (.int 2))) (.call iD [(.var 0), (.bin .add (.var 6) (.cst (.int 1)))] [])) [B] = .ok (.bl (decide (g < v * 2))) [B'] := eCmp (eBin (eVar rfl) eCst hm2) (eCall2 (eVar rfl) (eBin (eVar rfl) eCst rfl) e) rfl
            rw [evC, this] <;> rfl
          refine ⟨if g < v * 2 then some (.int v) else none, B', ?_, by split <;> simp, s'⟩
          show Res.bind (evC (Fk (k + 1)) ρ4 _ [B]) _ = _
          rw [t, Res.bind_ok]
          by_cases q : g < v * 2
          · rw [decide_eq_true q, if_pos q] <;> rfl
          · rw [decide_eq_false q, if_neg q]) s3 (by rw [List.length_map, down_len]; omega) (by rw [List.length_map, down_len]; omega)
      obtain ⟨f, hf, rfl⟩ := List.sublist_map_iff.mp sub
      have rw' := sub_row (b := 1 + d.toNat) (by omega) hf
      have el : evE (Fk (k + 1)) ρ3 (.lc (.imm (.var 7)) (.nm 7) (.rng3 (.var 6) (.cst (.int 0)) (.un (.cst (.int 1)))) (some (.cmp .gt (.bin .mul (.var 7) (.cst (.int 2))) (.call iD [(.var 0), (.bin .add (.var 6) (.cst (.int 1)))] [])))) [B3] = .ok (.lst (f.map .int)) [B4] := by
        rw [evE, hrng, Res.bind_ok]
        exact congrArg (fun r : Res (List T) => Res.bind (noExc r) fun r μ => Res.ok (T.lst r) μ) e4
      refine ⟨f, _, B4, ?_, rw'.1, by omega, ?_, s4, by omega⟩
      · rw [hi]
        exact runRt (d := dLawRow iD) rfl (ssCons p1 (ssCons p2 (ssRet (sIf t2 (ssCons (sAsg p3) (ssRet (sRet (eIte t3 el)))))))) (.inl (by decide : RK.D ≠ RK.I))
      · rw [List.length_map, down_len]
        omega
    · rw [decide_eq_false hlt] at t3
      refine ⟨[1], c + 1 + 1 + 1, B3, ?_, ⟨fun i hi => by rw [List.mem_singleton.mp hi]; decide, fun i hi => by rw [List.mem_singleton.mp hi]; decide, by decide, trivial⟩, by decide, by omega, s3, by show (1 : Int) + 0 ≤ most + 81; omega⟩
      rw [hi]
      exact runRt (d := dLawRow iD) (ρ' := ρ3) rfl (ssCons p1 (ssCons p2 (ssRet (sIf t2 (ssCons (sAsg p3) (ssRet (sRet (eIte t3 rfl)))))))) (.inl (by decide : RK.D ≠ RK.I))
  · rw [decide_eq_false hway2] at t2
    obtain ⟨f, ρ', c', B', e, g5, hp, hsum, hc', s'⟩ := row_loop (Fk := Fk) (W := W) hd (by omega) (k := k) (most := most) (wide := wd) (way := way) (o6 := none) ⟨hw0, hw1⟩ W rest [] none (c + 1 + 1) B2 (by omega) r0 (by omega) s2 (by omega) (fun x hx => by cases hx) (by show 0 + rest ≤ 1000; omega)
    have hsum : f.sum = 0 + rest := hsum
    have rw' := sort_row hp (by omega)
    refine ⟨(isort f).reverse, c', B', ?_, rw'.1, by rw [rw'.2]; omega, by omega, s', by rw [rw'.2]; omega⟩
    rw [hi]
    have ew : evI1 (Fk (k + 1)) W (.wh (.cmp .gt (.var 3) (.cst (.int 0))) (wRow iD)) ρ2 [B2] = .ok (.nx, ρ') [B'] := by rw [evI1]; exact e
    exact runRt (d := dLawRow iD) rfl (ssCons p1 (ssCons p2 (ssCons (sIf t2 rfl) (ssCons ew (ssRet (sRet (eRev (eSorted (eVar g5))))))))) (.inl (by decide : RK.D ≠ RK.I))
theorem lawRowF {i : Nat} (hi : DefAt Fk W i (dLawRow iD)) (hd : DefAt Fk W iD dDraw) (hW : 2000 ≤ W) {k c : Nat} {B : T} {most : Int} (hs : IsStream B c) (hc : c < 900000) (h0 : 1 ≤ most) (h1 : most ≤ 1000) :
    ∃ (is : List Int) (c' : Nat) (B' : T), Fk (k + 2) i [.box 0, .int most] [B] = .ok (.lst (is.map .int)) [B'] ∧ Row is ∧ is.sum ≤ 1000 ∧ c' ≤ c + 1010 ∧ IsStream B' c' := by
  obtain ⟨is, c', B', q1, q2, q3, q4, q5, _⟩ := lawRowS hi hd hW (k := k) hs hc h0 h1
  exact ⟨is, c', B', q1, q2, q3, q4, q5⟩
end
end MP

/-! G9: a row with one thing otherwise. -/
namespace MP
structure Thing (t : T) : Prop where
  ok : okT t
  cp : ∀ d, copyOk (d + 3) t = true
  rp : ReprOk t
structure Item (t : T) : Prop where
  pl : plnT t = true
  cp : ∀ d, copyOk (d + 1) t = true
  rp : Rp 1 20 t
theorem item_int {i : Int} (h1 : -5 ≤ i) (h2 : i ≤ 1004) : Item (.int i) := ⟨rfl, fun _ => rfl, rp_le (rp_int (d := 1) h1 h2) rfl (by decide)⟩
theorem item_non : Item .non := ⟨rfl, fun _ => rfl, rfl, .none, rfl, rfl, txt_of (by decide +kernel)⟩
theorem item_bl (b : Bool) : Item (.bl b) := ⟨rfl, fun _ => rfl, rfl, .bool b, rfl, rfl, by cases b <;> exact txt_of (by decide +kernel)⟩
theorem item_1 : Item (.str "1") := ⟨rfl, fun _ => rfl, by decide +kernel, .str "1", rfl, rfl, txt_of (by decide +kernel)⟩
theorem item_l1 : Item (.lst [.int 1]) := ⟨rfl, fun d => by cases d <;> rfl, rp_le (rp_lst (d := 0) (n := 8) fun x hx => by rw [List.mem_singleton.mp hx]; exact rp_int (by decide) (by decide)) rfl (by decide)⟩
theorem Item.ints {is : List Int} (h : Row is) : ∀ x ∈ is.map T.int, Item x := fun x hx => by
  obtain ⟨i, hi, rfl⟩ := List.mem_map.mp hx
  have := h.pos i hi
  have := h.le i hi
  exact item_int (by omega) (by omega)
theorem copyOkL_all {d : Nat} : ∀ {xs : List T}, (∀ x ∈ xs, copyOk d x = true) → copyOkL d xs = true
  | [], _ => by cases d <;> rfl
  | y :: ys, h => by
    have e : copyOkL d (y :: ys) = (copyOk d y && copyOkL d ys) := by cases d <;> rfl
    rw [e, h y List.mem_cons_self, copyOkL_all fun x hx => h x (List.mem_cons_of_mem _ hx)] <;> rfl
theorem thing_lst {xs : List T} (h : ∀ x ∈ xs, Item x) (hl : xs.length ≤ 1010) : Thing (.lst xs) := by
  have lb := line_big
  refine ⟨⟨rfl, fun x hx => (h x hx).pl, by show xs.length ≤ line; omega⟩, fun d => ?_, (rp_lst fun x hx => (h x hx).rp).ok (by decide) (by omega)⟩
  show (Nat.ble xs.length line && copyOkL (d + 2) xs) = true
  rw [Nat.ble_eq_true_of_le (by omega), copyOkL_all fun x hx => (h x hx).cp (d + 1)] <;> rfl
theorem thing_tup {xs : List T} (h : ∀ x ∈ xs, Item x) (hl : xs.length ≤ 1010) : Thing (.tup xs) := by
  have lb := line_big
  refine ⟨⟨rfl, fun x hx => (h x hx).pl, by show xs.length ≤ line; omega⟩, fun d => ?_, (rp_tup fun x hx => (h x hx).rp).ok (by decide) (by omega)⟩
  show (Nat.ble xs.length line && copyOkL (d + 2) xs) = true
  rw [Nat.ble_eq_true_of_le (by omega), copyOkL_all fun x hx => (h x hx).cp (d + 1)] <;> rfl
theorem okT_flat {t : T} (h : plnT t = true) (hk : kidsOf t = []) : okT t := ⟨h, (fun x hx => by rw [hk] at hx; cases hx), by rw [hk]; exact Nat.zero_le _⟩
theorem thing_item {t : T} (h : Item t) (hk : kidsOf t = []) : Thing t := ⟨okT_flat h.pl hk, fun d => h.cp (d + 2), h.rp.ok (by decide) (by decide)⟩
theorem item_21 : Item (.str "21") := ⟨rfl, fun _ => rfl, by decide +kernel, .str "21", rfl, rfl, txt_of (by decide +kernel)⟩
theorem thing_dk : Thing (.dk [] []) := ⟨okT_flat rfl rfl, fun _ => rfl, reprOk_dk⟩
section
variable {F : Fns} {ρ : Env} {μ μ1 μ2 : Mem}
theorem sCons {a : IE} {as : List (Bool × IE)} {t : T} {ts : List T} (h : evE F ρ a μ = .ok t μ1) (h2 : evS F ρ as μ1 = .ok ts μ2) : evS F ρ ((false, a) :: as) μ = .ok (t :: ts) μ2 := by
  rw [evS, h, Res.bind_ok]
  dsimp only
  rw [h2] <;> rfl
theorem sNil : evS F ρ [] μ = .ok [] μ := by rw [evS]
theorem eLstS {as : List (Bool × IE)} {ts : List T} (h : evS F ρ as μ = .ok ts μ1) (hl : ts.length ≤ 1000) : evE F ρ (.lst as) μ = .ok (.lst ts) μ1 := by
  have lb := line_big
  rw [evE, h, Res.bind_ok, Nat.ble_eq_true_of_le (by omega)] <;> rfl
theorem eAddL {a b : IE} {xs ys : List T} (ha : evE F ρ a μ = .ok (.lst xs) μ1) (hb : evE F ρ b μ1 = .ok (.lst ys) μ2) (hl : xs.length + ys.length ≤ 1000000) : evE F ρ (.bin .add a b) μ = .ok (.lst (xs ++ ys)) μ2 := by
  have lb := line_big
  rw [evE, ha, Res.bind_ok, hb, Res.bind_ok]
  show opt (if Nat.ble (xs.length + ys.length) line then some (T.lst (xs ++ ys)) else none) μ2 = _
  rw [Nat.ble_eq_true_of_le (by omega)] <;> rfl
theorem eSlcLo {a e : IE} {xs : List T} {k : Nat} (ha : evE F ρ a μ = .ok (.lst xs) μ) (he : evE F ρ e μ = .ok (.int (k : Int)) μ) : evE F ρ (.slc a (some e) none) μ = .ok (.lst (xs.drop k)) μ := by
  rw [evE, ha, Res.bind_ok, evO, he, Res.bind_ok]
  show Res.ok (T.lst (cutT xs (some (k : Int)) none)) μ = _
  rw [cut_lo]
theorem eSlcHi {a e : IE} {xs : List T} {k : Nat} (ha : evE F ρ a μ = .ok (.lst xs) μ) (he : evE F ρ e μ = .ok (.int (k : Int)) μ) : evE F ρ (.slc a none (some e)) μ = .ok (.lst (xs.take k)) μ := by
  rw [evE, ha, Res.bind_ok, evO, Res.bind_ok, evO, he, Res.bind_ok]
  show Res.ok (T.lst (cutT xs none (some (k : Int)))) μ = _
  rw [cut_hi]
theorem eRevT {e : IE} {xs : List T} (h : evE F ρ e μ = .ok (.lst xs) μ) : evE F ρ (.rev e) μ = .ok (.lst xs.reverse) μ := by
  rw [evE, h, Res.bind_ok]
  rfl
end
def dBent (iD iP : Nat) : Dn := ⟨2, 5, [.S, .S, .S, .S, .S], .S, [(.asg 2 (.call iD [(.var 0), (.bin .add (.bi .len [(.var 1)]) (.cst (.int 1)))] []) []),
  (.asg 3 (.call iP [(.var 0), (.lst [(false, (.cst .non)), (false, (.cst (.int 0))), (false, (.un (.cst (.int 1)))), (false, (.cst (.bl true))), (false, (.cst (.str "1"))), (false, (.lst [(false, (.cst (.int 1)))])), (false, (.bin .add (.cst (.int 1)) (.call iD [(.var 0), (.cst (.int 9))] []))), (false, (.bin .add (.bi .max1 [(.bin .add (.lst [(false, (.cst (.int 0)))]) (.bi .list [(.var 1)]))]) (.cst (.int 1))))])] []) []),
  (.asg 4 (.lst [(false, (.bin .add (.bin .add (.slc (.var 1) none (some (.var 2))) (.lst [(false, (.var 3))])) (.slc (.var 1) (some (.var 2)) none))), (false, (.bin .add (.bin .add (.slc (.var 1) none (some (.var 2))) (.lst [(false, (.var 3))])) (.slc (.var 1) (some (.bin .add (.var 2) (.cst (.int 1)))) none))), (false, (.rev (.var 1))), (false, (.bin .add (.var 1) (.lst [(false, (.cst (.int 0)))]))), (false, (.bi .tuple [(.var 1)])), (false, (.cst .non)), (false, (.cst (.int 5))), (false, (.cst (.str "21"))), (false, (.dnew false)), (false, (.cst (.bl true)))]) []),
  (.ret (some (.call iP [(.var 0), (.var 4)] [])))]⟩
section
variable {Fk : Fam} {W iD : Nat}
theorem bentF {i iP : Nat} (hi : DefAt Fk W i (dBent iD iP)) (hd : DefAt Fk W iD dDraw) (hP : DefAt Fk W iP (dPick iD)) (hW : 2000 ≤ W) {k c : Nat} {B : T} {is : List Int} (h : Row is) (hs : IsStream B c) (hc : c < 900000) :
    ∃ (t : T) (B' : T), Fk (k + 3) i [.box 0, .lst (is.map .int)] [B] = .ok t [B'] ∧ Thing t ∧ IsStream B' (c + 4) := by
  have hl := h.len
  have hh := head_le h
  obtain ⟨d, B1, e1, a0, a1, s1⟩ := drawF (k := k + 1) (m := (is.length : Int) + 1) hd hs (by omega) (by omega) (by omega) (by omega)
  obtain ⟨g, B2, e2, g0, g1, s2⟩ := drawF (k := k + 1) (m := 9) hd s1 (by omega) (by omega) (by omega) (by omega)
  have hd' : d = (d.toNat : Int) := by omega
  let R : T := .lst (is.map .int)
  let ρ1 : Env := [some (.box 0), some R, some (.int (d.toNat : Int)), none, none]
  let os : List T := [.non, .int 0, .int (-1), .bl true, .str "1", .lst [.int 1], .int (1 + g), .int (is.headD 0 + 1)]
  obtain ⟨odd, B3, e3, ho, s3⟩ := pickF (k := k) (xs := os) hd hP s2 (by omega) (by omega) (Nat.le_of_ble_eq_true rfl) (Nat.le_of_ble_eq_true rfl)
  have iodd : Item odd := by
    simp only [os, List.mem_cons, List.not_mem_nil, or_false] at ho
    rcases ho with rfl | rfl | rfl | rfl | rfl | rfl | rfl | rfl
    · exact item_non
    · exact item_int (by decide) (by decide)
    · exact item_int (by decide) (by decide)
    · exact item_bl true
    · exact item_1
    · exact item_l1
    · exact item_int (by omega) (by omega)
    · exact item_int (by omega) (by omega)
  have p1 : evE (Fk (k + 2)) [some (.box 0), some R, none, none, none] (.call iD [(.var 0), (.bin .add (.bi .len [(.var 1)]) (.cst (.int 1)))] []) [B] = .ok (.int (d.toNat : Int)) [B1] := by
    rw [← hd']
    exact eCall2 (eVar rfl) (eBin (eLenR (is := is) (.inl rfl) (eVar rfl)) eCst rfl) e1
  have mx : ∀ {μ : T}, evE (Fk (k + 2)) ρ1 (.bin .add (.bi .max1 [(.bin .add (.lst [(false, (.cst (.int 0)))]) (.bi .list [(.var 1)]))]) (.cst (.int 1))) [μ] = .ok (.int (is.headD 0 + 1)) [μ] := fun {μ} => eBin (max_list h (eVar rfl)) eCst rfl
  have gl : evE (Fk (k + 2)) ρ1 (.bin .add (.cst (.int 1)) (.call iD [(.var 0), (.cst (.int 9))] [])) [B1] = .ok (.int (1 + g)) [B2] := eBin eCst (eCall2 (eVar rfl) eCst e2) rfl
  have p2 : evE (Fk (k + 2)) ρ1 (.lst [(false, (.cst .non)), (false, (.cst (.int 0))), (false, (.un (.cst (.int 1)))), (false, (.cst (.bl true))), (false, (.cst (.str "1"))), (false, (.lst [(false, (.cst (.int 1)))])), (false, (.bin .add (.cst (.int 1)) (.call iD [(.var 0), (.cst (.int 9))] []))), (false, (.bin .add (.bi .max1 [(.bin .add (.lst [(false, (.cst (.int 0)))]) (.bi .list [(.var 1)]))]) (.cst (.int 1))))]) [B1] = .ok (.lst os) [B2] :=
    eLstS (sCons rfl (sCons rfl (sCons rfl (sCons rfl (sCons rfl (sCons rfl (sCons gl (sCons mx sNil)))))))) (Nat.le_of_ble_eq_true rfl)
  have p3 : evE (Fk (k + 2)) ρ1 (.call iP [(.var 0), (.lst [(false, (.cst .non)), (false, (.cst (.int 0))), (false, (.un (.cst (.int 1)))), (false, (.cst (.bl true))), (false, (.cst (.str "1"))), (false, (.lst [(false, (.cst (.int 1)))])), (false, (.bin .add (.cst (.int 1)) (.call iD [(.var 0), (.cst (.int 9))] []))), (false, (.bin .add (.bi .max1 [(.bin .add (.lst [(false, (.cst (.int 0)))]) (.bi .list [(.var 1)]))]) (.cst (.int 1))))])] []) [B1] = .ok odd [B3] := eCall2 (eVar rfl) p2 e3
  let ρ2 : Env := [some (.box 0), some R, some (.int (d.toNat : Int)), some odd, none]
  have hml : (is.map T.int).length = is.length := List.length_map ..
  have v1 : ∀ {F : Fns}, evE F ρ2 (.var 1) [B3] = .ok (.lst (is.map .int)) [B3] := eVar rfl
  have tk : ((is.map T.int).take d.toNat).length ≤ 1000 := by rw [List.length_take]; omega
  have dr : ∀ n, ((is.map T.int).drop n).length ≤ 1000 := fun n => by rw [List.length_drop]; omega
  have c1 : evE (Fk (k + 2)) ρ2 (.bin .add (.slc (.var 1) none (some (.var 2))) (.lst [(false, (.var 3))])) [B3] = .ok (.lst ((is.map T.int).take d.toNat ++ [odd])) [B3] := eAddL (eSlcHi v1 (eVar rfl)) (eLst1 (eVar rfl)) (by rw [List.length_singleton]; omega)
  have c2 : evE (Fk (k + 2)) ρ2 (.bin .add (.bin .add (.slc (.var 1) none (some (.var 2))) (.lst [(false, (.var 3))])) (.slc (.var 1) (some (.var 2)) none)) [B3] = .ok (.lst ((is.map T.int).take d.toNat ++ [odd] ++ (is.map T.int).drop d.toNat)) [B3] := eAddL c1 (eSlcLo v1 (eVar rfl)) (by rw [List.length_append, List.length_singleton]; have := dr d.toNat; omega)
  have c3 : evE (Fk (k + 2)) ρ2 (.bin .add (.bin .add (.slc (.var 1) none (some (.var 2))) (.lst [(false, (.var 3))])) (.slc (.var 1) (some (.bin .add (.var 2) (.cst (.int 1)))) none)) [B3] = .ok (.lst ((is.map T.int).take d.toNat ++ [odd] ++ (is.map T.int).drop (d.toNat + 1))) [B3] := eAddL c1 (eSlcLo (k := d.toNat + 1) v1 (eBin (eVar rfl) eCst rfl)) (by rw [List.length_append, List.length_singleton]; have := dr (d.toNat + 1); omega)
  have c4 : evE (Fk (k + 2)) ρ2 (.rev (.var 1)) [B3] = .ok (.lst (is.map T.int).reverse) [B3] := eRevT v1
  have c5 : evE (Fk (k + 2)) ρ2 (.bin .add (.var 1) (.lst [(false, (.cst (.int 0)))])) [B3] = .ok (.lst (is.map T.int ++ [.int 0])) [B3] := eAddL v1 rfl (by rw [List.length_singleton]; omega)
  have c6 : evE (Fk (k + 2)) ρ2 (.bi .tuple [(.var 1)]) [B3] = .ok (.tup (is.map T.int)) [B3] := eTuple v1
  let fs : List T := [.lst ((is.map T.int).take d.toNat ++ [odd] ++ (is.map T.int).drop d.toNat), .lst ((is.map T.int).take d.toNat ++ [odd] ++ (is.map T.int).drop (d.toNat + 1)), .lst (is.map T.int).reverse, .lst (is.map T.int ++ [.int 0]), .tup (is.map T.int), .non, .int 5, .str "21", .dk [] [], .bl true]
  have p4 := eLstS (F := Fk (k + 2)) (ρ := ρ2) (sCons c2 (sCons c3 (sCons c4 (sCons c5 (sCons c6 (sCons (a := .cst .non) rfl (sCons (a := .cst (.int 5)) rfl (sCons (a := .cst (.str "21")) rfl (sCons (a := .dnew false) rfl (sCons (a := .cst (.bl true)) rfl sNil)))))))))) (Nat.le_of_ble_eq_true rfl)
  obtain ⟨t, B4, e4, ht, s4⟩ := pickF (k := k) (xs := fs) hd hP s3 (by omega) (by omega) (Nat.le_of_ble_eq_true rfl) (Nat.le_of_ble_eq_true rfl)
  have ii := Item.ints h
  have cat : ∀ (a b : List T), (∀ x ∈ a, Item x) → (∀ x ∈ b, Item x) → ∀ x ∈ a ++ [odd] ++ b, Item x := fun a b ha hb x hx => by
    rcases List.mem_append.mp hx with hx | hx
    · rcases List.mem_append.mp hx with hx | hx
      · exact ha x hx
      · rw [List.mem_singleton.mp hx]
        exact iodd
    · exact hb x hx
  have tki : ∀ x ∈ (is.map T.int).take d.toNat, Item x := fun x hx => ii x (List.mem_of_mem_take hx)
  have dri : ∀ n, ∀ x ∈ (is.map T.int).drop n, Item x := fun n x hx => ii x (List.mem_of_mem_drop hx)
  have tkl : ((is.map T.int).take d.toNat).length ≤ d.toNat := by rw [List.length_take]; omega
  have th : Thing t := by
    simp only [fs, List.mem_cons, List.not_mem_nil, or_false] at ht
    rcases ht with rfl | rfl | rfl | rfl | rfl | rfl | rfl | rfl | rfl | rfl
    · refine thing_lst (cat _ _ tki (dri _)) ?_
      rw [List.length_append, List.length_append, List.length_singleton, List.length_drop]
      omega
    · refine thing_lst (cat _ _ tki (dri _)) ?_
      rw [List.length_append, List.length_append, List.length_singleton, List.length_drop]
      omega
    · exact thing_lst (fun x hx => ii x (List.mem_reverse.mp hx)) (by rw [List.length_reverse]; omega)
    · refine thing_lst (fun x hx => ?_) (by rw [List.length_append, List.length_singleton]; omega)
      rcases List.mem_append.mp hx with hx | hx
      · exact ii x hx
      · rw [List.mem_singleton.mp hx]
        exact item_int (by decide) (by decide)
    · exact thing_tup ii (by omega)
    · exact thing_item item_non rfl
    · exact thing_item (item_int (by decide) (by decide)) rfl
    · exact thing_item item_21 rfl
    · exact thing_dk
    · exact thing_item (item_bl true) rfl
  refine ⟨t, B4, ?_, th, s4⟩
  rw [hi]
  exact runRt (d := dBent iD iP) (ρ' := [some (.box 0), some R, some (.int (d.toNat : Int)), some odd, some (.lst fs)]) rfl (ssCons (sAsg p1) (ssCons (sAsg p3) (ssCons (sAsg p4) (ssRet (sRet (eCall2 (eVar rfl) (eVar rfl) e4)))))) (.inl (by decide : RK.S ≠ RK.I))
end
end MP

/-! G10: loops with draws, the law's frame, what is compared and spoilt. -/
namespace MP
theorem forInv {f : T → Env → Mem → Res (Fl × Env)} (P : Nat → Env → T → Prop) : ∀ {xs : List T} {i : Nat} {ρ : Env} {B : T}, P i ρ B → (∀ j x ρ B, xs[j]? = some x → P (i + j) ρ B → ∃ ρ' B', f x ρ [B] = .ok (.nx, ρ') [B'] ∧ P (i + j + 1) ρ' B') → ∃ ρ' B', forLoop f xs ρ [B] = .ok (.nx, ρ') [B'] ∧ P (i + xs.length) ρ' B'
  | [], i, ρ, B, h, _ => ⟨ρ, B, rfl, h⟩
  | x :: xs, i, ρ, B, h, st => by
    obtain ⟨ρ1, B1, e1, p1⟩ := st 0 x ρ B rfl h
    obtain ⟨ρ2, B2, e2, p2⟩ := forInv P (xs := xs) (i := i + 1) p1 (fun j y ρ B hy p => by
      have e : i + 1 + j = i + (j + 1) := by omega
      rw [e] at p ⊢
      exact st (j + 1) y ρ B (by simpa using hy) p)
    refine ⟨ρ2, B2, ?_, by rw [List.length_cons, show i + (xs.length + 1) = i + 1 + xs.length by omega]; exact p2⟩
    show Res.bind (f x ρ [B]) _ = _
    rw [e1, Res.bind_ok]
    exact e2
theorem go_draws {f : T → Mem → Res (Option T)} (Pt : T → Prop) (M L : Nat) : ∀ (xs : List T) (n c : Nat) (B : T), (∀ x ∈ xs, ∀ B c, IsStream B c → c < L → ∃ t B', f x [B] = .ok (some t) [B'] ∧ Pt t ∧ IsStream B' (c + M)) → IsStream B c → c + M * xs.length < L → n + xs.length ≤ line → ∃ (ts : List T) (B' : T), lcGo f xs n [B] = .ok ts [B'] ∧ (∀ t ∈ ts, Pt t) ∧ ts.length = xs.length ∧ IsStream B' (c + M * xs.length)
  | [], n, c, B, _, h, _, _ => ⟨[], B, rfl, (fun t ht => by cases ht), rfl, h⟩
  | x :: xs, n, c, B, hf, h, hc, hn => by
    rw [List.length_cons] at hc hn
    have e : M * (xs.length + 1) = M + M * xs.length := by rw [Nat.mul_add, Nat.mul_one, Nat.add_comm]
    rw [e] at hc
    obtain ⟨t, B1, e1, pt, h1⟩ := hf x List.mem_cons_self B c h (by omega)
    obtain ⟨ts, B2, e2, q, ql, h2⟩ := go_draws Pt M L xs (n + 1) (c + M) B1 (fun y hy => hf y (List.mem_cons_of_mem _ hy)) h1 (by omega) (by omega)
    refine ⟨t :: ts, B2, ?_, fun u hu => ?_, by rw [List.length_cons, List.length_cons, ql], by rw [List.length_cons, e, show c + (M + M * xs.length) = c + M + M * xs.length by omega]; exact h2⟩
    · show Res.bind (f x [B]) _ = _
      rw [e1, Res.bind_ok]
      show (if Nat.blt n line = true then (lcGo f xs (n + 1) [B1]).bind fun r μ => .ok (t :: r) μ else .stuck) = _
      have hb : Nat.blt n line = true := Nat.ble_eq_true_of_le (by omega)
      rw [hb, if_pos rfl, e2] <;> rfl
    · rcases List.mem_cons.mp hu with rfl | hu
      · exact pt
      · exact q u hu
theorem lc_draws {F : Fns} {ρ : Env} {el : IE} {s : Nat} {it : II} {xs : List T} {B : T} {c : Nat} (Pt : T → Prop) (M L : Nat) (hi : evI F ρ it [B] = .ok xs [B]) (hf : ∀ x ∈ xs, ∀ B c, IsStream B c → c < L → ∃ t B', evE F ((ρ.set s none).set s (some x)) el [B] = .ok t [B'] ∧ Pt t ∧ IsStream B' (c + M)) (hs : IsStream B c) (hc : c + M * xs.length < L) (hl : xs.length ≤ 1000000) :
    ∃ (ts : List T) (B' : T), evE F ρ (.lc el (.nm s) it none) [B] = .ok (.lst ts) [B'] ∧ (∀ t ∈ ts, Pt t) ∧ ts.length = xs.length ∧ IsStream B' (c + M * xs.length) := by
  have lb := line_big
  obtain ⟨ts, B', e, q1, q2, q3⟩ := go_draws (f := fun x μ => match bindTg (.nm s) x (forget ρ (Tg.slots (.nm s))) with
      | some ρ' => (evC F ρ' none μ).bind fun b μ => (match b with | true => (evE F ρ' el μ).bind fun y μ => .ok (some y) μ | false => .ok none μ)
      | none => .stuck) Pt M L xs 0 c B (fun x hx B c hs hc => by
    obtain ⟨t, B', e, pt, s'⟩ := hf x hx B c hs hc
    refine ⟨t, B', ?_, pt, s'⟩
    show Res.bind (.ok true [B]) _ = _
    rw [Res.bind_ok]
    show Res.bind (evE F ((ρ.set s none).set s (some x)) el [B]) _ = _
    rw [e] <;> rfl) hs hc (by omega)
  refine ⟨ts, B', ?_, q1, q2, q3⟩
  rw [evE, hi, Res.bind_ok]
  exact congrArg (fun r : Res (List T) => Res.bind (noExc r) fun r μ => Res.ok (T.lst r) μ) e
/-! ### the law's frame -/
def dStream : Dn := ⟨1, 1, [.S], .D, [(.ret (some (.lst [(false, (.flat (.bi .list [(.var 0)]))), (false, (.cst (.int 0))), (false, (.cst (.int 0))), (false, (.cst (.int 19)))])))]⟩
theorem streamF {Fk : Fam} {W i : Nat} (h : DefAt Fk W i dStream) {k : Nat} {ns : List Int} : Fk (k + 1) i [.scr ns] [] = .ok (sB ns 0 0 19) [] := by
  rw [h]
  have e1 : evE (Fk k) [some (.scr ns)] (.flat (.bi .list [(.var 0)])) [] = .ok (.lst (ns.map .int)) [] := by
    have : evE (Fk k) [some (.scr ns)] (.bi .list [(.var 0)]) [] = .ok (.lst (ns.map .int)) [] := rfl
    rw [evE, this, Res.bind_ok]
    show (if nodelessL (ns.map T.int) = true then Res.ok (T.lst (ns.map T.int)) [] else .stuck) = _
    rw [nodelessL_ints] <;> rfl
  have e2 : evE (Fk k) [some (.scr ns)] (.lst [(false, (.flat (.bi .list [(.var 0)]))), (false, (.cst (.int 0))), (false, (.cst (.int 0))), (false, (.cst (.int 19)))]) [] = .ok (sB ns 0 0 19) [] :=
    eLstS (sCons e1 (sCons rfl (sCons rfl (sCons rfl sNil)))) (Nat.le_of_ble_eq_true rfl)
  unfold runD
  show (match evIs (Fk k) W dStream.body [some (.scr ns)] [] with
    | .ok (.nx, _) μ' => outD dStream.rk 0 .non μ'
    | .ok (.rt t, _) μ' => outD dStream.rk 0 t μ'
    | .ok (.bk, _) _ => .stuck
    | .exc c t μ' => if Nat.ble μ'.length 0 then .exc c t μ' else if boxBelow 0 t then .exc c t (μ'.take 0) else .stuck
    | .stuck => .stuck) = _
  have e3 : evIs (Fk k) W dStream.body [some (.scr ns)] [] = .ok (.rt (sB ns 0 0 19), [some (.scr ns)]) [] := ssRet (sRet e2)
  rw [e3] <;> rfl
theorem stream0 {ns : List Int} (h : ns.length ≤ 63) : IsStream (sB ns 0 0 19) 0 := ⟨ns, 0, 19, rfl, h, by decide, by decide, by decide⟩
theorem sMkbox {F : Fns} {W x : Nat} {ρ : Env} {ns : List Int} (h : getV ρ x = some (sB ns 0 0 19)) : evI1 F W (.mkbox x) ρ [] = .ok (.nx, ρ.set x (some (.box 0))) [sB ns 0 0 19] := by
  rw [evI1, h]
  show (if (boxless (sB ns 0 0 19) && true) = true then Res.ok (Fl.nx, ρ.set x (some (.box 0))) [sB ns 0 0 19] else .stuck) = _
  rw [sB_boxless] <;> rfl
theorem runLaw {F : Fns} {W : Nat} {d : Dn} {s B : T} {ρ' : Env} (ha : d.nps = 1) (h : evIs F W d.body (some s :: List.replicate (d.n - 1) none) [] = .ok (.rt (.bl true), ρ') [B]) : runD F W d [s] [] = .ok (.bl true) [] := by
  unfold runD
  have : Nat.beq [s].length d.nps = true := by rw [ha] <;> rfl
  rw [this, if_pos rfl]
  show (match evIs F W d.body (some s :: List.replicate (d.n - 1) none) [] with
    | .ok (.nx, _) μ' => outD d.rk 0 .non μ'
    | .ok (.rt t, _) μ' => outD d.rk 0 t μ'
    | .ok (.bk, _) _ => .stuck
    | .exc c t μ' => if Nat.ble μ'.length 0 then .exc c t μ' else if boxBelow 0 t then .exc c t (μ'.take 0) else .stuck
    | .stuck => .stuck) = _
  rw [h]
  cases d.rk <;> rfl
/-! ### compared, spoilt -/
theorem so_lst {d : Nat} {xs : List T} (h : ∀ x ∈ xs, sameOk d x = true) (hl : xs.length ≤ 1000000) : sameOk (d + 1) (.lst xs) = true := by
  have lb := line_big
  show (Nat.ble xs.length line && sameOkL d xs) = true
  rw [Nat.ble_eq_true_of_le (by omega), sameOkL_all h] <;> rfl
theorem so_tup {d : Nat} {xs : List T} (h : ∀ x ∈ xs, sameOk d x = true) (hl : xs.length ≤ 1000000) : sameOk (d + 1) (.tup xs) = true := by
  have lb := line_big
  show (Nat.ble xs.length line && sameOkL d xs) = true
  rw [Nat.ble_eq_true_of_le (by omega), sameOkL_all h] <;> rfl
theorem so_int (d : Nat) (i : Int) : sameOk d (.int i) = true := by cases d <;> rfl
theorem so_bl (d : Nat) (b : Bool) : sameOk d (.bl b) = true := by cases d <;> rfl
theorem so_ints {d : Nat} {is : List Int} (hl : is.length ≤ 1000000) : sameOk (d + 1) (.lst (is.map .int)) = true :=
  so_lst (fun x hx => by obtain ⟨i, _, rfl⟩ := List.mem_map.mp hx; exact so_int d i) (by rw [List.length_map]; exact hl)
theorem spOkL_all {d : Nat} : ∀ {xs : List T}, (∀ x ∈ xs, spOk d x = true) → spOkL d xs = true
  | [], _ => by cases d <;> rfl
  | y :: ys, h => by
    have e : spOkL d (y :: ys) = (spOk d y && spOkL d ys) := by cases d <;> rfl
    rw [e, h y List.mem_cons_self, spOkL_all fun x hx => h x (List.mem_cons_of_mem _ hx)] <;> rfl
theorem sp_lst {d : Nat} {xs : List T} (h : ∀ x ∈ xs, spOk d x = true) (hl : xs.length ≤ 1000000) : spOk (d + 1) (.lst xs) = true := by
  have lb := line_big
  show (Nat.blt xs.length line && spOkL d xs) = true
  rw [show Nat.blt xs.length line = true from Nat.ble_eq_true_of_le (by omega), spOkL_all h] <;> rfl
theorem sp_tup {d : Nat} {xs : List T} (h : ∀ x ∈ xs, spOk d x = true) : spOk (d + 1) (.tup xs) = true := spOkL_all h
theorem sp_int (d : Nat) (i : Int) : spOk d (.int i) = true := by cases d <;> rfl
theorem sp_ints {d : Nat} {is : List Int} (hl : is.length ≤ 1000000) : spOk (d + 1) (.lst (is.map .int)) = true :=
  sp_lst (fun x hx => by obtain ⟨i, _, rfl⟩ := List.mem_map.mp hx; exact sp_int d i) (by rw [List.length_map]; exact hl)
theorem sSpoil {Δ : List Dn} {W k x : Nat} {ρ : Env} {μ : Mem} {t : T} (hx : getV ρ x = some t) (hi : Δ[spIx]? = none) (h : spOk k t = true) : evI1 (callF Δ W (k + 1)) W (.spoil x) ρ μ = .ok (.nx, ρ.set x none) μ := by
  have e : callF Δ W (k + 1) spIx [t] μ = .ok .non μ := by
    show (match Δ[spIx]? with | some d => runD (callF Δ W k) W d [t] μ | none => spoilF k spIx [t] μ) = _
    rw [hi]
    show (if spOk k t then Res.ok T.non μ else .stuck) = _
    rw [h] <;> rfl
  rw [evI1, hx]
  show Res.bind (callF Δ W (k + 1) spIx [t] μ) _ = _
  rw [e] <;> rfl
section
variable {F : Fns} {W : Nat} {ρ : Env} {μ μ1 μ2 : Mem}
theorem eCallK2 {f : Nat} {a b : IE} {t u : T} {r : Res T} (h : evE F ρ a μ = .ok t μ1) (h' : evE F ρ b μ1 = .ok u μ2) (hf : F f [u, t] μ2 = r) : evE F ρ (.call f [] [(1, a), (0, b)]) μ = r := by
  rw [evE, evL, Res.bind_ok, evK, h, Res.bind_ok, evK, h', Res.bind_ok, evK, Res.bind_ok, Res.bind_ok, Res.bind_ok]
  exact hf
theorem eTup2 {a b : IE} {t u : T} (h : evE F ρ a μ = .ok t μ1) (h' : evE F ρ b μ1 = .ok u μ2) : evE F ρ (.tup [a, b]) μ = .ok (.tup [t, u]) μ2 := by
  rw [evE, evL, h, Res.bind_ok, evL, h', Res.bind_ok, evL, Res.bind_ok, Res.bind_ok, Res.bind_ok]
  rfl
theorem eList {B : T} {e : IE} {t : T} (h : evE F ρ e [B] = .ok t [B]) (hl : isLT t = true) : evE F ρ (.bi .list [e]) [B] = .ok (.lst (kidsOf t)) [B] := by
  rw [evE, evL, h, Res.bind_ok, evL, Res.bind_ok, Res.bind_ok]
  cases t <;> first | rfl | cases hl
end
theorem so_cells {d k : Nat} {is : List Int} (h : Row is) : sameOk (d + 2) (.lst (cellsV k is)) = true := by
  refine so_lst (fun x hx => ?_) ?_
  · obtain ⟨i, p, y, _, _, rfl⟩ := cells_mem hx
    refine so_tup (fun z hz => ?_) (Nat.le_of_ble_eq_true rfl)
    rcases List.mem_cons.mp hz with rfl | hz
    · exact so_int _ _
    · rw [List.mem_singleton.mp hz]
      exact so_int _ _
  · have := cells_len (k := k) h.le
    have := h.len
    omega
theorem so_grid {d : Nat} {is : List Int} (h : Row is) : sameOk (d + 2) (.lst (gridV is)) = true := by
  have hl := h.len
  refine so_lst (fun x hx => ?_) (by unfold gridV; rw [enumMap_len]; omega)
  obtain ⟨i, a, ha, rfl⟩ := enumMap_mem hx
  have := h.le a (List.mem_of_getElem? ha)
  refine so_lst (fun z hz => ?_) (by rw [List.length_map, List.length_range]; omega)
  obtain ⟨p, _, rfl⟩ := List.mem_map.mp hz
  exact so_int _ _
theorem sp_cells {d k : Nat} {is : List Int} (h : Row is) : spOk (d + 2) (.lst (cellsV k is)) = true := by
  refine sp_lst (fun x hx => ?_) ?_
  · obtain ⟨i, p, y, _, _, rfl⟩ := cells_mem hx
    refine sp_tup (fun z hz => ?_)
    rcases List.mem_cons.mp hz with rfl | hz
    · exact sp_int _ _
    · rw [List.mem_singleton.mp hz]
      exact sp_int _ _
  · have := cells_len (k := k) h.le
    have := h.len
    omega
theorem sp_grid {d : Nat} {is : List Int} (h : Row is) : spOk (d + 2) (.lst (gridV is)) = true := by
  have hl := h.len
  refine sp_lst (fun x hx => ?_) (by unfold gridV; rw [enumMap_len]; omega)
  obtain ⟨i, a, ha, rfl⟩ := enumMap_mem hx
  have := h.le a (List.mem_of_getElem? ha)
  refine sp_lst (fun z hz => ?_) (by rw [List.length_map, List.length_range]; omega)
  obtain ⟨p, _, rfl⟩ := List.mem_map.mp hz
  exact sp_int _ _
theorem cells_sum : ∀ {is : List Int} {k : Nat}, (∀ i ∈ is, 0 < i) → ((cellsV k is).length : Int) = is.sum
  | [], k, _ => rfl
  | a :: r, k, h => by
    have ih := cells_sum (is := r) (k := k + 1) fun i hi => h i (List.mem_cons_of_mem _ hi)
    have ha := h a List.mem_cons_self
    show ((((List.range a.toNat).map fun j : Nat => T.tup [.int (k : Int), .int (j : Int)]) ++ cellsV (k + 1) r).length : Int) = a + r.sum
    rw [List.length_append, List.length_map, List.length_range]
    omega
/-- a loop that appends -/
theorem grid_loop {F : Fns} {W : Nat} {B : T} {el : IE} (E : Option T → Option T → List T → Env) (g : Nat → Int → T) (xg xi xp : Nat) : ∀ (is : List Int) (k : Nat) (acc : List T) (o1 o2 : Option T),
    (∀ (o1 o2 : Option T) (acc : List T) (i : Nat) (a : Int), bindTg (.tp [.nm xi, .nm xp]) (.tup [.int (i : Int), .int a]) (E o1 o2 acc) = some (E (some (.int (i : Int))) (some (.int a)) acc)) →
    (∀ (acc : List T) (o1 o2 : Option T), getL (E o1 o2 acc) xg = some acc) → (∀ (acc acc' : List T) (o1 o2 : Option T), (E o1 o2 acc).set xg (some (.lst acc')) = E o1 o2 acc') →
    (∀ (acc : List T) (i : Nat) (a : Int), is[i]? = some a → evE F (E (some (.int ((k + i : Nat) : Int))) (some (.int a)) acc) el [B] = .ok (g (k + i) a) [B]) → acc.length + is.length ≤ 1000000 →
    ∃ o1' o2', forLoop (fun x ρ μ => match bindTg (.tp [.nm xi, .nm xp]) x ρ with | some ρ' => evIs F W [(.app xg el [])] ρ' μ | none => .stuck) (enumL (k : Int) (is.map .int)) (E o1 o2 acc) [B] = .ok (.nx, E o1' o2' (acc ++ enumMap g k is)) [B]
  | [], k, acc, o1, o2, _, _, _, _, _ => ⟨o1, o2, by rw [show enumMap g k [] = [] from rfl, List.append_nil] <;> rfl⟩
  | a :: r, k, acc, o1, o2, hb, hg, hset, he, hl => by
    have lb := line_big
    rw [List.length_cons] at hl
    obtain ⟨p1, p2, ih⟩ := grid_loop (F := F) (W := W) (B := B) (el := el) E g xg xi xp r (k + 1) (acc ++ [g k a]) (some (.int (k : Int))) (some (.int a)) hb hg hset (fun acc i b hi => by
      rw [show k + 1 + i = k + (i + 1) by omega]
      exact he acc (i + 1) b (by simpa using hi)) (by rw [List.length_append, List.length_singleton]; omega)
    refine ⟨p1, p2, ?_⟩
    have st := sApp (F := F) (W := W) (ρ := E (some (.int (k : Int))) (some (.int a)) acc) (ks := []) (hg acc _ _) (he acc 0 a rfl) (by omega)
    have st' : evI1 F W (.app xg el []) (E (some (.int (k : Int))) (some (.int a)) acc) [B] = .ok (.nx, E (some (.int (k : Int))) (some (.int a)) (acc ++ [g k a])) [B] := st.trans (by
      show Res.ok (Fl.nx, (E (some (.int (k : Int))) (some (.int a)) acc).set xg (some (.lst (acc ++ [g k a])))) [B] = _
      rw [hset])
    show Res.bind (match bindTg (.tp [.nm xi, .nm xp]) (.tup [.int (k : Int), .int a]) (E o1 o2 acc) with | some ρ' => evIs F W [(.app xg el [])] ρ' [B] | none => .stuck) _ = _
    rw [hb]
    show Res.bind (evIs F W [(.app xg el [])] (E (some (.int (k : Int))) (some (.int a)) acc) [B]) _ = _
    rw [ssCons st' rfl]
    show Res.bind (.ok _ [B]) _ = _
    rw [Res.bind_ok]
    show forLoop _ (enumL ((k : Int) + 1) (r.map T.int)) _ _ = _
    rw [show (k : Int) + 1 = ((k + 1 : Nat) : Int) by omega]
    rw [show acc ++ enumMap g k (a :: r) = acc ++ [g k a] ++ enumMap g (k + 1) r by rw [List.append_assoc] <;> rfl]
    exact ih
end MP

/-! G11: small things for all laws: lists or tuples of numbers, ranges, numbers, texts (taken out of S3, S4, S5, S7). -/
namespace MP
theorem RowT.lt {t : T} {p : List Int} (ht : RowT t p) : isLT t = true := by rcases ht with rfl | rfl <;> rfl
theorem RowT.pl {t : T} {p : List Int} (ht : RowT t p) : plnT t = true := by rcases ht with rfl | rfl <;> rfl
theorem RowT.kids {t : T} {p : List Int} (ht : RowT t p) : kidsOf t = p.map .int := by rcases ht with rfl | rfl <;> rfl
theorem ints_repr {t : T} {is : List Int} (h : ∀ i ∈ is, -5 ≤ i ∧ i ≤ 1004) (hl : is.length ≤ 1000) (ht : RowT t is) : ReprOk t := by
  have hi : ∀ x ∈ is.map T.int, Rp 0 8 x := fun x hx => by
    obtain ⟨i, hi, rfl⟩ := List.mem_map.mp hx
    exact rp_int (h i hi).1 (h i hi).2
  rcases ht with rfl | rfl
  · exact (rp_lst hi).ok (by decide) (by rw [List.length_map]; omega)
  · exact (rp_tup hi).ok (by decide) (by rw [List.length_map]; omega)
def dIsNum (iW : Nat) : Dn := ⟨1, 1, [.S], .I, [(.ret (some (.bop true [(.call iW [(.var 0)] []), (.cmp .ge (.var 0) (.cst (.int 0)))])))]⟩
def dCkNum (iW : Nat) (st : IS := .never) : Dn := ⟨1, 1, [.S], .I, [(.iff (.bop false [(.nt (.call iW [(.var 0)] [])), (.cmp .lt (.var 0) (.cst (.int 0)))]) [st] [])]⟩
def dViaI (iC i : Nat) : Dn := ⟨1, 1, [.S], .I, [(.ex (.call iC [(.var 0)] [])), (.ret (some (.call i [(.var 0)] [])))]⟩
theorem eqT_any (c : List Int) (x : Int) : ((c.map T.int).any fun y => eqT y (.int x)) = decide (x ∈ c) := by
  rw [List.any_map]
  induction c with
  | nil => rfl
  | cons a c ih =>
    rw [List.any_cons, ih]
    show (decide (a = x) || decide (x ∈ c)) = _
    by_cases h : a = x
    · rw [decide_eq_true h, Bool.true_or, decide_eq_true (by rw [h]; exact List.mem_cons_self)]
    · rw [decide_eq_false h, Bool.false_or]
      exact decide_eq_decide.mpr ⟨fun z => List.mem_cons_of_mem _ z, fun z => by
        rcases List.mem_cons.mp z with rfl | z
        · exact absurd rfl h
        · exact z⟩
theorem flatT_ints (c : List Int) : (c.map T.int).all flatT = true := List.all_eq_true.mpr fun x hx => by
  obtain ⟨i, _, rfl⟩ := List.mem_map.mp hx
  rfl
section
variable {F : Fns} {W : Nat} {ρ : Env} {μ μ1 μ2 : Mem} {B : T}
theorem evRngN {e : IE} {n : Int} (h : evE F ρ e μ = .ok (.int n) μ) (h0 : -1000000 ≤ n) (hs : n ≤ 1000000) : evI F ρ (.rng1 e) μ = .ok ((List.range n.toNat).map fun j : Nat => T.int (j : Int)) μ := by
  have q : smallI n = true := by simp only [smallI, Bool.and_eq_true, decide_eq_true_eq]; omega
  rw [evI, h, Res.bind_ok]
  dsimp only
  rw [if_pos q, rng_rg]
theorem evRng2 {a b : IE} {n : Int} (ha : evE F ρ a μ = .ok (.int 1) μ) (hb : evE F ρ b μ = .ok (.int n) μ) (h0 : -1000000 ≤ n) (hs : n ≤ 1000000) : evI F ρ (.rng2 a b) μ = .ok ((List.range (n - 1).toNat).map fun j : Nat => T.int (1 + (j : Int))) μ := by
  have q : (smallI 1 && smallI n) = true := by simp only [smallI, Bool.and_eq_true, decide_eq_true_eq]; omega
  rw [evI, ha, Res.bind_ok, hb, Res.bind_ok]
  dsimp only
  rw [if_pos q, rngL_map]
  congr 1
  apply List.map_congr_left
  intro i _
  show T.int _ = T.int _
  congr 1
  omega
theorem lc_rng2 {el : IE} {s n : Nat} {it : II} (g : Nat → T) (hi : evI F ρ it μ = .ok ((List.range n).map fun j : Nat => T.int (1 + (j : Int))) μ) (hl : n ≤ 1000000) (h : ∀ p < n, evE F ((ρ.set s none).set s (some (.int (1 + (p : Int))))) el μ = .ok (g p) μ) : evE F ρ (.lc el (.nm s) it none) μ = .ok (.lst ((List.range n).map g)) μ := by
  have lb := line_big
  have e := lc_map (el := el) (tg := .nm s) (fun x => match x with | .int i => g (i - 1).toNat | _ => .non) hi (by rw [List.length_map, List.length_range]; omega) fun x hx => by
    obtain ⟨p, hp, rfl⟩ := List.mem_map.mp hx
    refine ⟨_, rfl, ?_⟩
    show evE F ((ρ.set s none).set s (some (.int (1 + (p : Int))))) el μ = .ok (g (1 + (p : Int) - 1).toNat) μ
    rw [show (1 + (p : Int) - 1).toNat = p by omega]
    exact h p (List.mem_range.mp hp)
  rw [e, List.map_map]
  congr 2
  apply List.map_congr_left
  intro p _
  show g (1 + (p : Int) - 1).toNat = g p
  rw [show (1 + (p : Int) - 1).toNat = p by omega]
theorem eSlcR {a e : IE} {t : T} {p : List Int} {k : Nat} (ht : RowT t p) (ha : evE F ρ a μ = .ok t μ) (he : evE F ρ e μ = .ok (.int (k : Int)) μ) : ∃ u, evE F ρ (.slc a none (some e)) μ = .ok u μ ∧ RowT u (p.take k) := by
  rcases ht with rfl | rfl
  · refine ⟨.lst ((p.take k).map .int), ?_, .inl rfl⟩
    rw [eSlcHi ha he, List.map_take]
  · refine ⟨.tup ((p.take k).map .int), ?_, .inr rfl⟩
    rw [evE, ha, Res.bind_ok, evO, Res.bind_ok, evO, he, Res.bind_ok]
    show Res.ok (T.tup (cutT (p.map T.int) none (some (k : Int)))) μ = _
    rw [cut_hi, List.map_take]
theorem eSumR {e : IE} {t : T} {p : List Int} (ht : RowT t p) (h : evE F ρ e μ = .ok t μ) : evE F ρ (.bi .sum [e]) μ = .ok (.int p.sum) μ := by
  rcases ht with rfl | rfl
  · exact eSum h
  · rw [evE, evL, h, Res.bind_ok, evL, Res.bind_ok, Res.bind_ok]
    show (if ([T.tup (p.map .int)].all fun t => kidsOk t (kidsOf (view μ t))) = true then opt ((intsOf (p.map T.int)).map fun ns => T.int ns.sum) μ else .stuck) = _
    rw [intsOf_map] <;> rfl
theorem eListR {e : IE} {t : T} {p : List Int} (ht : RowT t p) (h : evE F ρ e [B] = .ok t [B]) : evE F ρ (.bi .list [e]) [B] = .ok (.lst (p.map .int)) [B] := by
  rw [eList h ht.lt, ht.kids]
theorem eInI {a b : IE} {x : Int} {c : List Int} (ha : evE F ρ a [B] = .ok (.int x) [B]) (hb : evE F ρ b [B] = .ok (.lst (c.map .int)) [B]) : evE F ρ (.cmp .inn a b) [B] = .ok (.bl (decide (x ∈ c))) [B] := by
  rw [evE, ha, Res.bind_ok, hb, Res.bind_ok]
  show Res.bind (opt (if flatT (.int x) && (c.map T.int).all flatT then some ((c.map T.int).any fun y => eqT y (.int x)) else none) [B]) _ = _
  rw [flatT_ints, eqT_any] <;> rfl
theorem eNinI {a b : IE} {x : Int} {c : List Int} (ha : evE F ρ a [B] = .ok (.int x) [B]) (hb : evE F ρ b [B] = .ok (.lst (c.map .int)) [B]) : evE F ρ (.cmp .nin a b) [B] = .ok (.bl (decide (x ∉ c))) [B] := by
  rw [evE, ha, Res.bind_ok, hb, Res.bind_ok]
  show Res.bind (opt ((if flatT (.int x) && (c.map T.int).all flatT then some ((c.map T.int).any fun y => eqT y (.int x)) else none).map (!·)) [B]) _ = _
  rw [flatT_ints, eqT_any]
  show Res.ok (T.bl (!decide (x ∈ c))) [B] = _
  by_cases h : x ∈ c
  · rw [decide_eq_true h, decide_eq_false (fun z => z h)] <;> rfl
  · rw [decide_eq_false h, decide_eq_true h] <;> rfl
theorem sStar {a : IE} {as : List (Bool × IE)} {t : T} {xs ts : List T} (h : evE F ρ a [B] = .ok t [B]) (hp : plnT t = true) (hs : seqOf t = some xs) (h2 : evS F ρ as [B] = .ok ts [B]) : evS F ρ ((true, a) :: as) [B] = .ok (xs ++ ts) [B] := by
  rw [evS, h, Res.bind_ok]
  dsimp only
  rw [view_plain hp, hs]
  dsimp only
  rw [kidsOk_plain _ hp, if_pos rfl, h2] <;> rfl
theorem eLstB {as : List (Bool × IE)} {ts : List T} (h : evS F ρ as μ = .ok ts μ) (hl : ts.length ≤ 1000000) : evE F ρ (.lst as) μ = .ok (.lst ts) μ := by
  have lb := line_big
  rw [evE, h, Res.bind_ok, Nat.ble_eq_true_of_le (by omega)] <;> rfl
theorem iZip1 {i : Nat} {l : List Int} (h : getV ρ i = some (.lst (l.map .int))) : evI F ρ (.zip (.var i) (.slc (.var i) (some (.cst (.int 1))) none)) μ = .ok ((l.zip (l.drop 1)).map fun q => T.tup [.int q.1, .int q.2]) μ := by
  have e := eSlcLo (F := F) (k := 1) (eVar (F := F) (μ := μ) h) (e := .cst (.int 1)) eCst
  rw [evI, eVar h, Res.bind_ok, e, Res.bind_ok]
  show Res.ok (zipL (l.map T.int) ((l.map T.int).drop 1)) μ = _
  rw [← List.map_drop, zipL_ints]
theorem eEqS {a b : IE} {s : PySem.Str} (ha : evE F ρ a [B] = .ok (.str s) [B]) (hb : evE F ρ b [B] = .ok (.str s) [B]) (hs : s.cps.all (fun c => decide (c < 0x110000)) = true) : evE F ρ (.cmp .eq a b) [B] = .ok (.bl true) [B] := by
  rw [evE, ha, Res.bind_ok, hb, Res.bind_ok]
  show Res.bind (opt (if s.cps.all (fun c => decide (c < 0x110000)) && s.cps.all (fun c => decide (c < 0x110000)) then some (decide (s = s)) else none) [B]) _ = _
  rw [hs, decide_eq_true rfl] <;> rfl
theorem sExt {x : Nat} {e : IE} {ks : List Nat} {xs ys : List T} (hx : getL (kill ρ ks) x = some xs) (he : evE F ρ e μ = .ok (.lst ys) μ1) (hl : xs.length + ys.length ≤ 1000000) : evI1 F W (.ext x e ks) ρ μ = .ok (.nx, (kill ρ ks).set x (some (.lst (xs ++ ys)))) μ1 := by
  have lb := line_big
  rw [evI1, hx]
  show Res.bind (.ok xs μ) _ = _
  rw [Res.bind_ok, he, Res.bind_ok]
  dsimp only
  have hb : Nat.ble (xs.length + ys.length) line = true := Nat.ble_eq_true_of_le (by omega)
  rw [hb] <;> rfl
theorem eMulL {a b : IE} {xs : List T} {n : Nat} (ha : evE F ρ a μ = .ok (.lst xs) μ1) (hb : evE F ρ b μ1 = .ok (.int (n : Int)) μ2) (hn : n ≤ 1000) (hl : xs.length ≤ 1000) : evE F ρ (.bin .mul a b) μ = .ok (.lst (List.replicate n xs).flatten) μ2 := by
  have lb := line_big
  have hm : xs.length * n ≤ 1000 * 1000 := Nat.mul_le_mul hl hn
  have c : (decide (-(2 ^ 63) ≤ (n : Int)) && decide ((n : Int) < 2 ^ 63) && Nat.ble (xs.length * (n : Int).toNat) line) = true := by
    simp only [Bool.and_eq_true, decide_eq_true_eq, Int.toNat_natCast]
    exact ⟨⟨by omega, by omega⟩, Nat.ble_eq_true_of_le (by omega)⟩
  have e : pBin .mul (.lst xs) (.int (n : Int)) = some (.lst (List.replicate n xs).flatten) := by
    simp only [pBin, pMul]
    rw [if_pos c, Int.toNat_natCast]
  rw [evE, ha, Res.bind_ok, hb, Res.bind_ok]
  show opt (pBin .mul (.lst xs) (.int (n : Int))) μ2 = _
  rw [e] <;> rfl
theorem eRevR {F : Fns} {ρ : Env} {e : IE} {t : T} {p : List Int} (ht : RowT t p) (h : evE F ρ e [B] = .ok t [B]) : ∃ u, evE F ρ (.rev e) [B] = .ok u [B] ∧ RowT u p.reverse := by
  rcases ht with rfl | rfl
  · exact ⟨_, eRev h, .inl rfl⟩
  · refine ⟨.tup (p.reverse.map .int), ?_, .inr rfl⟩
    rw [evE, h, Res.bind_ok]
    show Res.ok (T.tup (p.map T.int).reverse) [B] = _
    rw [List.map_reverse]
end
section
variable {Fk : Fam} {W : Nat} {B : T}
theorem isNumF {i iW : Nat} (h : DefAt Fk W i (dIsNum iW)) (hW : DefAt Fk W iW dWhole) {k : Nat} {n : Int} : Fk (k + 2) i [.int n] [B] = .ok (.bl (decide (0 ≤ n))) [B] := by
  rw [h]
  have c1 : evE (Fk (k + 1)) [some (.int n)] (.call iW [(.var 0)] []) [B] = .ok (.bl true) [B] := eCall1 (eVar rfl) (wholeF hW rfl)
  have c2 : evE (Fk (k + 1)) [some (.int n)] (.cmp .ge (.var 0) (.cst (.int 0))) [B] = .ok (.bl (decide (0 ≤ n))) [B] := eCmp (eVar rfl) eCst rfl
  exact runRt (d := dIsNum iW) (ρ' := [some (.int n)]) rfl (ssRet (sRet (eAnd2 c1 c2))) (.inr rfl)
theorem ckNumF {i iW : Nat} {st : IS} (h : DefAt Fk W i (dCkNum iW st)) (hW : DefAt Fk W iW dWhole) {k : Nat} {n : Int} (hn : 0 ≤ n) : Fk (k + 2) i [.int n] [B] = .ok .non [B] := by
  rw [h]
  have c1 : evE (Fk (k + 1)) [some (.int n)] (.call iW [(.var 0)] []) [B] = .ok (.bl true) [B] := eCall1 (eVar rfl) (wholeF hW rfl)
  have c2 : evE (Fk (k + 1)) [some (.int n)] (.cmp .lt (.var 0) (.cst (.int 0))) [B] = .ok (.bl (decide (n < 0))) [B] := eCmp (eVar rfl) eCst rfl
  rw [decide_eq_false (by omega)] at c2
  exact runNx (d := dCkNum iW st) (ρ' := [some (.int n)]) rfl (ssCons (sIf (v := false) (eOr2 (eNot c1) c2) rfl) rfl)
theorem ckF {j i : Nat} {st : IS} (hj : DefAt Fk W j (dCheck i st)) {k : Nat} {t : T} (h : Fk k i [t] [B] = .ok (.bl true) [B]) : Fk (k + 1) j [t] [B] = .ok .non [B] := by
  rw [hj]
  exact runNx (d := dCheck i st) (ρ' := [some t]) rfl (ssCons (sNot (eCall1 (eVar rfl) h)) rfl)
theorem passF {j i : Nat} (hj : DefAt Fk W j (dPass i)) {k : Nat} {t r : T} (h : Fk k i [t] [B] = .ok r [B]) (hr : nodeless r = true) : Fk (k + 1) j [t] [B] = .ok r [B] := by
  rw [hj]
  exact runRt (d := dPass i) (ρ' := [some t]) rfl (ssRet (sRet (eCall1 (eVar rfl) h))) (.inr hr)
theorem viaIF {j iC i : Nat} (hj : DefAt Fk W j (dViaI iC i)) {k : Nat} {t r : T} (hc : Fk k iC [t] [B] = .ok .non [B]) (hi : Fk k i [t] [B] = .ok r [B]) (hr : nodeless r = true) : Fk (k + 1) j [t] [B] = .ok r [B] := by
  rw [hj]
  exact runRt (d := dViaI iC i) (ρ' := [some t]) rfl (ssCons (sEx (eCall1 (eVar rfl) hc)) (ssRet (sRet (eCall1 (eVar rfl) hi)))) (.inr hr)
end
end MP

/-! R1: rows pushed and pulled. -/
namespace MP
def rankV (is : List Int) : Int := is.headD 0 - (is.length : Int)
def subV (is : List Int) : List Int := (is.filter fun v => decide (1 < v)).map (· - 1)
def pushV (is : List Int) (n : Int) : List Int := (if 0 < (is.length : Int) + n then [(is.length : Int) + n] else []) ++ subV is
def pullV (is : List Int) (n : Int) : List Int := match is with
  | [] => []
  | a :: r => r.map (· + 1) ++ List.replicate (a - n - (r.length : Int)).toNat 1
/-- too low to be pulled -/
def LowV (is : List Int) (n : Int) : Prop := rankV is < n - 1 ∨ (is = [] ∧ 0 < n)
theorem desc_map (c : Int) : ∀ {l : List Int}, desc l → desc (l.map (· + c))
  | [], _ => trivial
  | a :: r, h => desc_cons (fun x hx => by
      obtain ⟨y, hy, rfl⟩ := List.mem_map.mp hx
      have := desc_head h y hy
      show y + c ≤ a + c
      omega) (desc_map c (desc_tail h))
theorem desc_ones : ∀ m : Nat, desc (List.replicate m (1 : Int))
  | 0 => trivial
  | m + 1 => by
    rw [List.replicate_succ]
    exact desc_cons (fun x hx => by rw [List.eq_of_mem_replicate hx]; exact Int.le_refl _) (desc_ones m)
theorem desc_app1 {m : Nat} : ∀ {l : List Int}, desc l → (∀ x ∈ l, 1 ≤ x) → desc (l ++ List.replicate m 1)
  | [], _, _ => desc_ones m
  | a :: r, h, hp => by
    rw [List.cons_append]
    refine desc_cons (fun x hx => ?_) (desc_app1 (desc_tail h) fun x hx => hp x (List.mem_cons_of_mem _ hx))
    rcases List.mem_append.mp hx with hx | hx
    · exact desc_head h x hx
    · rw [List.eq_of_mem_replicate hx]; exact hp a List.mem_cons_self
theorem sub_len (is : List Int) : (subV is).length ≤ is.length := by
  unfold subV
  rw [List.length_map]
  exact List.length_filter_le ..
theorem sub_mem {is : List Int} {x : Int} (h : x ∈ subV is) : ∃ v ∈ is, 1 < v ∧ x = v - 1 := by
  unfold subV at h
  obtain ⟨v, hv, rfl⟩ := List.mem_map.mp h
  obtain ⟨h1, h2⟩ := List.mem_filter.mp hv
  exact ⟨v, h1, by simpa using h2, rfl⟩
theorem sub_desc {is : List Int} (h : desc is) : desc (subV is) := by
  have := desc_map (-1) (desc_sub (List.filter_sublist (p := fun v => decide (1 < v))) h)
  have e : (fun x : Int => x + -1) = (· - 1) := by funext x; omega
  rw [e] at this
  exact this
/-- a row is its parts above one, then ones -/
theorem ones_behind : ∀ {is : List Int}, desc is → (∀ x ∈ is, 0 < x) → (subV is).map (· + 1) ++ List.replicate (is.length - (subV is).length) 1 = is
  | [], _, _ => rfl
  | a :: r, h, hp => by
    have ih := ones_behind (desc_tail h) fun x hx => hp x (List.mem_cons_of_mem _ hx)
    by_cases ha : 1 < a
    · have e : subV (a :: r) = (a - 1) :: subV r := by
        unfold subV
        rw [List.filter_cons_of_pos (by simpa using ha), List.map_cons]
      rw [e, List.map_cons, List.length_cons, List.length_cons, Nat.add_sub_add_right, List.cons_append, ih, show a - 1 + 1 = a by omega]
    · have a1 : a = 1 := by have := hp a List.mem_cons_self; omega
      have none : subV r = [] := by
        refine List.eq_nil_iff_forall_not_mem.mpr fun x hx => ?_
        obtain ⟨v, hv, h1, _⟩ := sub_mem hx
        have := desc_head h v hv
        omega
      have e : subV (a :: r) = [] := by
        have : subV (a :: r) = subV r := by
          unfold subV
          rw [List.filter_cons_of_neg (by simpa using ha)]
        rw [this, none]
      rw [none] at ih
      have ih : List.replicate r.length (1 : Int) = r := ih
      rw [e]
      show List.replicate (r.length + 1) (1 : Int) = a :: r
      rw [List.replicate_succ, ih, a1]
theorem push_row {is : List Int} {n : Int} (h : Row is) (hs : is.sum ≤ 200) (h0 : 0 ≤ n) (h1 : n ≤ 60) (hr : rankV is ≤ n + 1) : Row (pushV is n) := by
  have ms := mem_sum h.pos
  have hl : (is.length : Int) ≤ 200 := by omega
  have sm : ∀ x ∈ subV is, 0 < x ∧ x ≤ 200 ∧ x ≤ (is.length : Int) + n := fun x hx => by
    obtain ⟨v, hv, q1, rfl⟩ := sub_mem hx
    have q2 := ms.2 v hv
    have q3 : v ≤ is.headD 0 := (head_le h).2.2 v hv
    unfold rankV at hr
    omega
  have hln := sub_len is
  unfold pushV
  split
  · refine ⟨fun x hx => ?_, fun x hx => ?_, ?_, ?_⟩
    · rcases List.mem_cons.mp hx with rfl | hx
      · assumption
      · exact (sm x hx).1
    · rcases List.mem_cons.mp hx with rfl | hx
      · omega
      · have := (sm x hx).2.1; omega
    · show (subV is).length + 1 ≤ 1000
      omega
    · exact desc_cons (fun x hx => (sm x hx).2.2) (sub_desc h.ds)
  · refine ⟨fun x hx => (sm x hx).1, fun x hx => by have := (sm x hx).2.1; omega, ?_, sub_desc h.ds⟩
    show (subV is).length ≤ 1000
    omega
theorem pull_row {is : List Int} {n : Int} (h : Row is) (hs : is.sum ≤ 200) (h0 : 0 ≤ n) : Row (pullV is n) := by
  cases is with
  | nil => exact ⟨(fun x hx => by cases hx), (fun x hx => by cases hx), Nat.zero_le _, trivial⟩
  | cons a r =>
    have ms := mem_sum h.pos
    have ha := ms.2 a List.mem_cons_self
    have hl : (((a :: r).length : Nat) : Int) ≤ 200 := by omega
    rw [List.length_cons] at hl
    show Row (r.map (· + 1) ++ List.replicate (a - n - (r.length : Int)).toNat 1)
    refine ⟨fun x hx => ?_, fun x hx => ?_, ?_, ?_⟩
    · rcases List.mem_append.mp hx with hx | hx
      · obtain ⟨y, hy, rfl⟩ := List.mem_map.mp hx
        have := h.pos y (List.mem_cons_of_mem _ hy)
        show 0 < y + 1
        omega
      · rw [List.eq_of_mem_replicate hx]; decide
    · rcases List.mem_append.mp hx with hx | hx
      · obtain ⟨y, hy, rfl⟩ := List.mem_map.mp hx
        have := ms.2 y (List.mem_cons_of_mem _ hy)
        show y + 1 ≤ 1000
        omega
      · rw [List.eq_of_mem_replicate hx]; decide
    · rw [List.length_append, List.length_map, List.length_replicate]
      omega
    · exact desc_app1 (desc_map 1 (desc_tail h.ds)) fun x hx => by
        obtain ⟨y, hy, rfl⟩ := List.mem_map.mp hx
        have := h.pos y (List.mem_cons_of_mem _ hy)
        show 1 ≤ y + 1
        omega
theorem pull_push {is : List Int} {n : Int} (h : Row is) (h0 : 0 ≤ n) (hr : rankV is ≤ n + 1) : ¬ LowV (pushV is n) n ∧ pullV (pushV is n) n = is := by
  have hln := sub_len is
  by_cases hp : 0 < (is.length : Int) + n
  · have e : pushV is n = ((is.length : Int) + n) :: subV is := by unfold pushV; rw [if_pos hp] <;> rfl
    rw [e]
    refine ⟨fun z => ?_, ?_⟩
    · rcases z with z | ⟨z, _⟩
      · unfold rankV at z
        rw [List.length_cons] at z
        have z : (is.length : Int) + n - (((subV is).length + 1 : Nat) : Int) < n - 1 := z
        omega
      · cases z
    · show (subV is).map (· + 1) ++ List.replicate ((is.length : Int) + n - n - ((subV is).length : Int)).toNat 1 = is
      rw [show ((is.length : Int) + n - n - ((subV is).length : Int)).toNat = is.length - (subV is).length by omega]
      exact ones_behind h.ds h.pos
  · have hl : is = [] := List.length_eq_zero_iff.mp (by omega)
    subst hl
    have hn : n = 0 := by
      have hp : ¬ 0 < (0 : Int) + n := hp
      omega
    subst hn
    exact ⟨fun z => by
      rcases z with z | ⟨_, z⟩
      · exact absurd z (by decide)
      · exact absurd z (by decide), rfl⟩
theorem push_pull {is : List Int} {n : Int} (h : Row is) (h0 : 0 ≤ n) (hr : ¬ LowV is n) : rankV (pullV is n) ≤ n + 1 ∧ pushV (pullV is n) n = is := by
  cases is with
  | nil =>
    have hn : n = 0 := by
      by_cases q : 0 < n
      · exact (hr (.inr ⟨rfl, q⟩)).elim
      · omega
    subst hn
    exact ⟨by decide, rfl⟩
  | cons a r =>
    have hk : n - 1 ≤ a - ((r.length : Int) + 1) := by
      by_cases q : rankV (a :: r) < n - 1
      · exact (hr (.inl q)).elim
      · have : rankV (a :: r) = a - (((r.length + 1 : Nat)) : Int) := rfl
        omega
    have ha := h.pos a List.mem_cons_self
    obtain ⟨m, hm⟩ : ∃ m : Nat, (a - n - (r.length : Int)).toNat = m := ⟨_, rfl⟩
    have hm2 : (m : Int) = a - n - (r.length : Int) := by omega
    have e : pullV (a :: r) n = r.map (· + 1) ++ List.replicate m 1 := by
      show r.map (· + 1) ++ List.replicate (a - n - (r.length : Int)).toNat 1 = _
      rw [hm]
    rw [e]
    have len : (r.map (· + 1) ++ List.replicate m (1 : Int)).length = r.length + m := by rw [List.length_append, List.length_map, List.length_replicate]
    refine ⟨?_, ?_⟩
    · unfold rankV
      rw [len]
      have hd : (r.map (· + 1) ++ List.replicate m (1 : Int)).headD 0 ≤ a + 1 := by
        cases r with
        | nil =>
          cases m with
          | zero => show (0 : Int) ≤ a + 1; omega
          | succ m => show (1 : Int) ≤ a + 1; omega
        | cons b r =>
          show b + 1 ≤ a + 1
          have := desc_head h.ds b List.mem_cons_self
          omega
      omega
    · unfold pushV
      rw [len, if_pos (by omega)]
      have s1 : subV (r.map (· + 1) ++ List.replicate m 1) = r := by
        unfold subV
        rw [List.filter_append, List.filter_eq_self.mpr (fun x hx => by
          obtain ⟨y, hy, rfl⟩ := List.mem_map.mp hx
          have := h.pos y (List.mem_cons_of_mem _ hy)
          exact decide_eq_true (by show 1 < y + 1; omega)), List.filter_eq_nil_iff.mpr (fun x hx => by
          rw [List.eq_of_mem_replicate hx]; decide), List.append_nil, List.map_map]
        have : ((fun x : Int => x - 1) ∘ fun x => x + 1) = id := by funext x; show x + 1 - 1 = x; omega
        rw [this, List.map_id]
      rw [s1]
      show (((r.length + m : Nat) : Int) + n) :: r = a :: r
      rw [show ((r.length + m : Nat) : Int) + n = a by omega]
end MP

/-! R2: the law k37: its defs; what pushed, pulled compute. -/
namespace Q
open MP
abbrev Fn : Fam := callF (dfs.map (·.d)) 100000
theorem h0 : DefAt Fn 100000 0 dIsList := fam_at rfl
theorem h1 : DefAt Fn 100000 1 dWhole := fam_at rfl
theorem h2 : DefAt Fn 100000 2 (dFallOf 0 1) := fam_at rfl
theorem h3 : DefAt Fn 100000 3 (dCheck 2 (.raise 0 (.var 0))) := fam_at rfl
theorem h4 : DefAt Fn 100000 4 (dCkNum 1 (.raise 1 (.var 0))) := fam_at rfl
theorem h5 : DefAt Fn 100000 5 d_rank_of := fam_at rfl
theorem h6 : DefAt Fn 100000 6 d_pushed := fam_at rfl
theorem h7 : DefAt Fn 100000 7 d_pulled := fam_at rfl
theorem h8 : DefAt Fn 100000 8 dStream := fam_at rfl
theorem h9 : DefAt Fn 100000 9 dDraw := fam_at rfl
theorem h10 : DefAt Fn 100000 10 (dPick 9) := fam_at rfl
theorem h11 : DefAt Fn 100000 11 (dSame 11) := fam_at rfl
theorem h12 : DefAt Fn 100000 12 (dLoose 12 9) := fam_at rfl
theorem h13 : DefAt Fn 100000 13 (dCopied 13) := fam_at rfl
theorem h16 : DefAt Fn 100000 16 (dLawRow 9) := fam_at rfl
theorem h17 : DefAt Fn 100000 17 d__law_rank := fam_at rfl
theorem h18 : DefAt Fn 100000 18 d__law_pushed := fam_at rfl
theorem h20 : DefAt Fn 100000 20 d__law_pulled := fam_at rfl
theorem h21 : DefAt Fn 100000 21 d__law_asked_right := fam_at rfl
theorem dfs_none : (dfs.map (·.d))[spIx]? = none := by rfl
section
variable {B : T} {is : List Int} {t : T} {n : Int} {k : Nat}
theorem ckOk (h : Row is) (ht : RowT t is) : Fn 37 3 [t] [B] = .ok .non [B] := checkF (k := 34) h3 h2 h0 h1 (h.okT ht) (h.fall ht)
theorem numOk (hn : 0 ≤ n) : Fn 37 4 [.int n] [B] = .ok .non [B] := ckNumF (k := 35) h4 h1 hn
theorem sameOk38 {u : T} {d : Nat} (h : sameOk d u = true) (hd : d ≤ 37) : Fn 38 11 [u, u] [B] = .ok (.bl true) [B] := same_refl h11 37 u (sameOk_le h hd)
/-- the first part, where there is one -/
theorem eHead {F : Fns} {ρ : Env} {r : Int} {e2 e3 : IE} (ht : RowT t is) (g : getV ρ 0 = some t) (h2 : ∀ a r', is = a :: r' → evE F ρ e2 [B] = .ok (.int r) [B]) (h3 : is = [] → evE F ρ e3 [B] = .ok (.int r) [B]) :
    evE F ρ (.ite (.cmp .gt (.bi .len [(.var 0)]) (.cst (.int 0))) e2 e3) [B] = .ok (.int r) [B] := by
  have c : evE F ρ (.cmp .gt (.bi .len [(.var 0)]) (.cst (.int 0))) [B] = .ok (.bl (decide ((0 : Int) < (is.length : Int)))) [B] := eCmp (eLenR ht (eVar g)) eCst rfl
  cases is with
  | nil =>
    rw [show decide ((0 : Int) < (([] : List Int).length : Int)) = false from rfl] at c
    exact eIte c (h3 rfl)
  | cons a r' =>
    rw [decide_eq_true (by rw [List.length_cons]; omega)] at c
    exact eIte c (h2 a r' rfl)
theorem rankF (ht : RowT t is) : Fn (k + 1) 5 [t] [B] = .ok (.int (rankV is)) [B] := by
  rw [h5]
  refine runRt (d := d_rank_of) (ρ' := [some t]) rfl (ssRet (sRet (eHead ht rfl (fun a r' e => ?_) fun e => ?_))) (.inr rfl)
  · subst e
    exact eBin (eIxR (i := 0) ht (eVar rfl) eCst rfl) (eLenR ht (eVar rfl)) rfl
  · subst e; rfl
theorem lrankF (ht : RowT t is) : Fn (k + 1) 17 [t] [B] = .ok (.int (rankV is)) [B] := by
  rw [h17]
  have c : evE (Fn k) [some t] (.ite (.cmp .gt (.bi .len [(.var 0)]) (.cst (.int 0))) (.sub (.var 0) (.cst (.int 0))) (.cst (.int 0))) [B] = .ok (.int (is.headD 0)) [B] := eHead ht rfl (fun a r' e => by
    subst e
    exact eIxR (i := 0) ht (eVar rfl) eCst rfl) fun e => by subst e; rfl
  exact runRt (d := d__law_rank) (ρ' := [some t]) rfl (ssRet (sRet (eBin c (eLenR ht (eVar rfl)) rfl))) (.inr rfl)
/-- the parts above one, each one less -/
theorem subE {F : Fns} {n0 f : Int} (ht : RowT t is) (hl : is.length ≤ 1000) : evE F [some t, some (.int n0), some (.int f), none] (.lc (.bin .sub (.var 3) (.cst (.int 1))) (.nm 3) (.seq (.var 0)) (some (.cmp .gt (.var 3) (.cst (.int 1))))) [B] = .ok (.lst ((subV is).map .int)) [B] := by
  have lb := line_big
  have c := lc_filter (F := F) (ρ := [some t, some (.int n0), some (.int f), none]) (μ := [B]) (el := .bin .sub (.var 3) (.cst (.int 1))) (c := .cmp .gt (.var 3) (.cst (.int 1))) (tg := .nm 3) (it := .seq (.var 0)) (xs := is.map T.int) (fun x => match x with | .int v => decide (1 < v) | _ => false) (fun x => match x with | .int v => .int (v - 1) | x => x)
    (iSeqR ht (eVar rfl)) (by rw [List.length_map]; omega) (fun x hx => by
      obtain ⟨v, _, rfl⟩ := List.mem_map.mp hx
      exact ⟨[some t, some (.int n0), some (.int f), some (.int v)], rfl, eCmp (eVar rfl) eCst rfl, fun _ => eBin (eVar rfl) eCst rfl⟩)
  rw [c]
  congr 2
  unfold subV
  rw [List.filter_map, List.map_map, List.map_map]
  rfl
/-- what is given back of a row that is pushed -/
def pushE : IE := .bin .add (.ite (.cmp .gt (.var 2) (.cst (.int 0))) (.lst [(false, (.imm (.var 2)))]) (.lst [])) (.lc (.bin .sub (.var 3) (.cst (.int 1))) (.nm 3) (.seq (.var 0)) (some (.cmp .gt (.var 3) (.cst (.int 1)))))
theorem pushE_ok {F : Fns} (ht : RowT t is) (hl : is.length ≤ 1000) : evE F [some t, some (.int n), some (.int ((is.length : Int) + n)), none] pushE [B] = .ok (.lst ((pushV is n).map .int)) [B] := by
  have c : evE F [some t, some (.int n), some (.int ((is.length : Int) + n)), none] (.ite (.cmp .gt (.var 2) (.cst (.int 0))) (.lst [(false, (.imm (.var 2)))]) (.lst [])) [B] = .ok (.lst ((if 0 < (is.length : Int) + n then [(is.length : Int) + n] else []).map .int)) [B] := by
    have c0 : evE F [some t, some (.int n), some (.int ((is.length : Int) + n)), none] (.cmp .gt (.var 2) (.cst (.int 0))) [B] = .ok (.bl (decide ((0 : Int) < (is.length : Int) + n))) [B] := eCmp (eVar rfl) eCst rfl
    by_cases q : 0 < (is.length : Int) + n
    · rw [decide_eq_true q] at c0
      rw [if_pos q]
      exact eIte c0 rfl
    · rw [decide_eq_false q] at c0
      rw [if_neg q]
      exact eIte c0 rfl
  have e := eAddL c (subE (F := F) (n0 := n) (f := (is.length : Int) + n) (B := B) ht hl) (by
    have := sub_len is
    rw [List.length_map, List.length_map]
    split
    · show 1 + _ ≤ _; omega
    · show 0 + _ ≤ _; omega)
  rw [← List.map_append] at e
  exact e
theorem pushF (h : Row is) (ht : RowT t is) (hn : 0 ≤ n) (hr : rankV is ≤ n + 1) : Fn 38 6 [t, .int n] [B] = .ok (.lst ((pushV is n).map .int)) [B] := by
  rw [show Fn 38 = Fn (37 + 1) from rfl, h6]
  let ρ : Env := [some t, some (.int n), none, none]
  have c : evE (Fn 37) ρ (.cmp .gt (.call 5 [(.var 0)] []) (.bin .add (.var 1) (.cst (.int 1)))) [B] = .ok (.bl false) [B] := by
    have := eCmp (op := .gt) (F := Fn 37) (ρ := ρ) (μ := [B]) (eCall1 (f := 5) (a := .var 0) (t := t) (eVar rfl) (rankF (k := 36) ht)) (eBin (op := .add) (a := .var 1) (eVar rfl) eCst rfl) (show pCmp .gt (.int (rankV is)) (.int (n + 1)) = some (decide (n + 1 < rankV is)) from rfl)
    rw [decide_eq_false (by omega)] at this
    exact this
  exact runRt (d := d_pushed) (ρ' := [some t, some (.int n), some (.int ((is.length : Int) + n)), none]) rfl (ssCons (sEx (eCall1 (eVar rfl) (ckOk h ht))) (ssCons (sEx (eCall1 (eVar rfl) (numOk hn))) (ssCons (sIf (v := false) c rfl) (ssCons (sAsg (eBin (eLenR ht (eVar rfl)) (eVar rfl) rfl)) (ssRet (sRet (pushE_ok ht h.len))))))) (.inl (by decide : RK.D ≠ RK.I))
/-- a def whose body raises -/
theorem runX {F : Fns} {W : Nat} {d : Dn} {as : List T} {B : T} {c : Nat} {u : T} (ha : as.length = d.nps) (h : evIs F W d.body (as.map some ++ List.replicate (d.n - as.length) none) [B] = .exc c u [B]) : runD F W d as [B] = .exc c u [B] := by
  unfold runD
  rw [ha, Nat.beq_refl, if_pos rfl, ← ha, h] <;> rfl
theorem ssX {F : Fns} {W : Nat} {ρ : Env} {μ μ1 : Mem} {i : IS} {is : List IS} {c : Nat} {u : T} (h : evI1 F W i ρ μ = .exc c u μ1) : evIs F W (i :: is) ρ μ = .exc c u μ1 := by rw [evIs, h, Res.bind_exc]
theorem sRaise {F : Fns} {W : Nat} {ρ : Env} {μ μ1 : Mem} {c : Nat} {e : IE} {u : T} (h : evE F ρ e μ = .ok u μ1) : evIs F W [.raise c e] ρ μ = .exc c u μ1 := ssX (by rw [evI1, h] <;> rfl)
theorem pushX (h : Row is) (ht : RowT t is) (hn : 0 ≤ n) (hr : n + 1 < rankV is) : Fn 38 6 [t, .int n] [B] = .exc 2 (.int (rankV is)) [B] := by
  rw [show Fn 38 = Fn (37 + 1) from rfl, h6]
  let ρ : Env := [some t, some (.int n), none, none]
  have r : evE (Fn 37) ρ (.call 5 [(.var 0)] []) [B] = .ok (.int (rankV is)) [B] := eCall1 (eVar rfl) (rankF (k := 36) ht)
  have c : evE (Fn 37) ρ (.cmp .gt (.call 5 [(.var 0)] []) (.bin .add (.var 1) (.cst (.int 1)))) [B] = .ok (.bl true) [B] := by
    have := eCmp (op := .gt) r (eBin (op := .add) (F := Fn 37) (ρ := ρ) (μ := [B]) (a := .var 1) (eVar rfl) eCst rfl) (show pCmp .gt (.int (rankV is)) (.int (n + 1)) = some (decide (n + 1 < rankV is)) from rfl)
    rw [decide_eq_true hr] at this
    exact this
  exact runX (d := d_pushed) rfl (ssCons (sEx (eCall1 (eVar rfl) (ckOk h ht))) (ssCons (sEx (eCall1 (eVar rfl) (numOk hn))) (ssX (sIf (v := true) c (sRaise r)))))
theorem lpushF (ht : RowT t is) (hl : is.length ≤ 1000) : Fn (k + 1) 18 [t, .int n] [B] = .ok (.lst ((pushV is n).map .int)) [B] := by
  rw [h18]
  exact runRt (d := d__law_pushed) (ρ' := [some t, some (.int n), some (.int ((is.length : Int) + n)), none]) rfl (ssCons (sAsg (eBin (eLenR ht (eVar rfl)) (eVar rfl) rfl)) (ssRet (sRet (pushE_ok ht hl)))) (.inl (by decide : RK.D ≠ RK.I))
/-- all but the first, each one more -/
theorem addE {F : Fns} {a : Int} {r : List Int} (ht : RowT t (a :: r)) (hl : r.length ≤ 1000) : evE F [some t, some (.int n), none, none] (.lc (.bin .add (.var 3) (.cst (.int 1))) (.nm 3) (.seq (.slc (.var 0) (some (.cst (.int 1))) none)) none) [B] = .ok (.lst ((r.map (· + 1)).map .int)) [B] := by
  have lb := line_big
  have hi : evI F [some t, some (.int n), none, none] (.seq (.slc (.var 0) (some (.cst (.int 1))) none)) [B] = .ok (r.map T.int) [B] := by
    rcases ht with rfl | rfl
    · have := eSlcLo (F := F) (ρ := [some (.lst ((a :: r).map T.int)), some (.int n), none, none]) (μ := [B]) (a := .var 0) (e := .cst (.int 1)) (xs := (a :: r).map T.int) (k := 1) (eVar rfl) eCst
      rw [evI, this] <;> rfl
    · rw [evI, evE, eVar (t := .tup ((a :: r).map T.int)) rfl, Res.bind_ok, evO, evE, Res.bind_ok]
      show Res.bind (Res.ok (T.tup (cutT ((a :: r).map T.int) (some ((1 : Nat) : Int)) none)) [B]) _ = _
      rw [cut_lo] <;> rfl
  have c := lc_map (F := F) (ρ := [some t, some (.int n), none, none]) (μ := [B]) (el := .bin .add (.var 3) (.cst (.int 1))) (tg := .nm 3) (xs := r.map T.int) (fun x => match x with | .int v => .int (v + 1) | x => x) hi (by rw [List.length_map]; omega) (fun x hx => by
    obtain ⟨v, _, rfl⟩ := List.mem_map.mp hx
    exact ⟨[some t, some (.int n), none, some (.int v)], rfl, eBin (eVar rfl) eCst rfl⟩)
  rw [c, List.map_map, List.map_map]
  rfl
theorem eFlat {F : Fns} {ρ : Env} {μ μ1 : Mem} {e : IE} {xs : List T} (h : evE F ρ e μ = .ok (.lst xs) μ1) (hn : nodelessL xs = true) : evE F ρ (.flat e) μ = .ok (.lst xs) μ1 := by
  rw [evE, h, Res.bind_ok]
  show (if nodelessL xs = true then Res.ok (T.lst xs) μ1 else .stuck) = _
  rw [hn] <;> rfl
/-- ones in a row -/
theorem onesE {F : Fns} {a : Int} {r : List Int} {m : Nat} (ht : RowT t (a :: r)) (hk : a - n - (r.length : Int) = (m : Int)) (hm : m ≤ 1000) :
    evE F [some t, some (.int n), some (.lst ((r.map (· + 1)).map .int)), none] (.flat (.bin .mul (.lst [(false, (.cst (.int 1)))]) (.bin .sub (.bin .sub (.sub (.var 0) (.cst (.int 0))) (.var 1)) (.bi .len [(.var 2)])))) [B] = .ok (.lst ((List.replicate m (1 : Int)).map .int)) [B] := by
  have c1 : evE F [some t, some (.int n), some (.lst ((r.map (· + 1)).map .int)), none] (.bin .sub (.bin .sub (.sub (.var 0) (.cst (.int 0))) (.var 1)) (.bi .len [(.var 2)])) [B] = .ok (.int (m : Int)) [B] := by
    have l := eLen (F := F) (ρ := [some t, some (.int n), some (.lst ((r.map (· + 1)).map .int)), none]) (μ := [B]) (xs := (r.map (· + 1)).map T.int) (e := .var 2) (eVar rfl)
    rw [List.length_map, List.length_map] at l
    have := eBin (op := .sub) (eBin (op := .sub) (F := F) (ρ := [some t, some (.int n), some (.lst ((r.map (· + 1)).map .int)), none]) (μ := [B]) (eIxR (a := .var 0) (i := 0) (is := a :: r) ht (eVar rfl) eCst rfl) (b := .var 1) (eVar rfl) rfl) l rfl
    rw [hk] at this
    exact this
  have c2 := eMulL (F := F) (a := .lst [(false, (.cst (.int 1)))]) (xs := [.int 1]) (eLst1 eCst) c1 hm (by decide)
  have e : (List.replicate m [T.int 1]).flatten = (List.replicate m (1 : Int)).map T.int := by
    clear hk hm c1 c2
    induction m with
    | zero => rfl
    | succ m ih => rw [List.replicate_succ, List.flatten_cons, ih] <;> rfl
  rw [e] at c2
  exact eFlat c2 (nodelessL_ints _)
def pullE : IE := .bin .add (.flat (.var 2)) (.flat (.bin .mul (.lst [(false, (.cst (.int 1)))]) (.bin .sub (.bin .sub (.sub (.var 0) (.cst (.int 0))) (.var 1)) (.bi .len [(.var 2)]))))
theorem pullE_ok {F : Fns} {a : Int} {r : List Int} {m : Nat} (ht : RowT t (a :: r)) (hl : r.length ≤ 1000) (hk : a - n - (r.length : Int) = (m : Int)) (hm : m ≤ 1000) : evE F [some t, some (.int n), some (.lst ((r.map (· + 1)).map .int)), none] pullE [B] = .ok (.lst ((pullV (a :: r) n).map .int)) [B] := by
  have c1 := eFlat (F := F) (ρ := [some t, some (.int n), some (.lst ((r.map (· + 1)).map .int)), none]) (μ := [B]) (e := .var 2) (eVar rfl) (nodelessL_ints (r.map (· + 1)))
  have e := eAddL c1 (onesE (F := F) (B := B) ht hk hm) (by rw [List.length_map, List.length_map, List.length_map, List.length_replicate]; omega)
  rw [← List.map_append] at e
  have q : pullV (a :: r) n = r.map (· + 1) ++ List.replicate m 1 := by
    show r.map (· + 1) ++ List.replicate (a - n - (r.length : Int)).toNat 1 = _
    rw [hk] <;> rfl
  rw [q]
  exact e
/-- the test of what is too low -/
theorem lowE {F : Fns} {rk : IE} {x : IE} (hn : 0 ≤ n) {ρ : Env} (h1 : evE F ρ rk [B] = .ok (.int (rankV is)) [B]) (h2 : evE F ρ x [B] = .ok (.int n) [B]) {e : IE} (he : evE F ρ e [B] = .ok (.bl (decide (is = []))) [B]) :
    evE F ρ (.bop false [(.cmp .lt rk (.bin .sub x (.cst (.int 1)))), (.bop true [e, (.cmp .gt x (.cst (.int 0)))])]) [B] = .ok (.bl (decide (rankV is < n - 1) || (decide (is = []) && decide (0 < n)))) [B] :=
  eOr2 (eCmp h1 (eBin h2 eCst rfl) rfl) (eAnd2 he (eCmp h2 eCst rfl))
theorem lowB : (decide (rankV is < n - 1) || (decide (is = []) && decide (0 < n))) = true ↔ LowV is n := by
  unfold LowV
  simp
theorem lenNil {F : Fns} {ρ : Env} (ht : RowT t is) (g : getV ρ 0 = some t) : evE F ρ (.cmp .eq (.bi .len [(.var 0)]) (.cst (.int 0))) [B] = .ok (.bl (decide (is = []))) [B] := by
  have c : evE F ρ (.cmp .eq (.bi .len [(.var 0)]) (.cst (.int 0))) [B] = .ok (.bl (decide ((is.length : Int) = 0))) [B] := eCmp (eLenR ht (eVar g)) eCst rfl
  rw [c]
  cases is with
  | nil => rfl
  | cons a r => rw [decide_eq_false (by rw [List.length_cons]; omega), decide_eq_false (by simp)]
theorem pull_bounds {a : Int} {r : List Int} (h : Row (a :: r)) (hr : ¬ LowV (a :: r) n) (hn : 0 ≤ n) : ∃ m : Nat, a - n - (r.length : Int) = (m : Int) ∧ m ≤ 1000 := by
  have ha := h.le a List.mem_cons_self
  have hk : n - 1 ≤ a - ((r.length : Int) + 1) := by
    by_cases q : rankV (a :: r) < n - 1
    · exact (hr (.inl q)).elim
    · have : rankV (a :: r) = a - (((r.length + 1 : Nat)) : Int) := rfl
      omega
  exact ⟨(a - n - (r.length : Int)).toNat, by omega, by omega⟩
theorem pullF (h : Row is) (ht : RowT t is) (hn : 0 ≤ n) (hr : ¬ LowV is n) : Fn 38 7 [t, .int n] [B] = .ok (.lst ((pullV is n).map .int)) [B] := by
  rw [show Fn 38 = Fn (37 + 1) from rfl, h7]
  let ρ : Env := [some t, some (.int n), none, none]
  have c := lowE (F := Fn 37) (B := B) (is := is) (n := n) (ρ := ρ) (rk := .call 5 [(.var 0)] []) (x := .var 1) hn (eCall1 (eVar rfl) (rankF (k := 36) ht)) (eVar rfl) (lenNil ht rfl)
  rw [show (decide (rankV is < n - 1) || (decide (is = []) && decide (0 < n))) = false from by
    cases q : (decide (rankV is < n - 1) || (decide (is = []) && decide (0 < n))) with
    | false => rfl
    | true => exact (hr (lowB.mp q)).elim] at c
  have c2 := lenNil (F := Fn 37) (B := B) (ρ := ρ) ht rfl
  cases is with
  | nil => exact runRt (d := d_pulled) (ρ' := ρ) (t := .lst []) rfl (ssCons (sEx (eCall1 (eVar rfl) (ckOk h ht))) (ssCons (sEx (eCall1 (eVar rfl) (numOk hn))) (ssCons (sIf (v := false) c rfl) (ssRet (sIf (v := true) c2 rfl))))) (.inl (by decide : RK.D ≠ RK.I))
  | cons a r =>
    obtain ⟨m, hk, hm⟩ := pull_bounds h hr hn
    have hl := h.len
    rw [List.length_cons] at hl
    exact runRt (d := d_pulled) (ρ' := [some t, some (.int n), some (.lst ((r.map (· + 1)).map .int)), none]) rfl (ssCons (sEx (eCall1 (eVar rfl) (ckOk h ht))) (ssCons (sEx (eCall1 (eVar rfl) (numOk hn))) (ssCons (sIf (v := false) c rfl) (ssCons (sIf (v := false) c2 rfl) (ssCons (sAsg (addE ht (by omega))) (ssRet (sRet (eFlat (pullE_ok ht (by omega) hk hm) (nodelessL_ints _))))))))) (.inl (by decide : RK.D ≠ RK.I))
theorem pullX (h : Row is) (ht : RowT t is) (hn : 0 ≤ n) (hr : LowV is n) : Fn 38 7 [t, .int n] [B] = .exc 3 (.int (rankV is)) [B] := by
  rw [show Fn 38 = Fn (37 + 1) from rfl, h7]
  let ρ : Env := [some t, some (.int n), none, none]
  have r : evE (Fn 37) ρ (.call 5 [(.var 0)] []) [B] = .ok (.int (rankV is)) [B] := eCall1 (eVar rfl) (rankF (k := 36) ht)
  have c := lowE (F := Fn 37) (B := B) (is := is) (n := n) (ρ := ρ) (rk := .call 5 [(.var 0)] []) (x := .var 1) hn r (eVar rfl) (lenNil ht rfl)
  rw [lowB.mpr hr] at c
  exact runX (d := d_pulled) rfl (ssCons (sEx (eCall1 (eVar rfl) (ckOk h ht))) (ssCons (sEx (eCall1 (eVar rfl) (numOk hn))) (ssX (sIf (v := true) c (sRaise r)))))
theorem eqNil {F : Fns} {ρ : Env} {i : Nat} (g : getV ρ i = some (.lst (is.map .int))) : evE F ρ (.cmp .eq (.var i) (.lst [])) [B] = .ok (.bl (decide (is = []))) [B] := by
  rw [evE, eVar g, Res.bind_ok]
  show Res.bind (opt (if (datum 60 (.lst (is.map .int)) && datum 60 (.lst [])) = true then some (eqTL (is.map T.int) (([] : List Int).map T.int)) else none) [B]) _ = _
  have d : datum 60 (.lst (is.map .int)) = true := datumL_ints 59 is
  rw [d, eqTL_ints] <;> rfl
theorem lpullF (h : Row is) (hn : 0 ≤ n) (hr : ¬ LowV is n) : Fn (k + 1) 20 [.lst (is.map .int), .int n] [B] = .ok (.lst ((pullV is n).map .int)) [B] := by
  rw [h20]
  have c := eqNil (F := Fn k) (B := B) (ρ := [some (.lst (is.map .int)), some (.int n), none, none]) (i := 0) (is := is) rfl
  cases is with
  | nil => exact runRt (d := d__law_pulled) (ρ' := [some (.lst []), some (.int n), none, none]) (t := .lst []) rfl (ssRet (sIf (v := true) c rfl)) (.inl (by decide : RK.D ≠ RK.I))
  | cons a r =>
    obtain ⟨m, hk, hm⟩ := pull_bounds h hr hn
    have hl := h.len
    rw [List.length_cons] at hl
    rw [decide_eq_false (by simp)] at c
    have fin := eFlat (pullE_ok (F := Fn k) (B := B) (t := .lst ((a :: r).map .int)) (.inl rfl) (by omega) hk hm) (nodelessL_ints _)
    exact runRt (d := d__law_pulled) (ρ' := [some (.lst ((a :: r).map .int)), some (.int n), some (.lst ((r.map (· + 1)).map .int)), none]) rfl (ssCons (sIf (v := false) c rfl) (ssCons (sAsg (addE (.inl rfl) (by omega))) (ssRet (sRet fin)))) (.inl (by decide : RK.D ≠ RK.I))
end
end Q

/-! R3: what is asked is right. -/
namespace Q
open MP
theorem sSpoilP {Δ : List Dn} {W k x i j i2 j2 : Nat} {ρ : Env} {μ : Mem} {t u v : T} (hx : getV ρ x = some t) (hu : path2 t i j = some u) (hv : path2 t i2 j2 = some v) (hi : Δ[spIx]? = none) (h : spOk k (.lst [u, v]) = true) : evI1 (callF Δ W (k + 1)) W (.spoilP x i j i2 j2) ρ μ = .ok (.nx, ρ.set x none) μ := by
  have e : callF Δ W (k + 1) spIx [.lst [u, v]] μ = .ok .non μ := by
    show (match Δ[spIx]? with | some d => runD (callF Δ W k) W d [.lst [u, v]] μ | none => spoilF k spIx [.lst [u, v]] μ) = _
    rw [hi]
    show (if spOk k (.lst [u, v]) then Res.ok T.non μ else .stuck) = _
    rw [h] <;> rfl
  rw [evI1, hx]
  show Res.bind (opt (path2 t i j) μ) _ = _
  rw [hu]
  show Res.bind (opt (path2 t i2 j2) μ) _ = _
  rw [hv]
  show Res.bind (callF Δ W (k + 1) spIx [.lst [u, v]] μ) _ = _
  rw [e] <;> rfl
section
variable {B t u : T} {is : List Int} {n : Int}
def toldV (l : List Int) : T := .lst [.str "told", .lst (l.map .int)]
def highV (is : List Int) (n : Int) : T := if rankV is ≤ n + 1 then toldV (pushV is n) else .lst [.str "high", .int (rankV is)]
def lowV (is : List Int) (n : Int) (b : Bool) : T := if b then .lst [.str "low", .int (rankV is)] else toldV (pullV is n)
theorem metOk {F : Fns} {ρ : Env} {e : IE} {vs : List Nat} {cs : List (Nat × PySem.Str)} (h : evE F (maskV ρ vs) e [B] = .ok u [B]) : evE F ρ (.met vs e true cs true) [B] = .ok (.lst [.str "told", u]) [B] := by
  rw [evE, h] <;> rfl
theorem metX {F : Fns} {ρ : Env} {e : IE} {vs : List Nat} {cs : List (Nat × PySem.Str)} {c : Nat} {a : PySem.Str} {i : Int} (h : evE F (maskV ρ vs) e [B] = .exc c (.int i) [B]) (hc : cs.lookup c = some a) : evE F ρ (.met vs e true cs true) [B] = .ok (.lst [.str a, .int i]) [B] := by
  rw [evE, h]
  show (match cs.lookup c with | some a => _ | none => _) = _
  rw [hc] <;> rfl
theorem same38 {d : Nat} (h : sameOk d u = true) (hd : d ≤ 37) : Fn 38 11 [u, u] [B] = .ok (.bl true) [B] := same_refl h11 37 u (sameOk_le h hd)
theorem so2 {d : Nat} {x y : T} (h1 : sameOk d x = true) (h2 : sameOk d y = true) : sameOk (d + 1) (.lst [x, y]) = true := so_lst (fun z hz => by
  rcases List.mem_cons.mp hz with rfl | hz
  · exact h1
  · rw [List.mem_singleton.mp hz]; exact h2) (Nat.le_of_ble_eq_true rfl)
theorem so_told {l : List Int} (h : l.length ≤ 1000) : sameOk 2 (toldV l) = true := so2 (by decide +kernel) (so_ints (by omega))
theorem sp2 {l : List Int} (h : l.length ≤ 1000) : spOk 37 (.lst [.lst (l.map .int), .lst (l.map .int)]) = true := sp_lst (d := 36) (fun z hz => by
  have : spOk 36 (.lst (l.map .int)) = true := sp_ints (d := 35) (by omega)
  rcases List.mem_cons.mp hz with rfl | hz
  · exact this
  · rw [List.mem_singleton.mp hz]; exact this) (Nat.le_of_ble_eq_true rfl)
theorem copyInts {l : List Int} (h : l.length ≤ 1000) : Fn 38 13 [.lst (l.map .int)] [B] = .ok (.lst (l.map .int)) [B] := by
  have lb := line_big
  refine copyF h13 37 _ ?_
  show (Nat.ble (l.map T.int).length line && copyOkL 36 (l.map T.int)) = true
  rw [Nat.ble_eq_true_of_le (by rw [List.length_map]; omega), Bool.true_and]
  clear h
  induction l with
  | nil => rfl
  | cons a l ih => exact ih
def envA (R t : T) (n r : Int) (o3 o4 o5 : Option T) (st : PySem.Str) : Env := [some (.box 0), some R, some (.int n), o3, o4, o5, some t, some (.int r), some (.str st)]
def a2 : IS := (.app 4 (.met [2, 6] (.call 6 [] [(1, (.var 2)), (0, (.var 6))]) true [(2, "high"), (3, "low")] true) [])
def a3 : IS := (.asg 3 (.ite (.cmp .le (.var 7) (.bin .add (.var 2) (.cst (.int 1)))) (.lst [(false, (.cst (.str "told"))), (false, (.call 18 [(.var 1), (.var 2)] []))]) (.lst [(false, (.cst (.str "high"))), (false, (.var 7))])) [])
def a4 : IS := (.iff (.nt (.call 11 [(.var 4), (.lst [(false, (.var 3)), (false, (.var 3))])] [])) [(.ret (some (.cst (.bl false))))] [])
def a5 : IS := (.iff (.cmp .eq (.sub (.var 3) (.cst (.int 0))) (.cst (.str "told"))) [(.spoilP 4 0 1 1 1), (.iff (.nt (.call 11 [(.lst [(false, (.call 6 [(.var 6), (.var 2)] [])), (false, (.call 7 [(.call 13 [(.sub (.var 3) (.cst (.int 1)))] []), (.var 2)] []))]), (.lst [(false, (.sub (.var 3) (.cst (.int 1)))), (false, (.var 1))])] [])) [(.ret (some (.cst (.bl false))))] [])] [])
def a6 : IS := (.asg 4 (.lst [(false, (.met [2, 6] (.call 7 [(.var 6), (.var 2)] []) true [(2, "high"), (3, "low")] true))]) [])
def a7 : IS := (.app 4 (.met [2, 6] (.call 7 [] [(1, (.var 2)), (0, (.var 6))]) true [(2, "high"), (3, "low")] true) [])
def a8 : IS := (.asg 5 (.bop false [(.cmp .lt (.var 7) (.bin .sub (.var 2) (.cst (.int 1)))), (.bop true [(.cmp .eq (.var 1) (.lst [])), (.cmp .gt (.var 2) (.cst (.int 0)))])]) [])
def a9 : IS := (.asg 3 (.ite (.var 5) (.lst [(false, (.cst (.str "low"))), (false, (.var 7))]) (.lst [(false, (.cst (.str "told"))), (false, (.call 20 [(.var 1), (.var 2)] []))])) [])
def a11 : IS := (.iff (.nt (.var 5)) [(.spoilP 4 0 1 1 1), (.iff (.nt (.call 11 [(.lst [(false, (.call 7 [(.var 6), (.var 2)] [])), (false, (.call 6 [(.call 13 [(.sub (.var 3) (.cst (.int 1)))] []), (.var 2)] []))]), (.lst [(false, (.sub (.var 3) (.cst (.int 1)))), (false, (.var 1))])] [])) [(.ret (some (.cst (.bl false))))] [])] [])
theorem body21 : d__law_asked_right.body = [(.unp (.tp [(.nm 6), (.nm 7)]) (.tup [(.call 12 [(.var 0), (.var 1)] []), (.call 17 [(.var 1)] [])]) []), (.par [8, 4] [(.bi .repr [(.var 6)]), (.lst [(false, (.met [2, 6] (.call 6 [(.var 6), (.var 2)] []) true [(2, "high"), (3, "low")] true))])] []), a2, a3, a4, a5, a6, a7, a8, a9, a4, a11, (.ret (some (.cmp .eq (.bi .repr [(.var 6)]) (.var 8))))] := rfl
variable {o3 o4 o5 : Option T} {st : PySem.Str} {r : Int}
theorem sameA {P : T} {R : T} (hp : sameOk 2 P = true) : evI1 (Fn 38) 100000 a4 (envA R t n r (some P) (some (.lst [P, P])) o5 st) [B] = .ok (.nx, envA R t n r (some P) (some (.lst [P, P])) o5 st) [B] :=
  sNot (eCall2 (t := .lst [P, P]) (u := .lst [P, P]) (eVar rfl) (eLstS (sCons (t := P) (eVar rfl) (sCons (t := P) (eVar rfl) sNil)) (Nat.le_of_ble_eq_true rfl)) (same38 (d := 3) (so2 hp hp) (by decide)))
/-- what is pushed -/
theorem side1 (h : Row is) (hs : is.sum ≤ 200) (h0 : 0 ≤ n) (h1 : n ≤ 60) (ht : RowT t is) :
    evE (Fn 38) [some (.box 0), some (.lst (is.map .int)), some (.int n), none, none, none, some t, some (.int (rankV is)), none] (.lst [(false, (.met [2, 6] (.call 6 [(.var 6), (.var 2)] []) true [(2, "high"), (3, "low")] true))]) [B] = .ok (.lst [highV is n]) [B] ∧
    ∃ o4, evIs (Fn 38) 100000 [a2, a3, a4, a5] (envA (.lst (is.map .int)) t n (rankV is) none (some (.lst [highV is n])) none st) [B] = .ok (.nx, envA (.lst (is.map .int)) t n (rankV is) (some (highV is n)) o4 none st) [B] := by
  have lb := line_big
  have hl := h.len
  let R : T := .lst (is.map .int)
  have c3 : evE (Fn 38) (envA R t n (rankV is) none (some (.lst [highV is n, highV is n])) none st) (.cmp .le (.var 7) (.bin .add (.var 2) (.cst (.int 1)))) [B] = .ok (.bl (decide (rankV is ≤ n + 1))) [B] := eCmp (eVar rfl) (eBin (op := .add) (a := .var 2) (eVar (t := .int n) rfl) eCst rfl) rfl
  by_cases q : rankV is ≤ n + 1
  · have e : highV is n = toldV (pushV is n) := if_pos q
    rw [decide_eq_true q, e] at c3
    rw [e]
    have rp := push_row h hs h0 h1 q
    have lp := rp.len
    let L : T := .lst ((pushV is n).map .int)
    let P : T := toldV (pushV is n)
    have f := pushF (B := B) h ht h0 q
    have f2 := pullF (B := B) (t := L) rp (.inl rfl) h0 (pull_push h h0 q).1
    rw [(pull_push h h0 q).2] at f2
    refine ⟨eLst1 (metOk (eCall2 (t := t) (u := .int n) (eVar rfl) (eVar rfl) f)), none, ?_⟩
    have s2 : evI1 (Fn 38) 100000 a2 (envA R t n (rankV is) none (some (.lst [P])) none st) [B] = .ok (.nx, envA R t n (rankV is) none (some (.lst [P, P])) none st) [B] := sApp (xs := [P]) rfl (metOk (u := L) (eCallK2 (t := .int n) (u := t) (eVar rfl) (eVar rfl) f)) (by show 1 < line; omega)
    have s3 : evI1 (Fn 38) 100000 a3 (envA R t n (rankV is) none (some (.lst [P, P])) none st) [B] = .ok (.nx, envA R t n (rankV is) (some P) (some (.lst [P, P])) none st) [B] := sAsg (eIte c3 (eLstS (sCons (t := .str "told") rfl (sCons (t := L) (eCall2 (t := R) (u := .int n) (eVar rfl) (eVar rfl) (lpushF (k := 37) (.inl rfl) hl)) sNil)) (Nat.le_of_ble_eq_true rfl)))
    have s4 := sameA (B := B) (R := R) (t := t) (n := n) (r := rankV is) (o5 := none) (st := st) (so_told lp)
    have x0 : evE (Fn 38) (envA R t n (rankV is) (some P) (some (.lst [P, P])) none st) (.cmp .eq (.sub (.var 3) (.cst (.int 0))) (.cst (.str "told"))) [B] = .ok (.bl true) [B] := by kernel_rfl
    let ρ5 : Env := envA R t n (rankV is) (some P) none none st
    have x1 : evE (Fn 38) ρ5 (.sub (.var 3) (.cst (.int 1))) [B] = .ok L [B] := rfl
    have x2 : evI1 (Fn 38) 100000 (.spoilP 4 0 1 1 1) (envA R t n (rankV is) (some P) (some (.lst [P, P])) none st) [B] = .ok (.nx, ρ5) [B] := sSpoilP (k := 37) (t := .lst [P, P]) (u := L) (v := L) rfl rfl rfl dfs_none (sp2 lp)
    have x3 : evI1 (Fn 38) 100000 (.iff (.nt (.call 11 [(.lst [(false, (.call 6 [(.var 6), (.var 2)] [])), (false, (.call 7 [(.call 13 [(.sub (.var 3) (.cst (.int 1)))] []), (.var 2)] []))]), (.lst [(false, (.sub (.var 3) (.cst (.int 1)))), (false, (.var 1))])] [])) [(.ret (some (.cst (.bl false))))] []) ρ5 [B] = .ok (.nx, ρ5) [B] :=
      sNot (eCall2 (t := .lst [L, R]) (u := .lst [L, R]) (eLstS (sCons (t := L) (eCall2 (t := t) (u := .int n) (eVar rfl) (eVar rfl) f) (sCons (t := R) (eCall2 (t := L) (u := .int n) (eCall1 x1 (copyInts lp)) (eVar rfl) f2) sNil)) (Nat.le_of_ble_eq_true rfl)) (eLstS (sCons (t := L) x1 (sCons (t := R) (eVar rfl) sNil)) (Nat.le_of_ble_eq_true rfl)) (same38 (d := 2) (so2 (so_ints (by omega)) (so_ints (by omega))) (by decide)))
    exact ssCons s2 (ssCons s3 (ssCons s4 (ssCons (sIf (v := true) x0 (ssCons x2 (ssCons x3 rfl))) rfl)))
  · have e : highV is n = .lst [.str "high", .int (rankV is)] := if_neg q
    rw [decide_eq_false q, e] at c3
    rw [e]
    have f := pushX (B := B) h ht h0 (by omega)
    let P : T := .lst [.str "high", .int (rankV is)]
    refine ⟨eLst1 (metX (eCall2 (t := t) (u := .int n) (eVar rfl) (eVar rfl) f) rfl), some (.lst [P, P]), ?_⟩
    have s2 : evI1 (Fn 38) 100000 a2 (envA R t n (rankV is) none (some (.lst [P])) none st) [B] = .ok (.nx, envA R t n (rankV is) none (some (.lst [P, P])) none st) [B] := sApp (xs := [P]) rfl (metX (eCallK2 (t := .int n) (u := t) (eVar rfl) (eVar rfl) f) rfl) (by show 1 < line; omega)
    have s3 : evI1 (Fn 38) 100000 a3 (envA R t n (rankV is) none (some (.lst [P, P])) none st) [B] = .ok (.nx, envA R t n (rankV is) (some P) (some (.lst [P, P])) none st) [B] := sAsg (eIte c3 rfl)
    have s4 := sameA (B := B) (P := P) (R := R) (t := t) (n := n) (r := rankV is) (o5 := none) (st := st) (so2 (by decide +kernel) (so_int 1 _))
    have x0 : evE (Fn 38) (envA R t n (rankV is) (some P) (some (.lst [P, P])) none st) (.cmp .eq (.sub (.var 3) (.cst (.int 0))) (.cst (.str "told"))) [B] = .ok (.bl false) [B] := by kernel_rfl
    exact ssCons s2 (ssCons s3 (ssCons s4 (ssCons (sIf (v := false) x0 rfl) rfl)))
/-- what is pulled -/
theorem side2 (h : Row is) (hs : is.sum ≤ 200) (h0 : 0 ≤ n) (h1 : n ≤ 60) (ht : RowT t is) :
    ∃ p3 p4 p5, evIs (Fn 38) 100000 [a6, a7, a8, a9, a4, a11] (envA (.lst (is.map .int)) t n (rankV is) o3 o4 o5 st) [B] = .ok (.nx, envA (.lst (is.map .int)) t n (rankV is) p3 p4 p5 st) [B] := by
  have lb := line_big
  have hl := h.len
  let R : T := .lst (is.map .int)
  let ρ7 : T → Env := fun P => envA R t n (rankV is) o3 (some (.lst [P, P])) o5 st
  have c8 : ∀ P, evE (Fn 38) (ρ7 P) (.bop false [(.cmp .lt (.var 7) (.bin .sub (.var 2) (.cst (.int 1)))), (.bop true [(.cmp .eq (.var 1) (.lst [])), (.cmp .gt (.var 2) (.cst (.int 0)))])]) [B] = .ok (.bl (decide (rankV is < n - 1) || (decide (is = []) && decide (0 < n)))) [B] := fun P =>
    lowE (is := is) (n := n) (rk := .var 7) (x := .var 2) (e := .cmp .eq (.var 1) (.lst [])) h0 (eVar rfl) (eVar rfl) (eqNil rfl)
  by_cases q : LowV is n
  · let P : T := .lst [.str "low", .int (rankV is)]
    have f := pullX (B := B) h ht h0 q
    have c8 := c8 P
    rw [lowB.mpr q] at c8
    have s6 : evI1 (Fn 38) 100000 a6 (envA R t n (rankV is) o3 o4 o5 st) [B] = .ok (.nx, envA R t n (rankV is) o3 (some (.lst [P])) o5 st) [B] := sAsg (eLst1 (metX (eCall2 (t := t) (u := .int n) (eVar rfl) (eVar rfl) f) rfl))
    have s7 : evI1 (Fn 38) 100000 a7 (envA R t n (rankV is) o3 (some (.lst [P])) o5 st) [B] = .ok (.nx, ρ7 P) [B] := sApp (xs := [P]) rfl (metX (eCallK2 (t := .int n) (u := t) (eVar rfl) (eVar rfl) f) rfl) (by show 1 < line; omega)
    have s8 : evI1 (Fn 38) 100000 a8 (ρ7 P) [B] = .ok (.nx, envA R t n (rankV is) o3 (some (.lst [P, P])) (some (.bl true)) st) [B] := sAsg c8
    have s9 : evI1 (Fn 38) 100000 a9 (envA R t n (rankV is) o3 (some (.lst [P, P])) (some (.bl true)) st) [B] = .ok (.nx, envA R t n (rankV is) (some P) (some (.lst [P, P])) (some (.bl true)) st) [B] := sAsg (eIte (v := true) (eVar rfl) rfl)
    have s10 := sameA (B := B) (P := P) (R := R) (t := t) (n := n) (r := rankV is) (o5 := some (.bl true)) (st := st) (so2 (by decide +kernel) (so_int 1 _))
    have s11 : evI1 (Fn 38) 100000 a11 (envA R t n (rankV is) (some P) (some (.lst [P, P])) (some (.bl true)) st) [B] = .ok (.nx, envA R t n (rankV is) (some P) (some (.lst [P, P])) (some (.bl true)) st) [B] := sIf (v := false) (eNot (eVar (t := .bl true) rfl)) rfl
    exact ⟨_, _, _, ssCons s6 (ssCons s7 (ssCons s8 (ssCons s9 (ssCons s10 (ssCons s11 rfl)))))⟩
  · have rp := pull_row h hs h0 (n := n)
    have lp := rp.len
    let L : T := .lst ((pullV is n).map .int)
    let P : T := toldV (pullV is n)
    have f := pullF (B := B) h ht h0 q
    have f2 := pushF (B := B) (t := L) rp (.inl rfl) h0 (push_pull h h0 q).1
    rw [(push_pull h h0 q).2] at f2
    have c8 := c8 P
    rw [show (decide (rankV is < n - 1) || (decide (is = []) && decide (0 < n))) = false from by
      cases z : (decide (rankV is < n - 1) || (decide (is = []) && decide (0 < n))) with
      | false => rfl
      | true => exact (q (lowB.mp z)).elim] at c8
    let F0 : Option T := some (.bl false)
    have s6 : evI1 (Fn 38) 100000 a6 (envA R t n (rankV is) o3 o4 o5 st) [B] = .ok (.nx, envA R t n (rankV is) o3 (some (.lst [P])) o5 st) [B] := sAsg (eLst1 (metOk (u := L) (eCall2 (t := t) (u := .int n) (eVar rfl) (eVar rfl) f)))
    have s7 : evI1 (Fn 38) 100000 a7 (envA R t n (rankV is) o3 (some (.lst [P])) o5 st) [B] = .ok (.nx, ρ7 P) [B] := sApp (xs := [P]) rfl (metOk (u := L) (eCallK2 (t := .int n) (u := t) (eVar rfl) (eVar rfl) f)) (by show 1 < line; omega)
    have s8 : evI1 (Fn 38) 100000 a8 (ρ7 P) [B] = .ok (.nx, envA R t n (rankV is) o3 (some (.lst [P, P])) F0 st) [B] := sAsg c8
    have s9 : evI1 (Fn 38) 100000 a9 (envA R t n (rankV is) o3 (some (.lst [P, P])) F0 st) [B] = .ok (.nx, envA R t n (rankV is) (some P) (some (.lst [P, P])) F0 st) [B] := sAsg (eIte (v := false) (eVar rfl) (eLstS (sCons (t := .str "told") rfl (sCons (t := L) (eCall2 (t := R) (u := .int n) (eVar rfl) (eVar rfl) (lpullF (k := 37) h h0 q)) sNil)) (Nat.le_of_ble_eq_true rfl)))
    have s10 := sameA (B := B) (R := R) (t := t) (n := n) (r := rankV is) (o5 := F0) (st := st) (so_told lp)
    let ρ5 : Env := envA R t n (rankV is) (some P) none F0 st
    have x1 : evE (Fn 38) ρ5 (.sub (.var 3) (.cst (.int 1))) [B] = .ok L [B] := rfl
    have x2 : evI1 (Fn 38) 100000 (.spoilP 4 0 1 1 1) (envA R t n (rankV is) (some P) (some (.lst [P, P])) F0 st) [B] = .ok (.nx, ρ5) [B] := sSpoilP (k := 37) (t := .lst [P, P]) (u := L) (v := L) rfl rfl rfl dfs_none (sp2 lp)
    have x3 : evI1 (Fn 38) 100000 (.iff (.nt (.call 11 [(.lst [(false, (.call 7 [(.var 6), (.var 2)] [])), (false, (.call 6 [(.call 13 [(.sub (.var 3) (.cst (.int 1)))] []), (.var 2)] []))]), (.lst [(false, (.sub (.var 3) (.cst (.int 1)))), (false, (.var 1))])] [])) [(.ret (some (.cst (.bl false))))] []) ρ5 [B] = .ok (.nx, ρ5) [B] :=
      sNot (eCall2 (t := .lst [L, R]) (u := .lst [L, R]) (eLstS (sCons (t := L) (eCall2 (t := t) (u := .int n) (eVar rfl) (eVar rfl) f) (sCons (t := R) (eCall2 (t := L) (u := .int n) (eCall1 x1 (copyInts lp)) (eVar rfl) f2) sNil)) (Nat.le_of_ble_eq_true rfl)) (eLstS (sCons (t := L) x1 (sCons (t := R) (eVar rfl) sNil)) (Nat.le_of_ble_eq_true rfl)) (same38 (d := 2) (so2 (so_ints (by omega)) (so_ints (by omega))) (by decide)))
    have s11 : evI1 (Fn 38) 100000 a11 (envA R t n (rankV is) (some P) (some (.lst [P, P])) F0 st) [B] = .ok (.nx, ρ5) [B] := sIf (v := true) (eNot (eVar (t := .bl false) rfl)) (ssCons x2 (ssCons x3 rfl))
    exact ⟨_, _, _, ssCons s6 (ssCons s7 (ssCons s8 (ssCons s9 (ssCons s10 (ssCons s11 rfl)))))⟩
theorem ss_app {F : Fns} {W : Nat} {ρ ρ' : Env} {μ μ1 : Mem} : ∀ {is1 is2 : List IS} {r : Res (Fl × Env)}, evIs F W is1 ρ μ = .ok (.nx, ρ') μ1 → evIs F W is2 ρ' μ1 = r → evIs F W (is1 ++ is2) ρ μ = r := by
  intro is1
  induction is1 generalizing ρ μ with
  | nil =>
    intro is2 r h h2
    have e : (Res.ok (Fl.nx, ρ) μ : Res (Fl × Env)) = .ok (.nx, ρ') μ1 := h
    injection e with e1 e2
    injection e1 with e1 e3
    subst e3 e2
    exact h2
  | cons i r1 ih =>
    intro is2 r h h2
    rw [List.cons_append, evIs]
    rw [evIs] at h
    cases e : evI1 F W i ρ μ with
    | stuck => rw [e] at h; cases h
    | exc c t m => rw [e] at h; cases h
    | ok p m =>
      obtain ⟨fl, ρ1⟩ := p
      rw [e, Res.bind_ok] at h
      rw [Res.bind_ok]
      cases fl with
      | nx => exact ih h h2
      | _ => cases h
theorem asked_right {c : Nat} (h : Row is) (hs : is.sum ≤ 200) (h0 : 0 ≤ n) (h1 : n ≤ 60) (hB : IsStream B c) (hc : c < 1000000) : ∃ B', Fn 39 21 [.box 0, .lst (is.map .int), .int n] [B] = .ok (.bl true) [B'] ∧ IsStream B' (c + 1) := by
  have lb := line_big
  have hl := h.len
  let R : T := .lst (is.map .int)
  obtain ⟨t, B1, e1, ht, s1⟩ := looseF (B := B) (k := 36) h9 h12 hB hc (by decide) is (by omega) R (.inl rfl)
  obtain ⟨st, hst1, hst2⟩ := row_repr h ht
  have hpt : plnT t = true := (h.okT ht).1
  let ρ0 : Env := [some (.box 0), some R, some (.int n), none, none, none, none, none, none]
  let ρ1 : Env := [some (.box 0), some R, some (.int n), none, none, none, some t, some (.int (rankV is)), none]
  have t0 : evI1 (Fn 38) 100000 (.unp (.tp [(.nm 6), (.nm 7)]) (.tup [(.call 12 [(.var 0), (.var 1)] []), (.call 17 [(.var 1)] [])]) []) ρ0 [B] = .ok (.nx, ρ1) [B1] := by
    rw [evI1, eTup2 (eCall2 (t := .box 0) (u := R) (eVar rfl) (eVar rfl) e1) (eCall1 (t := R) (eVar rfl) (lrankF (k := 37) (.inl rfl))), Res.bind_ok]
    rfl
  obtain ⟨m1, p4, m2⟩ := side1 (B := B1) (st := st) h hs h0 h1 ht
  obtain ⟨p3, q4, p5, m3⟩ := side2 (B := B1) (o3 := some (highV is n)) (o4 := p4) (o5 := none) (st := st) h hs h0 h1 ht
  have t1 : evI1 (Fn 38) 100000 (.par [8, 4] [(.bi .repr [(.var 6)]), (.lst [(false, (.met [2, 6] (.call 6 [(.var 6), (.var 2)] []) true [(2, "high"), (3, "low")] true))])] []) ρ1 [B1] = .ok (.nx, envA R t n (rankV is) none (some (.lst [highV is n])) none st) [B1] :=
    sPar2 (eRepr (t := t) (eVar rfl) hpt hst1) m1 rfl
  have fin : evE (Fn 38) (envA R t n (rankV is) p3 q4 p5 st) (.cmp .eq (.bi .repr [(.var 6)]) (.var 8)) [B1] = .ok (.bl true) [B1] := eEqS (eRepr (t := t) (eVar rfl) hpt hst1) (eVar rfl) hst2
  refine ⟨B1, ?_, s1⟩
  rw [show Fn 39 = Fn (38 + 1) from rfl, h21]
  refine runRt (d := d__law_asked_right) (ρ' := envA R t n (rankV is) p3 q4 p5 st) rfl ?_ (.inr rfl)
  rw [body21]
  exact ssCons t0 (ssCons t1 (ss_app (is1 := [a2, a3, a4, a5]) m2 (ss_app (is1 := [a6, a7, a8, a9, a4, a11]) m3 (ssRet (sRet fin)))))
end
end Q

/-! R4: k37: all rows of a small total, asked (printed by genR4.py). -/
namespace Q
open MP
/-- true is given back -/
def okRt : Res (Fl × Env) → Bool
  | .ok (.rt (.bl true), _) [_] => true
  | _ => false
theorem okRt_elim {r : Res (Fl × Env)} (h : okRt r = true) : ∃ ρ' B', r = .ok (.rt (.bl true), ρ') [B'] := by
  unfold okRt at h
  split at h
  · exact ⟨_, _, rfl⟩
  · cases h
def f4 : IS := (.asg 3 (.lc (.var 5) (.nm 5) (.seq (.call 15 [(.var 7)] [])) (some (.cmp .le (.call 17 [(.var 5)] []) (.bin .add (.var 8) (.cst (.int 1)))))) [])
def f5 : IS := (.asg 4 (.lc (.var 5) (.nm 5) (.seq (.call 15 [(.bin .add (.var 7) (.var 8))] [])) (some (.bop true [(.cmp .ge (.call 17 [(.var 5)] []) (.bin .sub (.var 8) (.cst (.int 1)))), (.bop false [(.cmp .ne (.var 5) (.lst [])), (.cmp .eq (.var 8) (.cst (.int 0)))])]))) [])
def f6 : IS := (.ret (some (.cmp .eq (.bi .sorted [(.lc (.call 6 [(.bi .list [(.var 5)]), (.var 8)] []) (.nm 5) (.seq (.var 3)) none)]) (.bi .sorted [(.var 4)]))))
def ρf (o0 o2 o5 o6 : Option T) (a b : Int) : Env := [o0, some (.box 0), o2, none, none, o5, o6, some (.int a), some (.int b)]
section
variable {B : T} {o0 o2 o5 o6 : Option T}
theorem fin_0_0 : okRt (evIs (Fn 39) 100000 [f4, f5, f6] (ρf o0 o2 o5 o6 0 0) [B]) = true := by kernel_rfl
theorem fin_0_1 : okRt (evIs (Fn 39) 100000 [f4, f5, f6] (ρf o0 o2 o5 o6 0 1) [B]) = true := by kernel_rfl
theorem fin_0_2 : okRt (evIs (Fn 39) 100000 [f4, f5, f6] (ρf o0 o2 o5 o6 0 2) [B]) = true := by kernel_rfl
theorem fin_0_3 : okRt (evIs (Fn 39) 100000 [f4, f5, f6] (ρf o0 o2 o5 o6 0 3) [B]) = true := by kernel_rfl
theorem fin_1_0 : okRt (evIs (Fn 39) 100000 [f4, f5, f6] (ρf o0 o2 o5 o6 1 0) [B]) = true := by kernel_rfl
theorem fin_1_1 : okRt (evIs (Fn 39) 100000 [f4, f5, f6] (ρf o0 o2 o5 o6 1 1) [B]) = true := by kernel_rfl
theorem fin_1_2 : okRt (evIs (Fn 39) 100000 [f4, f5, f6] (ρf o0 o2 o5 o6 1 2) [B]) = true := by kernel_rfl
theorem fin_1_3 : okRt (evIs (Fn 39) 100000 [f4, f5, f6] (ρf o0 o2 o5 o6 1 3) [B]) = true := by kernel_rfl
theorem fin_2_0 : okRt (evIs (Fn 39) 100000 [f4, f5, f6] (ρf o0 o2 o5 o6 2 0) [B]) = true := by kernel_rfl
theorem fin_2_1 : okRt (evIs (Fn 39) 100000 [f4, f5, f6] (ρf o0 o2 o5 o6 2 1) [B]) = true := by kernel_rfl
theorem fin_2_2 : okRt (evIs (Fn 39) 100000 [f4, f5, f6] (ρf o0 o2 o5 o6 2 2) [B]) = true := by kernel_rfl
theorem fin_2_3 : okRt (evIs (Fn 39) 100000 [f4, f5, f6] (ρf o0 o2 o5 o6 2 3) [B]) = true := by kernel_rfl
theorem fin_3_0 : okRt (evIs (Fn 39) 100000 [f4, f5, f6] (ρf o0 o2 o5 o6 3 0) [B]) = true := by kernel_rfl
theorem fin_3_1 : okRt (evIs (Fn 39) 100000 [f4, f5, f6] (ρf o0 o2 o5 o6 3 1) [B]) = true := by kernel_rfl
theorem fin_3_2 : okRt (evIs (Fn 39) 100000 [f4, f5, f6] (ρf o0 o2 o5 o6 3 2) [B]) = true := by kernel_rfl
theorem fin_3_3 : okRt (evIs (Fn 39) 100000 [f4, f5, f6] (ρf o0 o2 o5 o6 3 3) [B]) = true := by kernel_rfl
theorem fin_4_0 : okRt (evIs (Fn 39) 100000 [f4, f5, f6] (ρf o0 o2 o5 o6 4 0) [B]) = true := by kernel_rfl
theorem fin_4_1 : okRt (evIs (Fn 39) 100000 [f4, f5, f6] (ρf o0 o2 o5 o6 4 1) [B]) = true := by kernel_rfl
theorem fin_4_2 : okRt (evIs (Fn 39) 100000 [f4, f5, f6] (ρf o0 o2 o5 o6 4 2) [B]) = true := by kernel_rfl
theorem fin_4_3 : okRt (evIs (Fn 39) 100000 [f4, f5, f6] (ρf o0 o2 o5 o6 4 3) [B]) = true := by kernel_rfl
theorem fin_5_0 : okRt (evIs (Fn 39) 100000 [f4, f5, f6] (ρf o0 o2 o5 o6 5 0) [B]) = true := by kernel_rfl
theorem fin_5_1 : okRt (evIs (Fn 39) 100000 [f4, f5, f6] (ρf o0 o2 o5 o6 5 1) [B]) = true := by kernel_rfl
theorem fin_5_2 : okRt (evIs (Fn 39) 100000 [f4, f5, f6] (ρf o0 o2 o5 o6 5 2) [B]) = true := by kernel_rfl
theorem fin_5_3 : okRt (evIs (Fn 39) 100000 [f4, f5, f6] (ρf o0 o2 o5 o6 5 3) [B]) = true := by kernel_rfl
theorem fin_6_0 : okRt (evIs (Fn 39) 100000 [f4, f5, f6] (ρf o0 o2 o5 o6 6 0) [B]) = true := by kernel_rfl
theorem fin_6_1 : okRt (evIs (Fn 39) 100000 [f4, f5, f6] (ρf o0 o2 o5 o6 6 1) [B]) = true := by kernel_rfl
theorem fin_6_2 : okRt (evIs (Fn 39) 100000 [f4, f5, f6] (ρf o0 o2 o5 o6 6 2) [B]) = true := by kernel_rfl
theorem fin_6_3 : okRt (evIs (Fn 39) 100000 [f4, f5, f6] (ρf o0 o2 o5 o6 6 3) [B]) = true := by kernel_rfl
theorem fin_7_0 : okRt (evIs (Fn 39) 100000 [f4, f5, f6] (ρf o0 o2 o5 o6 7 0) [B]) = true := by kernel_rfl
theorem fin_7_1 : okRt (evIs (Fn 39) 100000 [f4, f5, f6] (ρf o0 o2 o5 o6 7 1) [B]) = true := by kernel_rfl
theorem fin_7_2 : okRt (evIs (Fn 39) 100000 [f4, f5, f6] (ρf o0 o2 o5 o6 7 2) [B]) = true := by kernel_rfl
theorem fin_7_3 : okRt (evIs (Fn 39) 100000 [f4, f5, f6] (ρf o0 o2 o5 o6 7 3) [B]) = true := by kernel_rfl
theorem fin_8_0 : okRt (evIs (Fn 39) 100000 [f4, f5, f6] (ρf o0 o2 o5 o6 8 0) [B]) = true := by kernel_rfl
theorem fin_8_1 : okRt (evIs (Fn 39) 100000 [f4, f5, f6] (ρf o0 o2 o5 o6 8 1) [B]) = true := by kernel_rfl
theorem fin_8_2 : okRt (evIs (Fn 39) 100000 [f4, f5, f6] (ρf o0 o2 o5 o6 8 2) [B]) = true := by kernel_rfl
theorem fin_8_3 : okRt (evIs (Fn 39) 100000 [f4, f5, f6] (ρf o0 o2 o5 o6 8 3) [B]) = true := by kernel_rfl
theorem fin_9_0 : okRt (evIs (Fn 39) 100000 [f4, f5, f6] (ρf o0 o2 o5 o6 9 0) [B]) = true := by kernel_rfl
theorem fin_9_1 : okRt (evIs (Fn 39) 100000 [f4, f5, f6] (ρf o0 o2 o5 o6 9 1) [B]) = true := by kernel_rfl
theorem fin_9_2 : okRt (evIs (Fn 39) 100000 [f4, f5, f6] (ρf o0 o2 o5 o6 9 2) [B]) = true := by kernel_rfl
theorem fin_9_3 : okRt (evIs (Fn 39) 100000 [f4, f5, f6] (ρf o0 o2 o5 o6 9 3) [B]) = true := by kernel_rfl
theorem fin_10_0 : okRt (evIs (Fn 39) 100000 [f4, f5, f6] (ρf o0 o2 o5 o6 10 0) [B]) = true := by kernel_rfl
theorem fin_10_1 : okRt (evIs (Fn 39) 100000 [f4, f5, f6] (ρf o0 o2 o5 o6 10 1) [B]) = true := by kernel_rfl
theorem fin_10_2 : okRt (evIs (Fn 39) 100000 [f4, f5, f6] (ρf o0 o2 o5 o6 10 2) [B]) = true := by kernel_rfl
theorem fin_10_3 : okRt (evIs (Fn 39) 100000 [f4, f5, f6] (ρf o0 o2 o5 o6 10 3) [B]) = true := by kernel_rfl
theorem fin_nat {a b : Nat} (ha : a < 11) (hb : b < 4) : okRt (evIs (Fn 39) 100000 [f4, f5, f6] (ρf o0 o2 o5 o6 (a : Int) (b : Int)) [B]) = true := by
  by_cases qa0 : a = 0
  · subst qa0
    by_cases qb0 : b = 0
    · subst qb0
      exact fin_0_0
    by_cases qb1 : b = 1
    · subst qb1
      exact fin_0_1
    by_cases qb2 : b = 2
    · subst qb2
      exact fin_0_2
    by_cases qb3 : b = 3
    · subst qb3
      exact fin_0_3
    omega
  by_cases qa1 : a = 1
  · subst qa1
    by_cases qb0 : b = 0
    · subst qb0
      exact fin_1_0
    by_cases qb1 : b = 1
    · subst qb1
      exact fin_1_1
    by_cases qb2 : b = 2
    · subst qb2
      exact fin_1_2
    by_cases qb3 : b = 3
    · subst qb3
      exact fin_1_3
    omega
  by_cases qa2 : a = 2
  · subst qa2
    by_cases qb0 : b = 0
    · subst qb0
      exact fin_2_0
    by_cases qb1 : b = 1
    · subst qb1
      exact fin_2_1
    by_cases qb2 : b = 2
    · subst qb2
      exact fin_2_2
    by_cases qb3 : b = 3
    · subst qb3
      exact fin_2_3
    omega
  by_cases qa3 : a = 3
  · subst qa3
    by_cases qb0 : b = 0
    · subst qb0
      exact fin_3_0
    by_cases qb1 : b = 1
    · subst qb1
      exact fin_3_1
    by_cases qb2 : b = 2
    · subst qb2
      exact fin_3_2
    by_cases qb3 : b = 3
    · subst qb3
      exact fin_3_3
    omega
  by_cases qa4 : a = 4
  · subst qa4
    by_cases qb0 : b = 0
    · subst qb0
      exact fin_4_0
    by_cases qb1 : b = 1
    · subst qb1
      exact fin_4_1
    by_cases qb2 : b = 2
    · subst qb2
      exact fin_4_2
    by_cases qb3 : b = 3
    · subst qb3
      exact fin_4_3
    omega
  by_cases qa5 : a = 5
  · subst qa5
    by_cases qb0 : b = 0
    · subst qb0
      exact fin_5_0
    by_cases qb1 : b = 1
    · subst qb1
      exact fin_5_1
    by_cases qb2 : b = 2
    · subst qb2
      exact fin_5_2
    by_cases qb3 : b = 3
    · subst qb3
      exact fin_5_3
    omega
  by_cases qa6 : a = 6
  · subst qa6
    by_cases qb0 : b = 0
    · subst qb0
      exact fin_6_0
    by_cases qb1 : b = 1
    · subst qb1
      exact fin_6_1
    by_cases qb2 : b = 2
    · subst qb2
      exact fin_6_2
    by_cases qb3 : b = 3
    · subst qb3
      exact fin_6_3
    omega
  by_cases qa7 : a = 7
  · subst qa7
    by_cases qb0 : b = 0
    · subst qb0
      exact fin_7_0
    by_cases qb1 : b = 1
    · subst qb1
      exact fin_7_1
    by_cases qb2 : b = 2
    · subst qb2
      exact fin_7_2
    by_cases qb3 : b = 3
    · subst qb3
      exact fin_7_3
    omega
  by_cases qa8 : a = 8
  · subst qa8
    by_cases qb0 : b = 0
    · subst qb0
      exact fin_8_0
    by_cases qb1 : b = 1
    · subst qb1
      exact fin_8_1
    by_cases qb2 : b = 2
    · subst qb2
      exact fin_8_2
    by_cases qb3 : b = 3
    · subst qb3
      exact fin_8_3
    omega
  by_cases qa9 : a = 9
  · subst qa9
    by_cases qb0 : b = 0
    · subst qb0
      exact fin_9_0
    by_cases qb1 : b = 1
    · subst qb1
      exact fin_9_1
    by_cases qb2 : b = 2
    · subst qb2
      exact fin_9_2
    by_cases qb3 : b = 3
    · subst qb3
      exact fin_9_3
    omega
  by_cases qa10 : a = 10
  · subst qa10
    by_cases qb0 : b = 0
    · subst qb0
      exact fin_10_0
    by_cases qb1 : b = 1
    · subst qb1
      exact fin_10_1
    by_cases qb2 : b = 2
    · subst qb2
      exact fin_10_2
    by_cases qb3 : b = 3
    · subst qb3
      exact fin_10_3
    omega
  omega
end
end Q

/-! R5: one turn of k37; the law. -/
namespace Q
open MP
def g0 : IS := (.asg 5 (.ite (.cmp .gt (.var 2) (.cst (.int 0))) (.call 16 [(.imm (.var 1)), (.call 10 [(.imm (.var 1)), (.lst [(false, (.cst (.int 5))), (false, (.cst (.int 20))), (false, (.cst (.int 60)))])] [])] []) (.lst [])) [])
def g1 : IS := (.asg 6 (.bi .min2 [(.cst (.int 60)), (.bi .max2 [(.cst (.int 0)), (.bin .sub (.bin .add (.call 17 [(.var 5)] []) (.call 9 [(.imm (.var 1)), (.cst (.int 5))] [])) (.cst (.int 2)))])]) [])
def g2 : IS := (.iff (.nt (.call 21 [(.imm (.var 1)), (.var 5), (.call 10 [(.imm (.var 1)), (.lst [(false, (.var 6)), (false, (.cst (.int 0))), (false, (.cst (.int 1))), (false, (.cst (.int 2))), (false, (.call 9 [(.imm (.var 1)), (.cst (.int 41))] []))])] [])] [])) [(.ret (some (.cst (.bl false))))] [])
def bTurn : List IS := [g0, g1, g2]
def g3 : IS := (.unp (.tp [(.nm 7), (.nm 8)]) (.tup [(.call 9 [(.imm (.var 1)), (.cst (.int 11))] []), (.call 9 [(.imm (.var 1)), (.cst (.int 4))] [])]) [])
theorem law_body : d_law.body = [(.asg 1 (.call 8 [(.var 0)] []) []), .mkbox 1, (.for (.nm 2) (.rng1 (.cst (.int 16))) bTurn []), g3, f4, f5, f6] := rfl
def env (o0 o2 o5 o6 : Option T) : Env := [o0, some (.box 0), o2, none, none, o5, o6, none, none]
theorem eNotM {F : Fns} {ρ : Env} {μ μ1 : Mem} {e : IE} (h : evE F ρ e μ = .ok (.bl true) μ1) : evE F ρ (.nt e) μ = .ok (.bl false) μ1 := by rw [evE, h, Res.bind_ok] <;> rfl
theorem turn_ok {j : Nat} {B : T} {c : Nat} {o0 o5 o6 : Option T} (hs : IsStream B c) (hc : c < 800000) :
    ∃ p5 p6 B' c', evIs (Fn 39) 100000 bTurn (env o0 (some (.int (j : Int))) o5 o6) [B] = .ok (.nx, env o0 (some (.int (j : Int))) p5 p6) [B'] ∧ IsStream B' c' ∧ c' ≤ c + 1020 := by
  let J : Option T := some (.int (j : Int))
  have k0 : evE (Fn 39) (env o0 J o5 o6) (.cmp .gt (.var 2) (.cst (.int 0))) [B] = .ok (.bl (decide ((0 : Int) < (j : Int)))) [B] := eCmp (eVar rfl) eCst rfl
  obtain ⟨is, B1, c1, e1, h, hsum, w1, l1⟩ : ∃ (is : List Int) (B1 : T) (c1 : Nat), evI1 (Fn 39) 100000 g0 (env o0 J o5 o6) [B] = .ok (.nx, env o0 J (some (.lst (is.map .int))) o6) [B1] ∧ Row is ∧ is.sum ≤ 200 ∧ IsStream B1 c1 ∧ c1 ≤ c + 1011 := by
    by_cases q : (0 : Int) < (j : Int)
    · rw [decide_eq_true q] at k0
      obtain ⟨mo, B1, e1, hm, w1⟩ := pickF (k := 37) (xs := [.int 5, .int 20, .int 60]) h9 h10 hs (by omega) (by decide) (Nat.le_of_ble_eq_true rfl) (Nat.le_of_ble_eq_true rfl)
      have e2 : evE (Fn 39) (env o0 J o5 o6) (.call 10 [(.imm (.var 1)), (.lst [(false, (.cst (.int 5))), (false, (.cst (.int 20))), (false, (.cst (.int 60)))])] []) [B] = .ok mo [B1] := eCall2 (t := .box 0) rfl (eLstS (sCons (a := .cst (.int 5)) rfl (sCons (a := .cst (.int 20)) rfl (sCons (a := .cst (.int 60)) rfl sNil))) (Nat.le_of_ble_eq_true rfl)) e1
      obtain ⟨m, rfl, m0, m1⟩ : ∃ m : Int, mo = .int m ∧ 1 ≤ m ∧ m ≤ 60 := by
        simp only [List.mem_cons, List.not_mem_nil, or_false] at hm
        rcases hm with rfl | rfl | rfl
        · exact ⟨5, rfl, by decide, by decide⟩
        · exact ⟨20, rfl, by decide, by decide⟩
        · exact ⟨60, rfl, by decide, by decide⟩
      obtain ⟨is, c2, B2, e3, h, _, l2, s2, hsum⟩ := lawRowS (k := 37) h16 h9 (by decide) w1 (by omega) m0 (by omega)
      exact ⟨is, B2, c2, sAsg (eIte k0 (eCall2 (t := .box 0) (u := .int m) rfl e2 e3)), h, by omega, s2, by omega⟩
    · rw [decide_eq_false q] at k0
      exact ⟨[], B, c, sAsg (eIte k0 rfl), ⟨(fun x hx => by cases hx), (fun x hx => by cases hx), Nat.zero_le _, trivial⟩, by decide, hs, by omega⟩
  let R : T := .lst (is.map .int)
  obtain ⟨d, B2, e2, d0, d1, s2⟩ := drawF (k := 38) (m := 5) h9 w1 (by omega) (by decide) (by decide) (by decide)
  obtain ⟨near, t1, n0, n1⟩ : ∃ near : Int, evI1 (Fn 39) 100000 g1 (env o0 J (some R) o6) [B1] = .ok (.nx, env o0 J (some R) (some (.int near))) [B2] ∧ 0 ≤ near ∧ near ≤ 60 := by
    have c1 : evE (Fn 39) (env o0 J (some R) o6) (.bin .sub (.bin .add (.call 17 [(.var 5)] []) (.call 9 [(.imm (.var 1)), (.cst (.int 5))] [])) (.cst (.int 2))) [B1] = .ok (.int (rankV is + d - 2)) [B2] :=
      eBin (op := .sub) (eBin (op := .add) (eCall1 (t := R) (eVar rfl) (lrankF (k := 38) (.inl rfl))) (eCall2 (t := .box 0) (u := .int 5) rfl rfl e2) rfl) eCst rfl
    have c2 : ∃ x : Int, evE (Fn 39) (env o0 J (some R) o6) (.bi .max2 [(.cst (.int 0)), (.bin .sub (.bin .add (.call 17 [(.var 5)] []) (.call 9 [(.imm (.var 1)), (.cst (.int 5))] [])) (.cst (.int 2)))]) [B1] = .ok (.int x) [B2] ∧ 0 ≤ x := by
      refine ⟨if (rankV is + d - 2) > 0 then rankV is + d - 2 else 0, ?_, by split <;> omega⟩
      rw [evE, evL, evE, Res.bind_ok, evL, c1, Res.bind_ok, evL, Res.bind_ok, Res.bind_ok, Res.bind_ok]
      show opt (pBI .max2 [.int 0, .int (rankV is + d - 2)]) [B2] = _
      rfl
    obtain ⟨x, c2, x0⟩ := c2
    refine ⟨if x < 60 then x else 60, sAsg ?_, by split <;> omega, by split <;> omega⟩
    rw [evE, evL, evE, Res.bind_ok, evL, c2, Res.bind_ok, evL, Res.bind_ok, Res.bind_ok, Res.bind_ok]
    show opt (pBI .min2 [.int 60, .int x]) [B2] = _
    rfl
  let N : T := .int near
  obtain ⟨y, B3, e3, y0, y1, s3⟩ := drawF (k := 38) (m := 41) h9 s2 (by omega) (by decide) (by decide) (by decide)
  obtain ⟨u, B4, e4, hu, s4⟩ := pickF (k := 37) (xs := [.int near, .int 0, .int 1, .int 2, .int y]) h9 h10 s3 (by omega) (by decide) (Nat.le_of_ble_eq_true rfl) (Nat.le_of_ble_eq_true rfl)
  obtain ⟨n, rfl, z0, z1⟩ : ∃ n : Int, u = .int n ∧ 0 ≤ n ∧ n ≤ 60 := by
    simp only [List.mem_cons, List.not_mem_nil, or_false] at hu
    rcases hu with rfl | rfl | rfl | rfl | rfl
    · exact ⟨_, rfl, n0, n1⟩
    · exact ⟨_, rfl, by decide, by decide⟩
    · exact ⟨_, rfl, by decide, by decide⟩
    · exact ⟨_, rfl, by decide, by decide⟩
    · exact ⟨_, rfl, y0, by omega⟩
  obtain ⟨B5, e5, s5⟩ := asked_right h hsum z0 z1 s4 (by omega)
  let ρ2 : Env := env o0 J (some R) (some N)
  have k4 : evE (Fn 39) ρ2 (.call 10 [(.imm (.var 1)), (.lst [(false, (.var 6)), (false, (.cst (.int 0))), (false, (.cst (.int 1))), (false, (.cst (.int 2))), (false, (.call 9 [(.imm (.var 1)), (.cst (.int 41))] []))])] []) [B2] = .ok (.int n) [B4] :=
    eCall2 (t := .box 0) rfl (eLstS (sCons (t := N) (eVar rfl) (sCons (a := .cst (.int 0)) rfl (sCons (a := .cst (.int 1)) rfl (sCons (a := .cst (.int 2)) rfl (sCons (t := .int y) (eCall2 (t := .box 0) (u := .int 41) rfl rfl e3) sNil))))) (Nat.le_of_ble_eq_true rfl)) e4
  have t2 : evI1 (Fn 39) 100000 g2 ρ2 [B2] = .ok (.nx, ρ2) [B5] := sIf (v := false) (eNotM (eCall3 (t := .box 0) (u := R) (v := .int n) rfl (eVar rfl) k4 e5)) rfl
  exact ⟨_, _, B5, _, ssCons e1 (ssCons t1 (ssCons t2 rfl)), s5, by omega⟩
theorem plain : ∀ ns : List Int, ns.length ≤ 63 → ∃ μ, callF (dfs.map (·.d)) 100000 40 22 [.scr ns] [] = .ok (.bl true) μ := by
  intro ns hn
  refine ⟨[], ?_⟩
  have hlaw : DefAt Fn 100000 22 d_law := fam_at rfl
  show Fn (39 + 1) 22 [.scr ns] [] = _
  rw [hlaw]
  let s : Option T := some (.scr ns)
  let ρ1 : Env := env s none none none
  have a1 : evI1 (Fn 39) 100000 (.asg 1 (.call 8 [(.var 0)] []) []) [s, none, none, none, none, none, none, none, none] [] = .ok (.nx, [s, some (sB ns 0 0 19), none, none, none, none, none, none, none]) [] :=
    sAsg (eCall1 (eVar rfl) (streamF (k := 38) h8))
  have a2 : evI1 (Fn 39) 100000 (.mkbox 1) [s, some (sB ns 0 0 19), none, none, none, none, none, none, none] [] = .ok (.nx, ρ1) [sB ns 0 0 19] := sMkbox rfl
  obtain ⟨ρ', B', e3, ⟨p2, p5, p6, rfl⟩, c', hc', s'⟩ := forInv (f := fun x ρ μ => match bindTg (.nm 2) x ρ with | some ρ' => evIs (Fn 39) 100000 bTurn ρ' μ | none => .stuck) (xs := rngL 0 1 16) (i := 0) (ρ := ρ1) (B := sB ns 0 0 19)
    (fun i ρ B => (∃ o2 o5 o6, ρ = env s o2 o5 o6) ∧ ∃ c ≤ 1020 * i, IsStream B c) ⟨⟨_, _, _, rfl⟩, 0, Nat.le_refl _, stream0 hn⟩ (fun j x ρ B hx hp => by
      obtain ⟨⟨o2, o5, o6, rfl⟩, c, hc, sB'⟩ := hp
      obtain ⟨hj, rfl⟩ := rng0_item hx
      obtain ⟨p5, p6, B', c', e, s', hc'⟩ := turn_ok (j := j) (o0 := s) (o5 := o5) (o6 := o6) sB' (by omega)
      exact ⟨_, B', e, ⟨_, _, _, rfl⟩, c', by omega, s'⟩)
  rw [rngL_len] at hc'
  have a3 : evI1 (Fn 39) 100000 (.for (.nm 2) (.rng1 (.cst (.int 16))) bTurn []) ρ1 [sB ns 0 0 19] = .ok (.nx, env s p2 p5 p6) [B'] := sFor rfl e3
  obtain ⟨a, B2, e4, x0, x1, s2⟩ := drawF (k := 38) (m := 11) h9 s' (by omega) (by decide) (by decide) (by decide)
  obtain ⟨b, B3, e5, y0, y1, s3⟩ := drawF (k := 38) (m := 4) h9 s2 (by omega) (by decide) (by decide) (by decide)
  have a4 : evI1 (Fn 39) 100000 g3 (env s p2 p5 p6) [B'] = .ok (.nx, ρf s p2 p5 p6 a b) [B3] := by
    rw [g3, evI1, eTup2 (eCall2 (t := .box 0) (u := .int 11) rfl rfl e4) (eCall2 (t := .box 0) (u := .int 4) rfl rfl e5), Res.bind_ok]
    rfl
  have fin := fin_nat (B := B3) (o0 := s) (o2 := p2) (o5 := p5) (o6 := p6) (a := a.toNat) (b := b.toNat) (by omega) (by omega)
  rw [Int.toNat_of_nonneg x0, Int.toNat_of_nonneg y0] at fin
  obtain ⟨ρ9, B9, e9⟩ := okRt_elim fin
  refine runLaw (d := d_law) rfl (ρ' := ρ9) (B := B9) ?_
  rw [law_body]
  exact ssCons a1 (ssCons a2 (ssCons a3 (ssCons a4 e9)))
end Q

namespace Q
open PySem MP
end Q
namespace Q
open PySem PySem.Spec PyProof.Rows L2 MP
theorem bd_0_1_ : ∀ (kV doc pm : Value) (an : Option Addr) (cdv ct : Value) (us ws : List Value), us.length = 1 → ws.length = 0 → bindArgs (PySem.W.fnOf "is_list" "is_list" (defArgs (top 1)) (defBody (top 1)) (defScope (top 1)) .none kV doc pm an cdv ct) ⟨us, (kwN (["thing"] : List Str) []).zip ws⟩ = pure ((["thing"] : List Str).zip (us ++ kwP 1 [] ws)) :=
  fun _ _ _ _ _ _ us ws h1 h2 => match us, ws, h1, h2 with | [a0], [], _, _ => rfl
theorem bd_1_1_ : ∀ (kV doc pm : Value) (an : Option Addr) (cdv ct : Value) (us ws : List Value), us.length = 1 → ws.length = 0 → bindArgs (PySem.W.fnOf "is_whole" "is_whole" (defArgs (top 2)) (defBody (top 2)) (defScope (top 2)) .none kV doc pm an cdv ct) ⟨us, (kwN (["thing"] : List Str) []).zip ws⟩ = pure ((["thing"] : List Str).zip (us ++ kwP 1 [] ws)) :=
  fun _ _ _ _ _ _ us ws h1 h2 => match us, ws, h1, h2 with | [a0], [], _, _ => rfl
theorem bd_2_1_ : ∀ (kV doc pm : Value) (an : Option Addr) (cdv ct : Value) (us ws : List Value), us.length = 1 → ws.length = 0 → bindArgs (PySem.W.fnOf "is_falling_of" "is_falling_of" (defArgs (top 8)) (defBody (top 8)) (defScope (top 8)) .none kV doc pm an cdv ct) ⟨us, (kwN (["thing"] : List Str) []).zip ws⟩ = pure ((["thing"] : List Str).zip (us ++ kwP 1 [] ws)) :=
  fun _ _ _ _ _ _ us ws h1 h2 => match us, ws, h1, h2 with | [a0], [], _, _ => rfl
theorem bd_3_1_ : ∀ (kV doc pm : Value) (an : Option Addr) (cdv ct : Value) (us ws : List Value), us.length = 1 → ws.length = 0 → bindArgs (PySem.W.fnOf "check_row" "check_row" (defArgs (top 9)) (defBody (top 9)) (defScope (top 9)) .none kV doc pm an cdv ct) ⟨us, (kwN (["row"] : List Str) []).zip ws⟩ = pure ((["row"] : List Str).zip (us ++ kwP 1 [] ws)) :=
  fun _ _ _ _ _ _ us ws h1 h2 => match us, ws, h1, h2 with | [a0], [], _, _ => rfl
theorem bd_4_1_ : ∀ (kV doc pm : Value) (an : Option Addr) (cdv ct : Value) (us ws : List Value), us.length = 1 → ws.length = 0 → bindArgs (PySem.W.fnOf "check_number" "check_number" (defArgs (top 10)) (defBody (top 10)) (defScope (top 10)) .none kV doc pm an cdv ct) ⟨us, (kwN (["number"] : List Str) []).zip ws⟩ = pure ((["number"] : List Str).zip (us ++ kwP 1 [] ws)) :=
  fun _ _ _ _ _ _ us ws h1 h2 => match us, ws, h1, h2 with | [a0], [], _, _ => rfl
theorem bd_5_1_ : ∀ (kV doc pm : Value) (an : Option Addr) (cdv ct : Value) (us ws : List Value), us.length = 1 → ws.length = 0 → bindArgs (PySem.W.fnOf "rank_of" "rank_of" (defArgs (top 15)) (defBody (top 15)) (defScope (top 15)) .none kV doc pm an cdv ct) ⟨us, (kwN (["row"] : List Str) []).zip ws⟩ = pure ((["row"] : List Str).zip (us ++ kwP 1 [] ws)) :=
  fun _ _ _ _ _ _ us ws h1 h2 => match us, ws, h1, h2 with | [a0], [], _, _ => rfl
theorem bd_6_0_1_0 : ∀ (kV doc pm : Value) (an : Option Addr) (cdv ct : Value) (us ws : List Value), us.length = 0 → ws.length = 2 → bindArgs (PySem.W.fnOf "pushed" "pushed" (defArgs (top 16)) (defBody (top 16)) (defScope (top 16)) .none kV doc pm an cdv ct) ⟨us, (kwN (["row", "number"] : List Str) [1, 0]).zip ws⟩ = pure ((["row", "number"] : List Str).zip (us ++ kwP 0 [1, 0] ws)) :=
  fun _ _ _ _ _ _ us ws h1 h2 => match us, ws, h1, h2 with | [], [b0, b1], _, _ => rfl
theorem bd_6_2_ : ∀ (kV doc pm : Value) (an : Option Addr) (cdv ct : Value) (us ws : List Value), us.length = 2 → ws.length = 0 → bindArgs (PySem.W.fnOf "pushed" "pushed" (defArgs (top 16)) (defBody (top 16)) (defScope (top 16)) .none kV doc pm an cdv ct) ⟨us, (kwN (["row", "number"] : List Str) []).zip ws⟩ = pure ((["row", "number"] : List Str).zip (us ++ kwP 2 [] ws)) :=
  fun _ _ _ _ _ _ us ws h1 h2 => match us, ws, h1, h2 with | [a0, a1], [], _, _ => rfl
theorem bd_7_0_1_0 : ∀ (kV doc pm : Value) (an : Option Addr) (cdv ct : Value) (us ws : List Value), us.length = 0 → ws.length = 2 → bindArgs (PySem.W.fnOf "pulled" "pulled" (defArgs (top 17)) (defBody (top 17)) (defScope (top 17)) .none kV doc pm an cdv ct) ⟨us, (kwN (["row", "number"] : List Str) [1, 0]).zip ws⟩ = pure ((["row", "number"] : List Str).zip (us ++ kwP 0 [1, 0] ws)) :=
  fun _ _ _ _ _ _ us ws h1 h2 => match us, ws, h1, h2 with | [], [b0, b1], _, _ => rfl
theorem bd_7_2_ : ∀ (kV doc pm : Value) (an : Option Addr) (cdv ct : Value) (us ws : List Value), us.length = 2 → ws.length = 0 → bindArgs (PySem.W.fnOf "pulled" "pulled" (defArgs (top 17)) (defBody (top 17)) (defScope (top 17)) .none kV doc pm an cdv ct) ⟨us, (kwN (["row", "number"] : List Str) []).zip ws⟩ = pure ((["row", "number"] : List Str).zip (us ++ kwP 2 [] ws)) :=
  fun _ _ _ _ _ _ us ws h1 h2 => match us, ws, h1, h2 with | [a0, a1], [], _, _ => rfl
theorem bd_8_1_ : ∀ (kV doc pm : Value) (an : Option Addr) (cdv ct : Value) (us ws : List Value), us.length = 1 → ws.length = 0 → bindArgs (PySem.W.fnOf "_law_stream" "_law_stream" (defArgs (top 19)) (defBody (top 19)) (defScope (top 19)) .none kV doc pm an cdv ct) ⟨us, (kwN (["script"] : List Str) []).zip ws⟩ = pure ((["script"] : List Str).zip (us ++ kwP 1 [] ws)) :=
  fun _ _ _ _ _ _ us ws h1 h2 => match us, ws, h1, h2 with | [a0], [], _, _ => rfl
theorem bd_9_2_ : ∀ (kV doc pm : Value) (an : Option Addr) (cdv ct : Value) (us ws : List Value), us.length = 2 → ws.length = 0 → bindArgs (PySem.W.fnOf "_law_draw" "_law_draw" (defArgs (top 20)) (defBody (top 20)) (defScope (top 20)) .none kV doc pm an cdv ct) ⟨us, (kwN (["stream", "many"] : List Str) []).zip ws⟩ = pure ((["stream", "many"] : List Str).zip (us ++ kwP 2 [] ws)) :=
  fun _ _ _ _ _ _ us ws h1 h2 => match us, ws, h1, h2 with | [a0, a1], [], _, _ => rfl
theorem bd_10_2_ : ∀ (kV doc pm : Value) (an : Option Addr) (cdv ct : Value) (us ws : List Value), us.length = 2 → ws.length = 0 → bindArgs (PySem.W.fnOf "_law_pick" "_law_pick" (defArgs (top 21)) (defBody (top 21)) (defScope (top 21)) .none kV doc pm an cdv ct) ⟨us, (kwN (["stream", "things"] : List Str) []).zip ws⟩ = pure ((["stream", "things"] : List Str).zip (us ++ kwP 2 [] ws)) :=
  fun _ _ _ _ _ _ us ws h1 h2 => match us, ws, h1, h2 with | [a0, a1], [], _, _ => rfl
theorem bd_11_2_ : ∀ (kV doc pm : Value) (an : Option Addr) (cdv ct : Value) (us ws : List Value), us.length = 2 → ws.length = 0 → bindArgs (PySem.W.fnOf "_law_same" "_law_same" (defArgs (top 22)) (defBody (top 22)) (defScope (top 22)) .none kV doc pm an cdv ct) ⟨us, (kwN (["found", "due"] : List Str) []).zip ws⟩ = pure ((["found", "due"] : List Str).zip (us ++ kwP 2 [] ws)) :=
  fun _ _ _ _ _ _ us ws h1 h2 => match us, ws, h1, h2 with | [a0, a1], [], _, _ => rfl
theorem bd_12_2_ : ∀ (kV doc pm : Value) (an : Option Addr) (cdv ct : Value) (us ws : List Value), us.length = 2 → ws.length = 0 → bindArgs (PySem.W.fnOf "_law_loose" "_law_loose" (defArgs (top 23)) (defBody (top 23)) (defScope (top 23)) .none kV doc pm an cdv ct) ⟨us, (kwN (["stream", "thing"] : List Str) []).zip ws⟩ = pure ((["stream", "thing"] : List Str).zip (us ++ kwP 2 [] ws)) :=
  fun _ _ _ _ _ _ us ws h1 h2 => match us, ws, h1, h2 with | [a0, a1], [], _, _ => rfl
theorem bd_13_1_ : ∀ (kV doc pm : Value) (an : Option Addr) (cdv ct : Value) (us ws : List Value), us.length = 1 → ws.length = 0 → bindArgs (PySem.W.fnOf "_law_copied" "_law_copied" (defArgs (top 24)) (defBody (top 24)) (defScope (top 24)) .none kV doc pm an cdv ct) ⟨us, (kwN (["thing"] : List Str) []).zip ws⟩ = pure ((["thing"] : List Str).zip (us ++ kwP 1 [] ws)) :=
  fun _ _ _ _ _ _ us ws h1 h2 => match us, ws, h1, h2 with | [a0], [], _, _ => rfl
theorem bd_14_1_ : ∀ (kV doc pm : Value) (an : Option Addr) (cdv ct : Value) (us ws : List Value), us.length = 1 → ws.length = 0 → bindArgs (PySem.W.fnOf "_law_spoilt" "_law_spoilt" (defArgs (top 25)) (defBody (top 25)) (defScope (top 25)) .none kV doc pm an cdv ct) ⟨us, (kwN (["thing"] : List Str) []).zip ws⟩ = pure ((["thing"] : List Str).zip (us ++ kwP 1 [] ws)) :=
  fun _ _ _ _ _ _ us ws h1 h2 => match us, ws, h1, h2 with | [a0], [], _, _ => rfl
theorem bd_15_1_ : ∀ (kV doc pm : Value) (an : Option Addr) (cdv ct : Value) (us ws : List Value), us.length = 1 → ws.length = 0 → bindArgs (PySem.W.fnOf "_law_rows" "_law_rows" (defArgs (top 26)) (defBody (top 26)) (defScope (top 26)) .none kV doc pm an cdv ct) ⟨us, (kwN (["number"] : List Str) []).zip ws⟩ = pure ((["number"] : List Str).zip (us ++ kwP 1 [] ws)) :=
  fun _ _ _ _ _ _ us ws h1 h2 => match us, ws, h1, h2 with | [a0], [], _, _ => rfl
theorem bd_16_2_ : ∀ (kV doc pm : Value) (an : Option Addr) (cdv ct : Value) (us ws : List Value), us.length = 2 → ws.length = 0 → bindArgs (PySem.W.fnOf "_law_row" "_law_row" (defArgs (top 27)) (defBody (top 27)) (defScope (top 27)) .none kV doc pm an cdv ct) ⟨us, (kwN (["stream", "most"] : List Str) []).zip ws⟩ = pure ((["stream", "most"] : List Str).zip (us ++ kwP 2 [] ws)) :=
  fun _ _ _ _ _ _ us ws h1 h2 => match us, ws, h1, h2 with | [a0, a1], [], _, _ => rfl
theorem bd_17_1_ : ∀ (kV doc pm : Value) (an : Option Addr) (cdv ct : Value) (us ws : List Value), us.length = 1 → ws.length = 0 → bindArgs (PySem.W.fnOf "_law_rank" "_law_rank" (defArgs (top 28)) (defBody (top 28)) (defScope (top 28)) .none kV doc pm an cdv ct) ⟨us, (kwN (["row"] : List Str) []).zip ws⟩ = pure ((["row"] : List Str).zip (us ++ kwP 1 [] ws)) :=
  fun _ _ _ _ _ _ us ws h1 h2 => match us, ws, h1, h2 with | [a0], [], _, _ => rfl
theorem bd_18_2_ : ∀ (kV doc pm : Value) (an : Option Addr) (cdv ct : Value) (us ws : List Value), us.length = 2 → ws.length = 0 → bindArgs (PySem.W.fnOf "_law_pushed" "_law_pushed" (defArgs (top 29)) (defBody (top 29)) (defScope (top 29)) .none kV doc pm an cdv ct) ⟨us, (kwN (["row", "number"] : List Str) []).zip ws⟩ = pure ((["row", "number"] : List Str).zip (us ++ kwP 2 [] ws)) :=
  fun _ _ _ _ _ _ us ws h1 h2 => match us, ws, h1, h2 with | [a0, a1], [], _, _ => rfl
theorem bd_19_1_ : ∀ (kV doc pm : Value) (an : Option Addr) (cdv ct : Value) (us ws : List Value), us.length = 1 → ws.length = 0 → bindArgs (PySem.W.fnOf "_law_met" "_law_met" (defArgs (top 30)) (defBody (top 30)) (defScope (top 30)) .none kV doc pm an cdv ct) ⟨us, (kwN (["ask"] : List Str) []).zip ws⟩ = pure ((["ask"] : List Str).zip (us ++ kwP 1 [] ws)) :=
  fun _ _ _ _ _ _ us ws h1 h2 => match us, ws, h1, h2 with | [a0], [], _, _ => rfl
theorem bd_20_2_ : ∀ (kV doc pm : Value) (an : Option Addr) (cdv ct : Value) (us ws : List Value), us.length = 2 → ws.length = 0 → bindArgs (PySem.W.fnOf "_law_pulled" "_law_pulled" (defArgs (top 31)) (defBody (top 31)) (defScope (top 31)) .none kV doc pm an cdv ct) ⟨us, (kwN (["row", "number"] : List Str) []).zip ws⟩ = pure ((["row", "number"] : List Str).zip (us ++ kwP 2 [] ws)) :=
  fun _ _ _ _ _ _ us ws h1 h2 => match us, ws, h1, h2 with | [a0, a1], [], _, _ => rfl
theorem bd_21_3_ : ∀ (kV doc pm : Value) (an : Option Addr) (cdv ct : Value) (us ws : List Value), us.length = 3 → ws.length = 0 → bindArgs (PySem.W.fnOf "_law_asked_right" "_law_asked_right" (defArgs (top 32)) (defBody (top 32)) (defScope (top 32)) .none kV doc pm an cdv ct) ⟨us, (kwN (["stream", "row", "number"] : List Str) []).zip ws⟩ = pure ((["stream", "row", "number"] : List Str).zip (us ++ kwP 3 [] ws)) :=
  fun _ _ _ _ _ _ us ws h1 h2 => match us, ws, h1, h2 with | [a0, a1, a2], [], _, _ => rfl
theorem bd_22_1_ : ∀ (kV doc pm : Value) (an : Option Addr) (cdv ct : Value) (us ws : List Value), us.length = 1 → ws.length = 0 → bindArgs (PySem.W.fnOf "law" "law" (defArgs (top 33)) (defBody (top 33)) (defScope (top 33)) .none kV doc pm an cdv ct) ⟨us, (kwN (["script"] : List Str) []).zip ws⟩ = pure ((["script"] : List Str).zip (us ++ kwP 1 [] ws)) :=
  fun _ _ _ _ _ _ us ws h1 h2 => match us, ws, h1, h2 with | [a0], [], _, _ => rfl
theorem bd1 : Binds1 fis dfs := fun f fi D hf hD n is hs => by
  match f, hf, hD with
  | 0, hf, hD =>
    cases hf; cases hD
    have hs : (n, is) ∈ [(1, [])] := hs
    simp only [List.mem_cons, List.not_mem_nil, or_false, Prod.mk.injEq] at hs
    obtain ⟨rfl, rfl⟩ := hs
    exact bd_0_1_
  | 1, hf, hD =>
    cases hf; cases hD
    have hs : (n, is) ∈ [(1, [])] := hs
    simp only [List.mem_cons, List.not_mem_nil, or_false, Prod.mk.injEq] at hs
    obtain ⟨rfl, rfl⟩ := hs
    exact bd_1_1_
  | 2, hf, hD =>
    cases hf; cases hD
    have hs : (n, is) ∈ [(1, [])] := hs
    simp only [List.mem_cons, List.not_mem_nil, or_false, Prod.mk.injEq] at hs
    obtain ⟨rfl, rfl⟩ := hs
    exact bd_2_1_
  | 3, hf, hD =>
    cases hf; cases hD
    have hs : (n, is) ∈ [(1, [])] := hs
    simp only [List.mem_cons, List.not_mem_nil, or_false, Prod.mk.injEq] at hs
    obtain ⟨rfl, rfl⟩ := hs
    exact bd_3_1_
  | 4, hf, hD =>
    cases hf; cases hD
    have hs : (n, is) ∈ [(1, [])] := hs
    simp only [List.mem_cons, List.not_mem_nil, or_false, Prod.mk.injEq] at hs
    obtain ⟨rfl, rfl⟩ := hs
    exact bd_4_1_
  | 5, hf, hD =>
    cases hf; cases hD
    have hs : (n, is) ∈ [(1, [])] := hs
    simp only [List.mem_cons, List.not_mem_nil, or_false, Prod.mk.injEq] at hs
    obtain ⟨rfl, rfl⟩ := hs
    exact bd_5_1_
  | 6, hf, hD =>
    cases hf; cases hD
    have hs : (n, is) ∈ [(0, [1, 0]), (2, [])] := hs
    simp only [List.mem_cons, List.not_mem_nil, or_false, Prod.mk.injEq] at hs
    rcases hs with ⟨rfl, rfl⟩ | ⟨rfl, rfl⟩
    · exact bd_6_0_1_0
    · exact bd_6_2_
  | 7, hf, hD =>
    cases hf; cases hD
    have hs : (n, is) ∈ [(0, [1, 0]), (2, [])] := hs
    simp only [List.mem_cons, List.not_mem_nil, or_false, Prod.mk.injEq] at hs
    rcases hs with ⟨rfl, rfl⟩ | ⟨rfl, rfl⟩
    · exact bd_7_0_1_0
    · exact bd_7_2_
  | 8, hf, hD =>
    cases hf; cases hD
    have hs : (n, is) ∈ [(1, [])] := hs
    simp only [List.mem_cons, List.not_mem_nil, or_false, Prod.mk.injEq] at hs
    obtain ⟨rfl, rfl⟩ := hs
    exact bd_8_1_
  | 9, hf, hD =>
    cases hf; cases hD
    have hs : (n, is) ∈ [(2, [])] := hs
    simp only [List.mem_cons, List.not_mem_nil, or_false, Prod.mk.injEq] at hs
    obtain ⟨rfl, rfl⟩ := hs
    exact bd_9_2_
  | 10, hf, hD =>
    cases hf; cases hD
    have hs : (n, is) ∈ [(2, [])] := hs
    simp only [List.mem_cons, List.not_mem_nil, or_false, Prod.mk.injEq] at hs
    obtain ⟨rfl, rfl⟩ := hs
    exact bd_10_2_
  | 11, hf, hD =>
    cases hf; cases hD
    have hs : (n, is) ∈ [(2, [])] := hs
    simp only [List.mem_cons, List.not_mem_nil, or_false, Prod.mk.injEq] at hs
    obtain ⟨rfl, rfl⟩ := hs
    exact bd_11_2_
  | 12, hf, hD =>
    cases hf; cases hD
    have hs : (n, is) ∈ [(2, [])] := hs
    simp only [List.mem_cons, List.not_mem_nil, or_false, Prod.mk.injEq] at hs
    obtain ⟨rfl, rfl⟩ := hs
    exact bd_12_2_
  | 13, hf, hD =>
    cases hf; cases hD
    have hs : (n, is) ∈ [(1, [])] := hs
    simp only [List.mem_cons, List.not_mem_nil, or_false, Prod.mk.injEq] at hs
    obtain ⟨rfl, rfl⟩ := hs
    exact bd_13_1_
  | 14, hf, hD =>
    cases hf; cases hD
    have hs : (n, is) ∈ [(1, [])] := hs
    simp only [List.mem_cons, List.not_mem_nil, or_false, Prod.mk.injEq] at hs
    obtain ⟨rfl, rfl⟩ := hs
    exact bd_14_1_
  | 15, hf, hD =>
    cases hf; cases hD
    have hs : (n, is) ∈ [(1, [])] := hs
    simp only [List.mem_cons, List.not_mem_nil, or_false, Prod.mk.injEq] at hs
    obtain ⟨rfl, rfl⟩ := hs
    exact bd_15_1_
  | 16, hf, hD =>
    cases hf; cases hD
    have hs : (n, is) ∈ [(2, [])] := hs
    simp only [List.mem_cons, List.not_mem_nil, or_false, Prod.mk.injEq] at hs
    obtain ⟨rfl, rfl⟩ := hs
    exact bd_16_2_
  | 17, hf, hD =>
    cases hf; cases hD
    have hs : (n, is) ∈ [(1, [])] := hs
    simp only [List.mem_cons, List.not_mem_nil, or_false, Prod.mk.injEq] at hs
    obtain ⟨rfl, rfl⟩ := hs
    exact bd_17_1_
  | 18, hf, hD =>
    cases hf; cases hD
    have hs : (n, is) ∈ [(2, [])] := hs
    simp only [List.mem_cons, List.not_mem_nil, or_false, Prod.mk.injEq] at hs
    obtain ⟨rfl, rfl⟩ := hs
    exact bd_18_2_
  | 19, hf, hD =>
    cases hf; cases hD
    have hs : (n, is) ∈ [(1, [])] := hs
    simp only [List.mem_cons, List.not_mem_nil, or_false, Prod.mk.injEq] at hs
    obtain ⟨rfl, rfl⟩ := hs
    exact bd_19_1_
  | 20, hf, hD =>
    cases hf; cases hD
    have hs : (n, is) ∈ [(2, [])] := hs
    simp only [List.mem_cons, List.not_mem_nil, or_false, Prod.mk.injEq] at hs
    obtain ⟨rfl, rfl⟩ := hs
    exact bd_20_2_
  | 21, hf, hD =>
    cases hf; cases hD
    have hs : (n, is) ∈ [(3, [])] := hs
    simp only [List.mem_cons, List.not_mem_nil, or_false, Prod.mk.injEq] at hs
    obtain ⟨rfl, rfl⟩ := hs
    exact bd_21_3_
  | 22, hf, hD =>
    cases hf; cases hD
    have hs : (n, is) ∈ [(1, [])] := hs
    simp only [List.mem_cons, List.not_mem_nil, or_false, Prod.mk.injEq] at hs
    obtain ⟨rfl, rfl⟩ := hs
    exact bd_22_1_
  | f + 23, hf, hD => cases hf
theorem bx1 : BindsX xt := ⟨List.forall_mem_cons.mpr ⟨fun kV doc pm an cdv ct us h => match us, h with | [a0, a1], _ => rfl, List.forall_mem_cons.mpr ⟨fun kV doc pm an cdv ct us h => match us, h with | [a0, a1], _ => rfl, List.forall_mem_cons.mpr ⟨fun kV doc pm an cdv ct us h => match us, h with | [a0, a1], _ => rfl, List.forall_mem_cons.mpr ⟨fun kV doc pm an cdv ct us h => match us, h with | [a0, a1], _ => rfl, fun _ z => by cases z⟩⟩⟩⟩, fun m hm => by
  cases hm
  exact fun kV doc pm an cdv ct us h => match us, h with | [a0], _ => rfl⟩
theorem ok1 : okAll fis blt spi xt dfs = true := by kernel_rfl
theorem dΔ : dfs.map (·.d) = Δ := rfl
abbrev R : PySem.W.OpenRow := PySem.W.OpenLaw.row PySem.Challenge.rw_fallrows_k37_whole_main_rows_pushed
abbrev fnD : List He.DefD := defsD fis dfs xt
abbrev faD : List He.Fa := factsD fis blt
abbrev hkD : PySem.W.Hook := He.hookX 6 faD fnD [] (tfD tf) (exB xt tf)
def obD (s : PySem.W.SharedT) : He.AlX := He.obsX 6 faD fnD [] (tfD tf) (exB xt tf) (HandSHeadRun.getT s)
theorem obD_eq (s : PySem.W.SharedT) : obD s = hkD.obs s.abs := He.obsX_eq (HandSHeadRun.getT_eq s)
def lo0 : List Str := ["is_list", "is_whole", "RowError", "BadRow", "BadNumber", "is_falling_of", "check_row", "check_number"]
def lo1 : List Str := ["TooHigh", "TooLow", "rank_of", "pushed", "pulled", "_law_stream", "_law_draw", "_law_pick"]
def lo2 : List Str := ["_law_same", "_law_loose", "_law_copied", "_law_spoilt", "_law_rows", "_law_row", "_law_rank", "_law_pushed"]
def lo3 : List Str := ["_law_met", "_law_pulled", "_law_asked_right"]
def looseD : List Str := lo0 ++ lo1 ++ lo2 ++ lo3
theorem runD (w : World) : HandSHeadRun.RunEq R (PySem.W.view R.prog [33]) hkD obD 20000 looseD w := by
  intro os
  kernel_rfl
end Q
open PySem PySem.W PySem.Calls PyProof.Rows
theorem holds_fallrows_k37_whole_main_rows_pushed : PySem.Challenge.rw_fallrows_k37_whole_main_rows_pushed.Holds := by
  w_on; o_law
  refine HandSHeadRun.head_any (r := Q.R) (q := view Q.R.prog [33]) (H := Q.hkD)
    (ob := Q.obD) (M := 20000) (loose := Q.looseD) (d := HandSHeadRun.topDef Q.R.prog 33) (kwd := []) Q.obD_eq
    (by kernel_rfl) (fun s => by kernel_rfl) Q.runD (by kernel_rfl) (by kernel_rfl) (by kernel_rfl) (by rfl)
    (by first | assumption | decide +kernel) (by decide +kernel) ⟨rfl, rfl, rfl, rfl, rfl, by decide +kernel⟩ ?hw ?hc
  case hw => w_witness2
  case hc =>
    refine MP.walk1 (l := PySem.Challenge.rw_fallrows_k37_whole_main_rows_pushed) (n := 63) (k := 3 * 40) (x := "script") rfl (by decide) (by kernel_rfl) ⟨rfl, by decide, by decide⟩ ?_
    intro w mg fa h Y G hmg0
    obtain ⟨K, KX, c⟩ := Y
    have hmg : mg ("law" : PySem.Str) = some (.ref fa) := by
      have e : (HandSHeadRun.topDef Q.R.prog 33).name = ("law" : PySem.Str) := by kernel_rfl
      rw [← e]
      exact hmg0
    exact MP.law_F (P := (PySem.Challenge.rw_fallrows_k37_whole_main_rows_pushed).prog) (w := w) (k := 40) (f := 22) (Wf := 100000) (x := "script") c KX G Q.ok1 Q.bd1 Q.bx1 rfl hmg (by decide) Q.plain
theorem PySem.Challenge.cw_fallrows_k37_whole_main_rows_pushed_holds : PySem.Challenge.rw_fallrows_k37_whole_main_rows_pushed.Holds :=
  holds_fallrows_k37_whole_main_rows_pushed
