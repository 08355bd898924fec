import PyProof.Rows.All
import Wide.All
import OpenK.AllK
import Wide.FinOn
import HandS.ForMost
import HandS.FStr
import HandS.TupAny
import HandS.TupMul
import HandS.Wide
import HandS.Style
import HandS.Conv
import HandS.Deep
import KE.KeyNested
import KE.KDictKeyed
import HandS.Lambda
import HandS.SortInts
import HandS.Records
import HandS.RaiseMore
import HandS.Flow
import HandS.IsInst
import HandS.Star
import HandS.Strs
import HandS.ListItems
import KE.KDictItemsList
import KE.KDictWalk
import HandS.Zip
import KE.GoesMore
import KE.GoesEnum
import HandS.DictComp
import HandS.SetBool
import HandS.SetKeys
import PyProof.SetRoads
import PyProof.CollectIter
import PyProof.WalksMore
import HandS.SetFor
import HandS.ExcInit
import HandS.ExcCtx
import HandS.ExcSuper
import HandS.ExcIs
import HandS.ExcField
import KE.KSuper
import KE.KExcSuper
import HandS.HotCalls
import HandS.Exc
import HandS.Ends
import HandS.Words
import HandS.Defaults
import HandS.EndTab
import PySem.Challenge.RW_amidlinks_k06_whole_writes_turned
set_option Elab.async false
set_option linter.all false
set_option maxRecDepth 100000
set_option maxHeartbeats 4000000
/-! # Ev, part 1: values, the mini language, its evaluator. Plain Lean: no machine in sight. -/
namespace Ev
open PySem

/-! ### values -/
/-- built-in classes -/
inductive Ty where | int | bool | str | tuple | list | dict
  deriving DecidableEq
def Ty.nm : Ty → String
  | .int => "int"
  | .bool => "bool"
  | .str => "str"
  | .tuple => "tuple"
  | .list => "list"
  | .dict => "dict"
/-- fz: the script, a locked list; ref: a cell of the evaluator's heap -/
inductive PV where
  | non | bl (b : Bool) | int (i : Int) | str (x : Str)
  | tup (xs : List PV) | lst (xs : List PV) | fz (ns : List Int) | ref (n : Nat) | ty (t : Ty)
  deriving Inhabited
mutual
def PV.d : PV → PyData
  | .non => .none
  | .bl b => .bool b
  | .int i => .int i
  | .str x => .str x
  | .tup xs => .tuple (PV.ds xs)
  | .lst xs => .list (PV.ds xs)
  | .fz _ => .none
  | .ref _ => .none
  | .ty _ => .none
def PV.ds : List PV → List PyData
  | [] => []
  | x :: xs => x.d :: PV.ds xs
end
mutual
/-- no cell, no script in it -/
def PV.pure : PV → Bool
  | .non => true
  | .bl _ => true
  | .int _ => true
  | .str _ => true
  | .tup xs => PV.pures xs
  | .lst xs => PV.pures xs
  | .fz _ => false
  | .ref _ => false
  | .ty _ => false
def PV.pures : List PV → Bool
  | [] => true
  | x :: xs => x.pure && PV.pures xs
end
/-- a result: a value, or a list that nobody else holds -/
inductive Res where
  | val (v : PV) | new (xs : List PV)
def Res.pv : Res → PV
  | .val v => v
  | .new xs => .lst xs
/-- a local name: unbound, a value, a list that is this name's own -/
inductive Slot where
  | no | val (v : PV) | own (xs : List PV) | x
  deriving Inhabited
abbrev Key := L2.Key
def Res.slot : Res → Slot
  | .val v => .val v
  | .new xs => .own xs
inductive Cell where
  | dk (kvs : List (Key × PV)) | dn (kvs : List (PV × PV)) | ls (xs : List PV) | tb (q : Str)
structure G where
  sl : List Slot
  hp : List Cell
/-- an exception: which class, its arguments -/
structure EX where
  cls : Nat
  args : List PV
/-- exc: raised; bad: the evaluator does not know -/
inductive R (α : Type) where
  | ok (a : α) (g : G) | exc (x : EX) (g : G) | bad
abbrev M (α : Type) := G → R α
def R.bind {α β : Type} (r : R α) (f : α → M β) : R β := match r with
  | .ok a g => f a g
  | .exc x g => .exc x g
  | .bad => .bad
/-- where nothing may be raised -/
def noX {α : Type} : R α → R α
  | .ok a g => .ok a g
  | _ => .bad
theorem noX_nx {α : Type} {r : R α} (x : EX) (g : G) : noX r ≠ .exc x g := by
  cases r <;> exact nofun
theorem noX_eq {α : Type} {r : R α} {a : α} {g : G} (h : noX r = .ok a g) : r = .ok a g := by
  cases r with
  | ok b k => exact h
  | exc x k => cases h
  | bad => cases h
@[simp] theorem noX_ok {α : Type} {a : α} {g : G} : noX (.ok a g) = .ok a g := rfl
@[simp] theorem noX_exc {α : Type} {a : EX} {g : G} : noX (.exc a g : R α) = .bad := rfl
@[simp] theorem noX_bad {α : Type} : noX (.bad : R α) = .bad := rfl
@[simp] theorem R.bind_exc {α β : Type} {a : EX} {g : G} {f : α → M β} : (R.exc a g : R α).bind f = .exc a g := rfl
@[simp] theorem R.bind_ok {α β : Type} {a : α} {g : G} {f : α → M β} : (R.ok a g).bind f = f a g := rfl
@[simp] theorem R.bind_bad {α β : Type} {f : α → M β} : (R.bad : R α).bind f = .bad := rfl
def lift {α : Type} (o : Option α) : M α := fun g => match o with
  | some a => .ok a g
  | none => .bad
@[simp] theorem lift_some {α : Type} {a : α} {g : G} : lift (some a) g = .ok a g := rfl
@[simp] theorem lift_none {α : Type} {g : G} : lift (none : Option α) g = .bad := rfl

/-! ### the language -/
inductive BO where | add | sub | mul | fdiv | mod | pow
  deriving DecidableEq
inductive CO where | eq | ne | lt | le | gt | ge | isN | notN | inn | nin
  deriving DecidableEq
inductive BI where | len | int | str | repr | list | tuple | min2 | max2 | isi | all | any | sorted | sum | max1 | min1
  deriving DecidableEq
/-- methods that change nothing -/
inductive MN where | index | get
  deriving DecidableEq
inductive MT where | nm (i : Nat) | tp (is : List Nat)
mutual
inductive ME where
  | cst (v : PV)
  | var (i : Nat)
  | tyn (t : Ty)
  | tup (es : MEs) | lst (es : MEs)
  | bin (o : BO) (a b : ME)
  | cmp (o : CO) (a b : ME)
  | chn (o p : CO) (a b d : ME)
  | neg (a : ME) | nt (a : ME) | an (a b : ME) | orr (a b : ME) | ite (c a b : ME)
  | idx (a b : ME)
  | slc (a : ME) (lo hi : MO)
  | rev (a : ME)
  | call (f : Nat) (es : MEs) (ks : MEs)
  | bi (f : BI) (es : MEs)
  | join (o a : ME)
  | app (i : Nat) (a : ME)
  | pop (i : Nat) (k : MO)
  | mt (m : MN) (o : ME) (es : MEs)
  | itl (a : ME)
  | lrg (it : MI)
  | ext (i : Nat) (a : ME)
  | lc (t : MT) (it : MI) (c : MO) (e : ME)
  | lc2 (t : MT) (it : MI) (c : MO) (t2 : MT) (it2 : MI) (c2 : MO) (e : ME)
  | dcn (t : MT) (it : MI) (c : MO) (k e : ME)
  | lset (i : Nat) (a : ME)
  | fs (es : MEs)
  | dct (ks : List Str) (vs : MEs)
  | dnew
  | lnew (e : ME)
  | lapp (o a : ME)
  | glb (x : Str) (v : PV)
  | lset2 (a : ME)
  | said (t : Nat) (q : Str) (r : Nat) (e : ME)
  | hx (s i : Nat)
inductive MEs where
  | nil | cons (e : ME) (es : MEs) | star (e : ME) (es : MEs)
inductive MO where
  | no | so (e : ME)
inductive MI where
  | it (a : ME) | enu (a : ME) | zip (a b : ME) | rg1 (a : ME) | rg2 (a b : ME)
end
mutual
inductive MS where
  | asg (t : MT) (e : ME)
  | par (is : List Nat) (es : MEs)
  | put (o k e : ME)
  | star (i j : Nat) (e : ME)
  | ex (e : ME)
  | iff (c : ME) (a b : MSs)
  | for_ (t : MT) (it : MI) (b : MSs)
  | ret (e : ME)
  | retN
  | pas | brk | cnt
  | nvr
  | rs (k : Nat) (es : MEs)
inductive MSs where
  | nil | cons (s : MS) (r : MSs)
end
/-- a call: which def, its arguments, the values of its keywords -/
inductive Out where
  | ret (r : Res) | exc (x : EX)
abbrev Call := Nat → List PV → List PV → List Cell → Option (Out × List Cell)

/-! ### operators -/
def ck {α : Type} (c : Prop) [Decidable c] (r : α) : Option α := if c then some r else none
def addV : PV → PV → Option Res
  | .int i, .int j => some (.val (.int (i + j)))
  | .str x, .str y => ck (x.length + y.length ≤ sizeLine) (.val (.str (x ++ y)))
  | .lst xs, .lst ys => ck (xs.length + ys.length ≤ sizeLine) (.new (xs ++ ys))
  | .tup xs, .tup ys => ck (xs.length + ys.length ≤ sizeLine) (.val (.tup (xs ++ ys)))
  | _, _ => none
def mulV : PV → PV → Option Res
  | .int i, .int j => ck ((-(2 ^ 64) < i ∧ i < 2 ^ 64) ∨ (-(2 ^ 64) < j ∧ j < 2 ^ 64)) (.val (.int (i * j)))
  | .lst xs, .int k => ck (-(2 ^ 63) ≤ k ∧ k < 2 ^ 63 ∧ xs.length * k.toNat ≤ sizeLine) (.new (List.replicate k.toNat xs).flatten)
  | _, _ => none
def subV : PV → PV → Option Res
  | .int i, .int j => some (.val (.int (i - j)))
  | _, _ => none
def fdivV : PV → PV → Option Res
  | .int i, .int j => ck (0 < j ∧ j.natAbs.log2 < 9000) (.val (.int (i / j)))
  | _, _ => none
def modV : PV → PV → Option Res
  | .int i, .int j => ck (0 < j) (.val (.int (i % j)))
  | _, _ => none
def powV : PV → PV → Option Res
  | .int i, .int j => ck (0 ≤ j ∧ j ≤ 1000000 ∧ i.natAbs < 2 ^ 64) (.val (.int (i ^ j.toNat)))
  | _, _ => none
def binV (o : BO) : PV → PV → Option Res := match o with
  | .add => addV
  | .sub => subV
  | .mul => mulV
  | .fdiv => fdivV
  | .mod => modV
  | .pow => powV
/-- == of data; strings and numbers first -/
def eqV : PV → PV → Option Bool
  | .non, .non => some true
  | .int i, .int j => some (decide (i = j))
  | .bl i, .bl j => some (decide (i = j))
  | .str i, .str j => some (decide (i = j))
  | .int _, .str _ => some false
  | .str _, .int _ => some false
  | .bl _, .str _ => some false
  | .str _, .bl _ => some false
  | .non, .int _ => some false
  | .int _, .non => some false
  | .non, .str _ => some false
  | .str _, .non => some false
  | x, y => ck (x.pure = true ∧ y.pure = true ∧ SeqAt.shaped x.d = true ∧ SeqAt.shaped y.d = true) (PyData.eqv x.d y.d)
/-- a scalar -/
def flat : PV → Bool
  | .non => true
  | .bl _ => true
  | .int _ => true
  | .str _ => true
  | _ => false
def eqF : PV → PV → Bool
  | .non, .non => true
  | .bl a, .bl b => a == b
  | .bl a, .int b => (if a then 1 else 0) == b
  | .int a, .bl b => a == (if b then 1 else 0)
  | .int a, .int b => a == b
  | .str a, .str b => a == b
  | _, _ => false
def inV (x : PV) : PV → Option Bool
  | .lst xs => if flat x = true ∧ xs.all flat = true then some (xs.any fun y => eqF y x)
    else ck (x.pure = true ∧ PV.pures xs = true ∧ SeqAt.shaped x.d = true ∧ SeqAt.shaped (.list (PV.ds xs)) = true) (xs.any fun y => PyData.eqv y.d x.d)
  | .tup xs => if flat x = true ∧ xs.all flat = true then some (xs.any fun y => eqF y x)
    else ck (x.pure = true ∧ PV.pures xs = true ∧ SeqAt.shaped x.d = true ∧ SeqAt.shaped (.tuple (PV.ds xs)) = true) (xs.any fun y => PyData.eqv y.d x.d)
  | .str t => (match x with
    | .str s => (match s.cps.toList with
      | [c] => some (decide (c ∈ t.cps.toList))
      | _ => none)
    | _ => none)
  | _ => none
def ordV (f : Int → Int → Bool) : PV → PV → Option Bool
  | .int i, .int j => some (f i j)
  | _, _ => none
def isNone : PV → Bool
  | .non => true
  | _ => false
def isV (x y : PV) : Option Bool := if isNone y = true then some (isNone x) else none
def cmpV (o : CO) : PV → PV → Option Bool := match o with
  | .eq => eqV
  | .ne => fun x y => (eqV x y).map (!·)
  | .lt => ordV fun i j => decide (i < j)
  | .le => ordV fun i j => decide (i ≤ j)
  | .gt => ordV fun i j => decide (j < i)
  | .ge => ordV fun i j => decide (j ≤ i)
  | .isN => isV
  | .notN => fun x y => (isV x y).map (!·)
  | .inn => inV
  | .nin => fun x y => (inV x y).map (!·)
def truV : PV → Option Bool
  | .non => some false
  | .bl b => some b
  | .int i => some (i != 0)
  | .str x => ck (x.length ≤ sizeLine) ((x.length : Int) != 0)
  | .lst xs => some (!xs.isEmpty)
  | .tup xs => some (!xs.isEmpty)
  | .fz xs => some (!xs.isEmpty)
  | .ref _ => none
  | .ty _ => none
def ixN (n : Nat) (i : Int) : Option Nat := if 0 ≤ i then (if i < n then some i.toNat else none) else if -(n : Int) ≤ i then some (i + n).toNat else none
def atI {α : Type} (xs : List α) (i : Int) : Option α := (ixN xs.length i).bind fun j => xs[j]?
def idxV : PV → PV → Option PV
  | .lst xs, .int i => atI xs i
  | .tup xs, .int i => atI xs i
  | .str x, .int i => if x.length ≤ sizeLine then (atI x.cps.toList i).map fun c => .str ⟨#[c]⟩ else none
  | _, _ => none
def cut {α : Type} (xs : List α) (lo hi : Option Int) : List α := (xs.drop (HT.sIx xs.length 0 lo)).take (HT.sIx xs.length xs.length hi - HT.sIx xs.length 0 lo)
def slcV : PV → Option Int → Option Int → Option Res
  | .lst xs, lo, hi => some (.new (cut xs lo hi))
  | .tup xs, lo, hi => some (.val (.tup (cut xs lo hi)))
  | .fz xs, lo, hi => some (.new ((cut xs lo hi).map PV.int))
  | .str x, lo, hi => ck (x.length ≤ sizeLine) (.val (.str (L2.cutS x lo hi)))
  | _, _, _ => none
def revV : PV → Option Res
  | .lst xs => some (.new xs.reverse)
  | .tup xs => some (.val (.tup xs.reverse))
  | _ => none
/-- the texts of a list of texts -/
def txts : List PV → Option (List Str)
  | [] => some []
  | .str x :: r => (txts r).map (x :: ·)
  | _ => none
def joinV : PV → PV → Option PV
  | .str a, .lst xs => (txts xs).bind fun ys => ck ((ys.map (·.length)).sum + ys.length * a.length ≤ 16777216) (.str (Txt.join a ys))
  | .str a, .tup xs => (txts xs).bind fun ys => ck ((ys.map (·.length)).sum + ys.length * a.length ≤ 16777216) (.str (Txt.join a ys))
  | _, _ => none
def bls : List PV → Option (List Bool)
  | [] => some []
  | .bl b :: r => (bls r).map (b :: ·)
  | _ => none
def nts : List PV → Option (List Int)
  | [] => some []
  | .int b :: r => (nts r).map (b :: ·)
  | _ => none
def tys : List PV → Option (List Ty)
  | [] => some []
  | .ty b :: r => (tys r).map (b :: ·)
  | _ => none
def isiV : PV → Ty → Option Bool
  | .non, _ => some false
  | .bl _, t => some (decide (t = .bool) || decide (t = .int))
  | .int _, t => some (decide (t = .int))
  | .str _, t => some (decide (t = .str))
  | .tup _, t => some (decide (t = .tuple))
  | .lst _, t => some (decide (t = .list))
  | _, _ => none
def isiVs (x : PV) : List Ty → Option Bool
  | [] => none
  | [t] => isiV x t
  | t :: r => (isiV x t).bind fun b => if b = true then some true else isiVs x r
def insI (x : Int) : List Int → List Int
  | [] => [x]
  | y :: r => if x ≤ y then x :: y :: r else y :: insI x r
def sortI : List Int → List Int
  | [] => []
  | x :: r => insI x (sortI r)
def maxI : List Int → Option Int
  | [] => none
  | x :: r => some (r.foldl max x)
def minI : List Int → Option Int
  | [] => none
  | x :: r => some (r.foldl min x)
def isDisp : PV → Bool
  | .lst _ => true
  | .tup _ => true
  | _ => false
def biV : BI → List PV → Option Res
  | .len, [.lst xs] => some (.val (.int xs.length))
  | .len, [.tup xs] => some (.val (.int xs.length))
  | .len, [.str x] => ck (x.length ≤ sizeLine) (.val (.int x.length))
  | .int, [.int i] => some (.val (.int i))
  | .int, [.bl b] => some (.val (.int (if b then 1 else 0)))
  | .str, [.int i] => ck (i.natAbs.log2 < 1920) (.val (.str (toString i)))
  | .str, [.str x] => some (.val (.str x))
  | .repr, [x] => ck (x.pure = true ∧ x.d.showable = true ∧ x.d.depth ≤ 100 ∧ x.d.shown.length ≤ sizeLine) (.val (.str x.d.shown))
  | .list, [.lst xs] => some (.new xs)
  | .list, [.tup xs] => some (.new xs)
  | .tuple, [.lst xs] => some (.val (.tup xs))
  | .tuple, [.tup xs] => some (.val (.tup xs))
  | .min2, [.int i, .int j] => some (.val (.int (if j < i then j else i)))
  | .max2, [.int i, .int j] => some (.val (.int (if j > i then j else i)))
  | .isi, [x, .ty t] => (isiV x t).map fun b => .val (.bl b)
  | .isi, [x, .tup ts] => (tys ts).bind fun us => (isiVs x us).map fun b => .val (.bl b)
  | .all, [.lst xs] => (bls xs).map fun bs => .val (.bl (bs.all id))
  | .any, [.lst xs] => (bls xs).map fun bs => .val (.bl (bs.any id))
  | .sorted, [.lst xs] => (nts xs).map fun ns => .new ((sortI ns).map PV.int)
  | .sorted, [.tup xs] => (nts xs).map fun ns => .new ((sortI ns).map PV.int)
  | .sum, [.lst xs] => (nts xs).map fun ns => .val (.int ns.sum)
  | .max1, [.lst xs] => (nts xs).bind fun ns => (maxI ns).map fun m => .val (.int m)
  | .min1, [.lst xs] => (nts xs).bind fun ns => (minI ns).map fun m => .val (.int m)
  | _, _ => none
def fmtV : PV → Option Str
  | .str x => ck (x.length ≤ sizeLine) x
  | .int i => ck (i.natAbs.log2 < 1920) (toString i)
  | _ => none
/-- a dict with keys ints and texts -/
def keyOf : PV → Option Key
  | .int i => some (.inl i)
  | .str x => some (.inr x)
  | _ => none
mutual
/-- a value as a dict's key -/
def nk : PV → Option NestedKey
  | .non => some .none
  | .bl b => some (.num (if b = true then 1 else 0))
  | .int i => some (.num i)
  | .str x => some (.text x)
  | .tup ys => (nks ys).map NestedKey.tup
  | _ => none
def nks : List PV → Option (List NestedKey)
  | [] => some []
  | y :: ys => (nk y).bind fun k => (nks ys).map (k :: ·)
end
/-- .. a tuple -/
def nkT : PV → Option NestedKey
  | .tup ys => (nks ys).bind fun ks => if (NestedKey.tup ks).depth ≤ 8 then some (.tup ks) else none
  | _ => none
def keyPV : Key → PV
  | .inl i => .int i
  | .inr x => .str x
def getN (kvs : List (PV × PV)) (n : NestedKey) : Option PV := (kvs.find? fun kv => decide (nkT kv.1 = some n)).map (·.2)
def putN (kvs : List (PV × PV)) (n : NestedKey) (k v : PV) : List (PV × PV) :=
  if (kvs.any fun kv => decide (nkT kv.1 = some n)) = true then kvs.map (fun kv => if nkT kv.1 = some n then (kv.1, v) else kv) else kvs ++ [(k, v)]
def getK (kvs : List (Key × PV)) (k : Key) : Option PV := (kvs.find? fun kv => decide (kv.1 = k)).map (·.2)
def putK (kvs : List (Key × PV)) (k : Key) (v : PV) : List (Key × PV) :=
  if (kvs.any fun kv => decide (kv.1 = k)) = true then kvs.map (fun kv => if kv.1 = k then (kv.1, v) else kv) else kvs ++ [(k, v)]

/-- what a dict holds at a key, if it is one -/
def getC : Cell → PV → Option (Option PV)
  | .dk kvs, k => match keyOf k with
    | some key => some (getK kvs key)
    | none => match kvs with
      | [] => (nkT k).map fun _ => none
      | _ => none
  | .dn kvs, k => (nkT k).map (getN kvs)
  | .ls _, _ => none
  | .tb _, _ => none
def putC : Cell → PV → PV → Option Cell
  | .dk kvs, k, v => match keyOf k with
    | some key => ck (kvs.length < sizeLine) (.dk (putK kvs key v))
    | none => match kvs with
      | [] => (nkT k).map fun _ => .dn [(k, v)]
      | _ => none
  | .dn kvs, k, v => (nkT k).bind fun n => ck (kvs.length < sizeLine) (.dn (putN kvs n k v))
  | .ls _, _, _ => none
  | .tb _, _, _ => none
/-- a dict -/
def isD : Cell → Bool
  | .ls _ => false
  | .tb _ => false
  | _ => true
theorem getC_D {c : Cell} {k : PV} {o : Option PV} (e : getC c k = some o) : isD c = true := by
  cases c with
  | ls _ => cases e
  | tb _ => cases e
  | _ => rfl
def pairsC : Cell → List PV
  | .dk kvs => kvs.map fun kv => .tup [keyPV kv.1, kv.2]
  | .dn kvs => kvs.map fun kv => .tup [kv.1, kv.2]
  | .ls _ => []
  | .tb _ => []
def keysC : Cell → List PV
  | .dk kvs => kvs.map fun kv => keyPV kv.1
  | .dn kvs => kvs.map fun kv => kv.1
  | .ls _ => []
  | .tb _ => []
def valsC : Cell → List PV
  | .dk kvs => kvs.map (·.2)
  | .dn kvs => kvs.map (·.2)
  | .ls _ => []
  | .tb _ => []
def idxOf (x : PV) : List PV → Option Nat
  | [] => none
  | y :: r => if eqF y x = true then some 0 else (idxOf x r).map (· + 1)
/-- a comparison; in may ask a dict -/
def cmpG (o : CO) (x y : PV) (hp : List Cell) : Option Bool := match o, y with
  | .inn, .ref n => (hp[n]?).bind fun c => match c with
    | .ls ys => inV x (.lst ys)
    | c => (getC c x).map Option.isSome
  | .nin, .ref n => (hp[n]?).bind fun c => match c with
    | .ls ys => (inV x (.lst ys)).map (!·)
    | c => (getC c x).map fun o => !o.isSome
  | o, y => cmpV o x y
def isLst : PV → Bool
  | .lst _ => true
  | _ => false
/-- a thing that has the method -/
def mtOk : MN → PV → List Cell → Option Unit
  | .index, .tup _, _ => some ()
  | .index, .lst _, _ => some ()
  | .get, .ref n, hp => (hp[n]?).bind fun c => if isD c = true then some () else none
  | _, _, _ => none
def mtV : MN → PV → List PV → List Cell → Option Res
  | .index, .tup xs, [y], _ => (ck (flat y = true ∧ xs.all flat = true) ()).bind fun _ => (idxOf y xs).map fun (i : Nat) => Res.val (PV.int (i : Int))
  | .index, .lst xs, [y], _ => (ck (flat y = true ∧ xs.all flat = true) ()).bind fun _ => (idxOf y xs).map fun (i : Nat) => Res.val (PV.int (i : Int))
  | .get, .ref n, [k], hp => (hp[n]?).bind fun c => (getC c k).map fun o => .val (o.getD .non)
  | .get, .ref n, [k, d], hp => (ck (isLst d = false) ()).bind fun _ => (hp[n]?).bind fun c => (getC c k).map fun o => .val (o.getD d)
  | _, _, _, _ => none
/-! ### the evaluator -/
/-- an operand: a value, or what a name holds, looked at late -/
inductive Opd where
  | v (x : PV) | s (i : Nat)
def peek (i : Nat) : M PV := fun g => match g.sl[i]? with
  | some (.val v) => .ok v g
  | some (.own xs) => .ok (.lst xs) g
  | _ => .bad
def look : Opd → M PV
  | .v x => fun g => .ok x g
  | .s i => peek i
/-- a name read: a list of its own is its own no longer -/
def rdVar (i : Nat) : M Res := fun g => match g.sl[i]? with
  | some (.val v) => .ok (.val v) g
  | some (.own xs) => .ok (.val (.lst xs)) { g with sl := g.sl.set i (.val (.lst xs)) }
  | _ => .bad
def setVar (i : Nat) (r : Res) : M Unit := fun g => if i < g.sl.length then .ok () { g with sl := g.sl.set i r.slot } else .bad
def setVars : List Nat → List PV → M Unit
  | [], [] => fun g => .ok () g
  | i :: is, v :: vs => fun g => (setVar i (.val v) g).bind fun _ => setVars is vs
  | _, _ => fun _ => .bad
def bindT : MT → Res → M Unit
  | .nm i, r => setVar i r
  | .tp is, .val (.tup xs) => setVars is xs
  | .tp _, _ => fun _ => .bad
def MT.slots : MT → List Nat
  | .nm i => [i]
  | .tp is => is
/-- the slots is of sl as they are in old -/
def wipe (sl : List Slot) : List Nat → List Slot
  | [] => sl
  | i :: is => (wipe sl is).set i .no
def back (old sl : List Slot) : List Nat → List Slot
  | [] => sl
  | i :: is => (back old sl is).set i (old.getD i .no)
/-- none of the slots holds a list of its own -/
def noOwn (sl : List Slot) : List Nat → Bool
  | [] => true
  | i :: is => (match sl[i]? with
    | some (.own _) => false
    | _ => true) && noOwn sl is
def itemsOf : PV → Option (List PV)
  | .lst xs => some xs
  | .tup xs => some xs
  | .fz ns => some (ns.map PV.int)
  | _ => none
def rgItems (lo hi : Int) : List PV := (List.range (hi - lo).toNat).map fun k => PV.int (lo + (k : Nat))
def rgB : Int → Bool
  | .ofNat n => decide (n.log2 < 62)
  | .negSucc n => decide (n.log2 < 62)
/-- -(2 ^ 62) ≤ i < 2 ^ 62, told so that nothing is reckoned of an unknown number -/
structure rgOk (i : Int) : Prop where
  ok : rgB i = true
instance {i : Int} : Decidable (rgOk i) := decidable_of_iff (rgB i = true) ⟨fun h => ⟨h⟩, fun h => h.ok⟩
theorem log62 (n : Nat) : n.log2 < 62 ↔ n < 2 ^ 62 := by
  by_cases h : n = 0
  · subst h
    simp
  · exact Nat.log2_lt h
theorem rgOk_iff {i : Int} : rgOk i ↔ (-(2 ^ 62) ≤ i ∧ i < 2 ^ 62) := by
  have e : rgOk i ↔ rgB i = true := ⟨fun h => h.ok, fun h => ⟨h⟩⟩
  rw [e]
  cases i with
  | ofNat n =>
    show decide (n.log2 < 62) = true ↔ _
    rw [decide_eq_true_eq, log62]
    show n < 2 ^ 62 ↔ (-(2 ^ 62) ≤ (n : Int) ∧ (n : Int) < 2 ^ 62)
    omega
  | negSucc n =>
    show decide (n.log2 < 62) = true ↔ _
    rw [decide_eq_true_eq, log62]
    omega
def enuL : Nat → List PV → List PV
  | _, [] => []
  | i, x :: r => .tup [.int (i : Nat), x] :: enuL (i + 1) r
def zipL : List PV → List PV → List PV
  | x :: r, y :: s => .tup [x, y] :: zipL r s
  | _, _ => []
/-- two lists, or two tuples -/
def zipV : PV → PV → Option (List PV)
  | .lst xs, .lst ys => some (zipL xs ys)
  | .tup xs, .tup ys => some (zipL xs ys)
  | _, _ => none
/-- the turns of a comprehension -/
def lcGo (own : List Nat) (bd : Res → M Unit) (ts : M Bool) (el : M Res) : List PV → List PV → M (List PV)
  | [], acc => fun g => .ok acc g
  | x :: xs, acc => fun g => (bd (.val x) g).bind fun _ g1 => (ts g1).bind fun b g2 =>
    if b = true then (el g2).bind fun y g3 => if acc.length < sizeLine then lcGo own bd ts el xs (acc ++ [y.pv]) { g3 with sl := wipe g3.sl own } else .bad
    else lcGo own bd ts el xs acc { g2 with sl := wipe g2.sl own }
/-- .. of a comprehension with two for -/
def lc2Go (own : List Nat) (bd : Res → M Unit) (ts : M Bool) (inner : List PV → M (List PV)) : List PV → List PV → M (List PV)
  | [], acc => fun g => .ok acc g
  | x :: xs, acc => fun g => (bd (.val x) g).bind fun _ g1 => (ts g1).bind fun b g2 =>
    if b = true then (inner acc g2).bind fun acc' g3 => lc2Go own bd ts inner xs acc' { g3 with sl := wipe g3.sl own }
    else lc2Go own bd ts inner xs acc { g2 with sl := wipe g2.sl own }
/-- .. of a dict's comprehension -/
def dcGo (own : List Nat) (bd : Res → M Unit) (ts : M Bool) (ke el : M Res) : List PV → Cell → M Cell
  | [], acc => fun g => .ok acc g
  | x :: xs, acc => fun g => (bd (.val x) g).bind fun _ g1 => (ts g1).bind fun b g2 =>
    if b = true then (ke g2).bind fun y g3 => (el g3).bind fun z g4 => (lift (putC acc y.pv z.pv) g4).bind fun acc' g5 => dcGo own bd ts ke el xs acc' { g5 with sl := wipe g5.sl own }
    else dcGo own bd ts ke el xs acc { g2 with sl := wipe g2.sl own }
def popAt (xs : List PV) : Option Int → Option (PV × List PV)
  | none => (xs[xs.length - 1]?).map fun y => (y, xs.dropLast)
  | some i => if rgOk i then (ixN xs.length i).bind fun k => (xs[k]?).map fun y => (y, xs.eraseIdx k) else none
def popV (i : Nat) (j : Option Int) : M Res := fun g => match g.sl[i]? with
  | some (.own xs) => match popAt xs j with
    | some (y, ys) => .ok (.val y) { g with sl := g.sl.set i (.own ys) }
    | none => .bad
  | _ => .bad
def itlV : PV → List Cell → Option Res
  | .ref n, hp => (hp[n]?).bind fun c => if isD c = true then some (.new (pairsC c)) else none
  | _, _ => none
/-- how many unlike ones -/
def distK : List Key → Nat
  | [] => 0
  | x :: r => if (r.any fun y => decide (y = x)) = true then distK r else distK r + 1
def kys : List PV → Option (List Key)
  | [] => some []
  | y :: r => (keyOf y).bind fun k => (kys r).map (k :: ·)
def lsetV (xs : List PV) : Option Res := (kys xs).bind fun ks => ck (ks.length < 4000) (.val (.int (distK ks : Nat)))
def tupsOf : PV → Option (List PV)
  | .tup xs => some xs
  | _ => none
def dictGo : List Str → List PV → List (Key × PV) → List (Key × PV)
  | k :: ks, v :: vs, acc => dictGo ks vs (putK acc (.inr k) v)
  | _, _, acc => acc
def callC (c : Call) (f : Nat) (as ks : List PV) : M Res := fun g => match c f as ks g.hp with
  | some (.ret r, hp) => .ok r { g with hp := hp }
  | some (.exc x, hp) => .exc x { g with hp := hp }
  | none => .bad
def appV (i : Nat) (more : List PV) : M Res := fun g => match g.sl[i]? with
  | some (.own xs) => if xs.length + more.length ≤ sizeLine then .ok (.val .non) { g with sl := g.sl.set i (.own (xs ++ more)) } else .bad
  | _ => .bad
/-- what a for walks: a text's signs, too -/
def itemsI : PV → Option (List PV)
  | .str x => some (x.cps.toList.map fun c => .str ⟨#[c]⟩)
  | y => itemsOf y
theorem itemsI_of {v : PV} {xs : List PV} (h : itemsOf v = some xs) : itemsI v = some xs := by
  cases v <;> first | exact h | cases h
/-- a list made a thing of its own -/
def lnewV : Res → M Res
  | .new xs => fun g => .ok (.val (.ref g.hp.length)) { g with hp := g.hp ++ [.ls xs] }
  | .val _ => fun _ => .bad
def lsAt : PV → M Unit
  | .ref n => fun g => match g.hp[n]? with
    | some (.ls _) => .ok () g
    | _ => .bad
  | _ => fun _ => .bad
def lappV : PV → PV → M Res
  | .ref n, v => fun g => match g.hp[n]? with
    | some (.ls xs) => if xs.length + 1 ≤ sizeLine then .ok (.val .non) { g with hp := g.hp.set n (.ls (xs ++ [v])) } else .bad
    | _ => .bad
  | _, _ => fun _ => .bad
/-- o[k]: of a sequence, of a dict -/
def idxG (x k : PV) : M PV := fun g => match x with
  | .ref n => lift ((g.hp[n]?).bind fun c => (getC c k).bind id) g
  | x => lift (idxV x k) g
def putG (x k v : PV) : M Unit := fun g => match x with
  | .ref n => match (g.hp[n]?).bind fun c => putC c k v with
    | some c' => .ok () { g with hp := g.hp.set n c' }
    | none => .bad
  | _ => .bad
/-- the cell t is the table of the code objects called q -/
def tbAt (t : Nat) (q : Str) : M Unit := fun g => match g.hp[t]? with
  | some (.tb q') => if q' = q then .ok () g else .bad
  | _ => .bad
/-- ("told", a value), or what the refusal says of an exception -/
def caught (c : Call) (r : Nat) : R Res → R Res
  | .ok v g1 => .ok (.val (.tup [.str "told", v.pv])) g1
  | .exc x g1 => callC c r x.args [.int x.cls] g1
  | .bad => .bad
/-- asked of the handled error -/
def hxV (c : Call) (s i : Nat) : M Res := fun g => match g.sl[s]? with
  | some .x => callC c i [] [] g
  | _ => .bad
def asStr : PV → Option Str
  | .str x => some x
  | _ => none
def asInt : PV → Option Int
  | .int i => some i
  | _ => none

def lookAll : List Opd → M (List PV)
  | [] => fun g => .ok [] g
  | x :: xs => fun g => (look x g).bind fun v g1 => (lookAll xs g1).bind fun vs g2 => .ok (v :: vs) g2
/-- a result's truth -/
def tstOf (f : M Res) : M Bool := fun g => (f g).bind fun r g1 => lift (truV r.pv) g1
def pr (f : M Res) : M Res × M Bool := (f, tstOf f)
/-- an operand: names are looked at late -/
def opdF : ME → M Res → M Opd
  | .var i, _ => fun g => (peek i g).bind fun _ g1 => .ok (.s i) g1
  | _, f => fun g => (f g).bind fun r g1 => .ok (.v r.pv) g1
/-- what a return hands back: a name's own list goes with it -/
def retF : ME → M Res → M Res
  | .var i, f => fun g => match g.sl[i]? with
    | some (.own xs) => .ok (.new xs) { g with sl := g.sl.set i .no }
    | _ => f g
  | _, f => f
def ownAt (i : Nat) : M Unit := fun g => match g.sl[i]? with
  | some (.own _) => .ok () g
  | _ => .bad
def extV (i : Nat) (r : Res) : M Res := match r with
  | .new xs => appV i xs
  | .val (.lst xs) => appV i xs
  | _ => fun _ => .bad
mutual
/-- a value's run, and a test's -/
def E2 (c : Call) : ME → M Res × M Bool
  | .cst v => pr fun g => .ok (.val v) g
  | .var i => pr (rdVar i)
  | .tup es => pr fun g => (evs c es g).bind fun vs g1 => if vs.length ≤ sizeLine then .ok (.val (.tup vs)) g1 else .bad
  | .lst es => pr fun g => (evs c es g).bind fun vs g1 => if vs.length ≤ sizeLine then .ok (.new vs) g1 else .bad
  | .bin o a b => pr fun g => (opdF a (E2 c a).1 g).bind fun x g1 => (opdF b (E2 c b).1 g1).bind fun y g2 => (look x g2).bind fun xv g3 => (look y g3).bind fun yv g4 => lift (binV o xv yv) g4
  | .cmp o a b => pr fun g => (opdF a (E2 c a).1 g).bind fun x g1 => (opdF b (E2 c b).1 g1).bind fun y g2 => (look x g2).bind fun xv g3 => (look y g3).bind fun yv g4 => (lift (cmpG o xv yv g4.hp) g4).bind fun t g5 => .ok (.val (.bl t)) g5
  | .chn o p a b d => pr fun g => ((E2 c a).1 g).bind fun r g1 => ((E2 c b).1 g1).bind fun s g2 => (lift (cmpG o r.pv s.pv g2.hp) g2).bind fun t g3 => if t = true then ((E2 c d).1 g3).bind fun u g4 => (lift (cmpG p s.pv u.pv g4.hp) g4).bind fun k g5 => .ok (.val (.bl k)) g5 else .ok (.val (.bl false)) g3
  | .neg a => pr fun g => ((E2 c a).1 g).bind fun r g1 => (lift (asInt r.pv) g1).bind fun i g2 => .ok (.val (.int (-i))) g2
  | .nt a => (fun g => ((E2 c a).1 g).bind fun r g1 => (lift (truV r.pv) g1).bind fun b g2 => .ok (.val (.bl (!b))) g2,
      fun g => ((E2 c a).2 g).bind fun b g1 => .ok (!b) g1)
  | .an a b => (fun g => ((E2 c a).1 g).bind fun r g1 => (lift (truV r.pv) g1).bind fun t g2 => if t = true then ((E2 c b).1 g2).bind fun s g3 => .ok (.val s.pv) g3 else .ok (.val r.pv) g2,
      fun g => ((E2 c a).2 g).bind fun t g1 => if t = true then (E2 c b).2 g1 else .ok false g1)
  | .orr a b => (fun g => ((E2 c a).1 g).bind fun r g1 => (lift (truV r.pv) g1).bind fun t g2 => if t = true then .ok (.val r.pv) g2 else ((E2 c b).1 g2).bind fun s g3 => .ok (.val s.pv) g3,
      fun g => ((E2 c a).2 g).bind fun t g1 => if t = true then .ok true g1 else (E2 c b).2 g1)
  | .ite t a b => (fun g => ((E2 c t).2 g).bind fun k g1 => if k = true then (E2 c a).1 g1 else (E2 c b).1 g1,
      fun g => ((E2 c t).2 g).bind fun k g1 => if k = true then (E2 c a).2 g1 else (E2 c b).2 g1)
  | .idx a b => pr fun g => (opdF a (E2 c a).1 g).bind fun x g1 => (opdF b (E2 c b).1 g1).bind fun y g2 => (look x g2).bind fun xv g3 => (look y g3).bind fun yv g4 => (idxG xv yv g4).bind fun z g5 => .ok (.val z) g5
  | .slc a lo hi => pr fun g => (opdF a (E2 c a).1 g).bind fun x g1 => (evo c lo g1).bind fun l g2 => (evo c hi g2).bind fun h g3 => (look x g3).bind fun xv g4 => lift (slcV xv l h) g4
  | .rev a => pr fun g => (opdF a (E2 c a).1 g).bind fun x g1 => (look x g1).bind fun xv g2 => lift (revV xv) g2
  | .call f es ks => pr fun g => (evs c es g).bind fun vs g1 => (evs c ks g1).bind fun ws g2 => callC c f vs ws g2
  | .bi f es => pr fun g => (opds c es g).bind fun xs g1 => (lookAll xs g1).bind fun vs g2 => lift (biV f vs) g2
  | .join o a => pr fun g => ((E2 c o).1 g).bind fun r g0 => (lift (asStr r.pv) g0).bind fun t g1 => (opdF a (E2 c a).1 g1).bind fun y g2 => (look y g2).bind fun yv g3 => (lift (joinV (.str t) yv) g3).bind fun z g4 => .ok (.val z) g4
  | .app i a => pr fun g => (ownAt i g).bind fun _ g0 => ((E2 c a).1 g0).bind fun r g1 => appV i [r.pv] g1
  | .ext i a => pr fun g => (ownAt i g).bind fun _ g0 => ((E2 c a).1 g0).bind fun r g1 => extV i r g1
  | .lc t it k e => pr fun g => (evi c it g).bind fun xs g1 => if noOwn g1.sl t.slots = true then (noX (lcGo t.slots (bindT t) (tsto c k) (E2 c e).1 xs [] { g1 with sl := wipe g1.sl t.slots })).bind fun ys g2 =>
      .ok (.new ys) { g2 with sl := back g1.sl g2.sl t.slots } else .bad
  | .fs es => pr fun g => (evf c es Str.empty g).bind fun x g1 => .ok (.val (.str x)) g1
  | .tyn t => pr fun g => .ok (.val (.ty t)) g
  | .pop i k => pr fun g => (ownAt i g).bind fun _ g0 => (evo c k g0).bind fun j g1 => popV i j g1
  | .mt m o es => pr fun g => ((E2 c o).1 g).bind fun r g1 => (lift (mtOk m r.pv g1.hp) g1).bind fun _ g1 => (opds c es g1).bind fun ys g2 => (lookAll ys g2).bind fun yv g3 => lift (mtV m r.pv yv g3.hp) g3
  | .itl a => pr fun g => ((E2 c a).1 g).bind fun r g1 => lift (itlV r.pv g1.hp) g1
  | .lrg it => pr fun g => (evi c it g).bind fun xs g1 => if xs.length ≤ 16777216 then .ok (.new xs) g1 else .bad
  | .lset i a => pr fun g => ((E2 c a).1 g).bind fun r g1 => if i < g1.sl.length then lift ((itemsOf r.pv).bind lsetV) g1 else .bad
  | .dnew => pr fun g => .ok (.val (.ref g.hp.length)) { g with hp := g.hp ++ [.dk []] }
  | .lnew e => pr fun g => ((E2 c e).1 g).bind fun r g1 => lnewV r g1
  | .lapp o a => pr fun g => ((E2 c o).1 g).bind fun r g1 => (lsAt r.pv g1).bind fun _ g1 => ((E2 c a).1 g1).bind fun s g2 => lappV r.pv s.pv g2
  | .glb _ v => pr fun g => .ok (.val v) g
  | .lset2 a => pr fun g => ((E2 c a).1 g).bind fun r g1 => lift ((tupsOf r.pv).bind lsetV) g1
  | .lc2 t it k t2 it2 k2 e => pr fun g => (evi c it g).bind fun xs g1 => if noOwn g1.sl (t.slots ++ t2.slots) = true then (noX (lc2Go (t.slots ++ t2.slots) (bindT t) (tsto c k) (fun acc h => (evi c it2 h).bind fun ys h1 => lcGo t2.slots (bindT t2) (tsto c k2) ((E2 c e).1) ys acc { h1 with sl := wipe h1.sl t2.slots }) xs [] { g1 with sl := wipe g1.sl (t.slots ++ t2.slots) })).bind fun ys g2 =>
      .ok (.new ys) { g2 with sl := back g1.sl g2.sl (t.slots ++ t2.slots) } else .bad
  | .dcn t it k kk e => pr fun g => (evi c it g).bind fun xs g1 => if noOwn g1.sl t.slots = true then (noX (dcGo t.slots (bindT t) (tsto c k) ((E2 c kk).1) ((E2 c e).1) xs (.dk []) { g1 with sl := wipe g1.sl t.slots })).bind fun cl g2 =>
      .ok (.val (.ref g2.hp.length)) { sl := back g1.sl g2.sl t.slots, hp := g2.hp ++ [cl] } else .bad
  | .dct ks vs => pr fun g => (noX (evs c vs g)).bind fun ws g1 => if ks.length = ws.length ∧ ks.length ≤ 15 then .ok (.val (.ref g1.hp.length)) { g1 with hp := g1.hp ++ [.dk (dictGo ks ws [])] } else .bad
  | .said t q r e => pr fun g => (tbAt t q g).bind fun _ g0 => caught c r ((E2 c e).1 g0)
  | .hx s i => pr (hxV c s i)
def evs (c : Call) : MEs → M (List PV)
  | .nil => fun g => .ok [] g
  | .cons e es => fun g => ((E2 c e).1 g).bind fun r g1 => (evs c es g1).bind fun vs g2 => .ok (r.pv :: vs) g2
  | .star e es => fun g => ((E2 c e).1 g).bind fun r g1 => (lift (itemsOf r.pv) g1).bind fun xs g2 => (evs c es g2).bind fun vs g3 => .ok (xs ++ vs) g3
def opds (c : Call) : MEs → M (List Opd)
  | .nil => fun g => .ok [] g
  | .cons e es => fun g => (opdF e (E2 c e).1 g).bind fun r g1 => (opds c es g1).bind fun vs g2 => .ok (r :: vs) g2
  | .star _ _ => fun _ => .bad
def evo (c : Call) : MO → M (Option Int)
  | .no => fun g => .ok none g
  | .so e => fun g => ((E2 c e).1 g).bind fun r g1 => (lift (asInt r.pv) g1).bind fun i g2 => .ok (some i) g2
def evi (c : Call) : MI → M (List PV)
  | .it a => fun g => ((E2 c a).1 g).bind fun r g1 => lift (itemsI r.pv) g1
  | .enu a => fun g => ((E2 c a).1 g).bind fun r g1 => (lift (itemsOf r.pv) g1).bind fun xs g2 => .ok (enuL 0 xs) g2
  | .zip a b => fun g => ((E2 c a).1 g).bind fun r g1 => ((E2 c b).1 g1).bind fun s g2 => lift (zipV r.pv s.pv) g2
  | .rg1 a => fun g => ((E2 c a).1 g).bind fun r g1 => (lift (asInt r.pv) g1).bind fun j g2 => if rgOk j then .ok (rgItems 0 j) g2 else .bad
  | .rg2 a b => fun g => ((E2 c a).1 g).bind fun r g1 => ((E2 c b).1 g1).bind fun s g2 => (lift (asInt r.pv) g2).bind fun i g3 => (lift (asInt s.pv) g3).bind fun j g4 => if rgOk i ∧ rgOk j then .ok (rgItems i j) g4 else .bad
def tsto (c : Call) : MO → M Bool
  | .no => fun g => .ok true g
  | .so e => (E2 c e).2
def evf (c : Call) : MEs → Str → M Str
  | .nil => fun acc g => .ok acc g
  | .star _ _ => fun _ _ => .bad
  | .cons e es => fun acc g => ((E2 c e).1 g).bind fun r g1 => (lift (fmtV r.pv) g1).bind fun x g2 => if (acc ++ x).length ≤ sizeLine then evf c es (acc ++ x) g2 else .bad
end
def ev (c : Call) (e : ME) : M Res := (E2 c e).1
def tst (c : Call) (e : ME) : M Bool := (E2 c e).2
def opd (c : Call) (e : ME) : M Opd := opdF e (ev c e)
/-- values; a list that nobody else holds stays one -/
def evsR (c : Call) : MEs → M (List Res)
  | .nil => fun g => .ok [] g
  | .cons e es => fun g => (ev c e g).bind fun r g1 => match r with
    | .val v => (evsR c es g1).bind fun rs g2 => .ok (.val v :: rs) g2
    | .new xs => (noX (evsR c es g1)).bind fun rs g2 => .ok (.new xs :: rs) g2
  | .star _ _ => fun _ => .bad

section
variable (c : Call)
theorem ev_cst (v) : ev c (.cst v) = fun g => .ok (.val v) g := rfl
theorem ev_var (i) : ev c (.var i) = rdVar i := rfl
theorem ev_tup (es) : ev c (.tup es) = fun g => (evs c es g).bind fun vs g1 => if vs.length ≤ sizeLine then .ok (.val (.tup vs)) g1 else .bad := rfl
theorem ev_lst (es) : ev c (.lst es) = fun g => (evs c es g).bind fun vs g1 => if vs.length ≤ sizeLine then .ok (.new vs) g1 else .bad := rfl
theorem ev_bin (o a b) : ev c (.bin o a b) = fun g => (opd c a g).bind fun x g1 => (opd c b g1).bind fun y g2 => (look x g2).bind fun xv g3 => (look y g3).bind fun yv g4 => lift (binV o xv yv) g4 := rfl
theorem ev_cmp (o a b) : ev c (.cmp o a b) = fun g => (opd c a g).bind fun x g1 => (opd c b g1).bind fun y g2 => (look x g2).bind fun xv g3 => (look y g3).bind fun yv g4 => (lift (cmpG o xv yv g4.hp) g4).bind fun t g5 => .ok (.val (.bl t)) g5 := rfl
theorem ev_chn (o p a b d) : ev c (.chn o p a b d) = fun g => (ev c a g).bind fun r g1 => (ev c b g1).bind fun s g2 => (lift (cmpG o r.pv s.pv g2.hp) g2).bind fun t g3 => if t = true then (ev c d g3).bind fun u g4 => (lift (cmpG p s.pv u.pv g4.hp) g4).bind fun k g5 => .ok (.val (.bl k)) g5 else .ok (.val (.bl false)) g3 := rfl
theorem ev_neg (a) : ev c (.neg a) = fun g => (ev c a g).bind fun r g1 => (lift (asInt r.pv) g1).bind fun i g2 => .ok (.val (.int (-i))) g2 := rfl
theorem ev_nt (a) : ev c (.nt a) = fun g => (ev c a g).bind fun r g1 => (lift (truV r.pv) g1).bind fun b g2 => .ok (.val (.bl (!b))) g2 := rfl
theorem ev_an (a b) : ev c (.an a b) = fun g => (ev c a g).bind fun r g1 => (lift (truV r.pv) g1).bind fun t g2 => if t = true then (ev c b g2).bind fun s g3 => .ok (.val s.pv) g3 else .ok (.val r.pv) g2 := rfl
theorem ev_orr (a b) : ev c (.orr a b) = fun g => (ev c a g).bind fun r g1 => (lift (truV r.pv) g1).bind fun t g2 => if t = true then .ok (.val r.pv) g2 else (ev c b g2).bind fun s g3 => .ok (.val s.pv) g3 := rfl
theorem ev_ite (t a b) : ev c (.ite t a b) = fun g => (tst c t g).bind fun k g1 => if k = true then ev c a g1 else ev c b g1 := rfl
theorem ev_idx (a b) : ev c (.idx a b) = fun g => (opd c a g).bind fun x g1 => (opd c b g1).bind fun y g2 => (look x g2).bind fun xv g3 => (look y g3).bind fun yv g4 => (idxG xv yv g4).bind fun z g5 => .ok (.val z) g5 := rfl
theorem ev_slc (a lo hi) : ev c (.slc a lo hi) = fun g => (opd c a g).bind fun x g1 => (evo c lo g1).bind fun l g2 => (evo c hi g2).bind fun h g3 => (look x g3).bind fun xv g4 => lift (slcV xv l h) g4 := rfl
theorem ev_rev (a) : ev c (.rev a) = fun g => (opd c a g).bind fun x g1 => (look x g1).bind fun xv g2 => lift (revV xv) g2 := rfl
theorem ev_call (f es ks) : ev c (.call f es ks) = fun g => (evs c es g).bind fun vs g1 => (evs c ks g1).bind fun ws g2 => callC c f vs ws g2 := rfl
theorem ev_bi (f es) : ev c (.bi f es) = fun g => (opds c es g).bind fun xs g1 => (lookAll xs g1).bind fun vs g2 => lift (biV f vs) g2 := rfl
theorem ev_join (o a) : ev c (.join o a) = fun g => (ev c o g).bind fun r g0 => (lift (asStr r.pv) g0).bind fun t g1 => (opd c a g1).bind fun y g2 => (look y g2).bind fun yv g3 => (lift (joinV (.str t) yv) g3).bind fun z g4 => .ok (.val z) g4 := rfl
theorem ev_app (i a) : ev c (.app i a) = fun g => (ownAt i g).bind fun _ g0 => (ev c a g0).bind fun r g1 => appV i [r.pv] g1 := rfl
theorem ev_ext (i a) : ev c (.ext i a) = fun g => (ownAt i g).bind fun _ g0 => (ev c a g0).bind fun r g1 => extV i r g1 := rfl
theorem ev_lc (t it k e) : ev c (.lc t it k e) = fun g => (evi c it g).bind fun xs g1 => if noOwn g1.sl t.slots = true then (noX (lcGo t.slots (bindT t) (tsto c k) (ev c e) xs [] { g1 with sl := wipe g1.sl t.slots })).bind fun ys g2 =>
      .ok (.new ys) { g2 with sl := back g1.sl g2.sl t.slots } else .bad := rfl
theorem ev_fs (es) : ev c (.fs es) = fun g => (evf c es Str.empty g).bind fun x g1 => .ok (.val (.str x)) g1 := rfl
theorem ev_tyn (t) : ev c (.tyn t) = fun g => .ok (.val (.ty t)) g := rfl
theorem ev_pop (i k) : ev c (.pop i k) = fun g => (ownAt i g).bind fun _ g0 => (evo c k g0).bind fun j g1 => popV i j g1 := rfl
theorem ev_mt (m o es) : ev c (.mt m o es) = fun g => (ev c o g).bind fun r g1 => (lift (mtOk m r.pv g1.hp) g1).bind fun _ g1 => (opds c es g1).bind fun ys g2 => (lookAll ys g2).bind fun yv g3 => lift (mtV m r.pv yv g3.hp) g3 := rfl
theorem ev_itl (a) : ev c (.itl a) = fun g => (ev c a g).bind fun r g1 => lift (itlV r.pv g1.hp) g1 := rfl
theorem ev_lrg (it) : ev c (.lrg it) = fun g => (evi c it g).bind fun xs g1 => if xs.length ≤ 16777216 then .ok (.new xs) g1 else .bad := rfl
theorem ev_lset (i a) : ev c (.lset i a) = fun g => (ev c a g).bind fun r g1 => if i < g1.sl.length then lift ((itemsOf r.pv).bind lsetV) g1 else .bad := rfl
theorem ev_lnew (e) : ev c (.lnew e) = fun g => (ev c e g).bind fun r g1 => lnewV r g1 := rfl
theorem ev_lapp (o a) : ev c (.lapp o a) = fun g => (ev c o g).bind fun r g1 => (lsAt r.pv g1).bind fun _ g1 => (ev c a g1).bind fun s g2 => lappV r.pv s.pv g2 := rfl
theorem ev_lset2 (a) : ev c (.lset2 a) = fun g => (ev c a g).bind fun r g1 => lift ((tupsOf r.pv).bind lsetV) g1 := rfl
theorem ev_said (t q r e) : ev c (.said t q r e) = fun g => (tbAt t q g).bind fun _ g0 => caught c r (ev c e g0) := rfl
theorem ev_hx (s i) : ev c (.hx s i) = hxV c s i := rfl
theorem ev_glb (x v) : ev c (.glb x v) = fun g => .ok (.val v) g := rfl
theorem ev_dnew  : ev c (.dnew) = fun g => .ok (.val (.ref g.hp.length)) { g with hp := g.hp ++ [.dk []] } := rfl
theorem ev_lc2 (t it k t2 it2 k2 e) : ev c (.lc2 t it k t2 it2 k2 e) = fun g => (evi c it g).bind fun xs g1 => if noOwn g1.sl (t.slots ++ t2.slots) = true then (noX (lc2Go (t.slots ++ t2.slots) (bindT t) (tsto c k) (fun acc h => (evi c it2 h).bind fun ys h1 => lcGo t2.slots (bindT t2) (tsto c k2) (ev c e) ys acc { h1 with sl := wipe h1.sl t2.slots }) xs [] { g1 with sl := wipe g1.sl (t.slots ++ t2.slots) })).bind fun ys g2 =>
      .ok (.new ys) { g2 with sl := back g1.sl g2.sl (t.slots ++ t2.slots) } else .bad := rfl
theorem ev_dcn (t it k kk e) : ev c (.dcn t it k kk e) = fun g => (evi c it g).bind fun xs g1 => if noOwn g1.sl t.slots = true then (noX (dcGo t.slots (bindT t) (tsto c k) (ev c kk) (ev c e) xs (.dk []) { g1 with sl := wipe g1.sl t.slots })).bind fun cl g2 =>
      .ok (.val (.ref g2.hp.length)) { sl := back g1.sl g2.sl t.slots, hp := g2.hp ++ [cl] } else .bad := rfl
theorem ev_dct (ks vs) : ev c (.dct ks vs) = fun g => (noX (evs c vs g)).bind fun ws g1 => if ks.length = ws.length ∧ ks.length ≤ 15 then .ok (.val (.ref g1.hp.length)) { g1 with hp := g1.hp ++ [.dk (dictGo ks ws [])] } else .bad := rfl
theorem evsR_nil : evsR c .nil = fun g => .ok [] g := rfl
theorem evsR_cons (e es) : evsR c (.cons e es) = fun g => (ev c e g).bind fun r g1 => match r with
    | .val v => (evsR c es g1).bind fun rs g2 => .ok (.val v :: rs) g2
    | .new xs => (noX (evsR c es g1)).bind fun rs g2 => .ok (.new xs :: rs) g2 := rfl
theorem evsR_star (e es) : evsR c (.star e es) = fun _ => .bad := rfl
theorem evs_nil : evs c .nil = fun g => .ok [] g := rfl
theorem evs_cons (e es) : evs c (.cons e es) = fun g => (ev c e g).bind fun r g1 => (evs c es g1).bind fun vs g2 => .ok (r.pv :: vs) g2 := rfl
theorem evs_star (e es) : evs c (.star e es) = fun g => (ev c e g).bind fun r g1 => (lift (itemsOf r.pv) g1).bind fun xs g2 => (evs c es g2).bind fun vs g3 => .ok (xs ++ vs) g3 := rfl
theorem opds_star (e es) : opds c (.star e es) = fun _ => .bad := rfl
theorem evf_star (e es) : evf c (.star e es) = fun _ _ => .bad := rfl
theorem opds_nil : opds c .nil = fun g => .ok [] g := rfl
theorem opds_cons (e es) : opds c (.cons e es) = fun g => (opd c e g).bind fun r g1 => (opds c es g1).bind fun vs g2 => .ok (r :: vs) g2 := rfl
theorem evo_no : evo c .no = fun g => .ok none g := rfl
theorem evo_so (e) : evo c (.so e) = fun g => (ev c e g).bind fun r g1 => (lift (asInt r.pv) g1).bind fun i g2 => .ok (some i) g2 := rfl
theorem evi_it (a) : evi c (.it a) = fun g => (ev c a g).bind fun r g1 => lift (itemsI r.pv) g1 := rfl
theorem evi_enu (a) : evi c (.enu a) = fun g => (ev c a g).bind fun r g1 => (lift (itemsOf r.pv) g1).bind fun xs g2 => .ok (enuL 0 xs) g2 := rfl
theorem evi_zip (a b) : evi c (.zip a b) = fun g => (ev c a g).bind fun r g1 => (ev c b g1).bind fun s g2 => lift (zipV r.pv s.pv) g2 := rfl
theorem evi_rg1 (a) : evi c (.rg1 a) = fun g => (ev c a g).bind fun r g1 => (lift (asInt r.pv) g1).bind fun j g2 => if rgOk j then .ok (rgItems 0 j) g2 else .bad := rfl
theorem evi_rg2 (a b) : evi c (.rg2 a b) = fun g => (ev c a g).bind fun r g1 => (ev c b g1).bind fun s g2 => (lift (asInt r.pv) g2).bind fun i g3 => (lift (asInt s.pv) g3).bind fun j g4 => if rgOk i ∧ rgOk j then .ok (rgItems i j) g4 else .bad := rfl
theorem tsto_no : tsto c .no = fun g => .ok true g := rfl
theorem tsto_so (e) : tsto c (.so e) = tst c e := rfl
theorem evf_nil : evf c .nil = fun acc g => .ok acc g := rfl
theorem evf_cons (e es) : evf c (.cons e es) = fun acc g => (ev c e g).bind fun r g1 => (lift (fmtV r.pv) g1).bind fun x g2 => if (acc ++ x).length ≤ sizeLine then evf c es (acc ++ x) g2 else .bad := rfl
theorem opd_var (i) : opd c (.var i) = fun g => (peek i g).bind fun _ g1 => .ok (.s i) g1 := rfl
theorem opd_cst (v) : opd c (.cst v) = fun g => .ok (.v v) g := rfl
theorem tst_nt (a) : tst c (.nt a) = fun g => (tst c a g).bind fun b g1 => .ok (!b) g1 := rfl
theorem tst_an (a b) : tst c (.an a b) = fun g => (tst c a g).bind fun t g1 => if t = true then tst c b g1 else .ok false g1 := rfl
theorem tst_orr (a b) : tst c (.orr a b) = fun g => (tst c a g).bind fun t g1 => if t = true then .ok true g1 else tst c b g1 := rfl
theorem tst_ite (t a b) : tst c (.ite t a b) = fun g => (tst c t g).bind fun k g1 => if k = true then tst c a g1 else tst c b g1 := rfl
end
inductive Fl where
  | nx | ret (r : Res) | brk | cnt
/-- the turns of a loop -/
def forGo (bd : Res → M Unit) (body : M Fl) : List PV → M Fl
  | [] => fun g => .ok .nx g
  | x :: xs => fun g => (bd (.val x) g).bind fun _ g1 => (body g1).bind fun f g2 => match f with
    | .nx => forGo bd body xs g2
    | .cnt => forGo bd body xs g2
    | .brk => .ok .nx g2
    | .ret r => .ok (.ret r) g2
/-- i the first of a tuple, j the list of the others -/
def starV (i j : Nat) : Res → M Fl
  | .val (.tup (x :: xs)) => fun g => (setVar i (.val x) g).bind fun _ g1 => (setVar j (.new xs) g1).bind fun _ g2 => .ok .nx g2
  | _ => fun _ => .bad
/-- stored from the right -/
def setPar : List Nat → List Res → M Unit
  | [], [] => fun g => .ok () g
  | i :: is, r :: rs => fun g => (setPar is rs g).bind fun _ g1 => setVar i r g1
  | _, _ => fun _ => .bad
mutual
def ex (c : Call) : MS → M Fl
  | .asg t e => fun g => (ev c e g).bind fun r g1 => (bindT t r g1).bind fun _ g2 => .ok .nx g2
  | .par is es => fun g => (evsR c es g).bind fun vs g1 => (setPar is vs g1).bind fun _ g2 => .ok .nx g2
  | .put o k e => fun g => (ev c e g).bind fun r g1 => (opd c o g1).bind fun x g2 => (opd c k g2).bind fun y g3 => (look x g3).bind fun xv g4 => (look y g4).bind fun yv g5 => (putG xv yv r.pv g5).bind fun _ g6 => .ok .nx g6
  | .star i j e => fun g => (ev c e g).bind fun r g1 => starV i j r g1
  | .ex e => fun g => (ev c e g).bind fun _ g1 => .ok .nx g1
  | .iff t a b => fun g => (tst c t g).bind fun k g1 => if k = true then exs c a g1 else exs c b g1
  | .for_ t it b => fun g => (evi c it g).bind fun xs g1 => forGo (bindT t) (exs c b) xs g1
  | .ret e => fun g => (retF e (ev c e) g).bind fun r g1 => .ok (.ret r) g1
  | .retN => fun g => .ok (.ret (.val .non)) g
  | .pas => fun g => .ok .nx g
  | .brk => fun g => .ok .brk g
  | .cnt => fun g => .ok .cnt g
  | .nvr => fun _ => .bad
  | .rs k es => fun g => (evs c es g).bind fun vs g1 => .exc ⟨k, vs⟩ g1
def exs (c : Call) : MSs → M Fl
  | .nil => fun g => .ok .nx g
  | .cons s r => fun g => (ex c s g).bind fun f g1 => match f with
    | .nx => exs c r g1
    | f => .ok f g1
end

/-! ### defs -/
/-- n parameters; m slots; keywords: where each keyword's value goes, by the number of positional arguments that are there -/
structure FD where
  n : Nat
  m : Nat
  body : MSs
def Res.pure : Res → Bool
  | .val v => v.pure
  | .new xs => PV.pures xs
def run (c : Call) (d : FD) (as : List PV) (hp : List Cell) : Option (Out × List Cell) :=
  if as.length = d.n then match exs c d.body ⟨as.map Slot.val ++ List.replicate (d.m - as.length) .no, hp⟩ with
    | .ok (.ret r) g => some (.ret r, g.hp)
    | .ok .nx g => some (.ret (.val .non), g.hp)
    | .exc x g => some (.exc x, g.hp)
    | _ => none
  else none
end Ev
/-! # Ev, part 2: what the evaluator's state says of the layer's. -/
namespace Ev
open PySem PySem.Spec PyProof.Rows
open L2 (V Hp HO upd SqL SqT Rd Cx Inv PE PT PW PA PS PSs PG PGs PI PK VK TE TT TA TS TG TGs TI Ends RelV Vals It Dp DpAll)

/-- a locked list, or one of the written part -/
def FzL (K : PySem.W.Frag) (H : Hp) (a : Addr) (xs : List V) : Prop := (∃ o, H a = some (.frz o (.lst xs))) ∨
  ∃ (o : Obj) (its : Array Value) (n : Nat), K.lookup a = some o ∧ o.cls = .type "list" ∧ o.dict = none ∧ o.data = .seq its n ∧ its.size ≤ sizeLine ∧ Vals xs its.toList
theorem FzL.sq {K : PySem.W.Frag} {H : Hp} {a : Addr} {xs : List V} : FzL K H a xs → SqL K H a xs
  | .inl h => .inl (.inr h)
  | .inr h => .inr h

/-! ### dicts whose keys are tuples -/
/-- an entry -/
def entN (w : World) (x : NestedKey × Addr × Value) : DictEntry := ⟨x.1.hash w, .ref x.2.1, x.2.2⟩
inductive EN : List (NestedKey × Addr × V) → List (NestedKey × Addr × Value) → Prop
  | nil : EN [] []
  | cons {n : NestedKey} {a : Addr} {x : V} {u : Value} {r s} : RelV x u → EN r s → EN ((n, a, x) :: r) ((n, a, u) :: s)
/-- a dict, its entries: keys by what they are equal to, where they lie, values -/
def DNraw (w : World) (d : Addr) (es : List (NestedKey × Addr × V)) (h : Heap) : Prop := (d == sysModules) = false ∧ es.length ≤ sizeLine ∧ (es.map (·.1)).Nodup ∧
  ∃ (o : Obj) (arr : Array DictEntry) (ep : Nat) (xs : List (NestedKey × Addr × Value)), h.get? d = some o ∧ o.ExactDict ∧ o.data = .dict arr ep ∧ EN es xs ∧ arr.toList = xs.map (entN w)
def DN (w : World) (d : Addr) (es : List (NestedKey × Addr × V)) : HO := .ext (DNraw w d es)
/-- a tuple's object -/
def tupO (us : List Value) : Obj := { cls := .type "tuple", data := .seq us.toArray }
/-- a tuple whose object has no dict -/
def TupD (K : PySem.W.Frag) (H : Hp) (a : Addr) (vs : List V) : Prop := (∃ us, H a = some (.frz (tupO us) (.tup vs))) ∨
  ∃ (o : Obj) (its : Array Value) (n : Nat), K.lookup a = some o ∧ o.cls = .type "tuple" ∧ o.dict = none ∧ o.data = .seq its n ∧ its.size ≤ sizeLine ∧ Vals vs its.toList
theorem TupD.sqT {K : PySem.W.Frag} {H : Hp} {a : Addr} {vs : List V} : TupD K H a vs → SqT K H a vs
  | .inl ⟨_, h⟩ => .inl (.inr ⟨_, h⟩)
  | .inr ⟨o, its, n, h1, h2, _, h3, h4, h5⟩ => .inr ⟨o, its, n, h1, h2, h3, h4, h5⟩
theorem TupD.noDict {X : Cx} {pins : List (Addr × Obj)} {σ : L2.St} {H : Hp} {s : Shared} {a : Addr} {vs : List V} (I : Inv X pins σ H s) : TupD X.K H a vs → ∃ ob, s.heap.get? a = some ob ∧ ob.dict = none
  | .inl ⟨us, h⟩ => ⟨tupO us, (I.hok a _ h).1, rfl⟩
  | .inr ⟨o, _, _, h1, _, h2, _⟩ => ⟨o, I.kIn a o h1, h2⟩
/-- P is the table of the def whose lambdas are called q -/
def TabK (K : PySem.W.Frag) (q : Str) (P : Addr) : Prop := ∃ (x : Str) (c : Addr), q = x ++ ".<locals>." ++ "<lambda>" ∧ PySem.W.tabIn K x = some (c, P)
section
variable (K : PySem.W.Frag) (Z : Addr → Prop) (ms : List Addr) (H : Hp)
mutual
/-- the layer's value x is the evaluator's value -/
def Den : PV → V → Prop
  | .non, x => x = .non
  | .bl b, x => x = .bl b
  | .int i, x => x = .int i
  | .str s, x => x = .str s
  | .tup ys, x => ∃ a vs, x = .ref a ∧ TupD K H a vs ∧ Dens ys vs
  | .lst ys, x => ∃ a vs, x = .ref a ∧ Z a ∧ H a = some (.lst vs) ∧ Dens ys vs
  | .fz ns, x => ∃ a, x = .ref a ∧ FzL K H a (ns.map V.int)
  | .ref n, x => ∃ a, x = .ref a ∧ ms[n]? = some a
  | .ty t, x => x = .ty t.nm
def Dens : List PV → List V → Prop
  | [], vs => vs = []
  | y :: ys, vs => ∃ v r, vs = v :: r ∧ Den y v ∧ Dens ys r
end
def DenKV : List (Key × PV) → List (Key × V) → Prop
  | [], ws => ws = []
  | (k, v) :: r, ws => ∃ x s, ws = (k, x) :: s ∧ Den K Z ms H v x ∧ DenKV r s
def DenN : List (PV × PV) → List (NestedKey × Addr × V) → Prop
  | [], ws => ws = []
  | (k, v) :: r, ws => ∃ n a x s, ws = (n, a, x) :: s ∧ nkT k = some n ∧ Den K Z ms H k (.ref a) ∧ Den K Z ms H v x ∧ DenN r s
def CellOk (w : World) : Cell → Addr → Prop
  | .dk kvs, a => ∃ ws, H a = some (.dK ws) ∧ DenKV K Z ms H kvs ws
  | .dn kvs, a => ∃ es, H a = some (DN w a es) ∧ DenN K Z ms H kvs es
  | .ls xs, a => ∃ vs, H a = some (.lst vs) ∧ Dens K Z ms H xs vs
  | .tb q, a => ∃ ps : Array Value, H a = some (.tbl ps) ∧ TriplesOk ps.toList ∧ TabK K q a ∧ ∀ (pos : Pos) (cv : Value), codeAmong pos ps.toList = some cv → ∃ c, cv = .ref c ∧ H c = some (LamX.CodeO c q) ∧ c ∉ ms
end

/-- what may change: frozen lists, tuples and locked things stay -/
structure Le (Z : Addr → Prop) (ms : List Addr) (H : Hp) (Z' : Addr → Prop) (ms' : List Addr) (H' : Hp) : Prop where
  z : ∀ a, Z a → Z' a
  zh : ∀ a xs, Z a → H a = some (.lst xs) → H' a = some (.lst xs)
  t : ∀ a xs, H a = some (.tup xs) → H' a = some (.tup xs)
  f : ∀ a o u, H a = some (.frz o u) → H' a = some (.frz o u)
  m : ∃ r, ms' = ms ++ r
  c : ∀ a q, H a = some (LamX.CodeO a q) → a ∉ ms → H' a = some (LamX.CodeO a q) ∧ a ∉ ms'
theorem Le.refl {Z ms H} : Le Z ms H Z ms H := ⟨fun _ h => h, fun _ _ _ h => h, fun _ _ h => h, fun _ _ _ h => h, ⟨[], by simp⟩, fun _ _ h n => ⟨h, n⟩⟩
theorem Le.trans {Z ms H Z1 ms1 H1 Z2 ms2 H2} (a : Le Z ms H Z1 ms1 H1) (b : Le Z1 ms1 H1 Z2 ms2 H2) : Le Z ms H Z2 ms2 H2 := by
  refine ⟨fun x h => b.z x (a.z x h), fun x xs h e => b.zh x xs (a.z x h) (a.zh x xs h e), fun x xs e => b.t x xs (a.t x xs e), fun x o u e => b.f x o u (a.f x o u e), ?_, fun x q h n => b.c x q (a.c x q h n).1 (a.c x q h n).2⟩
  obtain ⟨r, rfl⟩ := a.m
  obtain ⟨s, rfl⟩ := b.m
  exact ⟨r ++ s, by simp⟩
section
variable {K : PySem.W.Frag} {Z Z' : Addr → Prop} {ms ms' : List Addr} {H H' : Hp}
theorem Le.sqT (l : Le Z ms H Z' ms' H') {a : Addr} {xs : List V} : SqT K H a xs → SqT K H' a xs
  | .inl (.inl h) => .inl (.inl (l.t a xs h))
  | .inl (.inr ⟨o, h⟩) => .inl (.inr ⟨o, l.f a o _ h⟩)
  | .inr h => .inr h
theorem Le.tupD (l : Le Z ms H Z' ms' H') {a : Addr} {xs : List V} : TupD K H a xs → TupD K H' a xs
  | .inl ⟨o, h⟩ => .inl ⟨o, l.f a _ _ h⟩
  | .inr h => .inr h
theorem Le.fzL (l : Le Z ms H Z' ms' H') {a : Addr} {xs : List V} : FzL K H a xs → FzL K H' a xs
  | .inl ⟨o, h⟩ => .inl ⟨o, l.f a o _ h⟩
  | .inr h => .inr h
mutual
theorem Den.mono (l : Le Z ms H Z' ms' H') : ∀ (y : PV) (x : V), Den K Z ms H y x → Den K Z' ms' H' y x
  | .non, x, h => by simp only [Den] at h ⊢; exact h
  | .bl b, x, h => by simp only [Den] at h ⊢; exact h
  | .int i, x, h => by simp only [Den] at h ⊢; exact h
  | .str s, x, h => by simp only [Den] at h ⊢; exact h
  | .tup ys, x, h => by
    simp only [Den] at h ⊢
    obtain ⟨a, vs, e, h1, h2⟩ := h
    exact ⟨a, vs, e, l.tupD h1, Dens.mono l ys vs h2⟩
  | .lst ys, x, h => by
    simp only [Den] at h ⊢
    obtain ⟨a, vs, e, hz, h1, h2⟩ := h
    exact ⟨a, vs, e, l.z a hz, l.zh a vs hz h1, Dens.mono l ys vs h2⟩
  | .fz ns, x, h => by
    simp only [Den] at h ⊢
    obtain ⟨a, e, h1⟩ := h
    exact ⟨a, e, l.fzL h1⟩
  | .ty t, x, h => by simp only [Den] at h ⊢; exact h
  | .ref n, x, h => by
    simp only [Den] at h ⊢
    obtain ⟨a, e, h1⟩ := h
    obtain ⟨r, rfl⟩ := l.m
    exact ⟨a, e, by rw [List.getElem?_append_left (List.getElem?_eq_some_iff.mp h1).1]; exact h1⟩
theorem Dens.mono (l : Le Z ms H Z' ms' H') : ∀ (ys : List PV) (vs : List V), Dens K Z ms H ys vs → Dens K Z' ms' H' ys vs
  | [], vs, h => by simp only [Dens] at h ⊢; exact h
  | y :: ys, vs, h => by
    simp only [Dens] at h ⊢
    obtain ⟨v, r, e, h1, h2⟩ := h
    exact ⟨v, r, e, Den.mono l y v h1, Dens.mono l ys r h2⟩
end
theorem DenKV.mono (l : Le Z ms H Z' ms' H') : ∀ (ys : List (Key × PV)) (vs : List (Key × V)), DenKV K Z ms H ys vs → DenKV K Z' ms' H' ys vs
  | [], vs, h => by simp only [DenKV] at h ⊢; exact h
  | (k, y) :: ys, vs, h => by
    simp only [DenKV] at h ⊢
    obtain ⟨v, r, e, h1, h2⟩ := h
    exact ⟨v, r, e, Den.mono l y v h1, DenKV.mono l ys r h2⟩
theorem DenN.mono (l : Le Z ms H Z' ms' H') : ∀ (ys : List (PV × PV)) (vs : List (NestedKey × Addr × V)), DenN K Z ms H ys vs → DenN K Z' ms' H' ys vs
  | [], vs, h => by simp only [DenN] at h ⊢; exact h
  | (k, y) :: ys, vs, h => by
    simp only [DenN] at h ⊢
    obtain ⟨n, a, x, r, e, h0, h1, h2, h3⟩ := h
    exact ⟨n, a, x, r, e, h0, Den.mono l _ _ h1, Den.mono l y x h2, DenN.mono l ys r h3⟩
theorem Dens.length : ∀ {ys : List PV} {vs : List V}, Dens K Z ms H ys vs → vs.length = ys.length
  | [], vs, h => by
    simp only [Dens] at h
    subst h
    rfl
  | y :: ys, vs, h => by
    simp only [Dens] at h
    obtain ⟨v, r, rfl, _, h2⟩ := h
    simp [Dens.length h2]
theorem Dens.get : ∀ {ys : List PV} {vs : List V} {i : Nat} {y : PV}, Dens K Z ms H ys vs → ys[i]? = some y → ∃ v, vs[i]? = some v ∧ Den K Z ms H y v
  | [], _, _, _, _, e => by simp at e
  | y :: ys, vs, 0, z, h, e => by
    simp only [Dens] at h
    obtain ⟨v, r, rfl, h1, _⟩ := h
    simp at e
    subst e
    exact ⟨v, rfl, h1⟩
  | y :: ys, vs, i + 1, z, h, e => by
    simp only [Dens] at h
    obtain ⟨v, r, rfl, _, h2⟩ := h
    simp at e
    obtain ⟨w, e1, e2⟩ := Dens.get h2 e
    exact ⟨w, by simpa using e1, e2⟩
theorem Dens.getV : ∀ {ys : List PV} {vs : List V} {i : Nat} {v : V}, Dens K Z ms H ys vs → vs[i]? = some v → ∃ y, ys[i]? = some y ∧ Den K Z ms H y v
  | [], vs, i, v, h, e => by
    simp only [Dens] at h
    subst h
    simp at e
  | y :: ys, vs, 0, z, h, e => by
    simp only [Dens] at h
    obtain ⟨v, r, rfl, h1, _⟩ := h
    simp at e
    subst e
    exact ⟨y, rfl, h1⟩
  | y :: ys, vs, i + 1, z, h, e => by
    simp only [Dens] at h
    obtain ⟨v, r, rfl, _, h2⟩ := h
    simp at e
    obtain ⟨w, e1, e2⟩ := Dens.getV h2 e
    exact ⟨w, by simpa using e1, e2⟩
theorem Dens.append : ∀ {ys zs : List PV} {vs ws : List V}, Dens K Z ms H ys vs → Dens K Z ms H zs ws → Dens K Z ms H (ys ++ zs) (vs ++ ws)
  | [], zs, vs, ws, h, h' => by
    simp only [Dens] at h
    subst h
    exact h'
  | y :: ys, zs, vs, ws, h, h' => by
    simp only [Dens] at h
    obtain ⟨v, r, rfl, h1, h2⟩ := h
    show Dens K Z ms H (y :: (ys ++ zs)) _
    simp only [Dens]
    exact ⟨v, r ++ ws, rfl, h1, h2.append h'⟩
theorem Dens.nil : Dens K Z ms H [] [] := by simp only [Dens]
theorem Dens.cons {y : PV} {ys : List PV} {v : V} {vs : List V} (h : Den K Z ms H y v) (t : Dens K Z ms H ys vs) : Dens K Z ms H (y :: ys) (v :: vs) := by
  simp only [Dens]
  exact ⟨v, vs, rfl, h, t⟩
theorem Dens.take : ∀ {ys : List PV} {vs : List V} (n : Nat), Dens K Z ms H ys vs → Dens K Z ms H (ys.take n) (vs.take n)
  | [], vs, n, h => by
    simp only [Dens] at h
    subst h
    simp [Dens]
  | y :: ys, vs, 0, h => by simp [Dens]
  | y :: ys, vs, n + 1, h => by
    simp only [Dens] at h
    obtain ⟨v, r, rfl, h1, h2⟩ := h
    exact .cons h1 (h2.take n)
theorem Dens.drop : ∀ {ys : List PV} {vs : List V} (n : Nat), Dens K Z ms H ys vs → Dens K Z ms H (ys.drop n) (vs.drop n)
  | [], vs, n, h => by
    simp only [Dens] at h
    subst h
    simp [Dens]
  | y :: ys, vs, 0, h => by simpa using h
  | y :: ys, vs, n + 1, h => by
    simp only [Dens] at h
    obtain ⟨v, r, rfl, h1, h2⟩ := h
    simpa using h2.drop n
theorem Dens.reverse : ∀ {ys : List PV} {vs : List V}, Dens K Z ms H ys vs → Dens K Z ms H ys.reverse vs.reverse
  | [], vs, h => by
    simp only [Dens] at h
    subst h
    simp [Dens]
  | y :: ys, vs, h => by
    simp only [Dens] at h
    obtain ⟨v, r, rfl, h1, h2⟩ := h
    rw [List.reverse_cons, List.reverse_cons]
    exact (h2.reverse).append (.cons h1 .nil)
theorem Dens.rep {ys : List PV} {vs : List V} (h : Dens K Z ms H ys vs) : ∀ n : Nat, Dens K Z ms H (List.replicate n ys).flatten (List.replicate n vs).flatten
  | 0 => by simp [Dens]
  | n + 1 => by
    rw [List.replicate_succ, List.replicate_succ, List.flatten_cons, List.flatten_cons]
    exact h.append (Dens.rep h n)
theorem Dens.ints : ∀ ns : List Int, Dens K Z ms H (ns.map PV.int) (ns.map V.int)
  | [] => .nil
  | n :: ns => .cons (by simp only [Den]) (Dens.ints ns)
end

/-! ### the state -/
/-- what a run leaves as it is: the objects in F; and which frozen lists were there ahead of it -/
structure Fm where
  F : Hp
  Z0 : Addr → Prop
  w : World
  xo : Option Addr := none
structure Rel (K : PySem.W.Frag) (F : Fm) (Z : Addr → Prop) (ms : List Addr) (g : G) (σ : L2.St) (H : Hp) : Prop where
  len : σ.length = g.sl.length
  vl : ∀ (i : Nat) v, g.sl[i]? = some (.val v) → ∃ x, σ[i]? = some (some x) ∧ Den K Z ms H v x
  ow : ∀ (i : Nat) xs, g.sl[i]? = some (.own xs) → ∃ a vs, σ[i]? = some (some (.ref a)) ∧ H a = some (.lst vs) ∧ Dens K Z ms H xs vs ∧ ¬ Z a ∧ a ∉ ms ∧ F.F a = none
  un : ∀ (i j : Nat) xs ys a, g.sl[i]? = some (.own xs) → g.sl[j]? = some (.own ys) → σ[i]? = some (some (.ref a)) → σ[j]? = some (some (.ref a)) → i = j
  cn : ms.length = g.hp.length
  cl : ∀ (n : Nat) c a, g.hp[n]? = some c → ms[n]? = some a → CellOk K Z ms H F.w c a
  nd : ms.Nodup
  mz : ∀ a ∈ ms, ¬ Z a ∧ F.F a = none
  zf : ∀ a, Z a → F.Z0 a ∨ F.F a = none
  zz : ∀ a, F.Z0 a → Z a
  zs : ∀ a, Z a → ∃ vs, H a = some (.lst vs)
  fr : ∀ a o, F.F a = some o → H a = some o
  xs : ∀ i : Nat, g.sl[i]? = some .x → ∃ a, F.xo = some a ∧ σ[i]? = some (some (.ref a))
/-- a slot set -/
theorem xs_set {sl : List Slot} {i j : Nat} {s : Slot} (hs : s ≠ .x) (e : (sl.set i s)[j]? = some .x) : i ≠ j ∧ sl[j]? = some .x := by
  by_cases h : i = j
  · subst h
    rw [List.getElem?_set] at e
    split at e
    · split at e
      · exact absurd (Option.some.inj e) hs
      · cases e
    · rename_i q
      exact absurd rfl q
  · rw [List.getElem?_set_ne h] at e
    exact ⟨h, e⟩
theorem xs_val {sl : List Slot} {i j : Nat} {v : PV} (e : (sl.set i (.val v))[j]? = some .x) : sl[j]? = some .x := (xs_set (s := .val v) (fun h => by cases h) e).2
theorem xs_own {sl : List Slot} {i j : Nat} {v : List PV} (e : (sl.set i (.own v))[j]? = some .x) : sl[j]? = some .x := (xs_set (s := .own v) (fun h => by cases h) e).2
theorem Res.slot_x (r : Res) : r.slot ≠ .x := by cases r <;> exact nofun
def ResOk (K : PySem.W.Frag) (F : Fm) (Z : Addr → Prop) (ms : List Addr) (g : G) (σ : L2.St) (H : Hp) : Res → V → Prop
  | .val v, x => Den K Z ms H v x
  | .new xs, x => ∃ a vs, x = .ref a ∧ H a = some (.lst vs) ∧ Dens K Z ms H xs vs ∧ ¬ Z a ∧ a ∉ ms ∧ F.F a = none ∧ ∀ (i : Nat) ys, g.sl[i]? = some (.own ys) → σ[i]? ≠ some (some (.ref a))
section
variable {K : PySem.W.Frag} {F : Fm} {Z : Addr → Prop} {ms : List Addr} {g : G} {σ : L2.St} {H : Hp}
/-- a free address -/
theorem Rel.freeZ (R : Rel K F Z ms g σ H) {p : Addr} (h : H p = none) : ¬ Z p := fun z => by
  obtain ⟨vs, e⟩ := R.zs p z
  rw [h] at e
  cases e
theorem Rel.freeF (R : Rel K F Z ms g σ H) {p : Addr} (h : H p = none) : F.F p = none := by
  cases e : F.F p with
  | none => rfl
  | some o =>
    have := R.fr p o e
    rw [h] at this
    cases this
theorem Rel.cell (R : Rel K F Z ms g σ H) {a : Addr} (h : a ∈ ms) : ∃ (n : Nat) (c : Cell), g.hp[n]? = some c ∧ ms[n]? = some a ∧ CellOk K Z ms H F.w c a := by
  obtain ⟨n, hn, e⟩ := List.getElem_of_mem h
  have h1 : n < g.hp.length := by rw [← R.cn]; exact hn
  have e1 : ms[n]? = some a := List.getElem?_eq_some_iff.mpr ⟨hn, e⟩
  have e2 : g.hp[n]? = some g.hp[n] := List.getElem?_eq_some_iff.mpr ⟨h1, rfl⟩
  exact ⟨n, _, e2, e1, R.cl n _ a e2 e1⟩
theorem Rel.freeM (R : Rel K F Z ms g σ H) {p : Addr} (h : H p = none) : p ∉ ms := fun hm => by
  obtain ⟨n, c, _, _, ok⟩ := R.cell hm
  cases c with
  | dk kvs =>
    obtain ⟨ws, e, _⟩ := ok
    rw [h] at e
    cases e
  | dn kvs =>
    obtain ⟨ws, e, _⟩ := ok
    rw [h] at e
    cases e
  | ls kvs =>
    obtain ⟨ws, e, _⟩ := ok
    rw [h] at e
    cases e
  | tb q =>
    obtain ⟨ws, e, _⟩ := ok
    rw [h] at e
    cases e
/-- a new object -/
theorem Le.upd {p : Addr} {o : HO} (h : H p = none) : Le Z ms H Z ms (upd H p o) := by
  have ne : ∀ {a : Addr} {u : HO}, H a = some u → a ≠ p := fun {a u} e q => by
    rw [q, h] at e
    cases e
  exact ⟨fun _ z => z, fun a xs _ e => by rw [L2.upd_ne (ne e)]; exact e, fun a xs e => by rw [L2.upd_ne (ne e)]; exact e, fun a o u e => by rw [L2.upd_ne (ne e)]; exact e, ⟨[], by simp⟩, fun a q e n => ⟨by rw [L2.upd_ne (ne e)]; exact e, n⟩⟩
theorem CellOk.mono {w : World} {Z' : Addr → Prop} {ms' : List Addr} {H' : Hp} {c : Cell} {a : Addr} (l : Le Z ms H Z' ms' H') (h : CellOk K Z ms H w c a) (e : H' a = H a) : CellOk K Z' ms' H' w c a := by
  cases c with
  | dk kvs =>
    obtain ⟨ws, e1, e2⟩ := h
    exact ⟨ws, by rw [e]; exact e1, DenKV.mono l _ _ e2⟩
  | dn kvs =>
    obtain ⟨ws, e1, e2⟩ := h
    exact ⟨ws, by rw [e]; exact e1, DenN.mono l _ _ e2⟩
  | ls kvs =>
    obtain ⟨ws, e1, e2⟩ := h
    exact ⟨ws, by rw [e]; exact e1, Dens.mono l _ _ e2⟩
  | tb q =>
    obtain ⟨ps, e1, e2, ek, e3⟩ := h
    refine ⟨ps, by rw [e]; exact e1, e2, ek, fun pos cv h => ?_⟩
    obtain ⟨c, h1, h2, h3⟩ := e3 pos cv h
    exact ⟨c, h1, l.c c q h2 h3⟩
theorem Rel.laid (R : Rel K F Z ms g σ H) {p : Addr} {o : HO} (h : H p = none) : Rel K F Z ms g σ (upd H p o) := by
  have l : Le Z ms H Z ms (upd H p o) := Le.upd h
  have ne : ∀ {a : Addr} {u : HO}, H a = some u → a ≠ p := fun {a u} e q => by
    rw [q, h] at e
    cases e
  refine ⟨R.len, fun i v e => ?_, fun i xs e => ?_, R.un, R.cn, fun n c a e1 e2 => ?_, R.nd, R.mz, R.zf, R.zz, fun a z => ?_, fun a u e => ?_, R.xs⟩
  · obtain ⟨x, e1, e2⟩ := R.vl i v e
    exact ⟨x, e1, Den.mono l _ _ e2⟩
  · obtain ⟨a, vs, e1, e2, e3, e4⟩ := R.ow i xs e
    exact ⟨a, vs, e1, by rw [L2.upd_ne (ne e2)]; exact e2, Dens.mono l _ _ e3, e4⟩
  · refine (R.cl n c a e1 e2).mono l (L2.upd_ne ?_)
    rintro rfl
    exact R.freeM h (List.mem_of_getElem? e2)
  · obtain ⟨vs, e⟩ := R.zs a z
    exact ⟨vs, by rw [L2.upd_ne (ne e)]; exact e⟩
  · have e1 := R.fr a u e
    rw [L2.upd_ne (ne e1)]
    exact e1
/-- a new list, nobody else's -/
theorem Rel.newL (R : Rel K F Z ms g σ H) {p : Addr} {xs : List PV} {vs : List V} (h : H p = none) (d : Dens K Z ms H xs vs) : ResOk K F Z ms g σ (upd H p (.lst vs)) (.new xs) (.ref p) := by
  refine ⟨p, vs, rfl, L2.upd_same, Dens.mono (Le.upd h) _ _ d, R.freeZ h, R.freeM h, R.freeF h, fun i ys e q => ?_⟩
  obtain ⟨a, ws, e1, e2, _⟩ := R.ow i ys e
  rw [q] at e1
  cases e1
  rw [h] at e2
  cases e2
theorem Rel.newT (R : Rel K F Z ms g σ H) {p : Addr} {xs : List PV} {vs : List V} {us : List Value} (h : H p = none) (d : Dens K Z ms H xs vs) : Den K Z ms (upd H p (.frz (tupO us) (.tup vs))) (.tup xs) (.ref p) := by
  simp only [Den]
  exact ⟨p, vs, rfl, .inl ⟨us, L2.upd_same⟩, Dens.mono (Le.upd h) _ _ d⟩
/-- a list that nobody else holds is made common -/
theorem Rel.freeze (R : Rel K F Z ms g σ H) {xs : List PV} {x : V} (h : ResOk K F Z ms g σ H (.new xs) x) :
    ∃ Z', Le Z ms H Z' ms H ∧ Rel K F Z' ms g σ H ∧ Den K Z' ms H (.lst xs) x := by
  obtain ⟨a, vs, rfl, e, d, nz, nm, nf, no⟩ := h
  have l : Le Z ms H (fun b => Z b ∨ b = a) ms H := ⟨fun _ z => .inl z, fun _ _ _ e => e, fun _ _ e => e, fun _ _ _ e => e, ⟨[], by simp⟩, fun _ _ e n => ⟨e, n⟩⟩
  refine ⟨fun b => Z b ∨ b = a, l, ⟨R.len, fun i v e => ?_, fun i ys e' => ?_, R.un, R.cn, fun n c b e1 e2 => (R.cl n c b e1 e2).mono l rfl, R.nd, fun b hb => ⟨?_, (R.mz b hb).2⟩, fun b z => z.elim (R.zf b) fun q => .inr (q ▸ nf), fun b z => .inl (R.zz b z), fun b z => ?_, R.fr, R.xs⟩, ?_⟩
  · obtain ⟨x, e1, e2⟩ := R.vl i v e
    exact ⟨x, e1, Den.mono l _ _ e2⟩
  · obtain ⟨b, ws, e1, e2, e3, e4, e5, e6⟩ := R.ow i ys e'
    refine ⟨b, ws, e1, e2, Dens.mono l _ _ e3, ?_, e5, e6⟩
    rintro (z | rfl)
    · exact e4 z
    · exact no i ys e' e1
  · rintro (z | rfl)
    · exact (R.mz b hb).1 z
    · exact nm hb
  · rcases z with z | rfl
    · exact R.zs b z
    · exact ⟨vs, e⟩
  · simp only [Den]
    exact ⟨a, vs, rfl, .inr rfl, e, Dens.mono l _ _ d⟩
/-- any result, made common -/
theorem Rel.force (R : Rel K F Z ms g σ H) {r : Res} {x : V} (h : ResOk K F Z ms g σ H r x) : ∃ Z', Le Z ms H Z' ms H ∧ Rel K F Z' ms g σ H ∧ Den K Z' ms H r.pv x := by
  cases r with
  | val v => exact ⟨Z, .refl, R, h⟩
  | new xs => exact R.freeze h
end
end Ev
/-! # Ev: dicts whose keys are tuples. -/
namespace Ev
open PySem PySem.Spec
open L2 (V Hp HO upd SqL SqT Rd Cx Inv PE PT PW PA PS PSs PG PGs PI PK VK TE TT TA TS TG TGs TI Ends RelV Vals It Dp DpAll OpR UnR CallR TruR IxR SlR MtR EP TP AP SP RelO)
theorem DN_code {w : World} {d : Addr} {es} {a : Addr} {q : Str} : DN w d es ≠ LamX.CodeO a q := fun e => by
  unfold DN LamX.CodeO at e
  have e := L2.HO.ext.inj e
  let ob : Obj := { cls := .none, data := .fields #[.none, .str q 0] }
  let h : Heap := { objs := Array.replicate (a + d + 1) ob }
  have g : ∀ x, x ≤ a + d → h.get? x = some ob := fun x hx => by
    show (match (Array.replicate (a + d + 1) ob)[x]? with | some ⟨_, _, .freed, _⟩ => none | o => o) = _
    rw [Array.getElem?_replicate, if_pos (Nat.lt_succ_of_le hx)]
  have e1 := congrFun e h
  have r : DNraw w d es h := by
    rw [e1]
    exact ⟨ob, _, 0, g a (Nat.le_add_right ..), rfl, rfl⟩
  obtain ⟨_, _, _, o, arr, ep, xs, h1, _, h2, _⟩ := r
  rw [g d (Nat.le_add_left ..)] at h1
  cases h1
  cases h2
theorem CellOk.code {K : PySem.W.Frag} {Z : Addr → Prop} {ms : List Addr} {H : Hp} {w : World} {c : Cell} {d : Addr} {o : HO} (ok : CellOk K Z ms H w c d) (e : H d = some o) : ∀ a q, o ≠ LamX.CodeO a q := by
  intro a q
  cases c with
  | dk kvs =>
    obtain ⟨ws, h, _⟩ := ok
    rw [e] at h
    have h := Option.some.inj h
    subst h
    exact fun q => L2.HO.noConfusion q
  | dn kvs =>
    obtain ⟨ws, h, _⟩ := ok
    rw [e] at h
    have h := Option.some.inj h
    subst h
    exact DN_code
  | ls kvs =>
    obtain ⟨ws, h, _⟩ := ok
    rw [e] at h
    have h := Option.some.inj h
    subst h
    exact fun q => L2.HO.noConfusion q
  | tb q =>
    obtain ⟨ws, h, _⟩ := ok
    rw [e] at h
    have h := Option.some.inj h
    subst h
    exact fun q => L2.HO.noConfusion q

section
variable {X : Cx} {pins : List (Addr × Obj)} {σ : L2.St} {H : Hp} {s : Shared} {Z : Addr → Prop} {ms : List Addr}
mutual
theorem Den.nest (I : Inv X pins σ H s) : ∀ (y : PV) (x : V) (u : Value) (k : NestedKey), Den X.K Z ms H y x → RelV x u → nk y = some k → NestedIs s.heap k u
  | .non, x, u, k, d, r, e => by
    simp only [Den] at d
    subst d
    cases r
    simp only [nk] at e
    cases e
    exact .none
  | .bl b, x, u, k, d, r, e => by
    simp only [Den] at d
    subst d
    cases r
    simp only [nk] at e
    cases e
    exact .bool rfl
  | .int i, x, u, k, d, r, e => by
    simp only [Den] at d
    subst d
    obtain ⟨t, rfl⟩ := r
    simp only [nk] at e
    cases e
    exact .int i t
  | .str i, x, u, k, d, r, e => by
    simp only [Den] at d
    subst d
    obtain ⟨t, rfl⟩ := r
    simp only [nk] at e
    cases e
    exact .text i t
  | .tup ys, x, u, k, d, r, e => by
    simp only [Den] at d
    simp only [nk] at e
    obtain ⟨ks, e1, rfl⟩ := Option.map_eq_some_iff.mp e
    obtain ⟨a, vs, rfl, h1, h2⟩ := d
    obtain ⟨its, r1, ⟨o, o1, o2, n, o3⟩, _⟩ := I.tuple h1.sqT
    cases r
    exact .tup o1 o2 o3 (by simpa using Dens.nest I ys vs its ks h2 r1 e1)
  | .lst ys, x, u, k, d, r, e => by simp only [nk] at e; cases e
  | .fz ys, x, u, k, d, r, e => by simp only [nk] at e; cases e
  | .ref ys, x, u, k, d, r, e => by simp only [nk] at e; cases e
  | .ty ys, x, u, k, d, r, e => by simp only [nk] at e; cases e
theorem Dens.nest (I : Inv X pins σ H s) : ∀ (ys : List PV) (vs : List V) (us : List Value) (ks : List NestedKey), Dens X.K Z ms H ys vs → Vals vs us → nks ys = some ks → NestedAll s.heap ks us
  | [], vs, us, ks, d, r, e => by
    simp only [Dens] at d
    subst d
    cases r
    simp only [nks] at e
    cases e
    exact .nil
  | y :: ys, vs, us, ks, d, r, e => by
    simp only [Dens] at d
    obtain ⟨v, vs', rfl, h1, h2⟩ := d
    cases r with
    | cons r1 r2 =>
      simp only [nks] at e
      obtain ⟨k, e1, e2⟩ := Option.bind_eq_some_iff.mp e
      obtain ⟨ks', e3, rfl⟩ := Option.map_eq_some_iff.mp e2
      exact .cons (Den.nest I y v _ k h1 r1 e1) (Dens.nest I ys vs' _ ks' h2 r2 e3)
end
theorem nkT_some {y : PV} {n : NestedKey} (e : nkT y = some n) : nk y = some n ∧ n.depth ≤ 8 := by
  unfold nkT at e
  split at e
  · obtain ⟨ks, e1, e2⟩ := Option.bind_eq_some_iff.mp e
    split at e2
    · cases e2
      exact ⟨by simp only [nk, e1, Option.map_some], by assumption⟩
    · cases e2
  · cases e
theorem Den.key (I : Inv X pins σ H s) {y : PV} {a : Addr} {n : NestedKey} (d : Den X.K Z ms H y (.ref a)) (e : nkT y = some n) : (nestedKind X.prog X.w).is s.heap n a := by
  obtain ⟨e1, e2⟩ := nkT_some e
  exact ⟨Den.nest I y _ _ n d rfl e1, e2⟩
end

/-! ### the lists -/
def valE (es : List (NestedKey × Addr × V)) (n : NestedKey) : Option V := (es.find? fun e => decide (e.1 = n)).map (·.2.2)
def putE (es : List (NestedKey × Addr × V)) (n : NestedKey) (a : Addr) (x : V) : List (NestedKey × Addr × V) :=
  if (es.any fun e => decide (e.1 = n)) = true then es.map (fun e => if e.1 = n then (e.1, e.2.1, x) else e) else es ++ [(n, a, x)]
theorem EN.length {es : List (NestedKey × Addr × V)} {xs : List (NestedKey × Addr × Value)} (r : EN es xs) : es.length = xs.length := by
  induction r with
  | nil => rfl
  | cons _ _ ih => simp [ih]
theorem EN.fst {es : List (NestedKey × Addr × V)} {xs : List (NestedKey × Addr × Value)} (r : EN es xs) : es.map (·.1) = xs.map (·.1) := by
  induction r with
  | nil => rfl
  | cons _ _ ih => simp [ih]
theorem EN.val {es : List (NestedKey × Addr × V)} {xs : List (NestedKey × Addr × Value)} (r : EN es xs) (n : NestedKey) : RelO (valE es n) ((atKey xs n).map (·.2)) := by
  induction r with
  | nil => exact True.intro
  | @cons m a x u r s h t ih =>
    by_cases e : m = n
    · have h1 : valE ((m, a, x) :: r) n = some x := by simp [valE, e]
      have h2 : atKey ((m, a, u) :: s) n = some (a, u) := by simp [atKey, e]
      rw [h1, h2]
      exact h
    · have h1 : valE ((m, a, x) :: r) n = valE r n := by simp [valE, e]
      have h2 : atKey ((m, a, u) :: s) n = atKey s n := by simp [atKey, e]
      rw [h1, h2]
      exact ih
theorem EN.any {es : List (NestedKey × Addr × V)} {xs : List (NestedKey × Addr × Value)} (r : EN es xs) (n : NestedKey) : (es.any fun e => decide (e.1 = n)) = (atKey xs n).isSome := by
  induction r with
  | nil => rfl
  | @cons m a x u r s h t ih =>
    by_cases e : m = n
    · simp [atKey, e]
    · have h2 : atKey ((m, a, u) :: s) n = atKey s n := by simp [atKey, e]
      rw [h2, ← ih]
      simp [e]
theorem EN.put {es : List (NestedKey × Addr × V)} {xs : List (NestedKey × Addr × Value)} (r : EN es xs) (n : NestedKey) {a : Addr} {x : V} {u : Value} (h : RelV x u) : EN (putE es n a x) (storedH xs n a u) := by
  have snoc : ∀ {es xs}, EN es xs → EN (es ++ [(n, a, x)]) (xs ++ [(n, a, u)]) := by
    intro es xs r
    induction r with
    | nil => exact .cons h .nil
    | cons h1 _ ih => exact .cons h1 ih
  have repl : ∀ {es xs}, EN es xs → EN (es.map (fun e => if e.1 = n then (e.1, e.2.1, x) else e)) (xs.map (putAt n u)) := by
    intro es xs r
    induction r with
    | nil => exact .nil
    | @cons m b y w r s h1 t ih =>
      by_cases e : m = n
      · simp only [List.map_cons, if_pos e, putAt]
        exact .cons h ih
      · simp only [List.map_cons, if_neg e, putAt]
        exact .cons h1 ih
  unfold putE storedH
  rw [r.any n]
  split
  · exact repl r
  · exact snoc r
section
variable {K : PySem.W.Frag} {Z : Addr → Prop} {ms : List Addr} {H : Hp}
theorem DenN.length : ∀ {kvs : List (PV × PV)} {es : List (NestedKey × Addr × V)}, DenN K Z ms H kvs es → es.length = kvs.length
  | [], _, d => by
    simp only [DenN] at d
    subst d
    rfl
  | (j, y) :: r, es, d => by
    simp only [DenN] at d
    obtain ⟨n, a, x, s, rfl, _, _, _, h2⟩ := d
    simp [DenN.length h2]
theorem DenN.get : ∀ {kvs : List (PV × PV)} {es : List (NestedKey × Addr × V)} {n : NestedKey}, DenN K Z ms H kvs es → match getN kvs n with
    | some v => ∃ x, valE es n = some x ∧ Den K Z ms H v x
    | none => valE es n = none
  | [], es, n, d => by
    simp only [DenN] at d
    subst d
    simp [getN, valE]
  | (j, y) :: r, es, n, d => by
    simp only [DenN] at d
    obtain ⟨m, a, x, s, rfl, h0, h1, h2, h3⟩ := d
    by_cases e : m = n
    · have e1 : getN ((j, y) :: r) n = some y := by simp [getN, h0, e]
      have e2 : valE ((m, a, x) :: s) n = some x := by simp [valE, e]
      rw [e1]
      exact ⟨x, e2, h2⟩
    · have e1 : getN ((j, y) :: r) n = getN r n := by simp [getN, h0, e]
      have e2 : valE ((m, a, x) :: s) n = valE s n := by simp [valE, e]
      rw [e1, e2]
      exact DenN.get h3
theorem DenN.any : ∀ {kvs : List (PV × PV)} {es : List (NestedKey × Addr × V)} {n : NestedKey}, DenN K Z ms H kvs es → (es.any fun e => decide (e.1 = n)) = kvs.any fun kv => decide (nkT kv.1 = some n)
  | [], es, n, d => by
    simp only [DenN] at d
    subst d
    rfl
  | (j, y) :: r, es, n, d => by
    simp only [DenN] at d
    obtain ⟨m, a, x, s, rfl, h0, h1, h2, h3⟩ := d
    simp only [List.any_cons, DenN.any h3, h0, Option.some.injEq]
theorem DenN.put {kvs : List (PV × PV)} {es : List (NestedKey × Addr × V)} {n : NestedKey} {k v : PV} {a : Addr} {x : V} (d : DenN K Z ms H kvs es) (hk : nkT k = some n) (dk : Den K Z ms H k (.ref a)) (dv : Den K Z ms H v x) : DenN K Z ms H (putN kvs n k v) (putE es n a x) := by
  have snoc : ∀ {kvs : List (PV × PV)} {es : List (NestedKey × Addr × V)}, DenN K Z ms H kvs es → DenN K Z ms H (kvs ++ [(k, v)]) (es ++ [(n, a, x)]) := by
    intro kvs
    induction kvs with
    | nil =>
      intro es d
      simp only [DenN] at d
      subst d
      simp only [List.nil_append, DenN]
      exact ⟨n, a, x, [], rfl, hk, dk, dv, rfl⟩
    | cons kv r ih =>
      obtain ⟨j, y⟩ := kv
      intro es d
      simp only [DenN] at d
      obtain ⟨m, b, z, s, rfl, h0, h1, h2, h3⟩ := d
      simp only [List.cons_append, DenN]
      exact ⟨m, b, z, _, rfl, h0, h1, h2, ih h3⟩
  have repl : ∀ {kvs : List (PV × PV)} {es : List (NestedKey × Addr × V)}, DenN K Z ms H kvs es → DenN K Z ms H (kvs.map fun kv => if nkT kv.1 = some n then (kv.1, v) else kv) (es.map (fun e => if e.1 = n then (e.1, e.2.1, x) else e)) := by
    intro kvs
    induction kvs with
    | nil =>
      intro es d
      simp only [DenN] at d
      subst d
      simp [DenN]
    | cons kv r ih =>
      obtain ⟨j, y⟩ := kv
      intro es d
      simp only [DenN] at d
      obtain ⟨m, b, z, s, rfl, h0, h1, h2, h3⟩ := d
      by_cases e : m = n
      · have e' : nkT j = some n := by rw [h0, e]
        simp only [List.map_cons, if_pos e, if_pos e', DenN]
        exact ⟨m, b, x, _, rfl, h0, h1, dv, ih h3⟩
      · have e' : ¬ nkT j = some n := by rw [h0]; simpa using e
        simp only [List.map_cons, if_neg e, if_neg e', DenN]
        exact ⟨m, b, z, _, rfl, h0, h1, h2, ih h3⟩
  unfold putN putE
  rw [d.any]
  split
  · exact repl d
  · exact snoc d
theorem DenN.key : ∀ {kvs : List (PV × PV)} {es : List (NestedKey × Addr × V)}, DenN K Z ms H kvs es → ∀ e ∈ es, ∃ k, nkT k = some e.1 ∧ Den K Z ms H k (.ref e.2.1)
  | [], es, d, e, h => by
    simp only [DenN] at d
    subst d
    cases h
  | (j, y) :: r, es, d, e, h => by
    simp only [DenN] at d
    obtain ⟨m, a, x, s, rfl, h0, h1, h2, h3⟩ := d
    rcases List.mem_cons.mp h with rfl | q
    · exact ⟨j, h0, h1⟩
    · exact DenN.key h3 e q
theorem putE_length {es : List (NestedKey × Addr × V)} {n : NestedKey} {a : Addr} {x : V} : (putE es n a x).length ≤ es.length + 1 := by
  unfold putE
  split <;> simp
theorem EN.mem {es : List (NestedKey × Addr × V)} {xs : List (NestedKey × Addr × Value)} (r : EN es xs) : ∀ x ∈ xs, ∃ e ∈ es, e.1 = x.1 ∧ e.2.1 = x.2.1 := by
  induction r with
  | nil => exact nofun
  | cons _ _ ih =>
    intro x hx
    rcases List.mem_cons.mp hx with rfl | q
    · exact ⟨_, List.mem_cons_self, rfl, rfl⟩
    · obtain ⟨e, h1, h2⟩ := ih x q
      exact ⟨e, List.mem_cons_of_mem _ h1, h2⟩
end

/-! ### at the machine -/
theorem DN_new {P : Program} {w : World} {H : Hp} {h : Heap} {d : Addr} {es : List (NestedKey × Addr × V)} {xs : List (NestedKey × Addr × Value)} (hd : (d == sysModules) = false) (hl : es.length ≤ sizeLine) (r : EN es xs) (m : h.DictOfH (nestedKind P w) d xs) : L2.ObjOk P w H h d (DN w d es) := by
  obtain ⟨o, arr, ep, h1, h2, h3, h4, h5, h6⟩ := m
  refine ⟨⟨hd, hl, by rw [r.fst]; exact h6, o, arr, ep, xs, h1, h2, h3, r, h4⟩, ⟨o, h1⟩, ?_⟩
  rintro g1 g2 ⟨a1, a2, a3, o', arr', ep', xs', b1, b2, b3, b4, b5⟩ k
  exact ⟨a1, a2, a3, o', arr', ep', xs', k _ b1, b2, b3, b4, b5⟩
section
variable {X : Cx} {pins : List (Addr × Obj)} {σ : L2.St} {H : Hp} {s : Shared} {Z : Addr → Prop} {ms : List Addr} {A : Around} {E : Value → Shared → Prop} {d : Addr} {kvs : List (PV × PV)} {es : List (NestedKey × Addr × V)}
theorem dn_of (I : Inv X pins σ H s) (e : H d = some (DN X.w d es)) (dd : DenN X.K Z ms H kvs es) : (d == sysModules) = false ∧ es.length ≤ sizeLine ∧ ∃ xs, EN es xs ∧ s.heap.DictOfH (nestedKind X.prog X.w) d xs := by
  obtain ⟨⟨h1, h2, h3, o, arr, ep, xs, h4, h5, h6, h7, h8⟩, _⟩ := I.hok d _ e
  refine ⟨h1, h2, xs, h7, o, arr, ep, h4, h5, h6, h8, fun x hx => ?_, by rw [← h7.fst]; exact h3⟩
  obtain ⟨e', m, q1, q2⟩ := h7.mem x hx
  obtain ⟨k, k1, k2⟩ := dd.key e' m
  rw [← q1, ← q2]
  exact Den.key I k2 k1
theorem dn_typeIs (I : Inv X pins σ H s) (e : H d = some (DN X.w d es)) (dd : DenN X.K Z ms H kvs es) : s.TypeIs (.ref d) "dict" := by
  obtain ⟨_, _, xs, _, m⟩ := dn_of I e dd
  exact m.typeIs
theorem dn_getItem {k v : PV} {n : NestedKey} {b : Addr} {Q : Value → Shared → Prop} (hu : A.units + 20 < cLine) (I : Inv X pins σ H s) (e : H d = some (DN X.w d es)) (dd : DenN X.K Z ms H kvs es) (hk : nkT k = some n) (dk : Den X.K Z ms H k (.ref b)) (hv : getN kvs n = some v)
    (h : ∀ x w' s', Inv X pins σ H s' → RelV x w' → Den X.K Z ms H v x → Q w' s') : wpAny (model X.prog X.w) A (getItem (.ref d) (.ref b)) Q E s := by
  obtain ⟨_, _, xs, r, m⟩ := dn_of I e dd
  have g := dd.get (n := n)
  rw [hv] at g
  obtain ⟨x, g1, g2⟩ := g
  have rr := r.val n
  rw [g1] at rr
  cases q : atKey xs n with
  | none => rw [q] at rr; exact rr.elim
  | some p =>
    rw [q] at rr
    exact wpAny_getItem_heap (show A.in1.units + 8 < cLine by show A.units + 1 + 8 < cLine; omega) (Den.key I dk hk) m q (h x p.2 _ (I.tok _) rr g2)
theorem dn_in {k : PV} {n : NestedKey} {b : Addr} {Q : Value → Shared → Prop} (hu : A.units + 20 < cLine) (I : Inv X pins σ H s) (e : H d = some (DN X.w d es)) (dd : DenN X.K Z ms H kvs es) (hk : nkT k = some n) (dk : Den X.K Z ms H k (.ref b)) :
    ((∀ s', Inv X pins σ H s' → Q (.bool (getN kvs n).isSome) s') → wpAny (model X.prog X.w) A (compareOp .In (.ref b) (.ref d)) Q E s) ∧ ((∀ s', Inv X pins σ H s' → Q (.bool (!(getN kvs n).isSome)) s') → wpAny (model X.prog X.w) A (compareOp .NotIn (.ref b) (.ref d)) Q E s) := by
  obtain ⟨hd, _, xs, r, m⟩ := dn_of I e dd
  have ee : (atKey xs n).isSome = (getN kvs n).isSome := by
    have rr := r.val n
    have g := dd.get (n := n)
    cases q : getN kvs n with
    | none =>
      rw [q] at g
      rw [g] at rr
      cases q2 : atKey xs n with
      | none => rfl
      | some p => rw [q2] at rr; exact rr.elim
    | some v =>
      rw [q] at g
      obtain ⟨x, g1, _⟩ := g
      rw [g1] at rr
      cases q2 : atKey xs n with
      | none => rw [q2] at rr; exact rr.elim
      | some p => rfl
  have ru : (nestedKind X.prog X.w).room A.in1 := show A.in1.units + 8 < cLine by show A.units + 1 + 8 < cLine; omega
  refine ⟨fun h => wpAny_in_heap ru (Den.key I dk hk) hd m ?_, fun h => notIn_keyed ru (Den.key I dk hk) hd ⟨xs, m, rfl⟩ ?_⟩
  · rw [ee]
    exact h _ (I.tok _)
  · rw [valueAt_pairsH, Option.isSome_map, ee]
    exact h _ (I.tok _)
theorem dn_dictSet {k v : PV} {n : NestedKey} {b : Addr} {x : V} {r : Value} {Q : Unit → Shared → Prop} (hu : A.units + 20 < cLine) (I : Inv X pins σ H s) (e : H d = some (DN X.w d es)) (dd : DenN X.K Z ms H kvs es) (hk : nkT k = some n) (dk : Den X.K Z ms H k (.ref b)) (hl : kvs.length < sizeLine) (rv : RelV x r)
    (h : ∀ s', Inv X pins σ (upd H d (DN X.w d (putE es n b x))) s' → Q () s') : wpAny (model X.prog X.w) A (dictSet d (.ref b) r) Q E s := by
  obtain ⟨hd, hz, xs, rr, m⟩ := dn_of I e dd
  have hl' := dd.length
  refine wpAny_dictSet_heap (hsz := by rw [← rr.length]; exact hz) (show A.units + 8 < cLine by omega) (Den.key I dk hk) m fun h' m' hs => h _ ?_
  have he : ∃ q, h'.get? d = some q := let ⟨q, _, _, hq, _⟩ := m'; ⟨q, hq⟩
  exact L2.d_write I (by rw [e]; exact True.intro) hs he (DN_new hd (by have := putE_length (es := es) (n := n) (a := b) (x := x); omega) (rr.put n rv) m')
theorem dn_setItem {k v : PV} {n : NestedKey} {b : Addr} {x : V} {r : Value} {Q : Unit → Shared → Prop} (hu : A.units + 20 < cLine) (I : Inv X pins σ H s) (e : H d = some (DN X.w d es)) (dd : DenN X.K Z ms H kvs es) (hk : nkT k = some n) (dk : Den X.K Z ms H k (.ref b)) (hl : kvs.length < sizeLine) (rv : RelV x r)
    (h : ∀ s', Inv X pins σ (upd H d (DN X.w d (putE es n b x))) s' → Q () s') : wpAny (model X.prog X.w) A (setItem (.ref d) (.ref b) r) Q E s := by
  obtain ⟨hd, hz, xs, rr, m⟩ := dn_of I e dd
  have hl' := dd.length
  refine wpAny_setItem_heap (hsz := by rw [← rr.length]; exact hz) (show A.in1.units + 8 < cLine by show A.units + 1 + 8 < cLine; omega) (Den.key I dk hk) m fun h' m' hs => h _ ?_
  have he : ∃ q, h'.get? d = some q := let ⟨q, _, _, hq, _⟩ := m'; ⟨q, hq⟩
  exact L2.d_write I (by rw [e]; exact True.intro) hs he (DN_new hd (by have := putE_length (es := es) (n := n) (a := b) (x := x); omega) (rr.put n rv) m')
/-- an empty dict is one of either kind -/
theorem dk_dn (I : Inv X pins σ H s) (e : H d = some (.dK [])) : (d == sysModules) = false ∧ s.heap.DictOfH (nestedKind X.prog X.w) d [] := by
  obtain ⟨_, hd, vs, rel, o, arr, ep, h1, h2, h3, h4⟩ := L2.dk_of I.hok e
  cases rel
  obtain ⟨_, h5, _⟩ := h4
  have h6 : arr.toList = [] := by
    revert h5
    generalize arr.toList = l
    intro h5
    cases h5
    rfl
  exact ⟨hd, o, arr, ep, h1, h2, h3, h6, nofun, List.nodup_nil⟩
theorem dn_setItem0 {k v : PV} {n : NestedKey} {b : Addr} {x : V} {r : Value} {Q : Unit → Shared → Prop} (hu : A.units + 20 < cLine) (I : Inv X pins σ H s) (e : H d = some (.dK [])) (hk : nkT k = some n) (dk : Den X.K Z ms H k (.ref b)) (rv : RelV x r)
    (h : ∀ s', Inv X pins σ (upd H d (DN X.w d [(n, b, x)])) s' → Q () s') : wpAny (model X.prog X.w) A (setItem (.ref d) (.ref b) r) Q E s := by
  obtain ⟨hd, m⟩ := dk_dn I e
  refine wpAny_setItem_heap (hsz := Nat.zero_le _) (show A.in1.units + 8 < cLine by show A.units + 1 + 8 < cLine; omega) (Den.key I dk hk) m fun h' m' hs => h _ ?_
  have he : ∃ q, h'.get? d = some q := let ⟨q, _, _, hq, _⟩ := m'; ⟨q, hq⟩
  exact L2.d_write I (by rw [e]; exact True.intro) hs he (DN_new hd (by show 1 ≤ sizeLine; decide) (.cons rv .nil) m')
theorem dn_dictSet0 {k v : PV} {n : NestedKey} {b : Addr} {x : V} {r : Value} {Q : Unit → Shared → Prop} (hu : A.units + 20 < cLine) (I : Inv X pins σ H s) (e : H d = some (.dK [])) (hk : nkT k = some n) (dk : Den X.K Z ms H k (.ref b)) (rv : RelV x r)
    (h : ∀ s', Inv X pins σ (upd H d (DN X.w d [(n, b, x)])) s' → Q () s') : wpAny (model X.prog X.w) A (dictSet d (.ref b) r) Q E s := by
  obtain ⟨hd, m⟩ := dk_dn I e
  refine wpAny_dictSet_heap (hsz := Nat.zero_le _) (show A.units + 8 < cLine by omega) (Den.key I dk hk) m fun h' m' hs => h _ ?_
  have he : ∃ q, h'.get? d = some q := let ⟨q, _, _, hq, _⟩ := m'; ⟨q, hq⟩
  exact L2.d_write I (by rw [e]; exact True.intro) hs he (DN_new hd (by show 1 ≤ sizeLine; decide) (.cons rv .nil) m')
/-! ### a cell -/
variable {c : Cell} {k : PV} {y : V} {u : Value}
theorem keyOf_D (dk : Den X.K Z ms H k y) {j : L2.Key} (e : keyOf k = some j) : y = L2.kV j := by
  unfold keyOf at e
  split at e
  · cases e
    simp only [Den] at dk
    subst dk
    rfl
  · cases e
    simp only [Den] at dk
    subst dk
    rfl
  · cases e
theorem nkT_D (dk : Den X.K Z ms H k y) {n : NestedKey} (e : nkT k = some n) : ∃ b, y = .ref b := by
  unfold nkT at e
  split at e
  · simp only [Den] at dk
    obtain ⟨a, _, rfl, _⟩ := dk
    exact ⟨a, rfl⟩
  · cases e
/-- what is there, if it is -/
def RelG (K : PySem.W.Frag) (Z : Addr → Prop) (ms : List Addr) (H : Hp) : Option PV → Option V → Prop
  | some v, r => ∃ x, r = some x ∧ Den K Z ms H v x
  | none, r => r = none
theorem RelG.isSome {K : PySem.W.Frag} {Z : Addr → Prop} {ms : List Addr} {H : Hp} {o : Option PV} {r : Option V} (h : RelG K Z ms H o r) : r.isSome = o.isSome := by
  cases o with
  | none =>
    have h : r = none := h
    rw [h]
    rfl
  | some v =>
    obtain ⟨x, h, _⟩ := h
    rw [h]
    rfl
theorem getK_D {j : L2.Key} : ∀ {kvs : List (Key × PV)} {ws : List (Key × V)}, DenKV X.K Z ms H kvs ws → RelG X.K Z ms H (getK kvs j) (L2.valV ws j)
  | [], _, d => by
    simp only [DenKV] at d
    subst d
    rfl
  | (i, v) :: r, ws, d => by
    simp only [DenKV] at d
    obtain ⟨x, s, rfl, h1, h2⟩ := d
    by_cases hj : i = j
    · have e1 : getK ((i, v) :: r) j = some v := by simp [getK, hj]
      rw [e1]
      exact ⟨x, L2.valV_pos hj, h1⟩
    · have e1 : getK ((i, v) :: r) j = getK r j := by simp [getK, hj]
      rw [e1, L2.valV_neg (p := (i, x)) hj]
      exact getK_D h2
/-- what the evaluator reads at a key -/
theorem cell_cases (ok : CellOk X.K Z ms H X.w c d) (dk : Den X.K Z ms H k y) {o : Option PV} (e : getC c k = some o) :
    (∃ (ws : List (Key × V)) (j : L2.Key), H d = some (.dK ws) ∧ y = L2.kV j ∧ RelG X.K Z ms H o (L2.valV ws j)) ∨
    (∃ n b, H d = some (.dK []) ∧ nkT k = some n ∧ y = .ref b ∧ o = none) ∨
    ∃ kvs es n b, H d = some (DN X.w d es) ∧ DenN X.K Z ms H kvs es ∧ nkT k = some n ∧ y = .ref b ∧ getN kvs n = o := by
  cases c with
  | dk kvs =>
    obtain ⟨ws, h1, h2⟩ := ok
    simp only [getC] at e
    split at e
    · rename_i j hj
      cases e
      exact .inl ⟨ws, j, h1, keyOf_D dk hj, getK_D h2⟩
    · split at e
      · obtain ⟨n, e1, rfl⟩ := Option.map_eq_some_iff.mp e
        obtain ⟨b, rfl⟩ := nkT_D dk e1
        simp only [DenKV] at h2
        subst h2
        exact .inr (.inl ⟨n, b, h1, e1, rfl, rfl⟩)
      · cases e
  | dn kvs =>
    obtain ⟨es, h1, h2⟩ := ok
    simp only [getC] at e
    obtain ⟨n, e1, e2⟩ := Option.map_eq_some_iff.mp e
    obtain ⟨b, rfl⟩ := nkT_D dk e1
    exact .inr (.inr ⟨kvs, es, n, b, h1, h2, e1, rfl, e2⟩)
  | ls xs => cases e
  | tb q => cases e
theorem cell_typeIs (I : Inv X pins σ H s) (ok : CellOk X.K Z ms H X.w c d) (di : isD c = true) : s.TypeIs (.ref d) "dict" := by
  cases c with
  | dk kvs =>
    obtain ⟨ws, h1, h2⟩ := ok
    obtain ⟨_, _, vs, _, m⟩ := L2.dk_of I.hok h1
    exact m.typeIs
  | dn kvs =>
    obtain ⟨es, h1, h2⟩ := ok
    exact dn_typeIs I h1 h2
  | ls xs => cases di
  | tb q => cases di
theorem cell_getItem {v : PV} {Q : Value → Shared → Prop} (hu : A.units + 20 < cLine) (I : Inv X pins σ H s) (ok : CellOk X.K Z ms H X.w c d) (dk : Den X.K Z ms H k y) (ry : RelV y u) (e : getC c k = some (some v))
    (h : ∀ x w' s', Inv X pins σ H s' → RelV x w' → Den X.K Z ms H v x → Q w' s') : wpAny (model X.prog X.w) A (getItem (.ref d) u) Q E s := by
  rcases cell_cases ok dk e with ⟨ws, j, h1, rfl, x, h3, h4⟩ | ⟨n, b, _, _, _, h4⟩ | ⟨kvs, es, n, b, h1, h2, h3, rfl, h5⟩
  · refine L2.d_getItem (by omega) I (v := x) (y := L2.kV j) ?_ ry fun w' s' I' r' => h x w' s' I' r' h4
    rw [← h3]
    exact L2.DGet.k h1
  · cases h4
  · cases ry
    exact dn_getItem hu I h1 h2 h3 dk h5 h
theorem cell_in {o : Option PV} {Q : Value → Shared → Prop} (hu : A.units + 20 < cLine) (I : Inv X pins σ H s) (ok : CellOk X.K Z ms H X.w c d) (dk : Den X.K Z ms H k y) (ry : RelV y u) (e : getC c k = some o) :
    ((∀ s', Inv X pins σ H s' → Q (.bool o.isSome) s') → wpAny (model X.prog X.w) A (compareOp .In u (.ref d)) Q E s) ∧ ((∀ s', Inv X pins σ H s' → Q (.bool (!o.isSome)) s') → wpAny (model X.prog X.w) A (compareOp .NotIn u (.ref d)) Q E s) := by
  rcases cell_cases ok dk e with ⟨ws, j, h1, rfl, h3⟩ | ⟨n, b, h1, h2, rfl, rfl⟩ | ⟨kvs, es, n, b, h1, h2, h3, rfl, h5⟩
  · have q := h3.isSome
    refine ⟨fun h => L2.d_in (by omega) I (L2.DGet.k (k := j) h1) ry ?_, fun h => L2.d_notIn (by omega) I (L2.DGet.k (k := j) h1) ry ?_⟩
    · rw [q]
      exact h
    · rw [q]
      exact h
  · cases ry
    obtain ⟨hd, m⟩ := dk_dn I h1
    have ru : (nestedKind X.prog X.w).room A.in1 := show A.in1.units + 8 < cLine by show A.units + 1 + 8 < cLine; omega
    exact ⟨fun h => wpAny_in_heap ru (Den.key I dk h2) hd m (h _ (I.tok _)), fun h => notIn_keyed ru (Den.key I dk h2) hd ⟨[], m, rfl⟩ (h _ (I.tok _))⟩
  · cases ry
    have := dn_in (Q := Q) (E := E) hu I h1 h2 h3 dk
    rw [h5] at this
    exact this
end
end Ev
/-! # Ev: tuples laid, known to the object (so that their methods are found). -/
namespace Ev
open PySem PySem.Spec PyProof.Rows
open L2 (V Hp HO upd SqL SqT Rd Cx Inv PE PT PW PA PS PSs PG PGs PI PK VK TE TT TA TS TG TGs TI Ends RelV Vals It Dp DpAll OpR UnR CallR TruR IxR SlR MtR EP TP AP SP)
section
variable {X : Cx} {pins : List (Addr × Obj)} {σ : L2.St} {H : Hp} {s : Shared}
theorem tupO_ok {P : Program} {w : World} {H' : Hp} {h' : Heap} {a : Addr} {ws : List Value} {ys : List V} (e : h'.get? a = some (tupO ws)) (r : Vals ys ws) (z : ys.length ≤ sizeLine) : L2.ObjOk P w H' h' a (.frz (tupO ws) (.tup ys)) :=
  ⟨e, z, ws, r, _, e, rfl, _, rfl⟩
/-- a tuple is laid on the heap's top -/
theorem lay_tup {Q : VK} {tk : Nat} (I : Inv X pins σ H s) {ws : List Value} {ys : List V} (r : Vals ys ws) (z : ys.length ≤ sizeLine) (q : ∀ p us, H p = none → Vals ys us → Q (.ref p) (upd H p (.frz (tupO us) (.tup ys)))) :
    EP X pins σ Q (.ref s.heap.objs.size) { s with heap := s.heap.push (tupO ws), toks := tk } :=
  ⟨.ref _, _, I.laid (fun _ _ e => Heap.get?_push_of_some _ e) (Nat.le_refl _) (tupO_ok (Heap.get?_push_size _ rfl) r z), rfl, q _ ws (I.hok.fresh (Nat.le_refl _)) r⟩
/-- (e, ..) -/
def tTupF (t : TA) : TE := fun σ H Q => t σ H fun ys H1 => ys.length ≤ sizeLine ∧ ∀ p us, H1 p = none → Vals ys us → Q (.ref p) (upd H1 p (.frz (tupO us) (.tup ys)))
theorem pe_tupF {es : List Expr} {t : TA} {k : Nat} {pos : Pos} (h : PA X es t) : PE X (.Tuple es k pos) (tTupF t) :=
  ⟨fun pins s σ H Q I hq => PySem.wpAny_Tuple_spliced (L2.thn (h.run pos pins s σ H _ I hq) fun us s1 ⟨ys, H1, I1, r, z, q⟩ => ⟨by rw [← r.length]; exact z, lay_tup (tk := s1.toks) I1 r z q⟩)⟩
/-- t + u -/
def rCatF (K : PySem.W.Frag) : V → V → Hp → VK → Prop := fun x y H Q => ∃ a b xs ys, x = .ref a ∧ y = .ref b ∧ SqT K H a xs ∧ SqT K H b ys ∧ xs.length + ys.length ≤ sizeLine ∧
  (xs = [] → Q (.ref b) H) ∧ (xs ≠ [] → ys = [] → Q (.ref a) H) ∧ (xs ≠ [] → ys ≠ [] → ∀ p us, H p = none → Vals (xs ++ ys) us → Q (.ref p) (upd H p (.frz (tupO us) (.tup (xs ++ ys)))))
theorem op_catF : OpR X (binaryOp .Add) (rCatF X.K) := by
  intro pins s σ H x y v u Q I rx ry h
  obtain ⟨a, b, xs, ys, rfl, rfl, ha, hb, hz, q0, q1, q2⟩ := h
  by_cases hx : xs = []
  · exact L2.op_catA pins s σ H _ _ v u Q I rx ry ⟨a, b, xs, ys, rfl, rfl, ha, hb, hz, q0, fun n => absurd hx n, fun n => absurd hx n⟩
  by_cases hy : ys = []
  · exact L2.op_catA pins s σ H _ _ v u Q I rx ry ⟨a, b, xs, ys, rfl, rfl, ha, hb, hz, fun n => absurd n hx, q1, fun _ n => absurd hy n⟩
  cases rx
  cases ry
  obtain ⟨i1, r1, p1, _⟩ := I.tuple ha
  obtain ⟨i2, r2, p2, _⟩ := I.tuple hb
  refine HT.cat_tup p1 p2 (fun z => hx (r1.nil_iff.mp z)) (fun z => absurd (r2.nil_iff.mp z) hy) (fun _ => ?_) (by rw [← r1.length, ← r2.length]; exact hz)
  exact lay_tup (tk := s.toks) I (r1.append r2) (by rw [List.length_append]; exact hz) (q2 hx hy)
/-- t[lo:hi] -/
def rSlF (K : PySem.W.Frag) : V → Option Int → Option Int → Hp → VK → Prop := fun x lo hi H Q => ∃ a xs, x = .ref a ∧ SqT K H a xs ∧
  (HT.sIx xs.length 0 lo = 0 ∧ HT.sIx xs.length xs.length hi = xs.length → Q (.ref a) H) ∧ (¬ (HT.sIx xs.length 0 lo = 0 ∧ HT.sIx xs.length xs.length hi = xs.length) → ∀ p us, H p = none → Vals (L2.cutV xs lo hi) us → Q (.ref p) (upd H p (.frz (tupO us) (.tup (L2.cutV xs lo hi)))))
theorem sl_tupF : SlR X (rSlF X.K) := by
  intro pins s σ H x v vl vu lo hi sl Q I rx hs pl pu h
  obtain ⟨a, xs, rfl, hx, q1, q2⟩ := h
  by_cases hw : HT.sIx xs.length 0 lo = 0 ∧ HT.sIx xs.length xs.length hi = xs.length
  · exact L2.sl_tupA pins s σ H _ v vl vu lo hi sl Q I rx hs pl pu ⟨a, xs, rfl, hx, q1, fun n => absurd hw n⟩
  cases rx
  obtain ⟨ws, r, ht, hz⟩ := I.tuple hx
  have e : ws.toArray.size = xs.length := by rw [List.size_toArray]; exact r.length.symm
  refine ⟨"tuple", _, PyProof.Rows.slot_tuple_getitem.lookup, ht.typeIs, HT.getItem_tuple_cut ht hs pl pu (e.symm ▸ hw) ?_ (e.symm ▸ hz)⟩
  rw [e]
  exact lay_tup (tk := s.toks) I ((r.drop _).take _) (Nat.le_trans (L2.cutV_length xs lo hi) hz) (q2 hw)
/-- tuple(l) -/
theorem call_tupF : CallR X (.type "tuple") (fun xs H Q => ∃ p ys, xs = [V.ref p] ∧ SqL X.K H p ys ∧ ∀ l us, H l = none → Vals ys us → Q (.ref l) (upd H l (.frz (tupO us) (.tup ys)))) := by
  intro pins s σ H xs us Q I r h
  obtain ⟨p, ys, rfl, hq, q⟩ := h
  obtain ⟨u, rfl, rx⟩ := L2.vals1 r
  cases rx
  obtain ⟨ws, r', pl, hz⟩ := I.list hq
  refine call_tuple_list pl.isList (fun h' kp => ?_) (by have := r'.length; simp only [List.size_toArray]; omega)
  exact lay_tup (tk := s.toks) (s := { s with heap := h' }) (I.kept (t' := s.toks) kp) r' hz q
end
end Ev
/-! # Ev: sorted(a tuple of ints). -/
namespace Ev
open PySem PySem.Spec PyProof.Rows
open L2 (V Hp HO upd SqL SqT Rd Cx Inv PE PT PW PA PS PSs PG PGs PI PK VK TE TT TA TS TG TGs TI Ends RelV Vals It Dp DpAll CallR)
section
variable {prog : Program} {w : World} {A : Around} {E : Value → Shared → Prop} {s : Shared}
/-- the heap behind a tuple gathered into a list -/
abbrev gath (h : Heap) (its : List Value) : Heap := (h.push (seqObj "list" #[] 0)).update h.objs.size (Obj.mapSeq (· ++ its.toArray))
theorem collect_tup {p : Addr} {its : List Value} {Q : List Value → Shared → Prop} (tp : IsTup s.heap p its.toArray) (big : its.length ≤ sizeLine) (fin : Q its { s with heap := gath s.heap its }) : wpAny (model prog w) A (collect (.ref p)) Q E s := by
  obtain ⟨ob, g1, g2, n, g3⟩ := id tp
  unfold collect
  refine (wpAny_bind (wpAny_runValue (codeAny_builtin entry_proto_collect' ?_)))
  show wpAny _ _ (do
    again (.builtin "list.__iadd__" ⟨[← newList [], .ref p], []⟩)) _ _ s
  refine (wpAny_bind (wpAny_newList (wpAny_pure ⟨Code.quiet_builtin _ (by decide +kernel), codeAny_builtin entry_list_iadd' ?_⟩)))
  show wpAny _ _ (Builtin.List.listExtendWith (.ref s.heap.objs.size) (.ref p) (.ref s.heap.objs.size)) _ _ { s with heap := s.heap.push (seqObj "list" #[] 0) }
  unfold Builtin.List.listExtendWith
  have g1' := Heap.get?_push_of_some (seqObj "list" #[] 0) g1
  have here : (s.heap.push (seqObj "list" #[] 0)).get? s.heap.objs.size = _ := Heap.get?_push_size _ rfl
  refine wpAny_bind (wpAny_typeOf (T := "tuple") ⟨ob, g1', g2⟩ ?_)
  have tt : (Value.type "tuple" == Value.type "tuple") = true := rfl
  rw [if_pos (by rw [tt]; simp)]
  refine (wpAny_bind (listItems_at g1' g3 ?_))
  refine (wpAny_bind (listItems_at (xs := #[]) (n := 0) here rfl ?_))
  rw [if_neg (by simp)]
  refine wpAny_bind (listUpdate_at (xs := #[]) (n := 0) here rfl ?_ (Nat.zero_le _) (by show (#[] ++ its.toArray).size ≤ sizeLine + 1; simp only [Array.size_append, List.size_toArray, List.length_nil]; omega))
  refine (wpAny_pure ?_)
  refine wpAny_bind (wpAny_load (get?_update_seq here _) ?_)
  show wpAny _ _ (pure ((#[] : Array Value) ++ its.toArray).toList) _ _ _
  rw [show ((#[] : Array Value) ++ its.toArray).toList = its by simp]
  exact (wpAny_pure fin)
theorem sorted_tup {p : Addr} {its : List Value} {ltv : Value → Value → Bool} {Q : Value → Shared → Prop} (O : SrtO.Swo ltv) (tp : IsTup s.heap p its.toArray) (big : its.length ≤ sizeLine)
    (hS : 2 ≤ its.length → ∀ (g : Heap) (a : Addr), g.get? a = some (seqObj "list" its.toArray 0) → (∀ b o, s.heap.get? b = some o → b ≠ a ∧ g.get? b = some o) → SrtO.SortableO prog w A.in1.in1 { s with heap := g } a its ltv)
    (fin : ∀ out : List Value, SrtO.Srtd ltv out → SrtO.Stb ltv out its → Q (.ref (s.heap.objs.size + 1)) { s with heap := sortedAll s.heap its out.toArray }) : wpAny (model prog w) A (call (.builtin "sorted") [.ref p]) Q E s := by
  refine (Calls.call_function_entry kind_sorted plain_sorted entry_sorted (args_sorted1 _) ?_)
  unfold Builtin.«sorted»
  refine (wpAny_bind (m := checkCount "sorted" 1 1 _) (wpAny_pure ?_))
  refine (wpAny_bind (collect_tup tp big ?_))
  refine (wpAny_bind (wpAny_newList ?_ big))
  have sz : (gath s.heap its).objs.size = s.heap.objs.size + 1 := by rw [Heap.size_update, size_push']
  have at1 : ((gath s.heap its).push (seqObj "list" its.toArray 0)).get? (s.heap.objs.size + 1) = some (seqObj "list" its.toArray 0) := by
    rw [← sz]
    exact Heap.get?_push_size _ rfl
  have kp : ∀ b o, s.heap.get? b = some o → b ≠ s.heap.objs.size + 1 ∧ ((gath s.heap its).push (seqObj "list" its.toArray 0)).get? b = some o := fun b o q => by
    have lt := Heap.lt_size q
    refine ⟨Nat.ne_of_lt (Nat.lt_succ_of_lt lt), Heap.get?_push_of_some _ ?_⟩
    rw [Heap.get?_update_ne _ _ _ _ (Nat.ne_of_lt lt)]
    exact Heap.get?_push_of_some _ q
  show wpAny _ _ _ _ _ { s with heap := (gath s.heap its).push (seqObj "list" its.toArray 0) }
  rw [sz]
  refine (wpAny_bind (wpAny_holding (wpAny_call_entry slot_list_sort ⟨_, at1, rfl⟩ entry_list_sort (SrtO.list_sort_ord O at1 big (fun h2 => hS h2 _ _ at1 kp) fun out h1 h2 => ⟨_, rfl, ?_⟩) (args_list_sort _))))
  exact (wpAny_pure ⟨_, rfl, fin out h1 h2⟩)
end
/-- the layer's rule -/
def rSortTI (K : PySem.W.Frag) : List V → Hp → VK → Prop := fun vs H Q => ∃ (a : Addr) (ns : List Int), vs = [.ref a] ∧ SqT K H a (ns.map V.int) ∧ ∀ (ns' : List Int) (p : Addr), ns'.Perm ns → ns'.Pairwise (· ≤ ·) → H p = none → Q (.ref p) (upd H p (.lst (ns'.map V.int)))
theorem cr_sortedTI {X : Cx} : CallR X (.builtin "sorted") (rSortTI X.K) := by
  intro pins s σ H vs us Q I r h
  obtain ⟨a, ns, rfl, hs, q⟩ := h
  obtain ⟨its, rv, tp, big⟩ := I.tuple hs
  rw [Vals.ref1 r]
  have ia := rv.ints
  have big' : its.length ≤ sizeLine := by rw [← rv.length]; exact big
  refine (sorted_tup SrtO.swo_int tp big' (fun h2 g a' _ _ => SrtO.ints_sortable ia h2) fun out h1 h2 => ?_)
  obtain ⟨k1, k2, k3⟩ := SrtO.ints_out ia h1 h2
  obtain ⟨ep, at2⟩ := sortedAll_at s.heap its out.toArray
  have len : ((out.map SrtO.iv).map V.int).length ≤ sizeLine := by
    rw [List.length_map, k2.length_eq]
    simpa using big
  exact ⟨.ref _, upd H (s.heap.objs.size + 1) (.lst ((out.map SrtO.iv).map V.int)), I.laid (t' := s.toks) (fun _ _ => sortedAll_old) (Nat.le_succ _) ⟨len, out, ep, L2.vals_of_ints k1, at2⟩, rfl, q _ _ k2 k3 (I.hok.fresh (Nat.le_succ _))⟩
end Ev
/-! # Ev, part 3: operators by values. -/
namespace Ev
open PySem PySem.Spec
open L2 (V Hp HO upd SqL SqT Rd Cx Inv PE PT PW PA PS PSs PG PGs PI PK VK TE TT TA TS TG TGs TI Ends RelV Vals It Dp DpAll OpR UnR CallR TruR IxR SlR MtR EP TP AP SP)

section
variable {K : PySem.W.Frag} {F : Fm} {Z : Addr → Prop} {ms : List Addr} {g : G} {σ : L2.St} {H : Hp}
/-- the value of an operand: a list may be its name's own still -/
def DenW (K : PySem.W.Frag) (Z : Addr → Prop) (ms : List Addr) (H : Hp) (y : PV) (x : V) : Prop :=
  Den K Z ms H y x ∨ ∃ a vs ys, y = .lst ys ∧ x = .ref a ∧ H a = some (.lst vs) ∧ Dens K Z ms H ys vs
theorem DenW.int {i : Int} {x : V} : DenW K Z ms H (.int i) x → x = .int i
  | .inl h => by simpa only [Den] using h
  | .inr ⟨_, _, _, e, _⟩ => by cases e
theorem DenW.bl {b : Bool} {x : V} : DenW K Z ms H (.bl b) x → x = .bl b
  | .inl h => by simpa only [Den] using h
  | .inr ⟨_, _, _, e, _⟩ => by cases e
theorem DenW.non {x : V} : DenW K Z ms H .non x → x = .non
  | .inl h => by simpa only [Den] using h
  | .inr ⟨_, _, _, e, _⟩ => by cases e
theorem DenW.str {s : Str} {x : V} : DenW K Z ms H (.str s) x → x = .str s
  | .inl h => by simpa only [Den] using h
  | .inr ⟨_, _, _, e, _⟩ => by cases e
theorem DenW.lst {ys : List PV} {x : V} : DenW K Z ms H (.lst ys) x → ∃ a vs, x = .ref a ∧ H a = some (.lst vs) ∧ Dens K Z ms H ys vs
  | .inl h => by
    simp only [Den] at h
    obtain ⟨a, vs, e, _, h1, h2⟩ := h
    exact ⟨a, vs, e, h1, h2⟩
  | .inr ⟨a, vs, zs, e, h1, h2, h3⟩ => by
    cases e
    exact ⟨a, vs, h1, h2, h3⟩
theorem DenW.tup {ys : List PV} {x : V} : DenW K Z ms H (.tup ys) x → ∃ a vs, x = .ref a ∧ SqT K H a vs ∧ Dens K Z ms H ys vs
  | .inl h => by
    simp only [Den] at h
    obtain ⟨a, vs, e, h1, h2⟩ := h
    exact ⟨a, vs, e, h1.sqT, h2⟩
  | .inr ⟨_, _, _, e, _⟩ => by cases e
theorem DenW.tupD {ys : List PV} {x : V} : DenW K Z ms H (.tup ys) x → ∃ a vs, x = .ref a ∧ TupD K H a vs ∧ Dens K Z ms H ys vs
  | .inl h => by simpa only [Den] using h
  | .inr ⟨_, _, _, e, _⟩ => by cases e
theorem DenW.fz {ns : List Int} {x : V} : DenW K Z ms H (.fz ns) x → ∃ a, x = .ref a ∧ FzL K H a (ns.map V.int)
  | .inl h => by simpa only [Den] using h
  | .inr ⟨_, _, _, e, _⟩ => by cases e
theorem DenW.ref {n : Nat} {x : V} : DenW K Z ms H (.ref n) x → ∃ a, x = .ref a ∧ ms[n]? = some a
  | .inl h => by simpa only [Den] using h
  | .inr ⟨_, _, _, e, _⟩ => by cases e
theorem DenW.ty {t : Ty} {x : V} : DenW K Z ms H (.ty t) x → x = .ty t.nm
  | .inl h => by simpa only [Den] using h
  | .inr ⟨_, _, _, e, _⟩ => by cases e
theorem DenW.mono {Z' : Addr → Prop} {ms' : List Addr} {y : PV} {x : V} (l : Le Z ms H Z' ms' H) : DenW K Z ms H y x → DenW K Z' ms' H y x
  | .inl h => .inl (Den.mono l _ _ h)
  | .inr ⟨a, vs, ys, e1, e2, e3, h⟩ => .inr ⟨a, vs, ys, e1, e2, e3, Dens.mono l _ _ h⟩
/-- what a list or a tuple is as data -/
theorem DenW.seq {xs : List PV} {y : PV} {x : V} (hy : y = .lst xs ∨ y = .tup xs) (h : DenW K Z ms H y x) : ∃ a vs, x = .ref a ∧ (SqL K H a vs ∨ SqT K H a vs) ∧ Dens K Z ms H xs vs := by
  rcases hy with rfl | rfl
  · obtain ⟨a, vs, e, h1, h2⟩ := h.lst
    exact ⟨a, vs, e, .inl (.inl (.inl h1)), h2⟩
  · obtain ⟨a, vs, e, h1, h2⟩ := h.tup
    exact ⟨a, vs, e, .inr h1, h2⟩
mutual
theorem Den.dp : ∀ (y : PV) (x : V), Den K Z ms H y x → y.pure = true → Dp K H x y.d
  | .non, x, h, _ => by
    simp only [Den] at h
    subst h
    simp only [PV.d]
    exact .non
  | .bl b, x, h, _ => by
    simp only [Den] at h
    subst h
    simp only [PV.d]
    exact .bl b
  | .int i, x, h, _ => by
    simp only [Den] at h
    subst h
    simp only [PV.d]
    exact .int i
  | .str s, x, h, _ => by
    simp only [Den] at h
    subst h
    simp only [PV.d]
    exact .str s
  | .tup ys, x, h, p => by
    simp only [Den] at h
    simp only [PV.pure] at p
    obtain ⟨a, vs, e, h1, h2⟩ := h
    subst e
    simp only [PV.d]
    exact .tup h1.sqT (Dens.dp ys vs h2 p)
  | .lst ys, x, h, p => by
    simp only [Den] at h
    simp only [PV.pure] at p
    obtain ⟨a, vs, e, _, h1, h2⟩ := h
    subst e
    simp only [PV.d]
    exact .lst (.inl (.inl h1)) (Dens.dp ys vs h2 p)
  | .fz ns, x, h, p => by simp [PV.pure] at p
  | .ref n, x, h, p => by simp [PV.pure] at p
  | .ty n, x, h, p => by simp [PV.pure] at p
theorem Dens.dp : ∀ (ys : List PV) (vs : List V), Dens K Z ms H ys vs → PV.pures ys = true → DpAll K H vs (PV.ds ys)
  | [], vs, h, _ => by
    simp only [Dens] at h
    subst h
    simp only [PV.ds]
    exact .nil
  | y :: ys, vs, h, p => by
    simp only [Dens] at h
    simp only [PV.pures, Bool.and_eq_true] at p
    obtain ⟨v, r, e, h1, h2⟩ := h
    subst e
    simp only [PV.ds]
    exact .cons (Den.dp y v h1 p.1) (Dens.dp ys r h2 p.2)
end
theorem DenW.dp {y : PV} {x : V} (h : DenW K Z ms H y x) (p : y.pure = true) : Dp K H x y.d := by
  rcases h with h | ⟨a, vs, ys, rfl, rfl, h1, h2⟩
  · exact Den.dp y x h p
  · simp only [PV.pure] at p
    simp only [PV.d]
    exact .lst (.inl (.inl h1)) (Dens.dp ys vs h2 p)
/-- what is wanted behind a step that makes nothing but what its result says -/
def After (K : PySem.W.Frag) (F : Fm) (Z : Addr → Prop) (ms : List Addr) (g : G) (σ : L2.St) (H : Hp) (r : Res) (Q : VK) : Prop :=
  ∀ Z' ms' H' v, Le Z ms H Z' ms' H' → Rel K F Z' ms' g σ H' → ResOk K F Z' ms' g σ H' r v → Q v H'
theorem After.val {v : PV} {x : V} {Q : VK} (R : Rel K F Z ms g σ H) (k : After K F Z ms g σ H (.val v) Q) (h : Den K Z ms H v x) : Q x H := k Z ms H x .refl R h
theorem After.newL {xs : List PV} {vs : List V} {Q : VK} (R : Rel K F Z ms g σ H) (k : After K F Z ms g σ H (.new xs) Q) (d : Dens K Z ms H xs vs) {p : Addr} (hp : H p = none) : Q (.ref p) (upd H p (.lst vs)) :=
  k Z ms _ _ (Le.upd hp) (R.laid hp) (R.newL hp d)
theorem After.newT {xs : List PV} {vs : List V} {us : List Value} {Q : VK} (R : Rel K F Z ms g σ H) (k : After K F Z ms g σ H (.val (.tup xs)) Q) (d : Dens K Z ms H xs vs) {p : Addr} (hp : H p = none) : Q (.ref p) (upd H p (.frz (tupO us) (.tup vs))) :=
  k Z ms _ _ (Le.upd hp) (R.laid hp) (R.newT hp d)
theorem After.int {i : Int} {Q : VK} (R : Rel K F Z ms g σ H) (k : After K F Z ms g σ H (.val (.int i)) Q) : Q (.int i) H := k.val R (by simp only [Den])
theorem After.str {i : Str} {Q : VK} (R : Rel K F Z ms g σ H) (k : After K F Z ms g σ H (.val (.str i)) Q) : Q (.str i) H := k.val R (by simp only [Den])
theorem After.bl {i : Bool} {Q : VK} (R : Rel K F Z ms g σ H) (k : After K F Z ms g σ H (.val (.bl i)) Q) : Q (.bl i) H := k.val R (by simp only [Den])
end
theorem ck_some {α : Type} {c : Prop} [Decidable c] {r s : α} (h : ck c r = some s) : c ∧ r = s := by
  unfold ck at h
  split at h
  · exact ⟨by assumption, Option.some.inj h⟩
  · cases h

/-! ### two-place operators -/
def bop : BO → Operator
  | .add => .Add
  | .sub => .Sub
  | .mul => .Mult
  | .fdiv => .FloorDiv
  | .mod => .Mod
  | .pow => .Pow
def cop : CO → CmpOp
  | .eq => .Eq
  | .ne => .NotEq
  | .lt => .Lt
  | .le => .LtE
  | .gt => .Gt
  | .ge => .GtE
  | .isN => .Is
  | .notN => .IsNot
  | .inn => .In
  | .nin => .NotIn
def rB (K : PySem.W.Frag) (F : Fm) (σ' : L2.St) (o : BO) : V → V → Hp → VK → Prop := fun x y H Q => ∃ Z ms g xv yv r, Rel K F Z ms g σ' H ∧ DenW K Z ms H xv x ∧ DenW K Z ms H yv y ∧ binV o xv yv = some r ∧ After K F Z ms g σ' H r Q
section
variable {X : Cx} {F : Fm} {σ' : L2.St}
theorem op_bin (o : BO) : OpR X (binaryOp (bop o)) (rB X.K F σ' o) := by
  intro pins s σ H x y v u Q I rx ry h
  obtain ⟨Z, ms, g, xv, yv, r, R, dx, dy, e, k⟩ := h
  cases o with
  | add =>
    change addV xv yv = some r at e
    unfold addV at e
    split at e
    · cases e
      exact L2.op_add pins s σ H x y v u Q I rx ry ⟨_, _, dx.int, dy.int, k.int R⟩
    · obtain ⟨c, rfl⟩ := ck_some e
      exact L2.op_add_str pins s σ H x y v u Q I rx ry ⟨_, _, dx.str, dy.str, c, k.str R⟩
    · obtain ⟨c, rfl⟩ := ck_some e
      obtain ⟨a, vs, rfl, h1, h2⟩ := dx.lst
      obtain ⟨b, ws, rfl, h3, h4⟩ := dy.lst
      exact L2.op_cat pins s σ H _ _ v u Q I rx ry ⟨a, b, vs, ws, rfl, rfl, h1, h3, by rw [h2.length, h4.length]; exact c, fun p hp => k.newL R (h2.append h4) hp⟩
    · obtain ⟨c, rfl⟩ := ck_some e
      obtain ⟨a, vs, rfl, h1, h2⟩ := dx.tupD
      obtain ⟨b, ws, rfl, h3, h4⟩ := dy.tupD
      refine op_catF pins s σ H _ _ v u Q I rx ry ⟨a, b, vs, ws, rfl, rfl, h1.sqT, h3.sqT, by rw [h2.length, h4.length]; exact c, fun z => ?_, fun _ z => ?_, fun _ _ p us hp _ => k.newT R (h2.append h4) hp⟩
      · subst z
        refine k.val R ?_
        simp only [Den]
        exact ⟨b, ws, rfl, h3, by simpa using h2.append h4⟩
      · subst z
        refine k.val R ?_
        simp only [Den]
        exact ⟨a, vs, rfl, h1, by simpa using h2.append h4⟩
    · cases e
  | sub =>
    change subV xv yv = some r at e
    unfold subV at e
    split at e
    · cases e
      exact L2.op_sub pins s σ H x y v u Q I rx ry ⟨_, _, dx.int, dy.int, k.int R⟩
    · cases e
  | mul =>
    change mulV xv yv = some r at e
    unfold mulV at e
    split at e
    · obtain ⟨c, rfl⟩ := ck_some e
      exact L2.op_mul pins s σ H x y v u Q I rx ry ⟨_, _, dx.int, dy.int, c, k.int R⟩
    · obtain ⟨⟨c1, c2, c3⟩, rfl⟩ := ck_some e
      obtain ⟨a, vs, rfl, h1, h2⟩ := dx.lst
      exact L2.op_rep pins s σ H _ _ v u Q I rx ry ⟨a, _, vs, rfl, dy.int, h1, c1, c2, by rw [h2.length]; exact c3, fun p hp => k.newL R (h2.rep _) hp⟩
    · cases e
  | fdiv =>
    change fdivV xv yv = some r at e
    unfold fdivV at e
    split at e
    · obtain ⟨c, rfl⟩ := ck_some e
      exact L2.op_fdivW pins s σ H x y v u Q I rx ry ⟨_, _, dx.int, dy.int, c, k.int R⟩
    · cases e
  | mod =>
    change modV xv yv = some r at e
    unfold modV at e
    split at e
    · obtain ⟨c, rfl⟩ := ck_some e
      exact L2.op_mod pins s σ H x y v u Q I rx ry ⟨_, _, dx.int, dy.int, c, k.int R⟩
    · cases e
  | pow =>
    change powV xv yv = some r at e
    unfold powV at e
    split at e
    · obtain ⟨c, rfl⟩ := ck_some e
      exact L2.op_pow pins s σ H x y v u Q I rx ry ⟨_, _, dx.int, dy.int, c, k.int R⟩
    · cases e

/-! ### comparisons -/
/-- what a step that yields a truth value asks -/
def AfterB (Q : VK) (b : Bool) (H : Hp) : Prop := Q (.bl b) H
def rC (K : PySem.W.Frag) (F : Fm) (σ' : L2.St) (o : CO) : V → V → Hp → VK → Prop := fun x y H Q => ∃ Z ms g xv yv b, Rel K F Z ms g σ' H ∧ DenW K Z ms H xv x ∧ DenW K Z ms H yv y ∧ cmpG o xv yv g.hp = some b ∧ Q (.bl b) H
theorem nolst_C {k : PV} {c : Cell} {o : Option PV} (e : getC c k = some o) : ∀ xs, k ≠ .lst xs := by
  rintro xs rfl
  cases c with
  | dk kvs =>
    simp only [getC, keyOf, nkT] at e
    split at e <;> cases e
  | dn kvs =>
    simp only [getC, nkT] at e
    cases e
  | ls ys => cases e
  | tb q => cases e
theorem DenW.den {K : PySem.W.Frag} {Z : Addr → Prop} {ms : List Addr} {H : Hp} {y : PV} {x : V} (h : DenW K Z ms H y x) (n : ∀ xs, y ≠ .lst xs) : Den K Z ms H y x := by
  rcases h with h | ⟨_, _, _, rfl, _⟩
  · exact h
  · exact absurd rfl (n _)
theorem cmpG_cases {o : CO} {x y : PV} {hp : List Cell} {b : Bool} (e : cmpG o x y hp = some b) : (∃ y', cmpV o x y' = some b ∧ (y' = y ∨ ∃ n ys, y = .ref n ∧ hp[n]? = some (.ls ys) ∧ y' = .lst ys)) ∨ ∃ n c r, y = .ref n ∧ hp[n]? = some c ∧ getC c x = some r ∧ ((o = .inn ∧ b = r.isSome) ∨ (o = .nin ∧ b = !r.isSome)) := by
  unfold cmpG at e
  split at e
  · obtain ⟨c, h1, h2⟩ := Option.bind_eq_some_iff.mp e
    split at h2
    · rename_i ys
      exact .inl ⟨.lst ys, h2, .inr ⟨_, _, rfl, h1, rfl⟩⟩
    · obtain ⟨r, h3, h4⟩ := Option.map_eq_some_iff.mp h2
      exact .inr ⟨_, _, r, rfl, h1, h3, .inl ⟨rfl, h4.symm⟩⟩
  · obtain ⟨c, h1, h2⟩ := Option.bind_eq_some_iff.mp e
    split at h2
    · rename_i ys
      exact .inl ⟨.lst ys, h2, .inr ⟨_, _, rfl, h1, rfl⟩⟩
    · obtain ⟨r, h3, h4⟩ := Option.map_eq_some_iff.mp h2
      exact .inr ⟨_, _, r, rfl, h1, h3, .inr ⟨rfl, h4.symm⟩⟩
  · exact .inl ⟨_, e, .inl rfl⟩
theorem deep_eq (hu : X.A.units + 66 < cLine) {pins : List (Addr × Obj)} {s : Shared} {σ : L2.St} {H : Hp} {x y : V} {v u : Value} {Q : VK} (I : Inv X pins σ H s) (rx : RelV x v) (ry : RelV y u)
    {Z : Addr → Prop} {ms : List Addr} {xv yv : PV} {b : Bool} (dx : DenW X.K Z ms H xv x) (dy : DenW X.K Z ms H yv y) (e : eqV xv yv = some b) :
    (Q (.bl b) H → wpAny (model X.prog X.w) X.A (compareOp .Eq v u) (EP X pins σ Q) X.xe s) ∧ (Q (.bl (!b)) H → wpAny (model X.prog X.w) X.A (compareOp .NotEq v u) (EP X pins σ Q) X.xe s) := by
  have sc : L2.scal x y = true → b = decide (x = y) → (Q (.bl b) H → wpAny (model X.prog X.w) X.A (compareOp .Eq v u) (EP X pins σ Q) X.xe s) ∧ (Q (.bl (!b)) H → wpAny (model X.prog X.w) X.A (compareOp .NotEq v u) (EP X pins σ Q) X.xe s) := fun h1 h2 =>
    ⟨fun q => L2.op_eq pins s σ H x y v u Q I rx ry ⟨h1, by rw [← h2]; exact q⟩, fun q => L2.op_ne pins s σ H x y v u Q I rx ry ⟨h1, by rw [← h2]; exact q⟩⟩
  unfold eqV at e
  split at e
  · have e1 := dx.non
    have e2 := dy.non
    subst e1 e2
    cases e
    exact sc rfl (by simp)
  · have e1 := dx.int
    have e2 := dy.int
    subst e1 e2
    cases e
    exact sc rfl (by simp)
  · have e1 := dx.bl
    have e2 := dy.bl
    subst e1 e2
    cases e
    exact sc rfl (by simp)
  · have e1 := dx.str
    have e2 := dy.str
    subst e1 e2
    cases e
    exact sc rfl (by simp)
  · have e1 := dx.int
    have e2 := dy.str
    subst e1 e2
    cases e
    exact sc rfl (by simp)
  · have e1 := dx.str
    have e2 := dy.int
    subst e1 e2
    cases e
    exact sc rfl (by simp)
  · have e1 := dx.bl
    have e2 := dy.str
    subst e1 e2
    cases e
    exact sc rfl (by simp)
  · have e1 := dx.str
    have e2 := dy.bl
    subst e1 e2
    cases e
    exact sc rfl (by simp)
  · have e1 := dx.non
    have e2 := dy.int
    subst e1 e2
    cases e
    exact sc rfl (by simp)
  · have e1 := dx.int
    have e2 := dy.non
    subst e1 e2
    cases e
    exact sc rfl (by simp)
  · have e1 := dx.non
    have e2 := dy.str
    subst e1 e2
    cases e
    exact sc rfl (by simp)
  · have e1 := dx.str
    have e2 := dy.non
    subst e1 e2
    cases e
    exact sc rfl (by simp)
  · obtain ⟨⟨p1, p2, s1, s2⟩, rfl⟩ := ck_some e
    exact ⟨fun q => L2.op_eqD (by omega) pins s σ H x y v u Q I rx ry ⟨_, _, dx.dp p1, dy.dp p2, s1, s2, q⟩, fun q => L2.op_neD (by omega) pins s σ H x y v u Q I rx ry ⟨_, _, dx.dp p1, dy.dp p2, s1, s2, q⟩⟩
theorem flat_V {K : PySem.W.Frag} {Z : Addr → Prop} {ms : List Addr} {H : Hp} {y : PV} {x : V} (f : flat y = true) (h : Den K Z ms H y x) : L2.flatV x = true := by
  cases y <;> first | (simp [flat] at f; done) | (simp only [Den] at h; subst h; rfl)
theorem flats_V {K : PySem.W.Frag} {Z : Addr → Prop} {ms : List Addr} {H : Hp} : ∀ {ys : List PV} {vs : List V}, ys.all flat = true → Dens K Z ms H ys vs → vs.all L2.flatV = true
  | [], vs, _, h => by
    simp only [Dens] at h
    subst h
    rfl
  | y :: ys, vs, f, h => by
    simp only [Dens] at h
    obtain ⟨v, r, rfl, h1, h2⟩ := h
    simp only [List.all_cons, Bool.and_eq_true] at f ⊢
    exact ⟨flat_V f.1 h1, flats_V f.2 h2⟩
theorem eqF_V {K : PySem.W.Frag} {Z : Addr → Prop} {ms : List Addr} {H : Hp} {y z : PV} {x w : V} (f1 : flat y = true) (f2 : flat z = true) (h1 : Den K Z ms H y x) (h2 : Den K Z ms H z w) : L2.eqV x w = eqF y z := by
  cases y <;> cases z <;> first | (simp [flat] at f1; done) | (simp [flat] at f2; done) | (simp only [Den] at h1 h2; subst h1 h2; rfl)
theorem anyF_V {K : PySem.W.Frag} {Z : Addr → Prop} {ms : List Addr} {H : Hp} {z : PV} {w : V} (f2 : flat z = true) (h2 : Den K Z ms H z w) : ∀ {ys : List PV} {vs : List V}, ys.all flat = true → Dens K Z ms H ys vs →
    (vs.any fun x => L2.eqV x w) = ys.any fun y => eqF y z
  | [], vs, _, h => by
    simp only [Dens] at h
    subst h
    rfl
  | y :: ys, vs, f, h => by
    simp only [Dens] at h
    obtain ⟨v, r, rfl, h1, h3⟩ := h
    simp only [List.all_cons, Bool.and_eq_true] at f
    simp only [List.any_cons]
    rw [eqF_V f.1 f2 h1 h2, anyF_V f2 h2 f.2 h3]
theorem DenW.flat {K : PySem.W.Frag} {Z : Addr → Prop} {ms : List Addr} {H : Hp} {y : PV} {x : V} (f : Ev.flat y = true) (h : DenW K Z ms H y x) : Den K Z ms H y x := by
  rcases h with h | ⟨_, _, _, rfl, _⟩
  · exact h
  · simp [Ev.flat] at f
theorem ds_any {x : PV} : ∀ xs : List PV, ((PV.ds xs).any fun z => PyData.eqv z x.d) = xs.any fun y => PyData.eqv y.d x.d
  | [] => rfl
  | y :: ys => by
    simp only [PV.ds, List.any_cons, ds_any ys]
theorem in_ok (hu : X.A.units + 66 < cLine) {pins : List (Addr × Obj)} {s : Shared} {σ : L2.St} {H : Hp} {x y : V} {v u : Value} {Q : VK} (I : Inv X pins σ H s) (rx : RelV x v) (ry : RelV y u)
    {Z : Addr → Prop} {ms : List Addr} {xv yv : PV} {b : Bool} (dx : DenW X.K Z ms H xv x) (dy : DenW X.K Z ms H yv y) (e : inV xv yv = some b) :
    (Q (.bl b) H → wpAny (model X.prog X.w) X.A (compareOp .In v u) (EP X pins σ Q) X.xe s) ∧ (Q (.bl (!b)) H → wpAny (model X.prog X.w) X.A (compareOp .NotIn v u) (EP X pins σ Q) X.xe s) := by
  have core : ∀ zs, (yv = .lst zs ∨ yv = .tup zs) → Ev.flat xv = true → zs.all Ev.flat = true → b = (zs.any fun y => eqF y xv) →
      (Q (.bl b) H → wpAny (model X.prog X.w) X.A (compareOp .In v u) (EP X pins σ Q) X.xe s) ∧ (Q (.bl (!b)) H → wpAny (model X.prog X.w) X.A (compareOp .NotIn v u) (EP X pins σ Q) X.xe s) := fun zs hy f1 f2 hb => by
    obtain ⟨a, vs, rfl, h1, h2⟩ := dy.seq hy
    have d := dx.flat f1
    have e1 : (vs.any fun x' => L2.eqV x' x) = b := by rw [hb]; exact anyF_V f1 d f2 h2
    have e2 : L2.inV x vs = b := e1
    exact ⟨fun q => L2.op_in_seq pins s σ H x _ v u Q I rx ry ⟨a, vs, rfl, h1, flat_V f1 d, flats_V f2 h2, by rw [e2]; exact q⟩, fun q => L2.op_notIn_seq pins s σ H x _ v u Q I rx ry ⟨a, vs, rfl, h1, flat_V f1 d, flats_V f2 h2, by rw [e2]; exact q⟩⟩
  unfold inV at e
  split at e
  · rename_i xs
    split at e
    · rename_i c
      exact core _ (.inl rfl) c.1 c.2 (Option.some.inj e).symm
    · obtain ⟨⟨c1, c2, c3, c4⟩, e2⟩ := ck_some e
      have p1 := dx.dp c1
      have p2 := dy.dp (y := .lst xs) (by simpa only [PV.pure] using c2)
      simp only [PV.d] at p2
      rw [← ds_any] at e2
      subst e2
      exact ⟨fun q => L2.op_inD (by omega) pins s σ H x y v u Q I rx ry ⟨_, _, p1, p2, c3, c4, q⟩, fun q => L2.op_notInD (by omega) pins s σ H x y v u Q I rx ry ⟨_, _, p1, p2, c3, c4, q⟩⟩
  · rename_i xs
    split at e
    · rename_i c
      exact core _ (.inr rfl) c.1 c.2 (Option.some.inj e).symm
    · obtain ⟨⟨c1, c2, c3, c4⟩, e2⟩ := ck_some e
      have p1 := dx.dp c1
      have p2 := dy.dp (y := .tup xs) (by simpa only [PV.pure] using c2)
      simp only [PV.d] at p2
      rw [← ds_any] at e2
      subst e2
      obtain ⟨as, r1⟩ := L2.Dp.reads I _ x v p1 rx
      obtain ⟨bs, r2⟩ := L2.Dp.reads I _ y u p2 ry
      have hu2 : X.A.units + 65 < cLine := by omega
      exact ⟨fun q => SeqAt.in_tuple_reads r2 r1 (SeqAt.canLay_of_shaped c4) (SeqAt.canLay_of_shaped c3) (PyProof.Rows.room_in_shaped c3 hu2) ⟨.bl _, H, I, rfl, q⟩,
        fun q => SeqAt.notIn_tuple_reads r2 r1 (SeqAt.canLay_of_shaped c4) (SeqAt.canLay_of_shaped c3) (PyProof.Rows.room_in_shaped c3 hu2) ⟨.bl _, H, I, rfl, q⟩⟩
  · rename_i t
    split at e
    · split at e
      case h_2 => cases e
      rename_i sg _ c hc
      cases e
      have ex := dx.str
      have es : sg = ⟨#[c]⟩ := by
        cases sg
        exact congrArg Str.mk (Array.toList_inj.mp hc)
      rw [es] at ex
      have ey := dy.str
      exact ⟨fun q => L2.op_in_sign pins s σ H x y v u Q I rx ry ⟨c, t, ex, ey, q⟩, fun q => L2.op_notIn_sign pins s σ H x y v u Q I rx ry ⟨c, t, ex, ey, q⟩⟩
    · cases e
  · cases e
theorem isNone_V {K : PySem.W.Frag} {Z : Addr → Prop} {ms : List Addr} {H : Hp} {y : PV} {x : V} (h : DenW K Z ms H y x) : decide (x = .non) = isNone y := by
  rcases h with h | ⟨a, _, _, rfl, rfl, _⟩
  · cases y <;> simp only [Den] at h
    case tup => obtain ⟨a, vs, rfl, _⟩ := h; rfl
    case lst => obtain ⟨a, vs, rfl, _⟩ := h; rfl
    case fz => obtain ⟨a, rfl, _⟩ := h; rfl
    case ref => obtain ⟨a, rfl, _⟩ := h; rfl
    all_goals (subst h; rfl)
  · rfl
theorem op_cmp (hw : F.w = X.w) (hu : X.A.units + 66 < cLine) (o : CO) : OpR X (compareOp (cop o)) (rC X.K F σ' o) := by
  intro pins s σ H x y v u Q I rx ry h
  obtain ⟨Z, ms, g, xv, yv, b, R, dx, dy, e, q⟩ := h
  rcases cmpG_cases e with ⟨y', e', hy⟩ | ⟨n, c, r, rfl, h1, h2, h3⟩
  case inr =>
    obtain ⟨a, rfl, ha⟩ := dy.ref
    cases ry
    have ok := R.cl n c a h1 ha
    rw [hw] at ok
    have ci := cell_in (Q := EP X pins σ Q) (E := X.xe) (A := X.A) (by omega) I ok (dx.den (nolst_C h2)) rx h2
    rcases h3 with ⟨rfl, rfl⟩ | ⟨rfl, rfl⟩
    · exact ci.1 fun s' I' => ⟨.bl _, H, I', rfl, q⟩
    · exact ci.2 fun s' I' => ⟨.bl _, H, I', rfl, q⟩
  replace e := e'
  obtain ⟨yv, dy, e⟩ : ∃ yv, DenW X.K Z ms H yv y ∧ cmpV o xv yv = some b := by
    rcases hy with rfl | ⟨n, ys, rfl, h1, rfl⟩
    · exact ⟨_, dy, e⟩
    · obtain ⟨a, rfl, ha⟩ := dy.ref
      obtain ⟨vs, k1, k2⟩ := R.cl n _ a h1 ha
      exact ⟨_, .inr ⟨a, vs, ys, rfl, rfl, k1, k2⟩, e⟩
  have ord : ∀ f, ordV f xv yv = some b → ∃ i j, x = .int i ∧ y = .int j ∧ b = f i j := fun f e => by
    unfold ordV at e
    split at e
    · cases e
      exact ⟨_, _, dx.int, dy.int, rfl⟩
    · cases e
  cases o with
  | eq => exact (deep_eq hu I rx ry dx dy e).1 q
  | ne =>
    change (eqV xv yv).map (!·) = some b at e
    cases e1 : eqV xv yv with
    | none => rw [e1] at e; cases e
    | some c =>
      rw [e1] at e
      cases e
      exact (deep_eq hu I rx ry dx dy e1).2 q
  | lt =>
    obtain ⟨i, j, rfl, rfl, rfl⟩ := ord _ e
    exact L2.op_lt pins s σ H _ _ v u Q I rx ry ⟨i, j, rfl, rfl, q⟩
  | le =>
    obtain ⟨i, j, rfl, rfl, rfl⟩ := ord _ e
    exact L2.op_le pins s σ H _ _ v u Q I rx ry ⟨i, j, rfl, rfl, q⟩
  | gt =>
    obtain ⟨i, j, rfl, rfl, rfl⟩ := ord _ e
    exact L2.op_gt pins s σ H _ _ v u Q I rx ry ⟨i, j, rfl, rfl, q⟩
  | ge =>
    obtain ⟨i, j, rfl, rfl, rfl⟩ := ord _ e
    exact L2.op_ge pins s σ H _ _ v u Q I rx ry ⟨i, j, rfl, rfl, q⟩
  | isN =>
    change isV xv yv = some b at e
    unfold isV at e
    split at e
    · rename_i hn
      cases e
      have hy : y = .non := of_decide_eq_true ((isNone_V dy).trans hn)
      exact L2.op_isN pins s σ H x y v u Q I rx ry ⟨hy, by rw [isNone_V dx]; exact q⟩
    · cases e
  | notN =>
    change (isV xv yv).map (!·) = some b at e
    unfold isV at e
    split at e
    · rename_i hn
      cases e
      have hy : y = .non := of_decide_eq_true ((isNone_V dy).trans hn)
      exact L2.op_notN pins s σ H x y v u Q I rx ry ⟨hy, by rw [isNone_V dx]; exact q⟩
    · cases e
  | inn => exact (in_ok hu I rx ry dx dy e).1 q
  | nin =>
    change (inV xv yv).map (!·) = some b at e
    cases e1 : inV xv yv with
    | none => rw [e1] at e; cases e
    | some c =>
      rw [e1] at e
      cases e
      exact (in_ok hu I rx ry dx dy e1).2 q

/-! ### truth -/
def rT (K : PySem.W.Frag) : V → Hp → (Bool → Hp → Prop) → Prop := fun x H Q => ∃ Z ms xv b, DenW K Z ms H xv x ∧ truV xv = some b ∧ Q b H
theorem tru_V {K : PySem.W.Frag} {Z : Addr → Prop} {ms : List Addr} {H : Hp} {y : PV} {x : V} {b : Bool} (h : DenW K Z ms H y x) (e : truV y = some b) : L2.TruV K x H b := by
  have emp : ∀ {ys : List PV} {vs : List V}, Dens K Z ms H ys vs → (!ys.isEmpty) = !vs.isEmpty := fun {ys vs} d => by
    have := d.length
    cases ys <;> cases vs <;> simp at this ⊢
  unfold truV at e
  split at e
  · have := h.non
    subst this
    cases e
    rfl
  · have := h.bl
    subst this
    cases e
    rfl
  · have := h.int
    subst this
    cases e
    rfl
  · have := h.str
    subst this
    obtain ⟨c, rfl⟩ := ck_some e
    exact ⟨c, rfl⟩
  · obtain ⟨a, vs, rfl, h1, h2⟩ := h.lst
    cases e
    exact .inl ⟨vs, .inl (.inl h1), emp h2⟩
  · obtain ⟨a, vs, rfl, h1, h2⟩ := h.tup
    cases e
    exact .inr (.inl ⟨vs, h1, emp h2⟩)
  · obtain ⟨a, rfl, h1⟩ := h.fz
    cases e
    exact .inl ⟨_, h1.sq, by simp⟩
  · cases e
  · cases e
theorem tru_ev : TruR X (rT X.K) := by
  intro pins s σ H x v Q I rx h
  obtain ⟨Z, ms, xv, b, d, e, q⟩ := h
  exact L2.tru_ok pins s σ H x v Q I rx ⟨b, tru_V d e, q⟩
end
end Ev
/-! # Ev, part 4: subscripts, slices, built-ins by values. -/
namespace Ev
open PySem PySem.Spec
open L2 (V Hp HO upd SqL SqT Rd Cx Inv PE PT PW PA PS PSs PG PGs PI PK VK TE TT TA TS TG TGs TI Ends RelV Vals It Dp DpAll OpR UnR CallR TruR IxR SlR MtR EP TP AP SP)

/-! ### t[::-1], t a tuple -/
theorem back_places (n : Nat) : Builtin.Slice.slicePlaces ((n : Int) - 1) (-1) (-1) = n := by
  unfold Builtin.Slice.slicePlaces
  rw [if_neg (by decide)]
  by_cases h : (n : Int) - 1 > -1
  · rw [if_pos h]
    have e : (-(-1 : Int)) = 1 := by decide
    rw [e, Int.ediv_one]
    omega
  · rw [if_neg h]
    omega
theorem back_pick (xs : Array Value) : ((List.range xs.size).filterMap fun (k : Nat) => xs[((xs.size : Int) - 1 + (k : Int) * (-1)).toNat]?).toArray = xs.toList.reverse.toArray := by
  have key : ∀ l : List Value, ((List.range l.length).filterMap fun (k : Nat) => l[((l.length : Int) - 1 + (k : Int) * (-1)).toNat]?) = l.reverse := by
    intro l
    apply List.ext_getElem?
    intro i
    have e1 : (List.range l.length).filterMap (fun (k : Nat) => l[((l.length : Int) - 1 + (k : Int) * (-1)).toNat]?) = (List.range l.length).map fun k => l.getD (l.length - 1 - k) Value.none := by
      have go : ∀ ks : List Nat, (∀ k ∈ ks, k < l.length) → ks.filterMap (fun (k : Nat) => l[((l.length : Int) - 1 + (k : Int) * (-1)).toNat]?) = ks.map fun k => l.getD (l.length - 1 - k) Value.none := by
        intro ks
        induction ks with
        | nil => intro _; rfl
        | cons k ks ih =>
          intro hk
          have hk' : k < l.length := hk k List.mem_cons_self
          have h3 : ((l.length : Int) - 1 + (k : Int) * (-1)).toNat = l.length - 1 - k := by omega
          have h4 : l.length - 1 - k < l.length := by omega
          rw [List.filterMap_cons, h3, List.getElem?_eq_getElem h4, List.map_cons, ih fun j hj => hk j (List.mem_cons_of_mem _ hj), List.getD_eq_getElem?_getD, List.getElem?_eq_getElem h4]
          rfl
      exact go _ fun k hk => List.mem_range.mp hk
    rw [e1, List.getElem?_map]
    by_cases hi : i < l.length
    · rw [List.getElem?_range hi, List.getElem?_reverse hi, Option.map_some, List.getD_eq_getElem?_getD]
      have h4 : l.length - 1 - i < l.length := by omega
      simp [h4]
    · rw [List.getElem?_eq_none (by simpa using hi), List.getElem?_eq_none (by simpa using hi)]
      rfl
  have := key xs.toList
  simp only [Array.length_toList, Array.getElem?_toList] at this
  rw [this]
theorem adjust_back (n : Nat) : Builtin.Slice.sliceAdjust none none (-1) (n : Int) = ((n : Int) - 1, -1) := by
  unfold Builtin.Slice.sliceAdjust
  simp
theorem applied_back {prog : Program} {w : World} {A : Around} {E : Value → Shared → Prop} {s : Shared} {sl : Addr} {n : Nat} {vs : Value} {Q : Int × Int × Nat → Shared → Prop} (hs : s.heap.IsSliceOf sl .none .none vs)
    (ps : IsPart vs (some (-1))) (h : Q ((n : Int) - 1, -1, n) s) : wpAny (model prog w) A (Builtin.Slice.sliceApplied (.ref sl) (pure (n : Int))) Q E s := by
  obtain ⟨os, hos, hcs, hds⟩ := id hs
  unfold Builtin.Slice.sliceApplied Builtin.Slice.sliceFields
  refine wpAny_bind (wpAny_bind (wpAny_field hos hds (x := .none) rfl (wpAny_bind (wpAny_field hos hds (x := .none) rfl (wpAny_bind (wpAny_field hos hds (x := vs) rfl (wpAny_pure ?_)))))))
  refine wpAny_bind (HT.slicePart_ ps ?_)
  show wpAny _ _ (if ((-1 : Int) == 0) = true then _ else _) _ _ s
  rw [if_neg (by decide)]
  refine wpAny_bind (HT.slicePart_ .none (wpAny_bind (HT.slicePart_ .none (wpAny_bind (wpAny_pure ?_)))))
  show wpAny _ _ (match Builtin.Slice.sliceAdjust none none (-1) (n : Int) with | (lo, hi) => pure (lo, (-1 : Int), Builtin.Slice.slicePlaces lo hi (-1))) _ _ s
  rw [adjust_back]
  show wpAny _ _ (pure ((n : Int) - 1, (-1 : Int), Builtin.Slice.slicePlaces ((n : Int) - 1) (-1) (-1))) _ _ s
  rw [back_places]
  exact wpAny_pure h
theorem tuple_back {prog : Program} {w : World} {A : Around} {E : Value → Shared → Prop} {s : Shared} {t sl : Addr} {items : Array Value} {vs : Value} {Q : Value → Shared → Prop} (ht : PyProof.Rows.IsTup s.heap t items)
    (hs : s.heap.IsSliceOf sl .none .none vs) (ps : IsPart vs (some (-1)))
    (h : Q (.ref s.heap.objs.size) { s with heap := s.heap.push { cls := .type "tuple", data := .seq items.toList.reverse.toArray } }) (hsz : items.size ≤ sizeLine) :
    wpAny (model prog w) A (getItem (.ref t) (.ref sl)) Q E s := by
  obtain ⟨os, hos, hcs, hds⟩ := id hs
  have hTs : s.TypeIs (.ref sl) "slice" := ⟨os, hos, hcs⟩
  unfold getItem
  try with_reducible refine wpAny_holding ?_
  first | refine wpAny_bind (wpAny_pure ?_) | skip
  refine wpAny_bind (wpAny_sequenceKey ht.typeIs (by decide) ?_)
  refine wpAny_bind (wpAny_callSpecial?_slot (name := Str.ofString "__getitem__") ht.typeIs PyProof.Rows.slot_tuple_getitem
    (wpAny_call_entry PyProof.Rows.slot_tuple_getitem ht.typeIs PyProof.Rows.entry_tuple_getitem ?_ (PyProof.Rows.args_tuple_getitem _ _)))
  show wpAny _ _ (Builtin.Tuple.tupleItemsOf (.ref t) >>= _) _ _ s
  refine wpAny_bind (PyProof.Rows.tupleItemsOf_ ht ?_)
  refine wpAny_bind (wpAny_typeOf hTs ?_)
  rw [if_pos (by decide)]
  refine wpAny_bind (applied_back hs ps ?_)
  · show wpAny _ _ (if (((items.size : Int) - 1 == 0) && ((-1 : Int) == 1) && (items.size == items.size)) = true then _ else _) _ _ s
    rw [if_neg (by simp), back_pick]
    have hz : sizeOk (.seq items.toList.reverse.toArray) := by
      show items.toList.reverse.toArray.size ≤ sizeLine
      simpa using hsz
    first
      | exact wpAny_bind (m := Builtin.Tuple.tupleExact _) (wpAny_newObj_type (wpAny_pure ⟨_, rfl, wpAny_pure h⟩) hz)
      | exact wpAny_bind (m := Builtin.Tuple.tupleExact _) (wpAny_newObj_type (wpAny_bind (wpAny_pure (wpAny_pure ⟨_, rfl, wpAny_pure h⟩))) hz)
      | exact wpAny_bind (wpAny_bind (m := Builtin.Tuple.tupleExact _) (wpAny_newObj_type (wpAny_pure (wpAny_pure ⟨_, rfl, wpAny_pure h⟩)) hz))
      | exact wpAny_bind (wpAny_bind (m := Builtin.Tuple.tupleExact _) (wpAny_newObj_type (wpAny_pure ⟨_, rfl, wpAny_pure h⟩) hz))

mutual
theorem noDict_of_dp {K : PySem.W.Frag} {H : Hp} : ∀ (d : PyData) (x : V), Dp K H x d → d.hasDict = false
  | .none, _, _ => by simp only [PyData.hasDict]
  | .bool _, _, _ => by simp only [PyData.hasDict]
  | .int _, _, _ => by simp only [PyData.hasDict]
  | .str _, _, _ => by simp only [PyData.hasDict]
  | .list ds, _, h => by
    cases h with
    | lst _ ha =>
      simp only [PyData.hasDict]
      exact noDicts_of_dp ds _ ha
  | .tuple ds, _, h => by
    cases h with
    | tup _ ha =>
      simp only [PyData.hasDict]
      exact noDicts_of_dp ds _ ha
  | .dict _, _, h => by cases h
theorem noDicts_of_dp {K : PySem.W.Frag} {H : Hp} : ∀ (ds : List PyData) (xs : List V), DpAll K H xs ds → PyData.hasDictAll ds = false
  | [], _, _ => by simp only [PyData.hasDictAll]
  | d :: ds, _, h => by
    cases h with
    | cons h1 h2 =>
      simp only [PyData.hasDictAll, noDict_of_dp d _ h1, noDicts_of_dp ds _ h2, Bool.or_self]
end
section
variable {X : Cx} {F : Fm} {σ' : L2.St}
def tRevT (K : PySem.W.Frag) (te : TE) : TE := fun σ H Q => te σ H fun x H1 => ∃ a xs, x = .ref a ∧ SqT K H1 a xs ∧ ∀ p us, H1 p = none → Vals xs.reverse us → Q (.ref p) (upd H1 p (.frz (tupO us) (.tup xs.reverse)))
theorem pe_revT {e : Expr} {te : TE} {k : Nat} {p1 p2 p3 pos : Pos} (he : PE X e te) : PE X (.Subscript e (.Slice none none (some (.UnaryOp .USub (.Constant (.int 1) k p1) p2)) p3) pos) (tRevT X.K te) := by
  refine ⟨fun pins s σ H Q I h => ?_⟩
  refine PyProof.Rows.Subscript_ (L2.thn (he.run pins s σ H _ I h) fun v s1 ⟨x, H1, I1, r1, q1⟩ => ?_)
  obtain ⟨a, xs, ex, hx, q⟩ := q1
  subst ex
  cases r1
  have hst : L2.PO X (some (.UnaryOp .USub (.Constant (.int 1) k p1) p2)) (L2.tPart (L2.tUn (L2.rU fun i => .int (-i)) (L2.tC (.int 1)))) := L2.po_some (L2.pe_un L2.un_neg L2.pe_int)
  refine wpAny_Slice (L2.thn (L2.po_none.run pins s1 σ H1 (fun o H2 => o = none ∧ H2 = H1) I1 ⟨rfl, rfl⟩) fun vl s2 ⟨l, H2, I2, pl, el, e2⟩ => ?_)
  subst el e2
  refine L2.thn (L2.po_none.run pins s2 σ H2 (fun o H3 => o = none ∧ H3 = H2) I2 ⟨rfl, rfl⟩) fun vu s3 ⟨u, H3, I3, pu, eu, e3⟩ => ?_
  subst eu e3
  refine L2.thn (hst.run pins s3 σ H3 (fun o H4 => o = some (-1) ∧ H4 = H3) I3 ⟨1, rfl, -1, rfl, rfl, rfl⟩) fun vs s4 ⟨o, H4, I4, ps, eo, e4⟩ => ?_
  subst eo e4
  cases pl
  cases pu
  have I5 : Inv X pins σ H4 { s4 with heap := s4.heap.push { cls := .type "slice", data := .fields #[.none, .none, vs] } } := I4.kept (t' := s4.toks) fun b ob q => Heap.get?_push_of_some _ q
  obtain ⟨its, r, ht, hz⟩ := I5.tuple hx
  have hlen := r.length
  show wpAny (model X.prog X.w) X.A (PyProof.Rows.subscriptTail e (.Slice none none (some (.UnaryOp .USub (.Constant (.int 1) k p1) p2)) p3) (.ref a) (.ref s4.heap.objs.size)) (EP X pins σ Q) X.xe { s4 with heap := s4.heap.push { cls := .type "slice", data := .fields #[.none, .none, vs] } }
  refine PyProof.Rows.tail_any (ops := [.ref a, .ref s4.heap.objs.size]) ht.typeIs (PyProof.Rows.slot_tuple_getitem.lookup) ?_ (by with_unfolding_all rfl)
  refine tuple_back ht (Heap.IsSliceOf.new _ .none .none vs) ps ?_ (by rw [List.size_toArray]; omega)
  exact lay_tup (tk := s4.toks) I5 r.reverse (by rw [List.length_reverse]; exact hz) q

/-! ### subscripts -/
def rI (K : PySem.W.Frag) : V → V → Hp → VK → Prop := fun x y H Q => ∃ Z ms xv yv v, DenW K Z ms H xv x ∧ DenW K Z ms H yv y ∧ idxV xv yv = some v ∧ ∀ z, Den K Z ms H v z → Q z H
theorem atI_map {K : PySem.W.Frag} {Z : Addr → Prop} {ms : List Addr} {H : Hp} {ys : List PV} {vs : List V} {i : Int} {v : PV} (d : Dens K Z ms H ys vs) (e : atI ys i = some v) : ∃ z, L2.atI vs i = some z ∧ Den K Z ms H v z := by
  unfold atI at e
  unfold L2.atI
  have hl := d.length
  have e1 : L2.ixN vs.length i = ixN ys.length i := by rw [hl]; rfl
  rw [e1]
  cases q : ixN ys.length i with
  | none => rw [q] at e; cases e
  | some j =>
    rw [q] at e
    obtain ⟨z, h1, h2⟩ := d.get (i := j) (y := v) e
    exact ⟨z, h1, h2⟩
theorem ix_ev : IxR X (rI X.K) := by
  intro value slice pins s σ H x y v u Q I rx ry h hs
  obtain ⟨Z, ms, xv, yv, r, dx, dy, e, q⟩ := h
  unfold idxV at e
  split at e
  · obtain ⟨a, vs, rfl, h1, h2⟩ := dx.lst
    obtain ⟨z, e1, d⟩ := atI_map h2 e
    exact L2.ix_list value slice pins s σ H _ y v u Q I rx ry ⟨a, vs, _, z, rfl, dy.int, .inl (.inl h1), e1, q z d⟩ hs
  · obtain ⟨a, vs, rfl, h1, h2⟩ := dx.tup
    obtain ⟨z, e1, d⟩ := atI_map h2 e
    exact L2.ix_tup value slice pins s σ H _ y v u Q I rx ry ⟨a, vs, _, z, rfl, dy.int, h1, e1, q z d⟩ hs
  · split at e
    · rename_i hz
      obtain ⟨c, e1, e2⟩ := Option.map_eq_some_iff.mp e
      subst e2
      exact L2.ix_str value slice pins s σ H x y v u Q I rx ry ⟨_, _, c, dx.str, dy.int, hz, e1, q _ (by simp only [Den])⟩ hs
    · cases e
  · cases e

/-! ### slices -/
def rS (K : PySem.W.Frag) (F : Fm) (σ' : L2.St) : V → Option Int → Option Int → Hp → VK → Prop := fun x lo hi H Q => ∃ Z ms g xv r, Rel K F Z ms g σ' H ∧ DenW K Z ms H xv x ∧ slcV xv lo hi = some r ∧ After K F Z ms g σ' H r Q
theorem Dens.cut {K : PySem.W.Frag} {Z : Addr → Prop} {ms : List Addr} {H : Hp} {ys : List PV} {vs : List V} (lo hi : Option Int) (d : Dens K Z ms H ys vs) : Dens K Z ms H (Ev.cut ys lo hi) (L2.cutV vs lo hi) := by
  unfold Ev.cut L2.cutV
  rw [d.length]
  exact (d.drop _).take _
theorem cut_ints (ns : List Int) (lo hi : Option Int) : (Ev.cut ns lo hi).map V.int = L2.cutV (ns.map V.int) lo hi := by
  unfold Ev.cut L2.cutV
  rw [List.map_take, List.map_drop, List.length_map]
theorem cut_whole {α : Type} {ys : List α} {lo hi : Option Int} (h1 : HT.sIx ys.length 0 lo = 0) (h2 : HT.sIx ys.length ys.length hi = ys.length) : Ev.cut ys lo hi = ys := by
  unfold Ev.cut
  rw [h1, h2]
  simp
theorem sl_ev : SlR X (rS X.K F σ') := by
  intro pins s σ H x v vl vu lo hi sl Q I rx hs pl pu h
  obtain ⟨Z, ms, g, xv, r, R, dx, e, k⟩ := h
  unfold slcV at e
  split at e
  · cases e
    obtain ⟨a, vs, rfl, h1, h2⟩ := dx.lst
    exact L2.sl_list pins s σ H _ v vl vu _ _ sl Q I rx hs pl pu ⟨a, vs, rfl, .inl (.inl h1), fun p hp => k.newL R (h2.cut _ _) hp⟩
  · cases e
    obtain ⟨a, vs, rfl, h1, h2⟩ := dx.tupD
    have hl := h2.length
    refine sl_tupF pins s σ H _ v vl vu _ _ sl Q I rx hs pl pu ⟨a, vs, rfl, h1.sqT, fun ⟨w1, w2⟩ => ?_, fun _ p us hp _ => k.newT R (h2.cut _ _) hp⟩
    refine k.val R ?_
    rw [hl] at w1 w2
    rw [cut_whole w1 w2]
    simp only [Den]
    exact ⟨a, vs, rfl, h1, h2⟩
  · cases e
    obtain ⟨a, rfl, h1⟩ := dx.fz
    refine L2.sl_list pins s σ H _ v vl vu _ _ sl Q I rx hs pl pu ⟨a, _, rfl, h1.sq, fun p hp => ?_⟩
    rw [← cut_ints]
    exact k.newL R (Dens.ints _) hp
  · obtain ⟨c, rfl⟩ := ck_some e
    exact L2.sl_str pins s σ H x v vl vu _ _ sl Q I rx hs pl pu ⟨_, dx.str, c, k.str R⟩
  · cases e

/-! ### built-ins -/
inductive DenWs (K : PySem.W.Frag) (Z : Addr → Prop) (ms : List Addr) (H : Hp) : List PV → List V → Prop
  | nil : DenWs K Z ms H [] []
  | cons {y : PV} {ys : List PV} {x : V} {xs : List V} : DenW K Z ms H y x → DenWs K Z ms H ys xs → DenWs K Z ms H (y :: ys) (x :: xs)
theorem DenWs.one {K : PySem.W.Frag} {Z : Addr → Prop} {ms : List Addr} {H : Hp} {y : PV} {xs : List V} (h : DenWs K Z ms H [y] xs) : ∃ x, xs = [x] ∧ DenW K Z ms H y x := by
  cases h with
  | cons a b =>
    cases b
    exact ⟨_, rfl, a⟩
theorem DenWs.two {K : PySem.W.Frag} {Z : Addr → Prop} {ms : List Addr} {H : Hp} {y z : PV} {xs : List V} (h : DenWs K Z ms H [y, z] xs) : ∃ x w, xs = [x, w] ∧ DenW K Z ms H y x ∧ DenW K Z ms H z w := by
  cases h with
  | cons a b =>
    obtain ⟨w, rfl, c⟩ := b.one
    exact ⟨_, _, rfl, a, c⟩
/-! ### lists of one kind -/
section
variable {K : PySem.W.Frag} {Z : Addr → Prop} {ms : List Addr} {H : Hp}
theorem bls_V : ∀ {ys : List PV} {vs : List V} {bs : List Bool}, Dens K Z ms H ys vs → bls ys = some bs → vs = bs.map V.bl
  | [], vs, bs, d, e => by
    simp only [Dens] at d
    simp only [bls] at e
    cases e
    exact d
  | y :: ys, vs, bs, d, e => by
    simp only [Dens] at d
    obtain ⟨v, r, rfl, h1, h2⟩ := d
    cases y with
    | bl b =>
      simp only [bls] at e
      obtain ⟨us, e1, rfl⟩ := Option.map_eq_some_iff.mp e
      simp only [Den] at h1
      subst h1
      rw [bls_V h2 e1]
      rfl
    | _ => simp [bls] at e
theorem nts_V : ∀ {ys : List PV} {vs : List V} {bs : List Int}, Dens K Z ms H ys vs → nts ys = some bs → vs = bs.map V.int
  | [], vs, bs, d, e => by
    simp only [Dens] at d
    simp only [nts] at e
    cases e
    exact d
  | y :: ys, vs, bs, d, e => by
    simp only [Dens] at d
    obtain ⟨v, r, rfl, h1, h2⟩ := d
    cases y with
    | int b =>
      simp only [nts] at e
      obtain ⟨us, e1, rfl⟩ := Option.map_eq_some_iff.mp e
      simp only [Den] at h1
      subst h1
      rw [nts_V h2 e1]
      rfl
    | _ => simp [nts] at e
theorem tys_V : ∀ {ys : List PV} {vs : List V} {bs : List Ty}, Dens K Z ms H ys vs → tys ys = some bs → vs = bs.map fun t => V.ty t.nm
  | [], vs, bs, d, e => by
    simp only [Dens] at d
    simp only [tys] at e
    cases e
    exact d
  | y :: ys, vs, bs, d, e => by
    simp only [Dens] at d
    obtain ⟨v, r, rfl, h1, h2⟩ := d
    cases y with
    | ty b =>
      simp only [tys] at e
      obtain ⟨us, e1, rfl⟩ := Option.map_eq_some_iff.mp e
      simp only [Den] at h1
      subst h1
      rw [tys_V h2 e1]
      rfl
    | _ => simp [tys] at e
/-- a value's class -/
def tyN : PV → String
  | .non => "NoneType"
  | .bl _ => "bool"
  | .int _ => "int"
  | .str _ => "str"
  | .tup _ => "tuple"
  | _ => "list"
theorem kb0 (t : Ty) : L2.kitB "NoneType" t.nm = some (false) := by cases t <;> decide +kernel
theorem kb1 (t : Ty) : L2.kitB "bool" t.nm = some (decide (t = .bool) || decide (t = .int)) := by cases t <;> decide +kernel
theorem kb2 (t : Ty) : L2.kitB "int" t.nm = some (decide (t = .int)) := by cases t <;> decide +kernel
theorem kb3 (t : Ty) : L2.kitB "str" t.nm = some (decide (t = .str)) := by cases t <;> decide +kernel
theorem kb4 (t : Ty) : L2.kitB "tuple" t.nm = some (decide (t = .tuple)) := by cases t <;> decide +kernel
theorem kb5 (t : Ty) : L2.kitB "list" t.nm = some (decide (t = .list)) := by cases t <;> decide +kernel
theorem isi_V {y : PV} {x : V} {t : Ty} {b : Bool} (d : DenW K Z ms H y x) (e : isiV y t = some b) : L2.TyX K H x (.type (tyN y)) ∧ PySem.W.kitOne K (.type (tyN y)) (.type t.nm) = some b := by
  cases y with
  | non =>
    obtain rfl := d.non
    refine ⟨.base .non, L2.kit_ty ?_⟩
    cases e
    exact kb0 t
  | bl i =>
    obtain rfl := d.bl
    refine ⟨.base (.bl i), L2.kit_ty ?_⟩
    cases e
    exact kb1 t
  | int i =>
    obtain rfl := d.int
    refine ⟨.base (.int i), L2.kit_ty ?_⟩
    cases e
    exact kb2 t
  | str i =>
    obtain rfl := d.str
    refine ⟨.base (.str i), L2.kit_ty ?_⟩
    cases e
    exact kb3 t
  | tup ys =>
    obtain ⟨a, vs, rfl, h, _⟩ := d.tup
    refine ⟨?_, L2.kit_ty ?_⟩
    · rcases h with (h | ⟨o, h⟩) | ⟨o, its, n, h1, h2, _⟩
      · exact .base (.tup h)
      · exact .fTuple h
      · exact .kTuple h1 h2
    · cases e
      exact kb4 t
  | lst ys =>
    obtain ⟨a, vs, rfl, h, _⟩ := d.lst
    refine ⟨.base (.lst h), L2.kit_ty ?_⟩
    cases e
    exact kb5 t
  | _ => cases e
theorem isis_V {y : PV} {x : V} (d : DenW K Z ms H y x) : ∀ {ts : List Ty} {b : Bool}, isiVs y ts = some b → PySem.W.kitAny K (.type (tyN y)) (ts.map fun t => Value.type t.nm) = some b
  | [], b, e => by cases e
  | [t], b, e => by
    have e : isiV y t = some b := e
    refine L2.kitAny_cons (isi_V d e).2 (fun hk => ?_) fun hk => hk
    rw [hk]
    exact L2.kitAny_nil
  | t :: t2 :: ts, b, e => by
    have e : ((isiV y t).bind fun b => if b = true then some true else isiVs y (t2 :: ts)) = some b := e
    obtain ⟨k, e1, e2⟩ := Option.bind_eq_some_iff.mp e
    refine L2.kitAny_cons (isi_V d e1).2 (fun hk => ?_) fun hk => ?_
    · subst hk
      rw [if_neg Bool.false_ne_true] at e2
      exact isis_V d e2
    · subst hk
      rw [if_pos rfl] at e2
      cases e2
      rfl
theorem vals_tys : ∀ {ts : List Ty} {us : List Value}, Vals (ts.map fun t => V.ty t.nm) us → us = ts.map fun t => Value.type t.nm
  | [], us, r => by
    cases r
    rfl
  | t :: ts, us, r => by
    cases r with
    | cons r1 r2 =>
      rw [vals_tys r2]
      cases r1
      rfl
theorem isiVs_ty {y : PV} {ts : List Ty} {b : Bool} {x : V} (d : DenW K Z ms H y x) (e : isiVs y ts = some b) (h : ts ≠ []) : L2.TyX K H x (.type (tyN y)) := by
  cases ts with
  | nil => exact absurd rfl h
  | cons t r =>
    cases r with
    | nil => exact (isi_V d (t := t) (b := b) e).1
    | cons t2 r =>
      have e : ((isiV y t).bind fun b => if b = true then some true else isiVs y (t2 :: r)) = some b := e
      obtain ⟨k, e1, _⟩ := Option.bind_eq_some_iff.mp e
      exact (isi_V d e1).1
end
/-! ### sorted lists of ints -/
theorem insI_perm (x : Int) : ∀ l, (insI x l).Perm (x :: l)
  | [] => .refl _
  | y :: r => by
    unfold insI
    split
    · exact .refl _
    · exact ((insI_perm x r).cons y).trans (.swap x y r)
theorem sortI_perm : ∀ l, (sortI l).Perm l
  | [] => .refl _
  | x :: r => (insI_perm x _).trans ((sortI_perm r).cons x)
theorem insI_sorted {x : Int} : ∀ {l : List Int}, l.Pairwise (· ≤ ·) → (insI x l).Pairwise (· ≤ ·)
  | [], _ => by simp [insI]
  | y :: r, h => by
    unfold insI
    rw [List.pairwise_cons] at h
    split
    · rename_i q
      refine List.pairwise_cons.mpr ⟨fun z hz => ?_, List.pairwise_cons.mpr h⟩
      rcases List.mem_cons.mp hz with rfl | hz
      · exact q
      · exact Int.le_trans q (h.1 z hz)
    · rename_i q
      refine List.pairwise_cons.mpr ⟨fun z hz => ?_, insI_sorted h.2⟩
      rcases List.mem_cons.mp ((insI_perm x r).mem_iff.mp hz) with rfl | hz
      · omega
      · exact h.1 z hz
theorem sortI_sorted : ∀ l : List Int, (sortI l).Pairwise (· ≤ ·)
  | [] => .nil
  | x :: r => insI_sorted (sortI_sorted r)
theorem sortI_uniq {l m : List Int} (p : m.Perm l) (h : m.Pairwise (· ≤ ·)) : m = sortI l :=
  List.Perm.eq_of_pairwise (fun a b _ _ h1 h2 => Int.le_antisymm h1 h2) h (sortI_sorted l) (p.trans (sortI_perm l).symm)
theorem foldl_max_ge : ∀ (l : List Int) (x : Int), x ≤ l.foldl max x ∧ (∀ y ∈ l, y ≤ l.foldl max x) ∧ (l.foldl max x = x ∨ l.foldl max x ∈ l)
  | [], x => ⟨Int.le_refl _, nofun, .inl rfl⟩
  | y :: r, x => by
    obtain ⟨h1, h2, h3⟩ := foldl_max_ge r (max x y)
    refine ⟨by simp only [List.foldl_cons]; omega, fun z hz => ?_, ?_⟩
    · simp only [List.foldl_cons]
      rcases List.mem_cons.mp hz with rfl | hz
      · omega
      · exact h2 z hz
    · simp only [List.foldl_cons]
      rcases h3 with h3 | h3
      · rw [h3]
        by_cases q : x ≤ y
        · exact .inr (by rw [Int.max_eq_right q]; exact List.mem_cons_self)
        · exact .inl (by omega)
      · exact .inr (List.mem_cons_of_mem _ h3)
theorem foldl_min_le : ∀ (l : List Int) (x : Int), l.foldl min x ≤ x ∧ (∀ y ∈ l, l.foldl min x ≤ y) ∧ (l.foldl min x = x ∨ l.foldl min x ∈ l)
  | [], x => ⟨Int.le_refl _, nofun, .inl rfl⟩
  | y :: r, x => by
    obtain ⟨h1, h2, h3⟩ := foldl_min_le r (min x y)
    refine ⟨by simp only [List.foldl_cons]; omega, fun z hz => ?_, ?_⟩
    · simp only [List.foldl_cons]
      rcases List.mem_cons.mp hz with rfl | hz
      · omega
      · exact h2 z hz
    · simp only [List.foldl_cons]
      rcases h3 with h3 | h3
      · rw [h3]
        by_cases q : y ≤ x
        · exact .inr (by rw [Int.min_eq_right q]; exact List.mem_cons_self)
        · exact .inl (by omega)
      · exact .inr (List.mem_cons_of_mem _ h3)
/-- the value that stands at a built-in's name -/
def BI.name : BI → Str
  | .len => "len"
  | .int => "int"
  | .str => "str"
  | .repr => "repr"
  | .list => "list"
  | .tuple => "tuple"
  | .min2 => "min"
  | .max2 => "max"
  | .isi => "isinstance"
  | .all => "all"
  | .any => "any"
  | .sorted => "sorted"
  | .sum => "sum"
  | .max1 => "max"
  | .min1 => "min"
def BI.value : BI → Value
  | .len => .builtin "len"
  | .int => .type "int"
  | .str => .type "str"
  | .repr => .builtin "repr"
  | .list => .type "list"
  | .tuple => .type "tuple"
  | .min2 => .builtin "min"
  | .max2 => .builtin "max"
  | .isi => .builtin "isinstance"
  | .all => .builtin "all"
  | .any => .builtin "any"
  | .sorted => .builtin "sorted"
  | .sum => .builtin "sum"
  | .max1 => .builtin "max"
  | .min1 => .builtin "min"
def rBI (K : PySem.W.Frag) (F : Fm) (σ' : L2.St) (f : BI) : List V → Hp → VK → Prop := fun xs H Q => ∃ Z ms g ys r, Rel K F Z ms g σ' H ∧ DenWs K Z ms H ys xs ∧ biV f ys = some r ∧ After K F Z ms g σ' H r Q
theorem call_bi (hc : X.calm = true) (hg : X.A.guards = some []) (hu : X.A.units + 200 < cLine) (f : BI) : CallR X f.value (rBI X.K F σ' f) := by
  intro pins s σ H xs us Q I rv h
  obtain ⟨Z, ms, g, ys, r, R, d, e, k⟩ := h
  unfold biV at e
  split at e
  · cases e
    obtain ⟨x, rfl, dx⟩ := d.one
    obtain ⟨a, vs, rfl, h1, h2⟩ := dx.seq (.inl rfl)
    exact L2.call_len_seq pins s σ H _ us Q I rv ⟨a, vs, rfl, h1, by rw [h2.length]; exact k.int R⟩
  · cases e
    obtain ⟨x, rfl, dx⟩ := d.one
    obtain ⟨a, vs, rfl, h1, h2⟩ := dx.seq (.inr rfl)
    exact L2.call_len_seq pins s σ H _ us Q I rv ⟨a, vs, rfl, h1, by rw [h2.length]; exact k.int R⟩
  · obtain ⟨c, rfl⟩ := ck_some e
    obtain ⟨x, rfl, dx⟩ := d.one
    exact L2.call_len_str pins s σ H _ us Q I rv ⟨_, by rw [dx.str], c, k.int R⟩
  · cases e
    obtain ⟨x, rfl, dx⟩ := d.one
    exact L2.call_int1 pins s σ H _ us Q I rv (.inl ⟨_, by rw [dx.int], k.int R⟩)
  · cases e
    obtain ⟨x, rfl, dx⟩ := d.one
    exact L2.call_int1 pins s σ H _ us Q I rv (.inr ⟨_, by rw [dx.bl], k.int R⟩)
  · obtain ⟨c, rfl⟩ := ck_some e
    obtain ⟨x, rfl, dx⟩ := d.one
    exact L2.call_str_int pins s σ H _ us Q I rv ⟨_, by rw [dx.int], c, k.str R⟩
  · cases e
    obtain ⟨x, rfl, dx⟩ := d.one
    exact SkE.call_str_str pins s σ H _ us Q I rv ⟨_, by rw [dx.str], k.str R⟩
  · obtain ⟨⟨c2, c3, c4, c5⟩, rfl⟩ := ck_some e
    obtain ⟨x, rfl, dx⟩ := d.one
    have hd := dx.dp c2
    rename_i y
    have hx : (∃ a, x = V.ref a) ∨ isDisp y = false := by
      cases y <;> first | exact .inr rfl | skip
      · obtain ⟨a, _, q, _⟩ := dx.tup
        exact .inl ⟨a, q⟩
      · obtain ⟨a, _, q, _⟩ := dx.lst
        exact .inl ⟨a, q⟩
    rcases hx with hx | hx
    case inr =>
      cases rv with
      | cons r1 r2 =>
      cases r2
      cases y with
      | tup _ => cases hx
      | lst _ => cases hx
      | fz _ => cases c2
      | ref _ => cases c2
      | ty _ => cases c2
      | non =>
        have e1 := dx.non
        subst e1
        cases r1
        exact PySem.P.repr_of_none ⟨.str _, H, I.tok _, ⟨_, rfl⟩, k.str R⟩
      | bl b =>
        have e1 := dx.bl
        subst e1
        cases r1
        refine PySem.P.repr_of_bool ⟨.str _, H, I.tok _, ⟨_, rfl⟩, ?_⟩
        have q := k.str R
        simp only [PV.d, PyData.shown] at q
        cases b <;> exact q
      | int i =>
        have e1 := dx.int
        subst e1
        obtain ⟨t, rfl⟩ := r1
        simp only [PV.d, PyData.showable, decide_eq_true_eq] at c3
        refine PySem.P.repr_of_int c3 ⟨.str _, H, I.tok _, ⟨_, rfl⟩, ?_⟩
        have q := k.str R
        simp only [PV.d, PyData.shown] at q
        exact q
      | str z =>
        have e1 := dx.str
        subst e1
        obtain ⟨t, rfl⟩ := r1
        simp only [PV.d, PyData.shown] at c5
        refine PySem.P.repr_of_str ⟨.str _, H, I.tok _, ⟨_, rfl⟩, ?_⟩ c5
        have q := k.str R
        simp only [PV.d, PyData.shown] at q
        exact q
    obtain ⟨a, rfl⟩ := hx
    cases rv with
    | cons r1 r2 =>
      cases r2
      cases r1
      obtain ⟨as, rd⟩ := Dp.reads I _ _ _ hd (show RelV (V.ref a) (Value.ref a) from rfl)
      refine repr_of_reads' rd c3 (PyData.noDict_hsm ?_) hg (by omega) (fun _ _ q => q) (fun h' u tk hk => ?_) c5
      · exact noDict_of_dp _ _ hd
      · exact ⟨.str _, H, I.kept (t' := tk) hk, ⟨u, rfl⟩, k.str R⟩
  · cases e
    obtain ⟨x, rfl, dx⟩ := d.one
    obtain ⟨a, vs, rfl, h1, h2⟩ := dx.seq (.inl rfl)
    exact L2.call_list_of pins s σ H _ us Q I rv ⟨a, vs, rfl, h1, fun p hp => k.newL R h2 hp⟩
  · cases e
    obtain ⟨x, rfl, dx⟩ := d.one
    obtain ⟨a, vs, rfl, h1, h2⟩ := dx.seq (.inr rfl)
    exact L2.call_list_of pins s σ H _ us Q I rv ⟨a, vs, rfl, h1, fun p hp => k.newL R h2 hp⟩
  · cases e
    obtain ⟨x, rfl, dx⟩ := d.one
    obtain ⟨a, vs, rfl, h1, h2⟩ := dx.lst
    exact call_tupF pins s σ H _ us Q I rv ⟨a, vs, rfl, .inl (.inl h1), fun p us hp _ => k.newT R h2 hp⟩
  · cases e
    obtain ⟨x, rfl, dx⟩ := d.one
    obtain ⟨a, vs, rfl, h1, h2⟩ := dx.tupD
    refine L2.call_tuple_of pins s σ H _ us Q I rv ⟨a, vs, rfl, .inr ⟨h1.sqT, k.val R ?_⟩⟩
    simp only [Den]
    exact ⟨a, vs, rfl, h1, h2⟩
  · cases e
    obtain ⟨x, w', rfl, dx, dy⟩ := d.two
    exact L2.call_min2 hc pins s σ H _ us Q I rv ⟨_, _, by rw [dx.int, dy.int], k.int R⟩
  · cases e
    obtain ⟨x, w', rfl, dx, dy⟩ := d.two
    exact L2.call_max2 hc pins s σ H _ us Q I rv ⟨_, _, by rw [dx.int, dy.int], k.int R⟩
  · obtain ⟨b, e1, rfl⟩ := Option.map_eq_some_iff.mp e
    obtain ⟨x, w', rfl, dx, dy⟩ := d.two
    obtain rfl := dy.ty
    obtain ⟨t1, t2⟩ := isi_V dx e1
    exact L2.call_isi pins s σ H _ us Q I rv ⟨x, _, _, _, b, rfl, .ty _, t1, t2, k.bl R⟩
  · obtain ⟨ts, e0, e⟩ := Option.bind_eq_some_iff.mp e
    obtain ⟨b, e1, rfl⟩ := Option.map_eq_some_iff.mp e
    obtain ⟨x, w', rfl, dx, dy⟩ := d.two
    obtain ⟨tp, vs, rfl, h1, h2⟩ := dy.tup
    obtain rfl := tys_V h2 e0
    obtain ⟨its, r1, ⟨o, o1, o2, n, o3⟩, _⟩ := I.tuple h1
    obtain rfl := vals_tys r1
    obtain ⟨oc, od, dt, sl⟩ := o
    simp only at o2 o3
    subst o2 o3
    cases rv with
    | cons r1 r2 =>
      cases r2 with
      | cons r2 r3 =>
        cases r3
        cases r2
        have hn : ts ≠ [] := by
          rintro rfl
          cases e1
        obtain ⟨P, Zk, p, hx⟩ := L2.kit_of I r1 (isiVs_ty dx e1 hn)
        exact PySem.W.kia_tup Zk I.kIn p o1 (isis_V dx e1) hx fun tk => ⟨.bl b, H, I.tok tk, rfl, k.bl R⟩
  · obtain ⟨bs, e1, rfl⟩ := Option.map_eq_some_iff.mp e
    obtain ⟨x, rfl, dx⟩ := d.one
    obtain ⟨a, vs, rfl, h1, h2⟩ := dx.lst
    obtain rfl := bls_V h2 e1
    exact L2.cr_all hc pins s σ H _ us Q I rv ⟨a, bs, rfl, .inl (.inl h1), k.bl R⟩
  · obtain ⟨bs, e1, rfl⟩ := Option.map_eq_some_iff.mp e
    obtain ⟨x, rfl, dx⟩ := d.one
    obtain ⟨a, vs, rfl, h1, h2⟩ := dx.lst
    obtain rfl := bls_V h2 e1
    exact L2.cr_any hc pins s σ H _ us Q I rv ⟨a, bs, rfl, .inl (.inl h1), k.bl R⟩
  · obtain ⟨ns, e1, rfl⟩ := Option.map_eq_some_iff.mp e
    obtain ⟨x, rfl, dx⟩ := d.one
    obtain ⟨a, vs, rfl, h1, h2⟩ := dx.lst
    obtain rfl := nts_V h2 e1
    refine L2.cr_sortedI pins s σ H _ us Q I rv ⟨a, ns, rfl, .inl (.inl h1), fun ns' p hp hs hn => ?_⟩
    obtain rfl := sortI_uniq hp hs
    exact k.newL R (Dens.ints _) hn
  · obtain ⟨ns, e1, rfl⟩ := Option.map_eq_some_iff.mp e
    obtain ⟨x, rfl, dx⟩ := d.one
    obtain ⟨a, vs, rfl, h1, h2⟩ := dx.tup
    obtain rfl := nts_V h2 e1
    refine cr_sortedTI pins s σ H _ us Q I rv ⟨a, ns, rfl, h1, fun ns' p hp hs hn => ?_⟩
    obtain rfl := sortI_uniq hp hs
    exact k.newL R (Dens.ints _) hn
  · obtain ⟨ns, e1, rfl⟩ := Option.map_eq_some_iff.mp e
    obtain ⟨x, rfl, dx⟩ := d.one
    obtain ⟨a, vs, rfl, h1, h2⟩ := dx.lst
    obtain rfl := nts_V h2 e1
    exact L2.cr_sum hc pins s σ H _ us Q I rv ⟨a, ns, rfl, .inl (.inl h1), k.int R⟩
  · obtain ⟨ns, e1, e2⟩ := Option.bind_eq_some_iff.mp e
    obtain ⟨m, e3, rfl⟩ := Option.map_eq_some_iff.mp e2
    obtain ⟨x, rfl, dx⟩ := d.one
    obtain ⟨a, vs, rfl, h1, h2⟩ := dx.lst
    obtain rfl := nts_V h2 e1
    cases ns with
    | nil => cases e3
    | cons n r =>
      cases e3
      obtain ⟨g1, g2, g3⟩ := foldl_max_ge r n
      refine L2.cr_max hc pins s σ H _ us Q I rv ⟨a, n :: r, rfl, .inl (.inl h1), Nat.succ_pos _, fun m' hm hy => ?_⟩
      have : m' = r.foldl max n := by
        refine Int.le_antisymm ?_ ?_
        · rcases List.mem_cons.mp hm with rfl | hm
          · exact g1
          · exact g2 _ hm
        · refine hy _ ?_
          rcases g3 with g3 | g3
          · rw [g3]
            exact List.mem_cons_self
          · exact List.mem_cons_of_mem _ g3
      rw [this]
      exact k.int R
  · obtain ⟨ns, e1, e2⟩ := Option.bind_eq_some_iff.mp e
    obtain ⟨m, e3, rfl⟩ := Option.map_eq_some_iff.mp e2
    obtain ⟨x, rfl, dx⟩ := d.one
    obtain ⟨a, vs, rfl, h1, h2⟩ := dx.lst
    obtain rfl := nts_V h2 e1
    cases ns with
    | nil => cases e3
    | cons n r =>
      cases e3
      obtain ⟨g1, g2, g3⟩ := foldl_min_le r n
      refine L2.cr_min hc pins s σ H _ us Q I rv ⟨a, n :: r, rfl, .inl (.inl h1), Nat.succ_pos _, fun m' hm hy => ?_⟩
      have : m' = r.foldl min n := by
        refine Int.le_antisymm ?_ ?_
        · refine hy _ ?_
          rcases g3 with g3 | g3
          · rw [g3]
            exact List.mem_cons_self
          · exact List.mem_cons_of_mem _ g3
        · rcases List.mem_cons.mp hm with rfl | hm
          · exact g1
          · exact g2 _ hm
      rw [this]
      exact k.int R
  · cases e
end
end Ev
/-! # Ev, part 5: readings by the evaluator; expressions, one construct at a time. -/
namespace Ev
open PySem PySem.Spec
open L2 (V Hp HO upd SqL SqT Rd Cx Inv PE PT PW PA PS PSs PG PGs PI PK VK TE TT TA TS TG TGs TI Ends RelV Vals It Dp DpAll OpR UnR CallR TruR IxR SlR MtR EP TP AP SP)

/-- what is wanted of an exception -/
abbrev Wish := EX → (Addr → Prop) → List Addr → G → L2.St → Hp → Prop
/-- what holds behind a run of the evaluator, in any layer's state that fits its own -/
def Sat {α : Type} (K : PySem.W.Frag) (F : Fm) (W : Wish) (σ : L2.St) (Z : Addr → Prop) (ms : List Addr) (H : Hp) (r : R α) (P : α → (Addr → Prop) → List Addr → G → Hp → Prop) : Prop := match r with
  | .ok a g => ∀ Z' ms' H', Le Z ms H Z' ms' H' → Rel K F Z' ms' g σ H' → P a Z' ms' g H'
  | .exc x g => ∀ Z' ms' H', Le Z ms H Z' ms' H' → Rel K F Z' ms' g σ H' → W x Z' ms' g σ H'
  | .bad => False
section
variable {α β : Type} {K : PySem.W.Frag} {F : Fm} {W : Wish} {σ : L2.St} {Z Z' : Addr → Prop} {ms ms' : List Addr} {H H' : Hp} {P : α → (Addr → Prop) → List Addr → G → Hp → Prop} {Pb : β → (Addr → Prop) → List Addr → G → Hp → Prop}
theorem Sat.mk {r : R α} {a : α} {g : G} (e : r = .ok a g) (h : ∀ Z' ms' H', Le Z ms H Z' ms' H' → Rel K F Z' ms' g σ H' → P a Z' ms' g H') : Sat K F W σ Z ms H r P := by
  rw [e]
  exact h
theorem Sat.exc {r : R α} {x : EX} {g : G} (e : r = .exc x g) (h : ∀ Z' ms' H', Le Z ms H Z' ms' H' → Rel K F Z' ms' g σ H' → W x Z' ms' g σ H') : Sat K F W σ Z ms H r P := by
  rw [e]
  exact h
theorem Sat.split {r : R β} {f : β → M α} (S : Sat K F W σ Z ms H (r.bind f) P) : (∃ x g, r = .exc x g ∧ ∀ Z' ms' H', Le Z ms H Z' ms' H' → Rel K F Z' ms' g σ H' → W x Z' ms' g σ H') ∨ ∃ a g, r = .ok a g ∧ Sat K F W σ Z ms H (f a g) P := by
  cases r with
  | ok a g => exact .inr ⟨a, g, rfl, S⟩
  | exc x g => exact .inl ⟨x, g, rfl, S⟩
  | bad => exact S.elim
/-- a run that raises nothing -/
theorem Sat.stepN {r : R β} {f : β → M α} (S : Sat K F W σ Z ms H (r.bind f) P) (hn : ∀ x g, r ≠ .exc x g) : ∃ a g, r = .ok a g ∧ Sat K F W σ Z ms H (f a g) P := by
  cases r with
  | ok a g => exact ⟨a, g, rfl, S⟩
  | exc x g => exact absurd rfl (hn x g)
  | bad => exact S.elim
theorem Sat.le {r : R α} (S : Sat K F W σ Z ms H r P) (l : Le Z ms H Z' ms' H') : Sat K F W σ Z' ms' H' r P := by
  cases r with
  | ok a g => exact fun Z2 ms2 H2 l2 R2 => S Z2 ms2 H2 (l.trans l2) R2
  | exc a g => exact fun Z2 ms2 H2 l2 R2 => S Z2 ms2 H2 (l.trans l2) R2
  | bad => exact S.elim
theorem Sat.lift {o : Option α} {g : G} (S : Sat K F W σ Z ms H (lift o g) P) : ∃ a, o = some a ∧ Sat K F W σ Z ms H (.ok a g) P := by
  cases o with
  | some a => exact ⟨a, rfl, S⟩
  | none => exact S.elim
theorem Sat.stepL {o : Option β} {f : β → M α} {g : G} (S : Sat K F W σ Z ms H ((Ev.lift o g).bind f) P) : ∃ a, o = some a ∧ Sat K F W σ Z ms H (f a g) P := by
  cases o with
  | some a => exact ⟨a, rfl, S⟩
  | none => exact S.elim
end
theorem peek_nx {i : Nat} {g : G} (x : EX) (g' : G) : peek i g ≠ .exc x g' := by
  unfold peek
  split <;> nofun
theorem look_nx {o : Opd} {g : G} (x : EX) (g' : G) : look o g ≠ .exc x g' := by
  cases o with
  | v y => exact nofun
  | s i => exact peek_nx x g'
theorem lookAll_nx : ∀ {os : List Opd} {g : G} (x : EX) (g' : G), lookAll os g ≠ .exc x g'
  | [], g, x, g' => nofun
  | o :: os, g, x, g' => by
    intro e
    unfold lookAll at e
    cases h1 : look o g with
    | bad => rw [h1] at e; cases e
    | exc y g1 => exact look_nx y g1 h1
    | ok v g1 =>
      rw [h1, Ev.R.bind_ok] at e
      cases h2 : lookAll os g1 with
      | bad => rw [h2] at e; cases e
      | exc y g2 => exact lookAll_nx y g2 h2
      | ok w g2 => rw [h2, Ev.R.bind_ok] at e; cases e
theorem Sat.here {α : Type} {K : PySem.W.Frag} {F : Fm} {W : Wish} {σ : L2.St} {Z : Addr → Prop} {ms : List Addr} {H : Hp} {a : α} {g : G} {P : α → (Addr → Prop) → List Addr → G → Hp → Prop} (R : Rel K F Z ms g σ H) (S : Sat K F W σ Z ms H (.ok a g) P) : P a Z ms g H := S Z ms H .refl R
/-- an operand as the layer sees it -/
def OpdOk (K : PySem.W.Frag) (Z : Addr → Prop) (ms : List Addr) (σ : L2.St) (H : Hp) : Opd → V → Prop
  | .v y, x => Den K Z ms H y x
  | .s i, x => σ[i]? = some (some x)
theorem OpdOk.mono {K : PySem.W.Frag} {Z Z' : Addr → Prop} {ms ms' : List Addr} {σ : L2.St} {H H' : Hp} {o : Opd} {x : V} (l : Le Z ms H Z' ms' H') (h : OpdOk K Z ms σ H o x) : OpdOk K Z' ms' σ H' o x := by
  cases o with
  | v y => exact Den.mono l _ _ h
  | s i => exact h
inductive OpdsOk (K : PySem.W.Frag) (Z : Addr → Prop) (ms : List Addr) (σ : L2.St) (H : Hp) : List Opd → List V → Prop
  | nil : OpdsOk K Z ms σ H [] []
  | cons {o : Opd} {os : List Opd} {x : V} {xs : List V} : OpdOk K Z ms σ H o x → OpdsOk K Z ms σ H os xs → OpdsOk K Z ms σ H (o :: os) (x :: xs)
theorem peek_ok {K : PySem.W.Frag} {F : Fm} {Z : Addr → Prop} {ms : List Addr} {g g' : G} {σ : L2.St} {H : Hp} {i : Nat} {v : PV} (R : Rel K F Z ms g σ H) (e : peek i g = .ok v g') : g' = g ∧ ∃ x, σ[i]? = some (some x) ∧ DenW K Z ms H v x := by
  unfold peek at e
  split at e
  · rename_i w h
    cases e
    obtain ⟨x, h1, h2⟩ := R.vl i v h
    exact ⟨rfl, x, h1, .inl h2⟩
  · rename_i xs h
    cases e
    obtain ⟨a, vs, h1, h2, h3, _⟩ := R.ow i xs h
    exact ⟨rfl, _, h1, .inr ⟨a, vs, xs, rfl, rfl, h2, h3⟩⟩
  · cases e
theorem look_ok {K : PySem.W.Frag} {F : Fm} {Z : Addr → Prop} {ms : List Addr} {g g' : G} {σ : L2.St} {H : Hp} {o : Opd} {v : PV} {x : V} (R : Rel K F Z ms g σ H) (ok : OpdOk K Z ms σ H o x) (e : look o g = .ok v g') : g' = g ∧ DenW K Z ms H v x := by
  cases o with
  | v y =>
    cases e
    exact ⟨rfl, .inl ok⟩
  | s i =>
    obtain ⟨h1, y, h2, h3⟩ := peek_ok R e
    have ok' : σ[i]? = some (some x) := ok
    rw [h2] at ok'
    cases ok'
    exact ⟨h1, h3⟩
theorem lookAll_ok {K : PySem.W.Frag} {F : Fm} {Z : Addr → Prop} {ms : List Addr} {g g' : G} {σ : L2.St} {H : Hp} : ∀ {os : List Opd} {vs : List PV} {xs : List V}, Rel K F Z ms g σ H → OpdsOk K Z ms σ H os xs → lookAll os g = .ok vs g' → g' = g ∧ DenWs K Z ms H vs xs
  | [], vs, xs, R, ok, e => by
    cases ok
    cases e
    exact ⟨rfl, .nil⟩
  | o :: os, vs, xs, R, ok, e => by
    cases ok with
    | cons o1 o2 =>
      unfold lookAll at e
      cases h1 : look o g with
      | bad => rw [h1] at e; cases e
      | exc y g1 => rw [h1] at e; cases e
      | ok v g1 =>
        rw [h1] at e
        obtain ⟨rfl, d1⟩ := look_ok R o1 h1
        simp only [Ev.R.bind_ok] at e
        cases h2 : lookAll os g1 with
        | bad => rw [h2] at e; cases e
        | exc y g2 => rw [h2] at e; cases e
        | ok ws g2 =>
          rw [h2] at e
          obtain ⟨rfl, d2⟩ := lookAll_ok R o2 h2
          cases e
          exact ⟨rfl, .cons d1 d2⟩

/-! ### the readings -/
def tE (K : PySem.W.Frag) (F : Fm) (W : Wish) (f : M Res) : TE := fun σ H Q => ∃ Z ms g, Rel K F Z ms g σ H ∧ Sat K F W σ Z ms H (f g) fun r Z' ms' g' H' => ∀ x, ResOk K F Z' ms' g' σ H' r x → Q x H'
/-- .. the result made common -/
def tV (K : PySem.W.Frag) (F : Fm) (W : Wish) (f : M Res) : TE := fun σ H Q => ∃ Z ms g, Rel K F Z ms g σ H ∧ Sat K F W σ Z ms H (f g) fun r Z' ms' g' H' => ∀ x, Den K Z' ms' H' r.pv x → Q x H'
def tO (K : PySem.W.Frag) (F : Fm) (W : Wish) (f : M Opd) : TE := fun σ H Q => ∃ Z ms g, Rel K F Z ms g σ H ∧ Sat K F W σ Z ms H (f g) fun o Z' ms' g' H' => ∀ x, OpdOk K Z' ms' σ H' o x → Q x H'
def tVs (K : PySem.W.Frag) (F : Fm) (W : Wish) (f : M (List PV)) : TA := fun σ H Q => ∃ Z ms g, Rel K F Z ms g σ H ∧ Sat K F W σ Z ms H (f g) fun vs Z' ms' g' H' => ∀ xs, Dens K Z' ms' H' vs xs → Q xs H'
def tOs (K : PySem.W.Frag) (F : Fm) (W : Wish) (f : M (List Opd)) : TA := fun σ H Q => ∃ Z ms g, Rel K F Z ms g σ H ∧ Sat K F W σ Z ms H (f g) fun os Z' ms' g' H' => ∀ xs, OpdsOk K Z' ms' σ H' os xs → Q xs H'
def tT (K : PySem.W.Frag) (F : Fm) (W : Wish) (f : M Bool) : TT := fun σ H Q => ∃ Z ms g, Rel K F Z ms g σ H ∧ Sat K F W σ Z ms H (f g) fun b Z' ms' g' H' => Q b H'
def tI (K : PySem.W.Frag) (F : Fm) (W : Wish) (f : M (Option Int)) : L2.TO := fun σ H Q => ∃ Z ms g, Rel K F Z ms g σ H ∧ Sat K F W σ Z ms H (f g) fun o Z' ms' g' H' => Q o H'
theorem tE_of {K : PySem.W.Frag} {F : Fm} {W : Wish} {f : M Res} {σ : L2.St} {H : Hp} {Q : VK} (h : tV K F W f σ H Q) : tE K F W f σ H Q := by
  obtain ⟨Z, ms, g, R, S⟩ := h
  refine ⟨Z, ms, g, R, ?_⟩
  cases e : f g with
  | bad => rw [e] at S; exact S.elim
  | exc y g1 => rw [e] at S; exact S
  | ok r g1 =>
    rw [e] at S
    intro Z1 ms1 H1 l1 R1 x rx
    obtain ⟨Z2, l2, R2, d⟩ := R1.force rx
    exact S Z2 ms1 H1 (l1.trans l2) R2 x d

theorem PE.imp {X : Cx} {e : Expr} {t t' : TE} (h : PE X e t) (k : ∀ σ H Q, t' σ H Q → t σ H Q) : PE X e t' := ⟨fun pins s σ H Q I q => h.run pins s σ H Q I (k σ H Q q)⟩
theorem PT.imp {X : Cx} {e : Expr} {t t' : TT} (h : PT X e t) (k : ∀ σ H Q, t' σ H Q → t σ H Q) : PT X e t' := ⟨fun pins s σ H Q I q => h.run pins s σ H Q I (k σ H Q q)⟩
theorem PW.imp {X : Cx} {e : Expr} {t t' : TT} (h : PW X e t) (k : ∀ σ H Q, t' σ H Q → t σ H Q) : PW X e t' := ⟨fun w pins s σ H Q I q => h.run w pins s σ H Q I (k σ H Q q)⟩
theorem PA.imp {X : Cx} {es : List Expr} {t t' : TA} (h : PA X es t) (k : ∀ σ H Q, t' σ H Q → t σ H Q) : PA X es t' := ⟨fun p pins s σ H Q I q => h.run p pins s σ H Q I (k σ H Q q)⟩
theorem PO.imp {X : Cx} {e : Option Expr} {t t' : L2.TO} (h : L2.PO X e t) (k : ∀ σ H Q, t' σ H Q → t σ H Q) : L2.PO X e t' := ⟨fun pins s σ H Q I q => h.run pins s σ H Q I (k σ H Q q)⟩
theorem PS.imp {X : Cx} {st : Stmt} {t t' : TS} (h : PS X st t) (k : ∀ D σ H, t' D σ H → t D σ H) : PS X st t' := ⟨fun pins s σ H D I q => h.run pins s σ H D I (k D σ H q)⟩
theorem PSs.imp {X : Cx} {st : List Stmt} {t t' : TS} (h : PSs X st t) (k : ∀ D σ H, t' D σ H → t D σ H) : PSs X st t' := ⟨fun pins s σ H D I q => h.run pins s σ H D I (k D σ H q)⟩
theorem PE.v {X : Cx} {e : Expr} {F : Fm} {W : Wish} {f : M Res} (h : PE X e (tE X.K F W f)) : PE X e (tV X.K F W f) := PE.imp h fun _ _ _ => tE_of

section
variable {X : Cx} {F : Fm} {W : Wish} {pos : Pos}
/-! ### names and constants -/
theorem e_int {c : Call} {i : Int} {j : Nat} : PE X (.Constant (.int i) j pos) (tE X.K F W (ev c (.cst (.int i)))) := PE.imp L2.pe_int fun σ H Q ⟨Z, ms, g, R, S⟩ => Sat.here R S _ (by simp only [ResOk, Den])
theorem e_bl {c : Call} {i : Bool} {j : Nat} : PE X (.Constant (.bool i) j pos) (tE X.K F W (ev c (.cst (.bl i)))) := PE.imp L2.pe_bl fun σ H Q ⟨Z, ms, g, R, S⟩ => Sat.here R S _ (by simp only [ResOk, Den])
theorem e_non {c : Call} {j : Nat} : PE X (.Constant .none j pos) (tE X.K F W (ev c (.cst .non))) := PE.imp L2.pe_non fun σ H Q ⟨Z, ms, g, R, S⟩ => Sat.here R S _ (by simp only [ResOk, Den])
theorem e_str {c : Call} {i : Str} {j : Nat} : PE X (.Constant (.str i) j pos) (tE X.K F W (ev c (.cst (.str i)))) := PE.imp L2.pe_str fun σ H Q ⟨Z, ms, g, R, S⟩ => Sat.here R S _ (by simp only [ResOk, Den])
/-- a slot made common -/
theorem Rel.share {K : PySem.W.Frag} {Z : Addr → Prop} {ms : List Addr} {g : G} {σ : L2.St} {H : Hp} {i : Nat} {xs : List PV} (R : Rel K F Z ms g σ H) (e : g.sl[i]? = some (.own xs)) :
    ∃ Z' x, σ[i]? = some (some x) ∧ Le Z ms H Z' ms H ∧ Rel K F Z' ms { g with sl := g.sl.set i (.val (.lst xs)) } σ H ∧ Den K Z' ms H (.lst xs) x := by
  obtain ⟨a, vs, h1, h2, h3, h4, h5, h6⟩ := R.ow i xs e
  have l : Le Z ms H (fun b => Z b ∨ b = a) ms H := ⟨fun _ z => .inl z, fun _ _ _ e => e, fun _ _ e => e, fun _ _ _ e => e, ⟨[], by simp⟩, fun _ _ e n => ⟨e, n⟩⟩
  have d : Den K (fun b => Z b ∨ b = a) ms H (.lst xs) (.ref a) := by
    simp only [Den]
    exact ⟨a, vs, rfl, .inr rfl, h2, Dens.mono l _ _ h3⟩
  have hi : i < g.sl.length := (List.getElem?_eq_some_iff.mp e).1
  refine ⟨_, _, h1, l, ⟨by simpa using R.len, fun j v q => ?_, fun j ys q => ?_, fun j k ys zs b q1 q2 q3 q4 => ?_, R.cn, fun n c b e1 e2 => (R.cl n c b e1 e2).mono l rfl, R.nd, fun b hb => ⟨?_, (R.mz b hb).2⟩, fun b z => z.elim (R.zf b) fun q => .inr (q ▸ h6), fun b z => .inl (R.zz b z), fun b z => ?_, R.fr, fun j q => R.xs j (xs_val q)⟩, d⟩
  · by_cases hj : i = j
    · subst hj
      rw [List.getElem?_set_self hi] at q
      cases q
      exact ⟨_, h1, d⟩
    · rw [List.getElem?_set_ne hj] at q
      obtain ⟨x, e1, e2⟩ := R.vl j v q
      exact ⟨x, e1, Den.mono l _ _ e2⟩
  · by_cases hj : i = j
    · subst hj
      rw [List.getElem?_set_self hi] at q
      cases q
    · rw [List.getElem?_set_ne hj] at q
      obtain ⟨b, ws, e1, e2, e3, e4, e5, e6⟩ := R.ow j ys q
      refine ⟨b, ws, e1, e2, Dens.mono l _ _ e3, ?_, e5, e6⟩
      rintro (z | rfl)
      · exact e4 z
      · exact hj (R.un i j xs ys b e q h1 e1)
  · by_cases hj : i = j
    · subst hj
      rw [List.getElem?_set_self hi] at q1
      cases q1
    · by_cases hk : i = k
      · subst hk
        rw [List.getElem?_set_self hi] at q2
        cases q2
      · rw [List.getElem?_set_ne hj] at q1
        rw [List.getElem?_set_ne hk] at q2
        exact R.un j k ys zs b q1 q2 q3 q4
  · rintro (z | rfl)
    · exact (R.mz b hb).1 z
    · exact h5 hb
  · rcases z with z | rfl
    · exact R.zs b z
    · exact ⟨vs, h2⟩
theorem e_var {c : Call} {i : Nat} {x : Str} (hN : X.N[i]? = some x) (hv : L2.Vis X.env.scope x) (hd : (x == ("__debug__" : Str)) = false) (hcd : (x == ("__classdict__" : Str)) = false) : PE X (.Name x pos) (tE X.K F W (ev c (.var i))) := by
  refine PE.imp (L2.pe_var hN hv hd hcd) fun σ H Q ⟨Z, ms, g, R, S⟩ => ?_
  rw [ev_var] at S
  unfold rdVar at S
  split at S
  · rename_i v h
    obtain ⟨y, h1, h2⟩ := R.vl i v h
    exact ⟨y, h1, S Z ms H .refl R y h2⟩
  · rename_i xs h
    obtain ⟨Z', y, h1, l, R', d⟩ := R.share h
    exact ⟨y, h1, S Z' ms H l R' y d⟩
  · exact S.elim
theorem o_var {c : Call} {i : Nat} {x : Str} (hN : X.N[i]? = some x) (hv : L2.Vis X.env.scope x) (hd : (x == ("__debug__" : Str)) = false) (hcd : (x == ("__classdict__" : Str)) = false) : PE X (.Name x pos) (tO X.K F W (opd c (.var i))) := by
  refine PE.imp (L2.pe_var hN hv hd hcd) fun σ H Q ⟨Z, ms, g, R, S⟩ => ?_
  simp only [opd_var] at S
  obtain ⟨v, g1, e1, S1⟩ := S.stepN peek_nx
  obtain ⟨rfl, y, h1, h2⟩ := peek_ok R e1
  exact ⟨y, h1, S1 Z ms H .refl R y h1⟩
/-- an operand that is no name -/
theorem o_of {e : Expr} {f : M Res} (h : PE X e (tE X.K F W f)) : PE X e (tO X.K F W fun g => (f g).bind fun r g1 => .ok (.v r.pv) g1) := by
  refine PE.imp (PE.v h) fun σ H Q ⟨Z, ms, g, R, S⟩ => ?_
  rcases S.split with ⟨x0, g1, e1, S1⟩ | ⟨r, g1, e1, S1⟩
  · exact ⟨Z, ms, g, R, Sat.exc e1 S1⟩
  exact ⟨Z, ms, g, R, Sat.mk e1 fun Z' ms' H' l R' x d => S1 Z' ms' H' l R' x d⟩

/-- a built-in class -/
theorem e_tyn {c : Call} {t : Ty} {p : Pos} (hg : L2.Gl X t.nm) (hm : X.mg t.nm = none) : PE X (.Name t.nm p) (tE X.K F W (ev c (.tyn t))) := by
  refine PE.imp (L2.pe_bltn (v := .ty t.nm) (u := .type t.nm) hg hm ?_ rfl ?_ ?_) fun σ H Q ⟨Z, ms, g, R, S⟩ => ?_
  · cases t <;> decide +kernel
  · cases t <;> decide +kernel
  · cases t <;> decide +kernel
  · simp only [ev_tyn] at S
    exact Sat.here R S _ (by simp only [ResOk, Den])
/-! ### argument lists -/
theorem as_nil {c : Call} : PA X [] (tVs X.K F W (evs c .nil)) := PA.imp L2.pa_nil fun σ H Q ⟨Z, ms, g, R, S⟩ => Sat.here R S [] .nil
theorem as_cons {c : Call} {m : ME} {r : MEs} {e : Expr} {es : List Expr} (h : PE X e (tE X.K F W (ev c m))) (t : PA X es (tVs X.K F W (evs c r))) (hs : starEach (e :: es) X.env = (false, eval e X.env) :: starEach es X.env) : PA X (e :: es) (tVs X.K F W (evs c (.cons m r))) := by
  refine PA.imp (L2.pa_cons (PE.v h) t hs) fun σ H Q ⟨Z, ms, g, R, S⟩ => ?_
  simp only [evs_cons] at S
  rcases S.split with ⟨x0, g1, e1, S1⟩ | ⟨v, g1, e1, S1⟩
  · exact ⟨Z, ms, g, R, Sat.exc e1 S1⟩
  refine ⟨Z, ms, g, R, Sat.mk e1 fun Z1 ms1 H1 l1 R1 x d1 => ?_⟩
  rcases (S1.le l1).split with ⟨x0, g2, e2, S2⟩ | ⟨vs, g2, e2, S2⟩
  · exact ⟨Z1, ms1, g1, R1, Sat.exc e2 S2⟩
  refine ⟨Z1, ms1, g1, R1, Sat.mk e2 fun Z2 ms2 H2 l2 R2 xs d2 => ?_⟩
  exact S2 Z2 ms2 H2 l2 R2 (x :: xs) (.cons (Den.mono l2 _ _ d1) d2)
theorem as_star {c : Call} {m : ME} {r : MEs} {e : Expr} {es : List Expr} {p : Pos} (h : PE X e (tE X.K F W (ev c m))) (t : PA X es (tVs X.K F W (evs c r))) : PA X (.Starred e p :: es) (tVs X.K F W (evs c (.star m r))) := by
  refine PA.imp (StX.pa_star (PE.v h) t) fun σ H Q ⟨Z, ms, g, R, S⟩ => ?_
  simp only [evs_star] at S
  rcases S.split with ⟨x0, g1, e1, S1⟩ | ⟨v, g1, e1, S1⟩
  · exact ⟨Z, ms, g, R, Sat.exc e1 S1⟩
  refine ⟨Z, ms, g, R, Sat.mk e1 fun Z1 ms1 H1 l1 R1 x d1 => ?_⟩
  obtain ⟨xs, e0, S1⟩ := S1.stepL
  have hx : ∃ p vs, x = V.ref p ∧ (SqT X.K H1 p vs ∨ SqL X.K H1 p vs) ∧ Dens X.K Z1 ms1 H1 xs vs := by
    revert d1 e0
    generalize v.pv = w
    intro d1 e0
    unfold itemsOf at e0
    split at e0
    · cases e0
      simp only [Den] at d1
      obtain ⟨a, vs, rfl, _, h1, h2⟩ := d1
      exact ⟨a, vs, rfl, .inr (.inl (.inl h1)), h2⟩
    · cases e0
      simp only [Den] at d1
      obtain ⟨a, vs, rfl, h1, h2⟩ := d1
      exact ⟨a, vs, rfl, .inl h1.sqT, h2⟩
    · cases e0
      simp only [Den] at d1
      obtain ⟨a, rfl, h1⟩ := d1
      exact ⟨a, _, rfl, .inr h1.sq, Dens.ints _⟩
    · cases e0
  obtain ⟨p, vs, rfl, h1, h2⟩ := hx
  refine ⟨p, vs, rfl, h1, ?_⟩
  rcases (S1.le l1).split with ⟨x0, g2, e2, S2⟩ | ⟨ys, g2, e2, S2⟩
  · exact ⟨Z1, ms1, g1, R1, Sat.exc e2 S2⟩
  refine ⟨Z1, ms1, g1, R1, Sat.mk e2 fun Z2 ms2 H2 l2 R2 us d2 => ?_⟩
  exact S2 Z2 ms2 H2 l2 R2 (vs ++ us) ((Dens.mono l2 _ _ h2).append d2)
theorem os_nil {c : Call} : PA X [] (tOs X.K F W (opds c .nil)) := PA.imp L2.pa_nil fun σ H Q ⟨Z, ms, g, R, S⟩ => Sat.here R S [] .nil
theorem OpdsOk.mono {K : PySem.W.Frag} {Z Z' : Addr → Prop} {ms ms' : List Addr} {σ : L2.St} {H H' : Hp} (l : Le Z ms H Z' ms' H') {os : List Opd} {xs : List V} (h : OpdsOk K Z ms σ H os xs) : OpdsOk K Z' ms' σ H' os xs := by
  induction h with
  | nil => exact .nil
  | cons h _ ih => exact .cons (h.mono l) ih
theorem os_cons {c : Call} {m : ME} {r : MEs} {e : Expr} {es : List Expr} (h : PE X e (tO X.K F W (opd c m))) (t : PA X es (tOs X.K F W (opds c r))) (hs : starEach (e :: es) X.env = (false, eval e X.env) :: starEach es X.env) : PA X (e :: es) (tOs X.K F W (opds c (.cons m r))) := by
  refine PA.imp (L2.pa_cons h t hs) fun σ H Q ⟨Z, ms, g, R, S⟩ => ?_
  simp only [opds_cons] at S
  rcases S.split with ⟨x0, g1, e1, S1⟩ | ⟨v, g1, e1, S1⟩
  · exact ⟨Z, ms, g, R, Sat.exc e1 S1⟩
  refine ⟨Z, ms, g, R, Sat.mk e1 fun Z1 ms1 H1 l1 R1 x d1 => ?_⟩
  rcases (S1.le l1).split with ⟨x0, g2, e2, S2⟩ | ⟨vs, g2, e2, S2⟩
  · exact ⟨Z1, ms1, g1, R1, Sat.exc e2 S2⟩
  refine ⟨Z1, ms1, g1, R1, Sat.mk e2 fun Z2 ms2 H2 l2 R2 xs d2 => ?_⟩
  exact S2 Z2 ms2 H2 l2 R2 (x :: xs) (.cons (d1.mono l2) d2)

/-! ### displays, operators -/
theorem e_tup {c : Call} {ms : MEs} {es : List Expr} {k : Nat} (h : PA X es (tVs X.K F W (evs c ms))) : PE X (.Tuple es k pos) (tE X.K F W (ev c (.tup ms))) := by
  refine PE.imp (pe_tupF h) fun σ H Q ⟨Z, as, g, R, S⟩ => ?_
  simp only [ev_tup] at S
  rcases S.split with ⟨x0, g1, e1, S1⟩ | ⟨vs, g1, e1, S1⟩
  · exact ⟨Z, as, g, R, Sat.exc e1 S1⟩
  refine ⟨Z, as, g, R, Sat.mk e1 fun Z1 ms1 H1 l1 R1 xs d1 => ?_⟩
  have hl := d1.length
  split at S1
  · rename_i hz
    refine ⟨by omega, fun p us hp _ => ?_⟩
    exact S1 Z1 ms1 _ (l1.trans (Le.upd hp)) (R1.laid hp) _ (R1.newT hp d1)
  · exact S1.elim
theorem e_lst {c : Call} {ms : MEs} {es : List Expr} (h : PA X es (tVs X.K F W (evs c ms))) : PE X (.List es pos) (tE X.K F W (ev c (.lst ms))) := by
  refine PE.imp (L2.pe_lst h) fun σ H Q ⟨Z, as, g, R, S⟩ => ?_
  simp only [ev_lst] at S
  rcases S.split with ⟨x0, g1, e1, S1⟩ | ⟨vs, g1, e1, S1⟩
  · exact ⟨Z, as, g, R, Sat.exc e1 S1⟩
  refine ⟨Z, as, g, R, Sat.mk e1 fun Z1 ms1 H1 l1 R1 xs d1 => ?_⟩
  have hl := d1.length
  split at S1
  · rename_i hz
    refine ⟨by omega, fun p hp => ?_⟩
    exact S1 Z1 ms1 _ (l1.trans (Le.upd hp)) (R1.laid hp) _ (R1.newL hp d1)
  · exact S1.elim
/-- two operands, looked at behind both -/
theorem two {c : Call} {a b : ME} {α : Type} {k : PV → PV → M α} {σ : L2.St} {H : Hp} {Z : Addr → Prop} {ms : List Addr} {g : G} {P : α → (Addr → Prop) → List Addr → G → Hp → Prop} {T : V → V → Hp → Prop} (R : Rel X.K F Z ms g σ H)
    (S : Sat X.K F W σ Z ms H ((opd c a g).bind fun x g1 => (opd c b g1).bind fun y g2 => (look x g2).bind fun xv g3 => (look y g3).bind fun yv g4 => k xv yv g4) P)
    (h : ∀ Z2 ms2 H2 g2 x y xv yv, Rel X.K F Z2 ms2 g2 σ H2 → DenW X.K Z2 ms2 H2 xv x → DenW X.K Z2 ms2 H2 yv y → Sat X.K F W σ Z2 ms2 H2 (k xv yv g2) P → T x y H2) :
    tO X.K F W (opd c a) σ H fun x H1 => tO X.K F W (opd c b) σ H1 fun y H2 => T x y H2 := by
  rcases S.split with ⟨x0, g1, e1, S1⟩ | ⟨o1, g1, e1, S1⟩
  · exact ⟨Z, ms, g, R, Sat.exc e1 S1⟩
  refine ⟨Z, ms, g, R, Sat.mk e1 fun Z1 ms1 H1 l1 R1 x d1 => ?_⟩
  rcases (S1.le l1).split with ⟨x0, g2, e2, S2⟩ | ⟨o2, g2, e2, S2⟩
  · exact ⟨Z1, ms1, g1, R1, Sat.exc e2 S2⟩
  refine ⟨Z1, ms1, g1, R1, Sat.mk e2 fun Z2 ms2 H2 l2 R2 y d2 => ?_⟩
  obtain ⟨xv, g3, e3, S3⟩ := (S2.le l2).stepN look_nx
  obtain ⟨rfl, w1⟩ := look_ok R2 (d1.mono l2) e3
  obtain ⟨yv, g4, e4, S4⟩ := S3.stepN look_nx
  obtain ⟨rfl, w2⟩ := look_ok R2 d2 e4
  exact h Z2 ms2 H2 _ x y xv yv R2 w1 w2 S4
theorem After.of {K : PySem.W.Frag} {W : Wish} {σ : L2.St} {Z : Addr → Prop} {ms : List Addr} {g : G} {H : Hp} {r : Res} {Q : VK} (S : Sat K F W σ Z ms H (.ok r g) fun r Z' ms' g' H' => ∀ x, ResOk K F Z' ms' g' σ H' r x → Q x H') : After K F Z ms g σ H r Q :=
  fun Z' ms' H' v l R d => S Z' ms' H' l R v d
theorem e_bin {c : Call} {o : BO} {a b : ME} {x y : Expr} (ha : PE X x (tO X.K F W (opd c a))) (hb : PE X y (tO X.K F W (opd c b))) : PE X (.BinOp x (bop o) y pos) (tE X.K F W (ev c (.bin o a b))) := by
  refine ⟨fun pins s σ H Q I q => ?_⟩
  refine (PE.imp (L2.pe_op (op_bin (σ' := σ) (F := F) o) ha hb) fun σ1 H1 Q1 (h : σ1 = σ ∧ tE X.K F W (ev c (.bin o a b)) σ1 H1 Q1) => ?_).run pins s σ H Q I ⟨rfl, q⟩
  obtain ⟨rfl, Z, ms, g, R, S⟩ := h
  simp only [ev_bin] at S
  refine two R S fun Z2 ms2 H2 g2 x y xv yv R2 w1 w2 S2 => ?_
  obtain ⟨r, e, S3⟩ := S2.lift
  exact ⟨Z2, ms2, g2, xv, yv, r, R2, w1, w2, e, After.of S3⟩
theorem cmp_sat {c : Call} {o : CO} {a b : ME} {σ : L2.St} {H : Hp} {Q : VK} (h : tE X.K F W (ev c (.cmp o a b)) σ H Q) : tO X.K F W (opd c a) σ H fun x H1 => tO X.K F W (opd c b) σ H1 fun y H2 => rC X.K F σ o x y H2 Q := by
  obtain ⟨Z, ms, g, R, S⟩ := h
  simp only [ev_cmp] at S
  refine two R S fun Z2 ms2 H2 g2 x y xv yv R2 w1 w2 S2 => ?_
  obtain ⟨r, e, S3⟩ := S2.stepL
  exact ⟨Z2, ms2, g2, xv, yv, r, R2, w1, w2, e, S3 Z2 ms2 H2 .refl R2 _ (by simp only [ResOk, Den])⟩
theorem e_cmp {c : Call} {o : CO} {a b : ME} {x y : Expr} (hw : F.w = X.w) (hu : X.A.units + 66 < cLine) (ha : PE X x (tO X.K F W (opd c a))) (hb : PE X y (tO X.K F W (opd c b))) (hm : behindInMarks (cop o) y = false) : PE X (.Compare x [cop o] [y] pos) (tE X.K F W (ev c (.cmp o a b))) :=
  ⟨fun pins s σ H Q I q => (PE.imp (L2.pe_cmpR (op_cmp (σ' := σ) hw hu o) ha hb hm) fun σ1 H1 Q1 (h : σ1 = σ ∧ tE X.K F W (ev c (.cmp o a b)) σ1 H1 Q1) => by
    obtain ⟨rfl, h⟩ := h
    exact cmp_sat h).run pins s σ H Q I ⟨rfl, q⟩⟩
theorem chn_sat {c : Call} {o p : CO} {a b d : ME} {σ : L2.St} {H : Hp} {Q : VK} (h : tE X.K F W (ev c (.chn o p a b d)) σ H Q) : L2.tChain (rC X.K F σ o) (rC X.K F σ p) (tV X.K F W (ev c a)) (tV X.K F W (ev c b)) (tV X.K F W (ev c d)) σ H Q := by
  obtain ⟨Z, ms, g, R, S⟩ := h
  simp only [ev_chn] at S
  rcases S.split with ⟨x0, g1, e1, S1⟩ | ⟨r, g1, e1, S1⟩
  · exact ⟨Z, ms, g, R, Sat.exc e1 S1⟩
  refine ⟨Z, ms, g, R, Sat.mk e1 fun Z1 ms1 H1 l1 R1 x d1 => ?_⟩
  rcases (S1.le l1).split with ⟨x0, g2, e2, S2⟩ | ⟨s, g2, e2, S2⟩
  · exact ⟨Z1, ms1, g1, R1, Sat.exc e2 S2⟩
  refine ⟨Z1, ms1, g1, R1, Sat.mk e2 fun Z2 ms2 H2 l2 R2 y d2 => ?_⟩
  obtain ⟨t, e3, S3⟩ := (S2.le l2).stepL
  refine ⟨Z2, ms2, g2, r.pv, s.pv, t, R2, .inl (Den.mono l2 _ _ d1), .inl d2, e3, t, rfl, ?_⟩
  cases t with
  | true =>
    rw [if_pos rfl] at S3 ⊢
    rcases S3.split with ⟨x0, g3, e4, S4⟩ | ⟨u, g3, e4, S4⟩
    · exact ⟨Z2, ms2, g2, R2, Sat.exc e4 S4⟩
    refine ⟨Z2, ms2, g2, R2, Sat.mk e4 fun Z3 ms3 H3 l3 R3 z d3 => ?_⟩
    obtain ⟨k, e5, S5⟩ := (S4.le l3).stepL
    exact ⟨Z3, ms3, g3, s.pv, u.pv, k, R3, .inl (Den.mono l3 _ _ d2), .inl d3, e5, S5 Z3 ms3 H3 .refl R3 _ (by simp only [ResOk, Den])⟩
  | false =>
    rw [if_neg Bool.false_ne_true] at S3 ⊢
    exact S3 Z2 ms2 H2 .refl R2 _ (by simp only [ResOk, Den])
/-- a < b < c -/
theorem e_chn {c : Call} {o p : CO} {a b d : ME} {x y z : Expr} (hw : F.w = X.w) (hu : X.A.units + 66 < cLine) (ha : PE X x (tE X.K F W (ev c a))) (hb : PE X y (tE X.K F W (ev c b))) (hd : PE X z (tE X.K F W (ev c d))) (hm : lastMarks [cop o, cop p] [y, z] = false) : PE X (.Compare x [cop o, cop p] [y, z] pos) (tE X.K F W (ev c (.chn o p a b d))) := by
  refine ⟨fun pins s σ H Q I q => (PE.imp (L2.pe_chain (op_cmp (σ' := σ) hw hu o) (op_cmp (σ' := σ) hw hu p) (PE.v ha) (PE.v hb) (PE.v hd) hm) fun σ1 H1 Q1 (h : σ1 = σ ∧ tE X.K F W (ev c (.chn o p a b d)) σ1 H1 Q1) => ?_).run pins s σ H Q I ⟨rfl, q⟩⟩
  obtain ⟨rfl, h⟩ := h
  exact chn_sat h
theorem chn_bl {c : Call} {o p : CO} {a b d : ME} {g g1 : G} {r : Res} (e : ev c (.chn o p a b d) g = .ok r g1) : ∃ k, r = .val (.bl k) := by
  simp only [ev_chn] at e
  revert e
  cases ev c a g with
  | bad => intro q; cases q
  | exc _ _ => intro q; cases q
  | ok x1 g1' =>
    simp only [Ev.R.bind_ok]
    cases ev c b g1' with
    | bad => intro q; cases q
    | exc _ _ => intro q; cases q
    | ok y1 g2' =>
      simp only [Ev.R.bind_ok]
      cases cmpG o x1.pv y1.pv g2'.hp with
      | none => intro q; cases q
      | some t =>
        simp only [lift_some, Ev.R.bind_ok]
        split
        · cases ev c d g2' with
          | bad => intro q; cases q
          | exc _ _ => intro q; cases q
          | ok u g4 =>
            simp only [Ev.R.bind_ok]
            cases cmpG p y1.pv u.pv g4.hp with
            | none => intro q; cases q
            | some k =>
              intro q
              cases q
              exact ⟨k, rfl⟩
        · intro q
          cases q
          exact ⟨false, rfl⟩
theorem e_neg {c : Call} {a : ME} {x : Expr} (ha : PE X x (tE X.K F W (ev c a))) : PE X (.UnaryOp .USub x pos) (tE X.K F W (ev c (.neg a))) := by
  refine PE.imp (L2.pe_un L2.un_neg (PE.v ha)) fun σ H Q ⟨Z, ms, g, R, S⟩ => ?_
  simp only [ev_neg] at S
  rcases S.split with ⟨x0, g1, e1, S1⟩ | ⟨r, g1, e1, S1⟩
  · exact ⟨Z, ms, g, R, Sat.exc e1 S1⟩
  refine ⟨Z, ms, g, R, Sat.mk e1 fun Z1 ms1 H1 l1 R1 x d1 => ?_⟩
  obtain ⟨i, e2, S2⟩ := S1.stepL
  have hi : r.pv = .int i := by
    unfold asInt at e2
    split at e2
    · cases e2
      assumption
    · cases e2
  rw [hi] at d1
  exact ⟨i, by simpa only [Den] using d1, S2 Z1 ms1 H1 l1 R1 _ (by simp only [ResOk, Den])⟩
theorem e_nt {c : Call} {a : ME} {x : Expr} (ha : PE X x (tE X.K F W (ev c a))) : PE X (.UnaryOp .Not x pos) (tE X.K F W (ev c (.nt a))) := by
  refine PE.imp (L2.pe_notT (PE.v ha)) fun σ H Q ⟨Z, ms, g, R, S⟩ => ?_
  simp only [ev_nt] at S
  rcases S.split with ⟨x0, g1, e1, S1⟩ | ⟨r, g1, e1, S1⟩
  · exact ⟨Z, ms, g, R, Sat.exc e1 S1⟩
  refine ⟨Z, ms, g, R, Sat.mk e1 fun Z1 ms1 H1 l1 R1 x d1 => ?_⟩
  obtain ⟨b, e2, S2⟩ := S1.stepL
  exact ⟨b, tru_V (.inl d1) e2, S2 Z1 ms1 H1 l1 R1 _ (by simp only [ResOk, Den])⟩
theorem e_an {c : Call} {a b : ME} {x y : Expr} {rest : List Expr} (ha : PE X x (tE X.K F W (ev c a))) (hb : PE X (.BoolOp .And (y :: rest) pos) (tE X.K F W (ev c b))) : PE X (.BoolOp .And (x :: y :: rest) pos) (tE X.K F W (ev c (.an a b))) := by
  refine PE.imp (L2.pe_andT (PE.v ha) (PE.v hb)) fun σ H Q ⟨Z, ms, g, R, S⟩ => ?_
  simp only [ev_an] at S
  rcases S.split with ⟨x0, g1, e1, S1⟩ | ⟨r, g1, e1, S1⟩
  · exact ⟨Z, ms, g, R, Sat.exc e1 S1⟩
  refine ⟨Z, ms, g, R, Sat.mk e1 fun Z1 ms1 H1 l1 R1 x d1 => ?_⟩
  obtain ⟨t, e2, S2⟩ := S1.stepL
  refine ⟨t, tru_V (.inl d1) e2, ?_⟩
  cases t with
  | true =>
    rw [if_pos rfl] at S2 ⊢
    rcases (S2.le l1).split with ⟨x0, g2, e3, S3⟩ | ⟨r2, g2, e3, S3⟩
    · exact ⟨Z1, ms1, g1, R1, Sat.exc e3 S3⟩
    exact ⟨Z1, ms1, g1, R1, Sat.mk e3 fun Z2 ms2 H2 l2 R2 y d2 => S3 Z2 ms2 H2 l2 R2 y d2⟩
  | false =>
    rw [if_neg Bool.false_ne_true] at S2 ⊢
    exact S2 Z1 ms1 H1 l1 R1 x d1
theorem e_or {c : Call} {a b : ME} {x y : Expr} {rest : List Expr} (ha : PE X x (tE X.K F W (ev c a))) (hb : PE X (.BoolOp .Or (y :: rest) pos) (tE X.K F W (ev c b))) : PE X (.BoolOp .Or (x :: y :: rest) pos) (tE X.K F W (ev c (.orr a b))) := by
  refine PE.imp (L2.pe_orT (PE.v ha) (PE.v hb)) fun σ H Q ⟨Z, ms, g, R, S⟩ => ?_
  simp only [ev_orr] at S
  rcases S.split with ⟨x0, g1, e1, S1⟩ | ⟨r, g1, e1, S1⟩
  · exact ⟨Z, ms, g, R, Sat.exc e1 S1⟩
  refine ⟨Z, ms, g, R, Sat.mk e1 fun Z1 ms1 H1 l1 R1 x d1 => ?_⟩
  obtain ⟨t, e2, S2⟩ := S1.stepL
  refine ⟨t, tru_V (.inl d1) e2, ?_⟩
  cases t with
  | true =>
    rw [if_pos rfl] at S2 ⊢
    exact S2 Z1 ms1 H1 l1 R1 x d1
  | false =>
    rw [if_neg Bool.false_ne_true] at S2 ⊢
    rcases (S2.le l1).split with ⟨x0, g2, e3, S3⟩ | ⟨r2, g2, e3, S3⟩
    · exact ⟨Z1, ms1, g1, R1, Sat.exc e3 S3⟩
    exact ⟨Z1, ms1, g1, R1, Sat.mk e3 fun Z2 ms2 H2 l2 R2 y d2 => S3 Z2 ms2 H2 l2 R2 y d2⟩
theorem e_ite {c : Call} {t a b : ME} {z x y : Expr} (ht : PT X z (tT X.K F W (tst c t))) (ha : PE X x (tE X.K F W (ev c a))) (hb : PE X y (tE X.K F W (ev c b))) : PE X (.IfExp z x y pos) (tE X.K F W (ev c (.ite t a b))) := by
  refine PE.imp (L2.pe_ifExp ht ha hb) fun σ H Q ⟨Z, ms, g, R, S⟩ => ?_
  simp only [ev_ite] at S
  rcases S.split with ⟨x0, g1, e1, S1⟩ | ⟨k, g1, e1, S1⟩
  · exact ⟨Z, ms, g, R, Sat.exc e1 S1⟩
  refine ⟨Z, ms, g, R, Sat.mk e1 fun Z1 ms1 H1 l1 R1 => ?_⟩
  replace S1 := S1.le l1
  show if k = true then _ else _
  cases k with
  | true =>
    rw [if_pos rfl] at S1 ⊢
    exact ⟨Z1, ms1, g1, R1, S1⟩
  | false =>
    rw [if_neg Bool.false_ne_true] at S1 ⊢
    exact ⟨Z1, ms1, g1, R1, S1⟩

/-! ### tests -/
theorem t_val {c : Call} {m : ME} {e : Expr} (h : PE X e (tE X.K F W (ev c m))) (he : ∀ whole, isTrue e X.env whole = (do let v ← whole; standAt e.pos; holding [v] (truthy v))) : PT X e (tT X.K F W fun g => (ev c m g).bind fun r g1 => lift (truV r.pv) g1) := by
  refine PT.imp (L2.pt_truthR (PE.v h) tru_ev he) fun σ H Q ⟨Z, ms, g, R, S⟩ => ?_
  rcases S.split with ⟨x0, g1, e1, S1⟩ | ⟨r, g1, e1, S1⟩
  · exact ⟨Z, ms, g, R, Sat.exc e1 S1⟩
  refine ⟨Z, ms, g, R, Sat.mk e1 fun Z1 ms1 H1 l1 R1 x d1 => ?_⟩
  obtain ⟨b, e2, S2⟩ := S1.lift
  exact ⟨Z1, ms1, r.pv, b, .inl d1, e2, S2 Z1 ms1 H1 l1 R1⟩
theorem t_cmp {c : Call} {o : CO} {a b : ME} {x y : Expr} (hw : F.w = X.w) (hu : X.A.units + 66 < cLine) (ha : PE X x (tO X.K F W (opd c a))) (hb : PE X y (tO X.K F W (opd c b))) (hm : behindInMarks (cop o) y = false) : PT X (.Compare x [cop o] [y] pos) (tT X.K F W fun g => (ev c (.cmp o a b) g).bind fun r g1 => lift (truV r.pv) g1) := by
  refine ⟨fun pins s σ H Q I q => (PT.imp (L2.pt_cmpR (op_cmp (σ' := σ) hw hu o) ha hb hm) fun σ1 H1 Q1 (h : σ1 = σ ∧ tT X.K F W (fun g => (ev c (.cmp o a b) g).bind fun r g1 => lift (truV r.pv) g1) σ1 H1 Q1) => ?_).run pins s σ H Q I ⟨rfl, q⟩⟩
  obtain ⟨rfl, Z, ms, g, R, S⟩ := h
  have h : tE X.K F W (ev c (.cmp o a b)) σ1 H1 (fun x H1 => ∃ k, x = .bl k ∧ Q1 k H1) := by
    rcases S.split with ⟨x0, g1, e1, S1⟩ | ⟨r, g1, e1, S1⟩
    · exact ⟨Z, ms, g, R, Sat.exc e1 S1⟩
    refine ⟨Z, ms, g, R, Sat.mk e1 fun Z1 ms1 H1 l1 R1 x d1 => ?_⟩
    obtain ⟨t, e2, S2⟩ := S1.lift
    have hr : r = .val (.bl t) := by
      have e1' := e1
      simp only [ev_cmp] at e1'
      revert e1'
      cases opd c a g with
      | bad => intro q; cases q
      | exc _ _ => intro q; cases q
      | ok x1 g1' =>
        simp only [Ev.R.bind_ok]
        cases opd c b g1' with
        | bad => intro q; cases q
        | exc _ _ => intro q; cases q
        | ok y1 g2' =>
          simp only [Ev.R.bind_ok]
          cases look x1 g2' with
          | bad => intro q; cases q
          | exc _ _ => intro q; cases q
          | ok xv g3' =>
            simp only [Ev.R.bind_ok]
            cases look y1 g3' with
            | bad => intro q; cases q
            | exc _ _ => intro q; cases q
            | ok yv g4' =>
              simp only [Ev.R.bind_ok]
              cases cmpG o xv yv g4'.hp with
              | none => intro q; cases q
              | some k =>
                intro q
                cases q
                cases e2
                rfl
    subst hr
    exact ⟨t, by simpa only [ResOk, Den] using d1, S2 Z1 ms1 H1 l1 R1⟩
  exact cmp_sat h
theorem t_chn {c : Call} {o p : CO} {a b d : ME} {x y z : Expr} (hw : F.w = X.w) (hu : X.A.units + 66 < cLine) (ha : PE X x (tE X.K F W (ev c a))) (hb : PE X y (tE X.K F W (ev c b))) (hd : PE X z (tE X.K F W (ev c d))) (hm : lastMarks [cop o, cop p] [y, z] = false) : PT X (.Compare x [cop o, cop p] [y, z] pos) (tT X.K F W fun g => (ev c (.chn o p a b d) g).bind fun r g1 => lift (truV r.pv) g1) := by
  refine ⟨fun pins s σ H Q I q => (PT.imp (L2.pt_chain (op_cmp (σ' := σ) hw hu o) (op_cmp (σ' := σ) hw hu p) (PE.v ha) (PE.v hb) (PE.v hd) hm) fun σ1 H1 Q1 (h : σ1 = σ ∧ tT X.K F W (fun g => (ev c (.chn o p a b d) g).bind fun r g1 => lift (truV r.pv) g1) σ1 H1 Q1) => ?_).run pins s σ H Q I ⟨rfl, q⟩⟩
  obtain ⟨rfl, Z, ms, g, R, S⟩ := h
  refine chn_sat ?_
  rcases S.split with ⟨x0, g1, e1, S1⟩ | ⟨r, g1, e1, S1⟩
  · exact ⟨Z, ms, g, R, Sat.exc e1 S1⟩
  refine ⟨Z, ms, g, R, Sat.mk e1 fun Z1 ms1 H1 l1 R1 x d1 => ?_⟩
  obtain ⟨t, e2, S2⟩ := S1.lift
  obtain ⟨k, rfl⟩ := chn_bl e1
  cases e2
  exact ⟨t, by simpa only [ResOk, Den] using d1, S2 Z1 ms1 H1 l1 R1⟩
theorem t_nt {f : M Bool} {x : Expr} (h : PT X x (tT X.K F W f)) : PT X (.UnaryOp .Not x pos) (tT X.K F W fun g => (f g).bind fun b g1 => .ok (!b) g1) := by
  refine PT.imp (L2.pt_not h) fun σ H Q ⟨Z, ms, g, R, S⟩ => ?_
  rcases S.split with ⟨x0, g1, e1, S1⟩ | ⟨r, g1, e1, S1⟩
  · exact ⟨Z, ms, g, R, Sat.exc e1 S1⟩
  exact ⟨Z, ms, g, R, Sat.mk e1 fun Z1 ms1 H1 l1 R1 => S1 Z1 ms1 H1 l1 R1⟩
theorem w_an {f1 f2 : M Bool} {x y : Expr} {rest : List Expr} (h : PT X x (tT X.K F W f1)) (h2 : PW X (.BoolOp .And (y :: rest) pos) (tT X.K F W f2)) : PW X (.BoolOp .And (x :: y :: rest) pos) (tT X.K F W fun g => (f1 g).bind fun t g1 => if t = true then f2 g1 else .ok false g1) := by
  refine PW.imp (L2.pw_and h h2) fun σ H Q ⟨Z, ms, g, R, S⟩ => ?_
  rcases S.split with ⟨x0, g1, e1, S1⟩ | ⟨r, g1, e1, S1⟩
  · exact ⟨Z, ms, g, R, Sat.exc e1 S1⟩
  refine ⟨Z, ms, g, R, Sat.mk e1 fun Z1 ms1 H1 l1 R1 => ?_⟩
  cases r with
  | true =>
    rw [if_pos rfl] at S1 ⊢
    exact ⟨Z1, ms1, g1, R1, S1.le l1⟩
  | false =>
    rw [if_neg Bool.false_ne_true] at S1 ⊢
    exact S1 Z1 ms1 H1 l1 R1
theorem w_or {f1 f2 : M Bool} {x y : Expr} {rest : List Expr} (h : PT X x (tT X.K F W f1)) (h2 : PW X (.BoolOp .Or (y :: rest) pos) (tT X.K F W f2)) : PW X (.BoolOp .Or (x :: y :: rest) pos) (tT X.K F W fun g => (f1 g).bind fun t g1 => if t = true then .ok true g1 else f2 g1) := by
  refine PW.imp (L2.pw_or h h2) fun σ H Q ⟨Z, ms, g, R, S⟩ => ?_
  rcases S.split with ⟨x0, g1, e1, S1⟩ | ⟨r, g1, e1, S1⟩
  · exact ⟨Z, ms, g, R, Sat.exc e1 S1⟩
  refine ⟨Z, ms, g, R, Sat.mk e1 fun Z1 ms1 H1 l1 R1 => ?_⟩
  cases r with
  | true =>
    rw [if_pos rfl] at S1 ⊢
    exact S1 Z1 ms1 H1 l1 R1
  | false =>
    rw [if_neg Bool.false_ne_true] at S1 ⊢
    exact ⟨Z1, ms1, g1, R1, S1.le l1⟩
theorem t_ite {f0 f1 f2 : M Bool} {z x y : Expr} (h0 : PT X z (tT X.K F W f0)) (h1 : PT X x (tT X.K F W f1)) (h2 : PT X y (tT X.K F W f2)) : PT X (.IfExp z x y pos) (tT X.K F W fun g => (f0 g).bind fun t g1 => if t = true then f1 g1 else f2 g1) := by
  refine ⟨fun pins s σ H Q I ⟨Z, ms, g, R, S⟩ => ?_⟩
  unfold PySem.isTrue
  rcases S.split with ⟨x0, g1, e1, S1⟩ | ⟨r, g1, e1, S1⟩
  · exact wpAny_bind (L2.thn (h0.run pins s σ H (fun _ _ => False) I ⟨Z, ms, g, R, Sat.exc e1 S1⟩) fun b s1 ⟨H1, I1, q1⟩ => q1.elim)
  refine wpAny_bind (L2.thn (h0.run pins s σ H (fun b H1 => if b = true then tT X.K F W f1 σ H1 Q else tT X.K F W f2 σ H1 Q) I ⟨Z, ms, g, R, Sat.mk e1 fun Z1 ms1 H1 l1 R1 => ?_⟩) fun b s1 ⟨H1, I1, q1⟩ => ?_)
  · cases r with
    | true =>
      rw [if_pos rfl] at S1 ⊢
      exact ⟨Z1, ms1, g1, R1, S1.le l1⟩
    | false =>
      rw [if_neg Bool.false_ne_true] at S1 ⊢
      exact ⟨Z1, ms1, g1, R1, S1.le l1⟩
  · cases b with
    | true =>
      rw [if_pos rfl] at q1 ⊢
      exact h1.run pins s1 σ H1 Q I1 q1
    | false =>
      rw [if_neg Bool.false_ne_true] at q1 ⊢
      exact h2.run pins s1 σ H1 Q I1 q1
end
end Ev
/-! # Ev: dicts walked, asked by methods; places. -/
namespace Ev
open PySem PySem.Spec PyProof.Rows
open L2 (V Hp HO upd SqL SqT Rd Cx Inv PE PT PW PA PS PSs PG PGs PI PK VK TE TT TA TS TG TGs TI Ends RelV Vals It Dp DpAll OpR UnR CallR TruR IxR SlR MtR EP TP AP SP RelO)

section
variable {X : Cx} {pins : List (Addr × Obj)} {σ : L2.St} {H : Hp} {s : Shared} {Z : Addr → Prop} {ms : List Addr} {d : Addr} {c : Cell}
inductive Ents : List DictEntry → List (V × V) → Prop
  | nil : Ents [] []
  | cons {e : DictEntry} {p : V × V} {es ps} : RelV p.1 e.key → RelV p.2 e.val → Ents es ps → Ents (e :: es) (p :: ps)
theorem Ents.length {es : List DictEntry} {ps : List (V × V)} (h : Ents es ps) : es.length = ps.length := by
  induction h with
  | nil => rfl
  | cons _ _ _ ih => simp [ih]
theorem Ents.get {es : List DictEntry} {ps : List (V × V)} (h : Ents es ps) : ∀ {i : Nat} {e : DictEntry}, es[i]? = some e → ∃ p, ps[i]? = some p ∧ RelV p.1 e.key ∧ RelV p.2 e.val := by
  induction h with
  | nil => intro i e q; cases i <;> cases q
  | cons h1 h2 _ ih =>
    intro i e q
    cases i with
    | zero =>
      cases q
      exact ⟨_, rfl, h1, h2⟩
    | succ i => exact ih q
/-- a cell as the machine has it -/
theorem cell_raw (I : Inv X pins σ H s) (ok : CellOk X.K Z ms H X.w c d) (di : isD c = true) : (d == sysModules) = false ∧ ∃ (arr : Array DictEntry) (ep : Nat) (ps : List (V × V)), s.heap.DictRaw d arr ep ∧ arr.size ≤ sizeLine ∧ Ents arr.toList ps ∧
    Dens X.K Z ms H (keysC c) (ps.map (·.1)) ∧ Dens X.K Z ms H (valsC c) (ps.map (·.2)) := by
  cases c with
  | ls _ => cases di
  | tb _ => cases di
  | dk kvs =>
    obtain ⟨ws, h1, h2⟩ := ok
    obtain ⟨hz, hd, vs, rel, o, arr, ep, k1, k2, k3, _, k5, _⟩ := L2.dk_of I.hok h1
    have go : ∀ (es : List DictEntry) (vs : List (Key × Value)) (ws : List (Key × V)) (kvs : List (Key × PV)), Pairs (L2.mixKind X.prog X.w) es vs → L2.KV ws vs → DenKV X.K Z ms H kvs ws →
        Ents es (ws.map fun p => (L2.kV p.1, p.2)) ∧ Dens X.K Z ms H (kvs.map fun kv => keyPV kv.1) (ws.map fun p => L2.kV p.1) ∧ Dens X.K Z ms H (kvs.map (·.2)) (ws.map (·.2)) := by
      intro es vs ws kvs hp
      induction hp generalizing ws kvs with
      | nil =>
        intro hr hd
        cases hr
        cases kvs with
        | nil => exact ⟨.nil, .nil, .nil⟩
        | cons a r =>
          obtain ⟨j, y⟩ := a
          simp only [DenKV] at hd
          obtain ⟨_, _, q, _⟩ := hd
          cases q
      | @cons e kv es vs q1 q2 _ ih =>
        intro hr hd
        cases hr with
        | @cons w _ ws _ r1 r2 =>
          cases kvs with
          | nil => simp only [DenKV] at hd; cases hd
          | cons a r =>
            obtain ⟨j, y⟩ := a
            simp only [DenKV] at hd
            obtain ⟨x, s', q, dx, dr⟩ := hd
            cases q
            obtain ⟨i1, i2, i3⟩ := ih _ _ r2 dr
            have r1' : j = kv.1 ∧ RelV x kv.2 := r1
            obtain ⟨rfl, r3⟩ := r1'
            refine ⟨.cons (L2.relV_key (show L2.keyIs _ e.key = true from q1)) (by rw [q2]; exact r3) i1, .cons ?_ i2, .cons dx i3⟩
            cases kv.1 <;> simp only [keyPV, Den, L2.kV]
    obtain ⟨g1, g2, g3⟩ := go _ _ _ _ k5 rel h2
    have hl := g1.length
    refine ⟨hd, arr, ep, _, ⟨o, k1, k2, k3⟩, ?_, g1, by rw [List.map_map]; exact g2, by rw [List.map_map]; exact g3⟩
    simp only [Array.length_toList, List.length_map] at hl
    omega
  | dn kvs =>
    obtain ⟨es, h1, h2⟩ := ok
    obtain ⟨⟨a1, a2, a3, o, arr, ep, xs, a4, a5, a6, a7, a8⟩, _⟩ := I.hok d _ h1
    have go : ∀ (es : List (NestedKey × Addr × V)) (xs : List (NestedKey × Addr × Value)) (kvs : List (PV × PV)), EN es xs → DenN X.K Z ms H kvs es →
        Ents (xs.map (entN X.w)) (es.map fun e => (V.ref e.2.1, e.2.2)) ∧ Dens X.K Z ms H (kvs.map (·.1)) (es.map fun e => V.ref e.2.1) ∧ Dens X.K Z ms H (kvs.map (·.2)) (es.map (·.2.2)) := by
      intro es xs kvs hr
      induction hr generalizing kvs with
      | nil =>
        intro hd
        cases kvs with
        | nil => exact ⟨.nil, .nil, .nil⟩
        | cons a r =>
          obtain ⟨j, y⟩ := a
          simp only [DenN] at hd
          obtain ⟨_, _, _, _, q, _⟩ := hd
          cases q
      | @cons n a x u r s' q1 _ ih =>
        intro hd
        cases kvs with
        | nil => simp only [DenN] at hd; cases hd
        | cons b t =>
          obtain ⟨j, y⟩ := b
          simp only [DenN] at hd
          obtain ⟨_, _, _, _, q, _, d1, d2, d3⟩ := hd
          cases q
          obtain ⟨i1, i2, i3⟩ := ih _ d3
          exact ⟨.cons rfl q1 i1, .cons d1 i2, .cons d2 i3⟩
    obtain ⟨g1, g2, g3⟩ := go _ _ _ a7 h2
    have hl := a7.length
    have hl2 := congrArg List.length a8
    simp only [Array.length_toList, List.length_map] at hl2
    exact ⟨a1, arr, ep, _, ⟨o, a4, a5, a6⟩, by omega, by rw [a8]; exact g1, by rw [List.map_map]; exact g2, by rw [List.map_map]; exact g3⟩

/-! ### list(d.items()) -/
/-- objects tracked at their addresses -/
def putO : Hp → List Addr → List HO → Hp
  | H, a :: as, o :: os => putO (upd H a o) as os
  | H, _, _ => H
theorem putO_off {b : Addr} : ∀ (as : List Addr) (os : List HO) (H : Hp), b ∉ as → putO H as os b = H b
  | [], _, _, _ => rfl
  | _ :: _, [], _, _ => rfl
  | a :: as, o :: os, H, h => by
    show putO (upd H a o) as os b = H b
    rw [putO_off as os _ (fun z => h (List.mem_cons_of_mem _ z)), L2.upd_ne (fun z => h (by rw [z]; exact List.mem_cons_self))]
theorem putO_at : ∀ (as : List Addr) (os : List HO) (H : Hp), as.length = os.length → as.Nodup → ∀ (j : Nat) t o, as[j]? = some t → os[j]? = some o → putO H as os t = some o
  | [], _, _, _, _, j, t, p, e, _ => by cases j <;> cases e
  | _ :: _, [], _, h, _, _, _, _, _, _ => by cases h
  | a :: as, o :: os, H, h, hn, j, t, q, e1, e2 => by
    have hn' := List.nodup_cons.mp hn
    cases j with
    | zero =>
      cases e1
      cases e2
      show putO (upd H a o) as os a = some o
      rw [putO_off as os _ hn'.1, L2.upd_same]
    | succ j => exact putO_at as os (upd H a o) (Nat.succ.inj h) hn'.2 j t q e1 e2
/-- a pair's object -/
def entO (e : DictEntry) (p : V × V) : HO := .frz (tupO [e.key, e.val]) (.tup [p.1, p.2])
theorem vals_refs : ∀ as : List Addr, Vals (as.map V.ref) (as.map Value.ref)
  | [] => .nil
  | _ :: as => .cons rfl (vals_refs as)
theorem items_laid {h' : Heap} {tk : Nat} {arr : Array DictEntry} {ps : List (V × V)} {acc : Array Value} {n : Nat} {as : List Addr} (I : Inv X pins σ H s) (hz : arr.size ≤ sizeLine) (en : Ents arr.toList ps)
    (hk : ∀ b o, s.heap.get? b = some o → h'.get? b = some o) (hS : h'.get? s.heap.objs.size = some { cls := .type "list", dict := none, data := .seq acc n, slots := #[] }) (hl : as.length = arr.size) (hG : PySem.W.DilG arr s.heap.objs.size h' as) (hacc : acc.toList = as.map Value.ref) :
    ∃ H' : Hp, (∀ b o, H b = some o → H' b = some o) ∧ H s.heap.objs.size = none ∧ (∀ t ∈ as, H t = none) ∧ H' s.heap.objs.size = some (.lst (as.map V.ref)) ∧ (∀ (j : Nat) t p, as[j]? = some t → ps[j]? = some p → ∃ us, H' t = some (.frz (tupO us) (.tup [p.1, p.2]))) ∧ (∀ b, b ∉ as → b ≠ s.heap.objs.size → H' b = H b) ∧ s.heap.objs.size ∉ as ∧ as.length = ps.length ∧ Inv X pins σ H' { s with heap := h', toks := tk } := by
  have lk : as.length = ps.length := by
    have := en.length
    simp only [Array.length_toList] at this
    omega
  have hSn : s.heap.objs.size ∉ as := fun z => Nat.lt_irrefl _ (hG.above _ z)
  have nd : as.Nodup := List.Pairwise.imp (fun {a b} (h : a < b) => Nat.ne_of_lt h) hG.rise
  have new : ∀ t ∈ as, H t = none := fun t ht => I.hok.fresh (Nat.le_of_lt (hG.above t ht))
  have newS : H s.heap.objs.size = none := I.hok.fresh (Nat.le_refl _)
  generalize hos : List.zipWith entO arr.toList ps = os
  have lo : as.length = os.length := by
    rw [← hos, List.length_zipWith, ← en.length, Nat.min_self, Array.length_toList]
    exact hl
  have osAt : ∀ (j : Nat) (p : V × V), ps[j]? = some p → ∃ (hj : j < arr.size), os[j]? = some (entO arr[j] p) := fun j p e => by
    have hj : j < ps.length := (List.getElem?_eq_some_iff.mp e).1
    have hj2 : j < arr.size := by omega
    refine ⟨hj2, ?_⟩
    rw [← hos, List.getElem?_zipWith, e]
    simp [hj2]
  have atP := putO_at as os (upd H s.heap.objs.size (.lst (as.map V.ref))) lo nd
  have off : ∀ b, b ∉ as → b ≠ s.heap.objs.size → putO (upd H s.heap.objs.size (.lst (as.map V.ref))) as os b = H b := fun b h1 h2 => by rw [putO_off as os _ h1, L2.upd_ne h2]
  have low : ∀ b o, s.heap.get? b = some o → b ∉ as ∧ b ≠ s.heap.objs.size := fun b o e => ⟨fun z => absurd (Heap.lt_size e) (Nat.not_lt.mpr (Nat.le_of_lt (hG.above b z))), Nat.ne_of_lt (Heap.lt_size e)⟩
  have kp : ∀ b u, H b = some u → (putO (upd H s.heap.objs.size (.lst (as.map V.ref))) as os) b = some u := fun b u e => by
    rw [off b (fun z => by rw [new b z] at e; cases e) (fun z => by rw [z, newS] at e; cases e)]
    exact e
  have eS : putO (upd H s.heap.objs.size (.lst (as.map V.ref))) as os s.heap.objs.size = some (.lst (as.map V.ref)) := by rw [putO_off as os _ hSn, L2.upd_same]
  refine ⟨putO (upd H s.heap.objs.size (.lst (as.map V.ref))) as os, kp, newS, new, eS, fun j t p e1 e2 => ?_, off, hSn, lk, ?_⟩
  · obtain ⟨hj, e3⟩ := osAt j p e2
    exact ⟨_, atP j t _ e1 e3⟩
  refine I.call' (ch := []) rfl ⟨fun b o q _ _ _ => hk b o q, fun b o q _ _ _ => ⟨o.slots, hk b o q⟩, fun b o q n _ => ?_, fun b o q _ => ⟨o, hk b o q⟩, fun b xs q => kp b _ q, fun b o u q => kp b _ q, fun b ps q => ⟨#[], by rw [kp b _ q]; simp⟩⟩ (fun b u q => ?_) I.bare fun b z => by simp at z
  · obtain ⟨z1, z2⟩ := low b o q
    rw [off b z1 z2]
    exact n
  · by_cases hb : b ∈ as
    · obtain ⟨j, hj, e1⟩ := List.getElem_of_mem hb
      have e1' : as[j]? = some b := by rw [List.getElem?_eq_getElem hj, e1]
      have hj2 : j < ps.length := by omega
      have e2 : ps[j]? = some ps[j] := List.getElem?_eq_getElem hj2
      obtain ⟨hj3, e3⟩ := hG.pairs j b e1'
      obtain ⟨_, e4⟩ := osAt j _ e2
      rw [atP j b _ e1' e4] at q
      cases q
      obtain ⟨p, f1, f2, f3⟩ := en.get (i := j) (e := arr[j]) (by simp [hj3])
      rw [e2] at f1
      cases f1
      exact tupO_ok e3 (.cons f2 (.cons f3 .nil)) (by show 2 ≤ sizeLine; decide)
    · by_cases hb2 : b = s.heap.objs.size
      · rw [hb2] at q ⊢
        rw [eS] at q
        cases q
        refine ⟨by rw [List.length_map]; omega, acc.toList, n, by rw [hacc]; exact vals_refs as, ?_⟩
        rw [Array.toArray_toList]
        exact hS
      · rw [off b hb hb2] at q
        exact (I.hok b u q).stay (fun d v _ y => hk d v y) (fun d y => kp d _ y) fun d xs y => kp d _ y
theorem zip_pairs : ∀ {c : Cell}, pairsC c = List.zipWith (fun k v => PV.tup [k, v]) (keysC c) (valsC c)
  | .dk kvs => by
    unfold pairsC keysC valsC
    induction kvs with
    | nil => rfl
    | cons a r ih => simp only [List.map_cons, List.zipWith_cons_cons, ih]
  | .dn kvs => by
    unfold pairsC keysC valsC
    induction kvs with
    | nil => rfl
    | cons a r ih => simp only [List.map_cons, List.zipWith_cons_cons, ih]
  | .ls _ => rfl
  | .tb _ => rfl
theorem dens_pairs {K : PySem.W.Frag} {H' : Hp} : ∀ (ks vs : List PV) (ps : List (V × V)) (as : List Addr), Dens K Z ms H' ks (ps.map (·.1)) → Dens K Z ms H' vs (ps.map (·.2)) → as.length = ps.length → (∀ (j : Nat) t p, as[j]? = some t → ps[j]? = some p → ∃ us, H' t = some (.frz (tupO us) (.tup [p.1, p.2]))) →
    Dens K Z ms H' (List.zipWith (fun k v => PV.tup [k, v]) ks vs) (as.map V.ref)
  | [], vs, ps, as, d1, d2, hl, ha => by
    simp only [Dens] at d1
    have : ps = [] := List.map_eq_nil_iff.mp d1
    subst this
    have : as = [] := List.length_eq_zero_iff.mp hl
    subst this
    exact .nil
  | k :: ks, [], ps, as, d1, d2, hl, ha => by
    simp only [Dens] at d2
    have : ps = [] := List.map_eq_nil_iff.mp d2
    subst this
    simp only [List.map_nil, Dens] at d1
    obtain ⟨_, _, q, _⟩ := d1
    cases q
  | k :: ks, v :: vs, [], as, d1, d2, hl, ha => by
    simp only [List.map_nil, Dens] at d1
    obtain ⟨_, _, q, _⟩ := d1
    cases q
  | k :: ks, v :: vs, p :: ps, [], d1, d2, hl, ha => by cases hl
  | k :: ks, v :: vs, p :: ps, a :: as, d1, d2, hl, ha => by
    simp only [List.map_cons, Dens] at d1 d2
    obtain ⟨_, _, q1, k1, k2⟩ := d1
    cases q1
    obtain ⟨_, _, q2, v1, v2⟩ := d2
    cases q2
    refine .cons ?_ (dens_pairs ks vs ps as k2 v2 (Nat.succ.inj hl) fun j t p e1 e2 => ha (j + 1) t p e1 e2)
    simp only [Den]
    exact ⟨a, _, rfl, .inl (ha 0 a p rfl rfl), .cons k1 (.cons v1 .nil)⟩
end
theorem Rel.keepNew {K : PySem.W.Frag} {F : Fm} {Z : Addr → Prop} {ms : List Addr} {g : G} {σ : L2.St} {H H' : Hp} (R : Rel K F Z ms g σ H) (kp : ∀ b o, H b = some o → H' b = some o) : Le Z ms H Z ms H' ∧ Rel K F Z ms g σ H' := by
  have l : Le Z ms H Z ms H' := ⟨fun _ z => z, fun a xs _ e => kp a _ e, fun a xs e => kp a _ e, fun a o u e => kp a _ e, ⟨[], by simp⟩, fun a q e n => ⟨kp a _ e, n⟩⟩
  refine ⟨l, R.len, fun i v e => ?_, fun i xs e => ?_, R.un, R.cn, fun n c a e1 e2 => ?_, R.nd, R.mz, R.zf, R.zz, fun a z => ?_, fun a u e => kp a _ (R.fr a u e), R.xs⟩
  · obtain ⟨x, e1, e2⟩ := R.vl i v e
    exact ⟨x, e1, Den.mono l _ _ e2⟩
  · obtain ⟨a, vs, e1, e2, e3, e4⟩ := R.ow i xs e
    exact ⟨a, vs, e1, kp a _ e2, Dens.mono l _ _ e3, e4⟩
  · have ok := R.cl n c a e1 e2
    refine ok.mono l ?_
    cases c with
    | dk kvs =>
      obtain ⟨ws, e, _⟩ := ok
      rw [e]
      exact kp a _ e
    | dn kvs =>
      obtain ⟨ws, e, _⟩ := ok
      rw [e]
      exact kp a _ e
    | ls kvs =>
      obtain ⟨ws, e, _⟩ := ok
      rw [e]
      exact kp a _ e
    | tb q =>
      obtain ⟨ws, e, _⟩ := ok
      rw [e]
      exact kp a _ e
  · obtain ⟨vs, e⟩ := R.zs a z
    exact ⟨vs, kp a _ e⟩
section
variable {X : Cx} {F : Fm} {W : Wish}
theorem e_itl {c : Call} {a : ME} {e : Expr} {p apos cpos pos : Pos} (hw : F.w = X.w) (hc : X.calm = true) (he : PE X e (tE X.K F W (ev c a))) (hg : L2.Gl X "list") (hm : X.mg "list" = none) (hbase : attributeBase e "items" X.env (eval e X.env) = eval e X.env) (hline : (apos.endLine == cpos.line) = true)
    (hs : starEach [.Call (.Attribute e "items" apos) [] [] cpos] X.env = (false, eval (.Call (.Attribute e "items" apos) [] [] cpos) X.env) :: starEach [] X.env := by rfl) :
    PE X (.Call (.Name "list" p) [.Call (.Attribute e "items" apos) [] [] cpos] [] pos) (tE X.K F W (ev c (.itl a))) := by
  refine ⟨fun pins s σ H Q I ⟨Z, ms, g, R, S⟩ => ?_⟩
  simp only [ev_itl] at S
  have rd : tV X.K F W (ev c a) σ H fun x H1 => ∃ (Z1 : Addr → Prop) (ms1 : List Addr) (g1 : G) (r : Res) (n : Nat) (cl : Cell) (d : Addr), Rel X.K F Z1 ms1 g1 σ H1 ∧ r = Res.new (pairsC cl) ∧ x = V.ref d ∧ (CellOk X.K Z1 ms1 H1 F.w cl d ∧ isD cl = true) ∧ g1.hp[n]? = some cl ∧ ms1[n]? = some d ∧ After X.K F Z1 ms1 g1 σ H1 r Q := by
    rcases S.split with ⟨x0, g1, e1, S1⟩ | ⟨r, g1, e1, S1⟩
    · exact ⟨Z, ms, g, R, Sat.exc e1 S1⟩
    refine ⟨Z, ms, g, R, Sat.mk e1 fun Z1 ms1 H1 l1 R1 x d1 => ?_⟩
    obtain ⟨r2, e2, S2⟩ := S1.lift
    unfold itlV at e2
    split at e2
    · rename_i n hr
      obtain ⟨cl, e3, e4⟩ := Option.bind_eq_some_iff.mp e2
      split at e4
      case isFalse => cases e4
      rename_i di
      cases e4
      rw [hr] at d1
      simp only [Den] at d1
      obtain ⟨d, rfl, hd⟩ := d1
      exact ⟨Z1, ms1, g1, _, n, cl, d, R1, rfl, rfl, ⟨R1.cl n cl d e3 hd, di⟩, e3, hd, After.of (S2.le l1)⟩
    · cases e2
  refine wpAny_Call_Name_kw (L2.ld_blt (u := .type "list") I hg hm (by decide +kernel) ?_)
  refine PyProof.Rows.callWith_type1 ?_ hs rfl
  rw [hs]
  show wpAny _ _ (spliced ((false, eval (.Call (.Attribute e "items" apos) [] [] cpos) X.env) :: backTo pos (starEach [] X.env))) _ _ s
  refine Calls.spliced_cons ?_
  refine wpAny_Call_method (T := "dict") (id := "dict.items") hbase rfl hline PySem.F.plainAttrs_dict PySem.F.slot_dict_items PySem.F.type_dict_items (L2.thn ((PE.v he).run pins s σ H _ I rd) fun u s1 ⟨x, H1, I1, rx, Z1, ms1, g1, r, n, cl, d, R1, er, ex, ⟨ok, di⟩, hn, hmn, k⟩ => ?_)
  subst ex er
  cases rx
  rw [hw] at ok
  obtain ⟨hd0, arr, ep, ps, raw, hz, en, dk, dv⟩ := cell_raw I1 ok di
  have I2 : Inv X pins σ H1 { s1 with heap := s1.heap.push { cls := .type "dict_items", data := .fields #[.ref d] } } := I1.kept (t' := s1.toks) fun b ob q => Heap.get?_push_of_some _ q
  obtain ⟨od, hod, hex, hdd⟩ := id raw
  refine ⟨raw.typeIs, fun b q => ?_, ?_⟩
  · cases q
    exact ⟨od, hod, hex.2.1⟩
  show wpAny _ _ (callWith cpos (.builtin "dict.items") [.ref d] [] []) _ X.xe s1
  refine method_meetsIn PySem.F.slot_dict_items PySem.F.entry_dict_items rfl (PySem.evalArgs_none ⟨rfl, raw.typeIs, PySem.F.args_dict_items_1 _, _, PySem.meets_dict_items_raw d hd0, ⟨⟨arr, ep, raw⟩, ?_⟩⟩)
  refine Calls.spliced_nil ?_
  refine PySem.W.dil_call (es := arr) (ep := ep) (I1.ok.hd hc) ⟨_, Heap.get?_push_size _ rfl, rfl, rfl⟩ (raw.push _) hz fun h' tk acc n as hk hS hl hG hacc => ?_
  obtain ⟨H', k1, k2, k3, k4, k5, k6, k7, k8, J⟩ := items_laid (tk := tk) I2 hz en hk hS hl hG hacc
  obtain ⟨l, R2⟩ := R1.keepNew k1
  refine ⟨.ref _, H', J, rfl, k Z1 ms1 H' _ l R2 ?_⟩
  refine ⟨_, _, rfl, k4, ?_, R1.freeZ k2, R1.freeM k2, R1.freeF k2, fun i ys e q => ?_⟩
  · rw [zip_pairs]
    exact dens_pairs _ _ ps as (Dens.mono l _ _ dk) (Dens.mono l _ _ dv) k8 k5
  · obtain ⟨a, ws, e1, e2, _⟩ := R1.ow i ys e
    rw [q] at e1
    cases e1
    rw [k2] at e2
    cases e2
end
end Ev
/-! # Ev, part 6: subscripts, slices, calls of built-ins, methods, f-strings, dicts. -/
namespace Ev
open PySem PySem.Spec
open L2 (V Hp HO upd SqL SqT Rd Cx Inv PE PT PW PA PS PSs PG PGs PI PK VK TE TT TA TS TG TGs TI Ends RelV Vals It Dp DpAll OpR UnR CallR TruR IxR SlR MtR EP TP AP SP)
section
variable {X : Cx} {F : Fm} {W : Wish} {pos : Pos}

/-! ### dict cells -/
theorem getK_V {K : PySem.W.Frag} {Z : Addr → Prop} {ms : List Addr} {H : Hp} {k : Key} : ∀ {kvs : List (Key × PV)} {ws : List (Key × V)} {v : PV}, DenKV K Z ms H kvs ws → getK kvs k = some v → ∃ x, L2.valV ws k = some x ∧ Den K Z ms H v x
  | [], _, _, _, e => by simp [getK] at e
  | (j, y) :: r, ws, v, d, e => by
    simp only [DenKV] at d
    obtain ⟨x, s, rfl, h1, h2⟩ := d
    by_cases hj : j = k
    · have e1 : getK ((j, y) :: r) k = some y := by simp [getK, hj]
      rw [e1] at e
      cases e
      exact ⟨x, L2.valV_pos hj, h1⟩
    · have e1 : getK ((j, y) :: r) k = getK r k := by simp [getK, hj]
      rw [e1] at e
      obtain ⟨z, e2, d2⟩ := getK_V h2 e
      exact ⟨z, (L2.valV_neg (p := (j, x)) hj).trans e2, d2⟩
theorem anyK_V {K : PySem.W.Frag} {Z : Addr → Prop} {ms : List Addr} {H : Hp} {k : Key} : ∀ {kvs : List (Key × PV)} {ws : List (Key × V)}, DenKV K Z ms H kvs ws → (ws.any fun kv => decide (kv.1 = k)) = kvs.any fun kv => decide (kv.1 = k)
  | [], _, d => by
    simp only [DenKV] at d
    subst d
    rfl
  | (j, y) :: r, ws, d => by
    simp only [DenKV] at d
    obtain ⟨x, s, rfl, h1, h2⟩ := d
    simp only [List.any_cons, anyK_V h2]
theorem mapK_V {K : PySem.W.Frag} {Z : Addr → Prop} {ms : List Addr} {H : Hp} {k : Key} {v : PV} {x : V} (dv : Den K Z ms H v x) : ∀ {kvs : List (Key × PV)} {ws : List (Key × V)}, DenKV K Z ms H kvs ws →
    DenKV K Z ms H (kvs.map fun kv => if kv.1 = k then (kv.1, v) else kv) (ws.map fun kv => if kv.1 = k then (kv.1, x) else kv)
  | [], _, d => by
    simp only [DenKV] at d
    subst d
    simp [DenKV]
  | (j, y) :: r, ws, d => by
    simp only [DenKV] at d
    obtain ⟨z, s, rfl, h1, h2⟩ := d
    by_cases hj : j = k
    · simp only [List.map_cons, if_pos hj, DenKV]
      exact ⟨x, _, rfl, dv, mapK_V dv h2⟩
    · simp only [List.map_cons, if_neg hj, DenKV]
      exact ⟨z, _, rfl, h1, mapK_V dv h2⟩
theorem appK_V {K : PySem.W.Frag} {Z : Addr → Prop} {ms : List Addr} {H : Hp} {k : Key} {v : PV} {x : V} (dv : Den K Z ms H v x) : ∀ {kvs : List (Key × PV)} {ws : List (Key × V)}, DenKV K Z ms H kvs ws → DenKV K Z ms H (kvs ++ [(k, v)]) (ws ++ [(k, x)])
  | [], _, d => by
    simp only [DenKV] at d
    subst d
    simp only [List.nil_append, DenKV]
    exact ⟨x, [], rfl, dv, rfl⟩
  | (j, y) :: r, ws, d => by
    simp only [DenKV] at d
    obtain ⟨z, s, rfl, h1, h2⟩ := d
    simp only [List.cons_append, DenKV]
    exact ⟨z, _, rfl, h1, appK_V dv h2⟩
theorem putK_V {K : PySem.W.Frag} {Z : Addr → Prop} {ms : List Addr} {H : Hp} {k : Key} {v : PV} {x : V} {kvs : List (Key × PV)} {ws : List (Key × V)} (dv : Den K Z ms H v x) (d : DenKV K Z ms H kvs ws) : DenKV K Z ms H (putK kvs k v) (L2.putK ws k x) := by
  unfold putK L2.putK
  rw [anyK_V d]
  split
  · exact mapK_V dv d
  · exact appK_V dv d
theorem DenKV.length {K : PySem.W.Frag} {Z : Addr → Prop} {ms : List Addr} {H : Hp} : ∀ {kvs : List (Key × PV)} {ws : List (Key × V)}, DenKV K Z ms H kvs ws → ws.length = kvs.length
  | [], _, d => by
    simp only [DenKV] at d
    subst d
    rfl
  | (j, y) :: r, ws, d => by
    simp only [DenKV] at d
    obtain ⟨x, s, rfl, h1, h2⟩ := d
    simp [DenKV.length h2]
theorem keyOf_V {K : PySem.W.Frag} {Z : Addr → Prop} {ms : List Addr} {H : Hp} {y : PV} {x : V} {k : Key} (d : DenW K Z ms H y x) (e : keyOf y = some k) : x = L2.kV k := by
  unfold keyOf at e
  split at e
  · cases e
    exact d.int
  · cases e
    exact d.str
  · cases e

/-! ### what raises nothing -/
theorem lift_nx {α : Type} {o : Option α} {g : G} (x : EX) (g' : G) : lift o g ≠ .exc x g' := by
  cases o <;> exact nofun
theorem idxG_nx {y k : PV} {g : G} (x : EX) (g' : G) : idxG y k g ≠ .exc x g' := by
  unfold idxG
  split
  · exact lift_nx x g'
  · exact lift_nx x g'
theorem ownAt_nx {i : Nat} {g : G} (x : EX) (g' : G) : ownAt i g ≠ .exc x g' := by
  unfold ownAt
  split <;> exact nofun
theorem appV_nx {i : Nat} {ys : List PV} {g : G} (x : EX) (g' : G) : appV i ys g ≠ .exc x g' := by
  unfold appV
  split
  · split <;> exact nofun
  · exact nofun
/-! ### o[i] -/
theorem pe_dgetC {td ty : TE} {o i : Expr} (hu : X.A.units + 20 < cLine) (ho : PE X o td) (hi : PE X i ty) (hs : L2.NoSl i) :
    PE X (.Subscript o i pos) (fun σ H Q => td σ H fun x H1 => ty σ H1 fun y H2 => ∃ Z ms c d k v, x = .ref d ∧ CellOk X.K Z ms H2 X.w c d ∧ Den X.K Z ms H2 k y ∧ getC c k = some (some v) ∧ ∀ z, Den X.K Z ms H2 v z → Q z H2) := by
  refine ⟨fun pins s σ H Q I h => ?_⟩
  refine L2.subD_of PySem.F.slot_dict_getitem.lookup hs (L2.thn (ho.run pins s σ H _ I h) fun u s1 ⟨x, H1, I1, rx, q1⟩ => L2.thn (hi.run pins s1 σ H1 _ I1 q1) fun iv s2 ⟨y, H2, I2, ry, Z, ms, c, d, k, v, ex, ok, dk, e, q2⟩ => ?_)
  subst ex
  cases rx
  exact ⟨cell_typeIs I2 ok (getC_D e), cell_getItem hu I2 ok dk ry e fun x w' s3 I3 rw' dv => ⟨x, H2, I3, rw', q2 x dv⟩⟩
theorem e_idx {c : Call} {a b : ME} {x y : Expr} (hw : F.w = X.w) (hu : X.A.units + 66 < cLine) (ha : PE X x (tO X.K F W (opd c a))) (hb : PE X y (tO X.K F W (opd c b))) (hs : ∀ lo hi st p, y ≠ .Slice lo hi st p) : PE X (.Subscript x y pos) (tE X.K F W (ev c (.idx a b))) := by
  have pl : L2.PlainIx y := fun o i => by
    unfold subscripted
    cases y <;> first | rfl | exact absurd rfl (hs _ _ _ _)
  have ns : L2.NoSl y := fun o i => pl o i
  refine ⟨fun pins s σ H Q I ⟨Z, ms, g, R, S⟩ => ?_⟩
  simp only [ev_idx] at S
  -- which of the two rules: told by the evaluator ahead
  rcases S.split with ⟨x0, g1, e1, S1⟩ | ⟨o1, g1, e1, S1⟩
  · exact (L2.pe_ix ix_ev ha hb pl).run pins s σ H Q I ⟨Z, ms, g, R, Sat.exc e1 S1⟩
  rcases S1.split with ⟨x0, g2, e2, S2⟩ | ⟨o2, g2, e2, S2⟩
  · exact (L2.pe_ix ix_ev ha hb pl).run pins s σ H Q I ⟨Z, ms, g, R, Sat.mk e1 fun Z1 ms1 H1 l1 R1 x d1 => ⟨Z1, ms1, g1, R1, Sat.exc e2 fun Z' ms' H' l => S2 Z' ms' H' (l1.trans l)⟩⟩
  obtain ⟨xv, g3, e3, S3⟩ := S2.stepN look_nx
  by_cases hr : ∃ n, xv = .ref n
  · obtain ⟨n, rfl⟩ := hr
    refine (pe_dgetC (by omega) ha hb ns).run pins s σ H Q I ?_
    refine ⟨Z, ms, g, R, Sat.mk e1 fun Z1 ms1 H1 l1 R1 x d1 => ⟨Z1, ms1, g1, R1, Sat.mk e2 fun Z2 ms2 H2 l2 R2 y d2 => ?_⟩⟩
    obtain ⟨rfl, w1⟩ := look_ok R2 (d1.mono l2) e3
    obtain ⟨yv, g4, e4, S4⟩ := S3.stepN look_nx
    obtain ⟨rfl, w2⟩ := look_ok R2 d2 e4
    obtain ⟨z, g5, e5, S5⟩ := S4.stepN idxG_nx
    obtain ⟨p, rfl, hp⟩ := w1.ref
    have e5 : lift ((g4.hp[n]?).bind fun c => (getC c yv).bind id) g4 = .ok z g5 := e5
    cases e6 : (g4.hp[n]?).bind fun c => (getC c yv).bind id with
    | none => rw [e6] at e5; cases e5
    | some v =>
      rw [e6] at e5
      cases e5
      obtain ⟨cl, hc, hv⟩ := Option.bind_eq_some_iff.mp e6
      obtain ⟨o, ho, rfl⟩ := Option.bind_eq_some_iff.mp hv
      have ok := R2.cl n cl p hc hp
      rw [hw] at ok
      exact ⟨Z2, ms2, cl, p, yv, z, rfl, ok, w2.den (nolst_C ho), ho, fun q dq => S5 Z2 ms2 H2 (l1.trans l2) R2 q dq⟩
  · refine (L2.pe_ix ix_ev ha hb pl).run pins s σ H Q I ?_
    refine ⟨Z, ms, g, R, Sat.mk e1 fun Z1 ms1 H1 l1 R1 x d1 => ⟨Z1, ms1, g1, R1, Sat.mk e2 fun Z2 ms2 H2 l2 R2 y d2 => ?_⟩⟩
    obtain ⟨rfl, w1⟩ := look_ok R2 (d1.mono l2) e3
    obtain ⟨yv, g4, e4, S4⟩ := S3.stepN look_nx
    obtain ⟨rfl, w2⟩ := look_ok R2 d2 e4
    have S5 : Sat X.K F W σ Z ms H ((lift (idxV xv yv) g4).bind fun z g5 => .ok (.val z) g5) fun r Z' ms' g' H' => ∀ x, ResOk X.K F Z' ms' g' σ H' r x → Q x H' := by
      have e6 : idxG xv yv g4 = lift (idxV xv yv) g4 := by
        unfold idxG
        split
        · exact absurd ⟨_, rfl⟩ hr
        · rfl
      rw [← e6]
      exact S4
    obtain ⟨z, e5, S6⟩ := S5.stepL
    exact ⟨Z2, ms2, xv, yv, z, w1, w2, e5, fun q dq => S6 Z2 ms2 H2 (l1.trans l2) R2 q dq⟩

/-! ### slices -/
theorem i_no {c : Call} : L2.PO X none (tI X.K F W (evo c .no)) := PO.imp L2.po_none fun σ H Q ⟨Z, ms, g, R, S⟩ => Sat.here R S
theorem asInt_some {v : PV} {i : Int} (e : asInt v = some i) : v = .int i := by
  unfold asInt at e
  split at e
  · cases e
    rfl
  · cases e
theorem i_so {c : Call} {m : ME} {e : Expr} (h : PE X e (tE X.K F W (ev c m))) : L2.PO X (some e) (tI X.K F W (evo c (.so m))) := by
  refine PO.imp (L2.po_some (PE.v h)) fun σ H Q ⟨Z, ms, g, R, S⟩ => ?_
  simp only [evo_so] at S
  rcases S.split with ⟨x0, g1, e1, S1⟩ | ⟨r, g1, e1, S1⟩
  · exact ⟨Z, ms, g, R, Sat.exc e1 S1⟩
  refine ⟨Z, ms, g, R, Sat.mk e1 fun Z1 ms1 H1 l1 R1 x d1 => ?_⟩
  obtain ⟨i, e2, S2⟩ := S1.stepL
  rw [asInt_some e2] at d1
  exact ⟨i, by simpa only [Den] using d1, S2 Z1 ms1 H1 l1 R1⟩
theorem e_slc {c : Call} {a : ME} {lo hi : MO} {x : Expr} {l h : Option Expr} {p2 : Pos} (ha : PE X x (tO X.K F W (opd c a))) (hl : L2.PO X l (tI X.K F W (evo c lo))) (hh : L2.PO X h (tI X.K F W (evo c hi))) : PE X (.Subscript x (.Slice l h none p2) pos) (tE X.K F W (ev c (.slc a lo hi))) := by
  refine ⟨fun pins s σ H Q I q => ?_⟩
  refine (PE.imp (L2.pe_slice (sl_ev (σ' := σ) (F := F)) ha hl hh) fun σ1 H1 Q1 (h : σ1 = σ ∧ tE X.K F W (ev c (.slc a lo hi)) σ1 H1 Q1) => ?_).run pins s σ H Q I ⟨rfl, q⟩
  obtain ⟨rfl, Z, ms, g, R, S⟩ := h
  simp only [ev_slc] at S
  rcases S.split with ⟨x0, g1, e1, S1⟩ | ⟨o1, g1, e1, S1⟩
  · exact ⟨Z, ms, g, R, Sat.exc e1 S1⟩
  refine ⟨Z, ms, g, R, Sat.mk e1 fun Z1 ms1 H1 l1 R1 x d1 => ?_⟩
  rcases (S1.le l1).split with ⟨x0, g2, e2, S2⟩ | ⟨o2, g2, e2, S2⟩
  · exact ⟨Z1, ms1, g1, R1, Sat.exc e2 S2⟩
  refine ⟨Z1, ms1, g1, R1, Sat.mk e2 fun Z2 ms2 H2 l2 R2 => ?_⟩
  rcases (S2.le l2).split with ⟨x0, g3, e3, S3⟩ | ⟨o3, g3, e3, S3⟩
  · exact ⟨Z2, ms2, g2, R2, Sat.exc e3 S3⟩
  refine ⟨Z2, ms2, g2, R2, Sat.mk e3 fun Z3 ms3 H3 l3 R3 => ?_⟩
  obtain ⟨xv, g4, e4, S4⟩ := (S3.le l3).stepN look_nx
  obtain ⟨rfl, w1⟩ := look_ok R3 (d1.mono (l2.trans l3)) e4
  obtain ⟨r, e5, S5⟩ := S4.lift
  exact ⟨Z3, ms3, g4, xv, r, R3, w1, e5, After.of S5⟩
theorem e_rev {c : Call} {a : ME} {x : Expr} {k : Nat} {p1 p2 p3 : Pos} (ha : PE X x (tO X.K F W (opd c a))) : PE X (.Subscript x (.Slice none none (some (.UnaryOp .USub (.Constant (.int 1) k p1) p2)) p3) pos) (tE X.K F W (ev c (.rev a))) := by
  refine ⟨fun pins s σ H Q I ⟨Z, ms, g, R, S⟩ => ?_⟩
  simp only [ev_rev] at S
  rcases S.split with ⟨x0, g1, e1, S1⟩ | ⟨o1, g1, e1, S1⟩
  · exact (pe_revT ha).run pins s σ H Q I ⟨Z, ms, g, R, Sat.exc e1 S1⟩
  obtain ⟨xv, g2, e2, S2⟩ := S1.stepN look_nx
  obtain ⟨r, e3, S3⟩ := S2.lift
  unfold revV at e3
  split at e3
  · cases e3
    refine (L2.pe_revL ha).run pins s σ H Q I ⟨Z, ms, g, R, Sat.mk e1 fun Z1 ms1 H1 l1 R1 x d1 => ?_⟩
    obtain ⟨rfl, w1⟩ := look_ok R1 d1 e2
    obtain ⟨b, vs, rfl, h1, h2⟩ := w1.lst
    exact ⟨b, vs, rfl, .inl (.inl h1), fun p hp => (After.of (S3.le l1)).newL R1 h2.reverse hp⟩
  · cases e3
    refine (pe_revT ha).run pins s σ H Q I ⟨Z, ms, g, R, Sat.mk e1 fun Z1 ms1 H1 l1 R1 x d1 => ?_⟩
    obtain ⟨rfl, w1⟩ := look_ok R1 d1 e2
    obtain ⟨b, vs, rfl, h1, h2⟩ := w1.tup
    exact ⟨b, vs, rfl, h1, fun p us hp _ => (After.of (S3.le l1)).newT R1 h2.reverse hp⟩
  · cases e3

/-! ### built-ins -/
theorem bi_sat {c : Call} {f : BI} {es : MEs} {σ : L2.St} {H : Hp} {Q : VK} (h : tE X.K F W (ev c (.bi f es)) σ H Q) : tOs X.K F W (opds c es) σ H fun vs H1 => rBI X.K F σ f vs H1 Q := by
  obtain ⟨Z, ms, g, R, S⟩ := h
  simp only [ev_bi] at S
  rcases S.split with ⟨x0, g1, e1, S1⟩ | ⟨os, g1, e1, S1⟩
  · exact ⟨Z, ms, g, R, Sat.exc e1 S1⟩
  refine ⟨Z, ms, g, R, Sat.mk e1 fun Z1 ms1 H1 l1 R1 xs d1 => ?_⟩
  obtain ⟨vs, g2, e2, S2⟩ := (S1.le l1).stepN lookAll_nx
  obtain ⟨rfl, w1⟩ := lookAll_ok R1 d1 e2
  obtain ⟨r, e3, S3⟩ := S2.lift
  exact ⟨Z1, ms1, g2, vs, r, R1, w1, e3, After.of S3⟩
theorem boot_bi (f : BI) : bootBuiltins f.name = some f.value := by cases f <;> decide +kernel
theorem e_bi {c : Call} {f : BI} {m : ME} {es : MEs} {e : Expr} {as : List Expr} {p : Pos} (hc : X.calm = true) (hgd : X.A.guards = some []) (hu : X.A.units + 200 < cLine) (hg : L2.Gl X f.name) (hm : X.mg f.name = none) (ha : PA X (e :: as) (tOs X.K F W (opds c (.cons m es))))
    (he : starEach (e :: as) X.env = (false, eval e X.env) :: starEach as X.env) (hpl : (backTo pos (starEach as X.env)).any (·.1) = false) : PE X (.Call (.Name f.name p) (e :: as) [] pos) (tE X.K F W (ev c (.bi f (.cons m es)))) := by
  refine ⟨fun pins s σ H Q I q => ?_⟩
  have hn : f.name ≠ ("__name__" : Str) := by cases f <;> decide +kernel
  have hd : (f.name == ("__debug__" : Str)) = false := by cases f <;> decide +kernel
  have hb := boot_bi f
  have hcall := call_bi (X := X) (F := F) (σ' := σ) hc hgd hu f
  have hq : L2.tCB (rBI X.K F σ f) (tOs X.K F W (opds c (.cons m es))) σ H Q := bi_sat q
  have hB : ∀ id, f.value = .builtin id → wpAny (model X.prog X.w) X.A (eval (.Call (.Name f.name p) (e :: as) [] pos) X.env) (EP X pins σ Q) X.xe s := fun id h => by
    rw [h] at hcall hb
    exact (L2.pe_callB hcall hg hm hb ha hn hd he hpl).run pins s σ H Q I hq
  have hT : ∀ id, f.value = .type id → wpAny (model X.prog X.w) X.A (eval (.Call (.Name f.name p) (e :: as) [] pos) X.env) (EP X pins σ Q) X.xe s := fun id h => by
    rw [h] at hcall hb
    exact (L2.pe_callTy hcall hg hm hb ha hn hd he hpl).run pins s σ H Q I hq
  cases f with
  | len => exact hB _ rfl
  | int => exact hT _ rfl
  | str => exact hT _ rfl
  | repr => exact hB _ rfl
  | list => exact hT _ rfl
  | tuple => exact hT _ rfl
  | min2 => exact hB _ rfl
  | max2 => exact hB _ rfl
  | isi => exact hB _ rfl
  | all => exact hB _ rfl
  | any => exact hB _ rfl
  | sorted => exact hB _ rfl
  | sum => exact hB _ rfl
  | max1 => exact hB _ rfl
  | min1 => exact hB _ rfl

/-! ### s.join(xs) -/
theorem txts_V {K : PySem.W.Frag} {Z : Addr → Prop} {ms : List Addr} {H : Hp} : ∀ {ys : List PV} {vs : List V} {ts : List Str}, Dens K Z ms H ys vs → txts ys = some ts → vs = ts.map V.str
  | [], vs, ts, d, e => by
    simp only [Dens] at d
    simp only [txts] at e
    cases e
    exact d
  | y :: ys, vs, ts, d, e => by
    simp only [Dens] at d
    obtain ⟨v, r, rfl, h1, h2⟩ := d
    cases y with
    | str x =>
      simp only [txts] at e
      obtain ⟨us, e1, e2⟩ := Option.map_eq_some_iff.mp e
      subst e2
      simp only [Den] at h1
      subst h1
      rw [txts_V h2 e1]
      rfl
    | _ => simp [txts] at e
theorem e_join {c : Call} {o a : ME} {x y : Expr} {ap : Pos} (ho : PE X x (tE X.K F W (ev c o))) (ha : PE X y (tO X.K F W (opd c a))) (hs : starEach [y] X.env = [(false, eval y X.env)]) (hb : attributeBase x "join" X.env (eval x X.env) = eval x X.env) (hl : (ap.endLine == pos.line) = true) :
    PE X (.Call (.Attribute x "join" ap) [y] [] pos) (tE X.K F W (ev c (.join o a))) := by
  refine PE.imp (L2.pe_join (PE.v ho) ha hs hb hl) fun σ H Q ⟨Z, ms, g, R, S⟩ => ?_
  simp only [ev_join] at S
  rcases S.split with ⟨x0, g1, e1, S1⟩ | ⟨r, g1, e1, S1⟩
  · exact ⟨Z, ms, g, R, Sat.exc e1 S1⟩
  obtain ⟨t, et, S1⟩ := S1.stepL
  have ht : r.pv = .str t := by
    revert et
    generalize r.pv = w
    intro et
    unfold asStr at et
    split at et
    · cases et
      rfl
    · cases et
  refine ⟨Z, ms, g, R, Sat.mk e1 fun Z1 ms1 H1 l1 R1 x d1 => ?_⟩
  rw [ht] at d1
  have hx : x = .str t := by simpa only [Den] using d1
  refine ⟨⟨t, hx⟩, ?_⟩
  rcases (S1.le l1).split with ⟨x0, g2, e2, S2⟩ | ⟨o2, g2, e2, S2⟩
  · exact ⟨Z1, ms1, g1, R1, Sat.exc e2 S2⟩
  obtain ⟨yv, g3, e3, S3⟩ := S2.stepN look_nx
  obtain ⟨z, e4, S4⟩ := S3.stepL
  refine ⟨Z1, ms1, g1, R1, Sat.mk e2 fun Z2 ms2 H2 l2 R2 y d2 => ?_⟩
  obtain ⟨rfl, w2⟩ := look_ok R2 d2 e3
  have core : ∀ ys, (yv = .lst ys ∨ yv = .tup ys) → ((txts ys).bind fun us => ck ((us.map (·.length)).sum + us.length * t.length ≤ 16777216) (PV.str (Txt.join t us))) = some z →
      ∃ a p, ∃ us : List Str, x = .str a ∧ [y] = [V.ref p] ∧ (SqL X.K H2 p (us.map V.str) ∨ SqT X.K H2 p (us.map V.str)) ∧ (us.map (·.length)).sum + us.length * a.length ≤ 16777216 ∧ Q (.str (Txt.join a us)) H2 := fun ys hy e5 => by
    obtain ⟨ts, h1, h2⟩ := Option.bind_eq_some_iff.mp e5
    obtain ⟨hz, rfl⟩ := ck_some h2
    obtain ⟨p, vs, rfl, h3, h4⟩ := w2.seq hy
    rw [txts_V h4 h1] at h3
    exact ⟨t, p, ts, hx, rfl, h3, hz, S4 Z2 ms2 H2 l2 R2 _ (by simp only [ResOk, Den])⟩
  unfold joinV at e4
  split at e4
  · rename_i q
    cases q
    exact core _ (.inl rfl) e4
  · rename_i q
    cases q
    exact core _ (.inr rfl) e4
  · cases e4

/-! ### a name's own list grows -/
theorem Rel.grow {K : PySem.W.Frag} {F : Fm} {Z : Addr → Prop} {ms : List Addr} {g : G} {σ : L2.St} {H : Hp} {i : Nat} {xs ys : List PV} {ws : List V} (R : Rel K F Z ms g σ H) (e : g.sl[i]? = some (.own xs)) (d : Dens K Z ms H ys ws) :
    ∃ a vs, σ[i]? = some (some (.ref a)) ∧ H a = some (.lst vs) ∧ Dens K Z ms H xs vs ∧ Le Z ms H Z ms (upd H a (.lst (vs ++ ws))) ∧ Rel K F Z ms { g with sl := g.sl.set i (.own (xs ++ ys)) } σ (upd H a (.lst (vs ++ ws))) := by
  obtain ⟨a, vs, h1, h2, h3, h4, h5, h6⟩ := R.ow i xs e
  have hi : i < g.sl.length := (List.getElem?_eq_some_iff.mp e).1
  have neZ : ∀ b, Z b → b ≠ a := fun b z q => h4 (q ▸ z)
  have l : Le Z ms H Z ms (upd H a (.lst (vs ++ ws))) := by
    refine ⟨fun _ z => z, fun b us z q => by rw [L2.upd_ne (neZ b z)]; exact q, fun b us q => ?_, fun b o u q => ?_, ⟨[], by simp⟩, fun b cq q n0 => ?_⟩
    · rw [L2.upd_ne]
      · exact q
      · rintro rfl
        rw [h2] at q
        cases q
    · rw [L2.upd_ne]
      · exact q
      · rintro rfl
        rw [h2] at q
        cases q
    · refine ⟨?_, n0⟩
      rw [L2.upd_ne]
      · exact q
      · rintro rfl
        rw [h2] at q
        have q := Option.some.inj q
        unfold LamX.CodeO at q
        exact L2.HO.noConfusion q
  refine ⟨a, vs, h1, h2, h3, l, ⟨by simpa using R.len, fun j v q => ?_, fun j us q => ?_, fun j k us zs b q1 q2 q3 q4 => ?_, R.cn, fun n c b e1 e2 => ?_, R.nd, R.mz, R.zf, R.zz, fun b z => ?_, fun b o q => ?_, fun j q => R.xs j (xs_own q)⟩⟩
  · by_cases hj : i = j
    · subst hj
      rw [List.getElem?_set_self hi] at q
      cases q
    · rw [List.getElem?_set_ne hj] at q
      obtain ⟨x, e1, e2⟩ := R.vl j v q
      exact ⟨x, e1, Den.mono l _ _ e2⟩
  · by_cases hj : i = j
    · subst hj
      rw [List.getElem?_set_self hi] at q
      cases q
      exact ⟨a, _, h1, L2.upd_same, (Dens.mono l _ _ h3).append (Dens.mono l _ _ d), h4, h5, h6⟩
    · rw [List.getElem?_set_ne hj] at q
      obtain ⟨b, us', e1, e2, e3, e4⟩ := R.ow j us q
      refine ⟨b, us', e1, ?_, Dens.mono l _ _ e3, e4⟩
      rw [L2.upd_ne]
      · exact e2
      · rintro rfl
        exact hj (R.un i j xs us b e q h1 e1)
  · have key : ∀ (j : Nat) (us : List PV), (g.sl.set i (Slot.own (xs ++ ys)))[j]? = some (Slot.own us) → ∃ us', g.sl[j]? = some (Slot.own us') := fun j us q => by
      by_cases hj : i = j
      · subst hj
        exact ⟨_, e⟩
      · rw [List.getElem?_set_ne hj] at q
        exact ⟨_, q⟩
    obtain ⟨_, k1⟩ := key j us q1
    obtain ⟨_, k2⟩ := key k zs q2
    exact R.un j k _ _ b k1 k2 q3 q4
  · refine (R.cl n c b e1 e2).mono l (L2.upd_ne ?_)
    rintro rfl
    exact h5 (List.mem_of_getElem? e2)
  · obtain ⟨us, q⟩ := R.zs b z
    exact ⟨us, by rw [L2.upd_ne (neZ b z)]; exact q⟩
  · rw [L2.upd_ne]
    · exact R.fr b o q
    · rintro rfl
      rw [h6] at q
      cases q
theorem appV_ok {i : Nat} {more : List PV} {g g' : G} {r : Res} (e : appV i more g = .ok r g') : ∃ xs, g.sl[i]? = some (.own xs) ∧ xs.length + more.length ≤ sizeLine ∧ r = .val .non ∧ g' = { g with sl := g.sl.set i (.own (xs ++ more)) } := by
  unfold appV at e
  split at e
  · split at e
    · cases e
      exact ⟨_, by assumption, by assumption, rfl, rfl⟩
    · cases e
  · cases e
theorem ownAt_ok {i : Nat} {g g' : G} {u : Unit} (e : ownAt i g = .ok u g') : g' = g ∧ ∃ xs, g.sl[i]? = some (.own xs) := by
  unfold ownAt at e
  split at e
  · cases e
    exact ⟨rfl, _, by assumption⟩
  · cases e
theorem e_app {c : Call} {i : Nat} {a : ME} {x : Str} {y : Expr} {ap xp : Pos} (hx : PE X (.Name x xp) (L2.tVar i)) (ha : PE X y (tE X.K F W (ev c a))) (hl : (ap.endLine == pos.line) = true) (hs : starEach [y] X.env = [(false, eval y X.env)]) :
    PE X (.Call (.Attribute (.Name x xp) "append" ap) [y] [] pos) (tE X.K F W (ev c (.app i a))) := by
  have hA : PA X [y] (L2.tCons (tV X.K F W (ev c a)) L2.tNil) := L2.pa_cons (PE.v ha) L2.pa_nil hs
  refine PE.imp (L2.pe_bm (cpos := pos) PySem.F.plainAttrs_list PySem.F.slot_list_append PySem.F.type_list_append L2.mt_append hx hA rfl (by rw [hs]; rfl) hl (by rw [hs]; rfl) rfl) fun σ H Q ⟨Z, ms, g, R, S⟩ => ?_
  simp only [ev_app] at S
  obtain ⟨_, g0, e0, S0⟩ := S.stepN ownAt_nx
  clear S
  obtain ⟨rfl, xs0, h0⟩ := ownAt_ok e0
  obtain ⟨p, vs0, k1, k2, _⟩ := R.ow i xs0 h0
  rcases S0.split with ⟨x0, g1, e1, S1⟩ | ⟨r, g1, e1, S1⟩
  · exact ⟨.ref p, k1, .inl ⟨rfl, vs0, .inl (.inl k2)⟩, Z, ms, g0, R, Sat.exc e1 S1⟩
  refine ⟨.ref p, k1, .inl ⟨rfl, vs0, .inl (.inl k2)⟩, Z, ms, g0, R, Sat.mk e1 fun Z1 ms1 H1 l1 R1 x d1 => ?_⟩
  replace S1 := S1.le l1
  cases e2 : appV i [r.pv] g1 with
  | bad => rw [e2] at S1; exact S1.elim
  | exc y g2 => exact absurd e2 (appV_nx y g2)
  | ok r2 g2 =>
    rw [e2] at S1
    obtain ⟨xs, h1, h2, rfl, rfl⟩ := appV_ok e2
    obtain ⟨q, vs, j1, j2, j3, j4, j5⟩ := R1.grow h1 (ys := [r.pv]) (ws := [x]) (.cons d1 .nil)
    rw [k1] at j1
    cases j1
    have hlen := j3.length
    exact ⟨p, vs, x, rfl, rfl, j2, by simp at h2; omega, S1 Z1 ms1 _ j4 j5 _ (by simp only [ResOk, Den])⟩
theorem e_ext {c : Call} {i : Nat} {a : ME} {x : Str} {y : Expr} {ap xp : Pos} (hx : PE X (.Name x xp) (L2.tVar i)) (ha : PE X y (tE X.K F W (ev c a))) (hl : (ap.endLine == pos.line) = true) (hs : starEach [y] X.env = [(false, eval y X.env)]) :
    PE X (.Call (.Attribute (.Name x xp) "extend" ap) [y] [] pos) (tE X.K F W (ev c (.ext i a))) := by
  have hA : PA X [y] (L2.tCons (tV X.K F W (ev c a)) L2.tNil) := L2.pa_cons (PE.v ha) L2.pa_nil hs
  refine PE.imp (L2.pe_bm (cpos := pos) PySem.F.plainAttrs_list PySem.F.slot_list_extend PySem.F.type_list_extend L2.mt_extend hx hA rfl (by rw [hs]; rfl) hl (by rw [hs]; rfl) rfl) fun σ H Q ⟨Z, ms, g, R, S⟩ => ?_
  simp only [ev_ext] at S
  obtain ⟨_, g0, e0, S0⟩ := S.stepN ownAt_nx
  clear S
  obtain ⟨rfl, xs0, h0⟩ := ownAt_ok e0
  obtain ⟨p, vs0, k1, k2, _⟩ := R.ow i xs0 h0
  rcases S0.split with ⟨x0, g1, e1, S1⟩ | ⟨r, g1, e1, S1⟩
  · exact ⟨.ref p, k1, .inl ⟨rfl, vs0, .inl (.inl k2)⟩, Z, ms, g0, R, Sat.exc e1 S1⟩
  refine ⟨.ref p, k1, .inl ⟨rfl, vs0, .inl (.inl k2)⟩, Z, ms, g0, R, Sat.mk e1 fun Z1 ms1 H1 l1 R1 x d1 => ?_⟩
  replace S1 := S1.le l1
  have hr : ∃ ys, r.pv = .lst ys ∧ extV i r = appV i ys := by
    cases r with
    | new ys => exact ⟨ys, rfl, rfl⟩
    | val v =>
      cases v with
      | lst ys => exact ⟨ys, rfl, rfl⟩
      | _ => exact S1.elim
  obtain ⟨ys, hy, he⟩ := hr
  rw [he] at S1
  rw [hy] at d1
  simp only [Den] at d1
  obtain ⟨b, ws, rfl, _, hb, dy⟩ := d1
  cases e2 : appV i ys g1 with
  | bad => rw [e2] at S1; exact S1.elim
  | exc y g2 => exact absurd e2 (appV_nx y g2)
  | ok r2 g2 =>
    rw [e2] at S1
    obtain ⟨xs, h1, h2, rfl, rfl⟩ := appV_ok e2
    obtain ⟨q, vs, j1, j2, j3, j4, j5⟩ := R1.grow h1 dy
    rw [k1] at j1
    cases j1
    have hl1 := j3.length
    have hl2 := dy.length
    exact ⟨p, b, vs, ws, rfl, rfl, j2, hb, by omega, S1 Z1 ms1 _ j4 j5 _ (by simp only [ResOk, Den])⟩

/-! ### methods that change nothing -/
def MN.name : MN → Str
  | .index => "index"
  | .get => "get"
/-- t.index(x), the first place -/
theorem mt_tupIndex : MtR X "tuple.index" (fun x xs H Q => ∃ (a : Addr) (ys : List V) (y : V) (j : Nat) (z : V), x = V.ref a ∧ xs = [y] ∧ SqT X.K H a ys ∧ L2.flatV y = true ∧ ys.all L2.flatV = true ∧ ys[j]? = some z ∧ L2.eqV z y = true ∧
    (∀ (m : Nat) (z' : V), m < j → ys[m]? = some z' → L2.eqV z' y = false) ∧ Q (.int (j : Nat)) H) := by
  intro pins s σ H x xs v us Q I rx rxs h
  obtain ⟨a, ys, y, j, z, rfl, rfl, hs, fy, fys, hz, hzj, hno, q⟩ := h
  cases rx
  cases rxs with
  | cons ry rt =>
    rename_i uy ut
    cases rt
    obtain ⟨its, rv, ⟨⟨cls, dd, data, sl⟩, ho, hc, n, hd⟩, hlen⟩ := I.tuple hs
    simp only at hc hd
    subst hc hd
    obtain ⟨u, hu, ru⟩ := rv.get hz
    obtain ⟨hjl, hje⟩ := List.getElem?_eq_some_iff.mp hu
    have hvl := rv.length
    have hj : j < its.toArray.size := by simpa using hjl
    refine call_meets PySem.F.slot_tuple_index ⟨_, ho, rfl⟩ PySem.F.entry_tuple_index (PySem.F.args_tuple_index_2 _ _)
      (TI.tuple_indexAt a its.toArray n dd sl uy (L2.eqU y) j hj ?_ ?_) ⟨ho, fun u' hu' => L2.mem_eqAt ry fy rv fys u' (by simpa using hu'), ?_⟩
    · have e1 : its.toArray[j] = u := by simpa using hje
      rw [e1, L2.eqU_of ru (L2.flat_at fys hz)]
      exact hzj
    · intro m hm hmj
      have hml : m < its.length := by simpa using hm
      have hmy : m < ys.length := by omega
      have hy' : ys[m]? = some ys[m] := List.getElem?_eq_getElem hmy
      obtain ⟨u2, hu2, ru2⟩ := rv.get hy'
      obtain ⟨_, hme⟩ := List.getElem?_eq_some_iff.mp hu2
      have e1 : its.toArray[m] = u2 := by simpa using hme
      rw [e1, L2.eqU_of ru2 (L2.flat_at fys hy')]
      exact hno m _ hmj hy'
    · exact ⟨.int (j : Nat), H, I.tok _, ⟨_, rfl⟩, q⟩
theorem idxOf_V {K : PySem.W.Frag} {Z : Addr → Prop} {ms : List Addr} {H : Hp} {z : PV} {w : V} (f2 : Ev.flat z = true) (h2 : Den K Z ms H z w) : ∀ {ys : List PV} {vs : List V} {j : Nat}, ys.all Ev.flat = true → Dens K Z ms H ys vs → idxOf z ys = some j →
    ∃ x, vs[j]? = some x ∧ L2.eqV x w = true ∧ ∀ (m : Nat) (x' : V), m < j → vs[m]? = some x' → L2.eqV x' w = false
  | [], vs, j, _, _, e => by cases e
  | y :: ys, vs, j, f, d, e => by
    simp only [Dens] at d
    obtain ⟨v, r, rfl, h1, h3⟩ := d
    simp only [List.all_cons, Bool.and_eq_true] at f
    simp only [idxOf] at e
    split at e
    · rename_i q
      cases e
      exact ⟨v, rfl, by rw [eqF_V f.1 f2 h1 h2]; exact q, fun m x' hm => absurd hm (Nat.not_lt_zero _)⟩
    · rename_i q
      obtain ⟨i, e1, rfl⟩ := Option.map_eq_some_iff.mp e
      obtain ⟨x, g1, g2, g3⟩ := idxOf_V f2 h2 f.2 h3 e1
      refine ⟨x, g1, g2, fun m x' hm hx => ?_⟩
      cases m with
      | zero =>
        cases hx
        rw [eqF_V f.1 f2 h1 h2]
        simpa using q
      | succ m => exact g3 m x' (by omega) hx
/-- a call of the method on the machine -/
def rMt (K : PySem.W.Frag) (F : Fm) (σ' : L2.St) (m : MN) : V → List V → Hp → VK → Prop := fun x xs H Q => ∃ Z ms g y ys r, Rel K F Z ms g σ' H ∧ Den K Z ms H y x ∧ DenWs K Z ms H ys xs ∧ mtV m y ys g.hp = some r ∧ After K F Z ms g σ' H r Q
def mtT : MN → PV → String
  | .index, .tup _ => "tuple"
  | .index, _ => "list"
  | .get, _ => "dict"
def mtId : MN → PV → String
  | .index, .tup _ => "tuple.index"
  | .index, _ => "list.index"
  | .get, _ => "dict.get"
theorem call_mt {σ' : L2.St} (hw : F.w = X.w) (hu : X.A.units + 66 < cLine) (m : MN) {pins : List (Addr × Obj)} {s : Shared} {σ : L2.St} {H : Hp} {Z : Addr → Prop} {ms : List Addr} {g : G} {y : PV} {ys : List PV} {r : Res} {x : V} {xs : List V} {v : Value} {us : List Value} {Q : VK} (I : Inv X pins σ H s) (rx : RelV x v) (rs : Vals xs us)
    (R : Rel X.K F Z ms g σ' H) (d : Den X.K Z ms H y x) (ds : DenWs X.K Z ms H ys xs) (e : mtV m y ys g.hp = some r) (k : After X.K F Z ms g σ' H r Q) : wpAny (model X.prog X.w) X.A (call (.builtin (mtId m y)) (v :: us)) (EP X pins σ Q) X.xe s := by
  have gt : ∀ {n : Nat} {kk : PV} {kx : V} {ku : Value} {cl : Cell} {o : Option PV} {rest : List PV} {dv : PV} {dx : V} {du : Value}, y = .ref n → g.hp[n]? = some cl → getC cl kk = some o → DenW X.K Z ms H kk kx → RelV kx ku → r = .val (o.getD dv) → Den X.K Z ms H dv dx → RelV dx du →
      ∃ a, v = .ref a ∧ s.TypeIs (.ref a) "dict" ∧ (du = .none → wpAny (model X.prog X.w) X.A (call (.builtin "dict.get") [.ref a, ku]) (EP X pins σ Q) X.xe s) ∧ wpAny (model X.prog X.w) X.A (call (.builtin "dict.get") [.ref a, ku, du]) (EP X pins σ Q) X.xe s := by
    intro n kk kx ku cl o rest dv dx du hy hc ho dk rk hr dd rd
    subst hy hr
    simp only [Den] at d
    obtain ⟨a, rfl, ha⟩ := d
    cases rx
    have ok := R.cl n cl a hc ha
    rw [hw] at ok
    have dk := dk.den (nolst_C ho)
    refine ⟨a, rfl, cell_typeIs I ok (getC_D ho), ?_⟩
    have fin : ∀ {w : V} {wv : Value} {s' : Shared}, Inv X pins σ H s' → RelV w wv → Den X.K Z ms H (o.getD dv) w → EP X pins σ Q wv s' := fun {w wv s'} I' rw' dw => ⟨w, H, I', rw', k.val R dw⟩
    rcases cell_cases ok dk ho with ⟨ws, j, h1, rfl, h3⟩ | ⟨nn, b, h1, h2, rfl, rfl⟩ | ⟨kvs, es, nn, b, h1, h2, h3, rfl, h5⟩
    · have den : Den X.K Z ms H (o.getD dv) ((L2.valV ws j).getD dx) := by
        cases o with
        | none =>
          have h3 : L2.valV ws j = none := h3
          rw [h3]
          exact dd
        | some v =>
          obtain ⟨x, h3, h4⟩ := h3
          rw [h3]
          exact h4
      refine ⟨fun hdu => ?_, L2.d_get2 (by omega) I (L2.DGet.k (k := j) h1) rk rd fun w' s' I' r' => fin I' r' den⟩
      refine L2.d_get1 (by omega) I (L2.DGet.k (k := j) h1) rk fun w' s' I' r' => fin I' r' ?_
      subst hdu
      have hdx : dx = .non := by
        cases dx <;> first | rfl | (cases rd; done) | (obtain ⟨_, q⟩ := rd; cases q)
      subst hdx
      exact den
    · cases rk
      obtain ⟨hd, m0⟩ := dk_dn I h1
      have ru : (nestedKind X.prog X.w).room X.A.in1 := show X.A.in1.units + 8 < cLine by show X.A.units + 1 + 8 < cLine; omega
      refine ⟨fun hdu => ?_, getOr_keyed ru (Den.key I dk h2) hd ⟨[], m0, rfl⟩ (fin (I.tok _) rd dd)⟩
      subst hdu
      exact get_keyed ru (Den.key I dk h2) hd ⟨[], m0, rfl⟩ (fin (I.tok _) rd dd)
    · cases rk
      obtain ⟨hd, hz, xs', rr, m0⟩ := dn_of I h1 h2
      have ru : (nestedKind X.prog X.w).room X.A.in1 := show X.A.in1.units + 8 < cLine by show X.A.units + 1 + 8 < cLine; omega
      have gg := h2.get (n := nn)
      have rv := rr.val nn
      rw [h5] at gg
      have key : ∃ w, RelV w (((valueAt (pairsH xs') nn).getD du)) ∧ Den X.K Z ms H (o.getD dv) w := by
        rw [valueAt_pairsH]
        cases o with
        | none =>
          have gg : valE es nn = none := gg
          rw [gg] at rv
          cases q : (atKey xs' nn).map (·.2) with
          | none => exact ⟨dx, rd, dd⟩
          | some p => rw [q] at rv; exact rv.elim
        | some v =>
          obtain ⟨x, g1, g2⟩ := gg
          rw [g1] at rv
          cases q : (atKey xs' nn).map (·.2) with
          | none => rw [q] at rv; exact rv.elim
          | some p =>
            rw [q] at rv
            exact ⟨x, rv, g2⟩
      obtain ⟨w, w1, w2⟩ := key
      refine ⟨fun hdu => ?_, getOr_keyed ru (Den.key I dk h3) hd ⟨xs', m0, rfl⟩ (fin (I.tok _) w1 w2)⟩
      subst hdu
      exact get_keyed ru (Den.key I dk h3) hd ⟨xs', m0, rfl⟩ (fin (I.tok _) w1 w2)
  unfold mtV at e
  split at e
  · obtain ⟨_, e0, e1⟩ := Option.bind_eq_some_iff.mp e
    obtain ⟨⟨c1, c2⟩, _⟩ := ck_some e0
    obtain ⟨j, e2, rfl⟩ := Option.map_eq_some_iff.mp e1
    obtain ⟨x', rfl, dx⟩ := ds.one
    simp only [Den] at d
    obtain ⟨a, vs, rfl, h1, h2⟩ := d
    have dx := dx.flat c1
    obtain ⟨z, z1, z2, z3⟩ := idxOf_V c1 dx c2 h2 e2
    exact mt_tupIndex pins s σ H _ _ v us Q I rx rs ⟨a, vs, x', j, z, rfl, rfl, h1.sqT, flat_V c1 dx, flats_V c2 h2, z1, z2, z3, k.int R⟩
  · obtain ⟨_, e0, e1⟩ := Option.bind_eq_some_iff.mp e
    obtain ⟨⟨c1, c2⟩, _⟩ := ck_some e0
    obtain ⟨j, e2, rfl⟩ := Option.map_eq_some_iff.mp e1
    obtain ⟨x', rfl, dx⟩ := ds.one
    simp only [Den] at d
    obtain ⟨a, vs, rfl, _, h1, h2⟩ := d
    have dx := dx.flat c1
    obtain ⟨z, z1, z2, z3⟩ := idxOf_V c1 dx c2 h2 e2
    exact L2.mt_index pins s σ H _ _ v us Q I rx rs ⟨a, vs, x', j, z, rfl, rfl, .inl (.inl h1), flat_V c1 dx, flats_V c2 h2, z1, z2, z3, k.int R⟩
  · obtain ⟨cl, e0, e1⟩ := Option.bind_eq_some_iff.mp e
    obtain ⟨o, e2, rfl⟩ := Option.map_eq_some_iff.mp e1
    obtain ⟨x', rfl, dx⟩ := ds.one
    cases rs with
    | cons r1 r2 =>
      cases r2
      obtain ⟨a, rfl, _, g1, _⟩ := gt (rest := []) (dv := .non) (dx := .non) (du := .none) rfl e0 e2 dx r1 rfl (by simp only [Den]) rfl
      exact g1 rfl
  · obtain ⟨_, hl, e⟩ := Option.bind_eq_some_iff.mp e
    obtain ⟨hl, _⟩ := ck_some hl
    obtain ⟨cl, e0, e1⟩ := Option.bind_eq_some_iff.mp e
    obtain ⟨o, e2, rfl⟩ := Option.map_eq_some_iff.mp e1
    obtain ⟨x', z', rfl, dx, dz⟩ := ds.two
    cases rs with
    | cons r1 r2 =>
      cases r2 with
      | cons r2 r3 =>
        cases r3
        obtain ⟨a, rfl, _, _, g2⟩ := gt (rest := []) rfl e0 e2 dx r1 rfl (dz.den fun us q => by subst q; cases hl) r2
        exact g2
  · cases e
theorem mt_facts (m : MN) (y : PV) : PlainAttrs (mtT m y) ∧ PySem.Slot (mtT m y) m.name (mtId m y) ∧ typeOf (.builtin (mtId m y)) = pure (.type "method_descriptor") := by
  cases m with
  | get => exact ⟨PySem.F.plainAttrs_dict, PySem.F.slot_dict_get, PySem.F.type_dict_get⟩
  | index =>
    cases y with
    | tup ys => exact ⟨PySem.F.plainAttrs_tuple, PySem.F.slot_tuple_index, PySem.F.type_tuple_index⟩
    | _ => exact ⟨PySem.F.plainAttrs_list, PySem.F.slot_list_index, PySem.F.type_list_index⟩
theorem mt_type {pins : List (Addr × Obj)} {s : Shared} {σ σ' : L2.St} {H : Hp} {Z : Addr → Prop} {ms : List Addr} {g : G} {m : MN} {y : PV} {x : V} {v : Value} {u : Unit} (hw : F.w = X.w) (I : Inv X pins σ H s) (rx : RelV x v) (R : Rel X.K F Z ms g σ' H) (d : Den X.K Z ms H y x) (e : mtOk m y g.hp = some u) :
    s.TypeIs v (mtT m y) ∧ ∀ a, v = .ref a → ∃ ob, s.heap.get? a = some ob ∧ ob.dict = none := by
  unfold mtOk at e
  split at e
  · simp only [Den] at d
    obtain ⟨a, vs, rfl, h1, _⟩ := d
    cases rx
    obtain ⟨its, r, ⟨o, ho, hc, n, hd⟩, _⟩ := I.tuple h1.sqT
    refine ⟨⟨o, ho, hc⟩, fun b q => ?_⟩
    cases q
    exact h1.noDict I
  · simp only [Den] at d
    obtain ⟨a, vs, rfl, _, h1, _⟩ := d
    cases rx
    exact L2.tyV_is I (show RelV (V.ref a) (Value.ref a) from rfl) (show L2.tyV X.K "list" (V.ref a) H from .inl ⟨rfl, vs, .inl (.inl h1)⟩)
  · obtain ⟨cl, hc, e4⟩ := Option.bind_eq_some_iff.mp e
    split at e4
    case isFalse => cases e4
    rename_i di
    simp only [Den] at d
    obtain ⟨a, rfl, ha⟩ := d
    cases rx
    have ok := R.cl _ cl a hc ha
    rw [hw] at ok
    obtain ⟨_, arr, ep, ps, ⟨o, k1, k2, k3⟩, _⟩ := cell_raw I ok di
    refine ⟨⟨o, k1, k2.1⟩, fun b q => ?_⟩
    cases q
    exact ⟨o, k1, k2.2.1⟩
  · cases e
/-- o.m(e, ..) -/
theorem e_mt {c : Call} {m : MN} {o : ME} {es : MEs} {oe e : Expr} {as : List Expr} {apos : Pos} (hw : F.w = X.w) (hu : X.A.units + 66 < cLine) (ho : PE X oe (tE X.K F W (ev c o))) (ha : PA X (e :: as) (tOs X.K F W (opds c es)))
    (hbase : attributeBase oe m.name X.env (eval oe X.env) = eval oe X.env)
    (hfew : ((backTo pos (starEach (e :: as) X.env)).all (fun x => !x.1) && (backToKw pos (keywordEach [] X.env)).all (fun x => x.1.isSome) && decide ((e :: as).length + ([] : List Keyword).length + (if ([] : List Keyword).isEmpty then 0 else 1) < 30)) = true)
    (hline : (apos.endLine == pos.line) = true) (hs : starEach (e :: as) X.env = (false, eval e X.env) :: starEach as X.env) (hpl : (backTo pos (starEach as X.env)).any (·.1) = false) :
    PE X (.Call (.Attribute oe m.name apos) (e :: as) [] pos) (tE X.K F W (ev c (.mt m o es))) := by
  refine ⟨fun pins s σ H Q I ⟨Z, ms, g, R, S⟩ => ?_⟩
  simp only [ev_mt] at S
  have rd : tV X.K F W (ev c o) σ H fun x H1 => ∃ (Z1 : Addr → Prop) (ms1 : List Addr) (g1 : G) (y : PV) (u : Unit), Rel X.K F Z1 ms1 g1 σ H1 ∧ Den X.K Z1 ms1 H1 y x ∧ mtOk m y g1.hp = some u ∧
      Sat X.K F W σ Z1 ms1 H1 ((opds c es g1).bind fun ys g2 => (lookAll ys g2).bind fun yv g3 => lift (mtV m y yv g3.hp) g3) fun r Z' ms' g' H' => ∀ x, ResOk X.K F Z' ms' g' σ H' r x → Q x H' := by
    rcases S.split with ⟨x0, g1, e1, S1⟩ | ⟨r, g1, e1, S1⟩
    · exact ⟨Z, ms, g, R, Sat.exc e1 S1⟩
    refine ⟨Z, ms, g, R, Sat.mk e1 fun Z1 ms1 H1 l1 R1 x d1 => ?_⟩
    obtain ⟨u, e2, S2⟩ := S1.stepL
    exact ⟨Z1, ms1, g1, r.pv, u, R1, d1, e2, S2.le l1⟩
  refine wpAny_Call_method_late hbase hfew hline rfl (L2.thn ((PE.v ho).run pins s σ H _ I rd) fun v s1 ⟨x, H1, I1, rx, Z1, ms1, g1, y, u, R1, d1, e1, S1⟩ => ?_)
  obtain ⟨f1, f2, f3⟩ := mt_facts m y
  obtain ⟨h1, h2⟩ := mt_type hw I1 rx R1 d1 e1
  refine ⟨mtT m y, mtId m y, f1, f2, f3, h1, h2, ?_⟩
  have rd2 : tOs X.K F W (opds c es) σ H1 fun xs H2 => ∃ (Z2 : Addr → Prop) (ms2 : List Addr) (g2 : G) (ys : List PV) (r : Res), Rel X.K F Z2 ms2 g2 σ H2 ∧ Den X.K Z2 ms2 H2 y x ∧ DenWs X.K Z2 ms2 H2 ys xs ∧ mtV m y ys g2.hp = some r ∧ After X.K F Z2 ms2 g2 σ H2 r Q := by
    rcases S1.split with ⟨x0, g2, e2, S2⟩ | ⟨os, g2, e2, S2⟩
    · exact ⟨Z1, ms1, g1, R1, Sat.exc e2 S2⟩
    refine ⟨Z1, ms1, g1, R1, Sat.mk e2 fun Z2 ms2 H2 l2 R2 xs d2 => ?_⟩
    obtain ⟨vs, g3, e3, S3⟩ := (S2.le l2).stepN lookAll_nx
    obtain ⟨rfl, w1⟩ := lookAll_ok R2 d2 e3
    obtain ⟨r, e4, S4⟩ := S3.lift
    exact ⟨Z2, ms2, g3, vs, r, R2, Den.mono l2 _ _ d1, w1, e4, After.of S4⟩
  have hA := ha.run pos pins s1 σ H1 _ I1 rd2
  rw [hs] at hA ⊢
  refine Calls.callWith_builtin (by show (false || (backTo pos (starEach as X.env)).any (·.1)) = false; rw [hpl] <;> rfl) (Calls.evalArgs_plain ?_)
  exact L2.thn hA fun us s2 ⟨xs, H2, I2, r2, Z2, ms2, g2, ys, r, R2, d2, ds, e2, k⟩ => call_mt hw hu m I2 rx r2 R2 d2 ds e2 k
/-! ### a name's own list shrinks -/
theorem Rel.rewr {K : PySem.W.Frag} {F : Fm} {Z : Addr → Prop} {ms : List Addr} {g : G} {σ : L2.St} {H : Hp} {i : Nat} {xs ys : List PV} {a : Addr} {ws : List V} (R : Rel K F Z ms g σ H) (e : g.sl[i]? = some (.own xs)) (ha : σ[i]? = some (some (.ref a))) (d : Dens K Z ms H ys ws) :
    Le Z ms H Z ms (upd H a (.lst ws)) ∧ Rel K F Z ms { g with sl := g.sl.set i (.own ys) } σ (upd H a (.lst ws)) := by
  obtain ⟨a', vs, h1, h2, h3, h4, h5, h6⟩ := R.ow i xs e
  rw [ha] at h1
  cases h1
  have hi : i < g.sl.length := (List.getElem?_eq_some_iff.mp e).1
  have neZ : ∀ b, Z b → b ≠ a := fun b z q => h4 (q ▸ z)
  have l : Le Z ms H Z ms (upd H a (.lst ws)) := by
    refine ⟨fun _ z => z, fun b us z q => by rw [L2.upd_ne (neZ b z)]; exact q, fun b us q => ?_, fun b o u q => ?_, ⟨[], by simp⟩, fun b cq q n0 => ?_⟩
    · rw [L2.upd_ne]
      · exact q
      · rintro rfl
        rw [h2] at q
        cases q
    · rw [L2.upd_ne]
      · exact q
      · rintro rfl
        rw [h2] at q
        cases q
    · refine ⟨?_, n0⟩
      rw [L2.upd_ne]
      · exact q
      · rintro rfl
        rw [h2] at q
        have q := Option.some.inj q
        unfold LamX.CodeO at q
        exact L2.HO.noConfusion q
  refine ⟨l, ⟨by simpa using R.len, fun j v q => ?_, fun j us q => ?_, fun j k us zs b q1 q2 q3 q4 => ?_, R.cn, fun n c b e1 e2 => ?_, R.nd, R.mz, R.zf, R.zz, fun b z => ?_, fun b o q => ?_, fun j q => R.xs j (xs_own q)⟩⟩
  · by_cases hj : i = j
    · subst hj
      rw [List.getElem?_set_self hi] at q
      cases q
    · rw [List.getElem?_set_ne hj] at q
      obtain ⟨x, e1, e2⟩ := R.vl j v q
      exact ⟨x, e1, Den.mono l _ _ e2⟩
  · by_cases hj : i = j
    · subst hj
      rw [List.getElem?_set_self hi] at q
      cases q
      exact ⟨a, ws, ha, L2.upd_same, Dens.mono l _ _ d, h4, h5, h6⟩
    · rw [List.getElem?_set_ne hj] at q
      obtain ⟨b, us', e1, e2, e3, e4⟩ := R.ow j us q
      refine ⟨b, us', e1, ?_, Dens.mono l _ _ e3, e4⟩
      rw [L2.upd_ne]
      · exact e2
      · rintro rfl
        exact hj (R.un i j xs us b e q ha e1)
  · have key : ∀ (j : Nat) (us : List PV), (g.sl.set i (Slot.own ys))[j]? = some (Slot.own us) → ∃ us', g.sl[j]? = some (Slot.own us') := fun j us q => by
      by_cases hj : i = j
      · subst hj
        exact ⟨_, e⟩
      · rw [List.getElem?_set_ne hj] at q
        exact ⟨_, q⟩
    obtain ⟨_, k1⟩ := key j us q1
    obtain ⟨_, k2⟩ := key k zs q2
    exact R.un j k _ _ b k1 k2 q3 q4
  · refine (R.cl n c b e1 e2).mono l (L2.upd_ne ?_)
    rintro rfl
    exact h5 (List.mem_of_getElem? e2)
  · obtain ⟨us, q⟩ := R.zs b z
    exact ⟨us, by rw [L2.upd_ne (neZ b z)]; exact q⟩
  · rw [L2.upd_ne]
    · exact R.fr b o q
    · rintro rfl
      rw [h6] at q
      cases q
theorem Dens.eraseIdx {K : PySem.W.Frag} {Z : Addr → Prop} {ms : List Addr} {H : Hp} : ∀ {ys : List PV} {vs : List V} (k : Nat), Dens K Z ms H ys vs → Dens K Z ms H (ys.eraseIdx k) (vs.eraseIdx k)
  | [], vs, k, d => by
    simp only [Dens] at d
    subst d
    exact .nil
  | y :: ys, vs, 0, d => by
    simp only [Dens] at d
    obtain ⟨v, r, rfl, h1, h2⟩ := d
    exact h2
  | y :: ys, vs, k + 1, d => by
    simp only [Dens] at d
    obtain ⟨v, r, rfl, h1, h2⟩ := d
    exact .cons h1 (h2.eraseIdx k)
theorem ixN_seq {n k : Nat} {i : Int} (h : ixN n i = some k) : seqIndex? i n = some k := by
  unfold ixN at h
  unfold seqIndex?
  by_cases h0 : 0 ≤ i
  · rw [if_pos h0] at h
    split at h
    · cases h
      have h1 : ¬ i < 0 := by omega
      simp only [if_neg h1]
      rw [if_pos (by simp; omega)]
    · cases h
  · rw [if_neg h0] at h
    split at h
    · cases h
      have h1 : i < 0 := by omega
      simp only [if_pos h1]
      rw [if_pos (by simp; omega)]
    · cases h
theorem popV_ok {i : Nat} {j : Option Int} {g g' : G} {r : Res} (e : popV i j g = .ok r g') : ∃ xs y ys, g.sl[i]? = some (.own xs) ∧ popAt xs j = some (y, ys) ∧ r = .val y ∧ g' = { g with sl := g.sl.set i (.own ys) } := by
  unfold popV at e
  split at e
  · split at e
    · cases e
      exact ⟨_, _, _, by assumption, by assumption, rfl, rfl⟩
    · cases e
  · cases e
theorem popV_nx {i : Nat} {j : Option Int} {g : G} (x : EX) (g' : G) : popV i j g ≠ .exc x g' := by
  unfold popV
  split
  · split <;> exact nofun
  · exact nofun
/-- xs.pop() -/
theorem e_pop0 {c : Call} {i : Nat} {x : Str} {ap xp : Pos} (hx : PE X (.Name x xp) (L2.tVar i)) (hl : (ap.endLine == pos.line) = true) : PE X (.Call (.Attribute (.Name x xp) "pop" ap) [] [] pos) (tE X.K F W (ev c (.pop i .no))) := by
  refine PE.imp (L2.pe_bm0 (cpos := pos) PySem.F.plainAttrs_list PySem.F.slot_list_pop PySem.F.type_list_pop L2.mt_pop hx rfl hl) fun σ H Q ⟨Z, ms, g, R, S⟩ => ?_
  simp only [ev_pop] at S
  obtain ⟨_, g0, e0, S0⟩ := S.stepN ownAt_nx
  obtain ⟨rfl, xs0, h0⟩ := ownAt_ok e0
  obtain ⟨p, vs0, k1, k2, k3, _⟩ := R.ow i xs0 h0
  refine ⟨.ref p, k1, .inl ⟨rfl, vs0, .inl (.inl k2)⟩, ?_⟩
  simp only [evo_no, Ev.R.bind_ok] at S0
  cases e2 : popV i none g0 with
  | bad => rw [e2] at S0; exact S0.elim
  | exc y g2 => exact absurd e2 (popV_nx y g2)
  | ok r2 g2 =>
    rw [e2] at S0
    obtain ⟨xs, y, ys, h1, h2, rfl, rfl⟩ := popV_ok e2
    rw [h0] at h1
    cases h1
    unfold popAt at h2
    obtain ⟨y', h3, h4⟩ := Option.map_eq_some_iff.mp h2
    cases h4
    have hlen := k3.length
    obtain ⟨v, h5, h6⟩ := k3.get h3
    have dd : Dens X.K Z ms H xs0.dropLast vs0.dropLast := by
      rw [List.dropLast_eq_take, List.dropLast_eq_take, hlen]
      exact k3.take _
    obtain ⟨l, R2⟩ := R.rewr h0 k1 dd
    exact ⟨p, vs0, v, rfl, rfl, k2, by rw [hlen]; exact h5, S0 Z ms _ l R2 _ (Den.mono l _ _ h6)⟩
/-- xs.pop(e) -/
theorem e_pop {c : Call} {i : Nat} {a : ME} {x : Str} {y : Expr} {ap xp : Pos} (hx : PE X (.Name x xp) (L2.tVar i)) (ha : PE X y (tE X.K F W (ev c a))) (hl : (ap.endLine == pos.line) = true) (hs : starEach [y] X.env = [(false, eval y X.env)]) :
    PE X (.Call (.Attribute (.Name x xp) "pop" ap) [y] [] pos) (tE X.K F W (ev c (.pop i (.so a)))) := by
  have hA : PA X [y] (L2.tCons (tV X.K F W (ev c a)) L2.tNil) := L2.pa_cons (PE.v ha) L2.pa_nil hs
  refine PE.imp (L2.pe_bm (cpos := pos) PySem.F.plainAttrs_list PySem.F.slot_list_pop PySem.F.type_list_pop L2.mt_popAt hx hA rfl (by rw [hs]; rfl) hl (by rw [hs]; rfl) rfl) fun σ H Q ⟨Z, ms, g, R, S⟩ => ?_
  simp only [ev_pop] at S
  obtain ⟨_, g0, e0, S0⟩ := S.stepN ownAt_nx
  clear S
  obtain ⟨rfl, xs0, h0⟩ := ownAt_ok e0
  obtain ⟨p, vs0, k1, k2, _⟩ := R.ow i xs0 h0
  refine ⟨.ref p, k1, .inl ⟨rfl, vs0, .inl (.inl k2)⟩, Z, ms, g0, R, ?_⟩
  simp only [evo_so] at S0
  cases e1 : ev c a g0 with
  | bad => rw [e1] at S0; exact S0.elim
  | exc y g2 =>
    rw [e1] at S0
    exact S0
  | ok r g1 =>
    rw [e1, Ev.R.bind_ok] at S0
    intro Z1 ms1 H1 l1 R1 x d1
    cases ei : asInt r.pv with
    | none => rw [ei] at S0; exact S0.elim
    | some ii =>
      rw [ei, lift_some, Ev.R.bind_ok, Ev.R.bind_ok] at S0
      rw [asInt_some ei] at d1
      simp only [Den] at d1
      subst d1
      replace S0 := S0.le l1
      cases e2 : popV i (some ii) g1 with
      | bad => rw [e2] at S0; exact S0.elim
      | exc y g2 => exact absurd e2 (popV_nx y g2)
      | ok r2 g2 =>
        rw [e2] at S0
        obtain ⟨xs, y, ys, h1, h2, rfl, rfl⟩ := popV_ok e2
        obtain ⟨q, vs, j1, j2, j3, _⟩ := R1.ow i xs h1
        rw [k1] at j1
        cases j1
        have h2 : (if rgOk ii then (ixN xs.length ii).bind fun k => (xs[k]?).map fun y => (y, xs.eraseIdx k) else none) = some (y, ys) := h2
        split at h2
        case isFalse => cases h2
        rename_i hrg
        obtain ⟨k, h3, h4⟩ := Option.bind_eq_some_iff.mp h2
        obtain ⟨y', h5, h6⟩ := Option.map_eq_some_iff.mp h4
        cases h6
        have hlen := j3.length
        obtain ⟨v, h7, h8⟩ := j3.get h5
        obtain ⟨l, R2⟩ := R1.rewr h1 k1 (j3.eraseIdx k)
        have b1 : -(2 ^ 63) ≤ ii ∧ ii < 2 ^ 63 ∧ seqIndex? ii vs.length = some k := by
          obtain ⟨b1, b2⟩ := rgOk_iff.mp hrg
          refine ⟨by omega, by omega, ?_⟩
          rw [hlen]
          exact ixN_seq h3
        exact ⟨p, vs, ii, k, v, rfl, rfl, j2, b1.1, b1.2.1, b1.2.2, h7, S0 Z1 ms1 _ l R2 _ (Den.mono l _ _ h8)⟩
/-! ### f-strings -/
/-- one part's reading -/
def tPart (K : PySem.W.Frag) (F : Fm) (W : Wish) (f : M Res) : TE := fun σ H Q => ∃ Z ms g, Rel K F Z ms g σ H ∧ Sat K F W σ Z ms H ((f g).bind fun r g1 => lift (fmtV r.pv) g1) fun x Z' ms' g' H' => Q (.str x) H'
def tParts (K : PySem.W.Frag) (F : Fm) (W : Wish) (c : Call) : MEs → List TE
  | .nil => []
  | .cons e es => tPart K F W (ev c e) :: tParts K F W c es
  | .star _ _ => []
theorem part_fmt {f : M Res} {e : Expr} (h : PE X e (tE X.K F W f)) : PE X (.FormattedValue e (-1) none pos) (tPart X.K F W f) := by
  refine PE.imp (L2.pe_fmt (PE.v h)) fun σ H Q ⟨Z, ms, g, R, S⟩ => ?_
  rcases S.split with ⟨x0, g1, e1, S1⟩ | ⟨r, g1, e1, S1⟩
  · exact ⟨Z, ms, g, R, Sat.exc e1 S1⟩
  refine ⟨Z, ms, g, R, Sat.mk e1 fun Z1 ms1 H1 l1 R1 x d1 => ?_⟩
  obtain ⟨t, e2, S2⟩ := S1.lift
  have q := S2 Z1 ms1 H1 l1 R1
  revert e2 d1
  generalize r.pv = w
  intro d1 e2
  unfold fmtV at e2
  split at e2
  · obtain ⟨hz, rfl⟩ := ck_some e2
    exact .inl ⟨_, by simpa only [Den] using d1, hz, q⟩
  · obtain ⟨hz, rfl⟩ := ck_some e2
    exact .inr ⟨_, by simpa only [Den] using d1, hz, q⟩
  · cases e2
theorem part_str {c : Call} {i : Str} {j : Nat} : PE X (.Constant (.str i) j pos) (tPart X.K F W (ev c (.cst (.str i)))) := by
  refine PE.imp L2.pe_str fun σ H Q ⟨Z, ms, g, R, S⟩ => ?_
  simp only [ev_cst, Ev.R.bind_ok] at S
  obtain ⟨t, e2, S2⟩ := S.lift
  obtain ⟨hz, rfl⟩ := ck_some e2
  exact S2 Z ms H .refl R
theorem parts_ok {K : PySem.W.Frag} {c : Call} {σ : L2.St} {Q : Str → Hp → Prop} : ∀ (es : MEs) (acc : Str) (Z : Addr → Prop) (ms : List Addr) (g : G) (H : Hp), Rel K F Z ms g σ H → Sat K F W σ Z ms H (evf c es acc g) (fun x Z' ms' g' H' => Q x H') → L2.tJs (tParts K F W c es) acc σ H Q
  | .nil, acc, Z, ms, g, H, R, S => by
    rw [evf_nil] at S
    exact Sat.here R S
  | .star e es, acc, Z, ms, g, H, R, S => by
    rw [evf_star] at S
    exact S.elim
  | .cons e es, acc, Z, ms, g, H, R, S => by
    simp only [evf_cons] at S
    rcases S.split with ⟨x0, g1, e1, S1⟩ | ⟨r, g1, e1, S1⟩
    · exact ⟨Z, ms, g, R, Sat.exc (by rw [e1, Ev.R.bind_exc]) S1⟩
    obtain ⟨t, e2, S2⟩ := S1.stepL
    have e3 : ((ev c e g).bind fun r g1 => lift (fmtV r.pv) g1) = .ok t g1 := by rw [e1, Ev.R.bind_ok, e2, lift_some]
    refine ⟨Z, ms, g, R, Sat.mk e3 fun Z1 ms1 H1 l1 R1 => ?_⟩
    split at S2
    · rename_i hz
      exact ⟨t, rfl, hz, parts_ok es (acc ++ t) Z1 ms1 g1 H1 R1 (S2.le l1)⟩
    · exact S2.elim
theorem e_fs {c : Call} {es : MEs} {e1 e2 : Expr} {rest : List Expr} (h : L2.PJ X (e1 :: e2 :: rest) (tParts X.K F W c es)) : PE X (.JoinedStr (e1 :: e2 :: rest) pos) (tE X.K F W (ev c (.fs es))) := by
  refine PE.imp (L2.pe_joined h) fun σ H Q ⟨Z, ms, g, R, S⟩ => ?_
  simp only [ev_fs] at S
  rcases S.split with ⟨x0, g1, e1, S1⟩ | ⟨x, g1, e1, S1⟩
  · exact parts_ok es Str.empty Z ms g H R (Sat.exc e1 S1)
  exact parts_ok es Str.empty Z ms g H R (Sat.mk e1 fun Z1 ms1 H1 l1 R1 => S1 Z1 ms1 H1 l1 R1 _ (by simp only [ResOk, Den]))
end
end Ev
/-! # Ev, part 7: dict displays, targets, what is walked, comprehensions. -/
namespace Ev
open PySem PySem.Spec
open L2 (V Hp HO upd SqL SqT Rd Cx Inv PE PT PW PA PS PSs PG PGs PI PK VK TE TT TA TS TG TGs TI Ends RelV Vals It Dp DpAll OpR UnR CallR TruR IxR SlR MtR EP TP AP SP)

/-! ### frames -/
/-- one object more is to stay -/
def Fm.with (F : Fm) (p : Addr) (o : HO) : Fm := ⟨upd F.F p o, F.Z0, F.w, F.xo⟩
section
variable {K : PySem.W.Frag} {F : Fm} {Z : Addr → Prop} {ms : List Addr} {g : G} {σ : L2.St} {H : Hp} {p : Addr} {o : HO}
theorem Rel.pin (R : Rel K F Z ms g σ H) (h : H p = some o) (hz : ¬ Z p) (hm : p ∉ ms) (ho : ∀ (i : Nat) ys, g.sl[i]? = some (.own ys) → σ[i]? ≠ some (some (.ref p))) : Rel K (F.with p o) Z ms g σ H := by
  have ne : ∀ a, a ≠ p → (F.with p o).F a = F.F a := fun a q => L2.upd_ne q
  refine ⟨R.len, R.vl, fun i xs e => ?_, R.un, R.cn, R.cl, R.nd, fun a ha => ⟨(R.mz a ha).1, ?_⟩, fun a z => ?_, R.zz, R.zs, fun a u e => ?_, R.xs⟩
  · obtain ⟨a, vs, e1, e2, e3, e4, e5, e6⟩ := R.ow i xs e
    refine ⟨a, vs, e1, e2, e3, e4, e5, ?_⟩
    rw [ne a fun q => ho i xs e (q ▸ e1)]
    exact e6
  · rw [ne a fun q => hm (q ▸ ha)]
    exact (R.mz a ha).2
  · rcases R.zf a z with q | q
    · exact .inl q
    · right
      rw [ne a fun e => hz (e ▸ z)]
      exact q
  · by_cases q : a = p
    · subst q
      have e' : upd F.F a o a = some u := e
      rw [L2.upd_same] at e'
      cases e'
      exact h
    · rw [ne a q] at e
      exact R.fr a u e
/-- .. a new one -/
theorem Rel.pinNew (R : Rel K F Z ms g σ H) (h : H p = none) : Rel K (F.with p o) Z ms g σ (upd H p o) := by
  refine (R.laid h).pin L2.upd_same (R.freeZ h) (R.freeM h) fun i ys e q => ?_
  obtain ⟨a, ws, e1, e2, _⟩ := R.ow i ys e
  rw [q] at e1
  cases e1
  rw [h] at e2
  cases e2
theorem Rel.pinned (R : Rel K (F.with p o) Z ms g σ H) : H p = some o := R.fr p o L2.upd_same
theorem Rel.unpin (R : Rel K (F.with p o) Z ms g σ H) (hf : F.F p = none) : Rel K F Z ms g σ H := by
  have ne : ∀ a, (F.with p o).F a = none → F.F a = none := fun a q => by
    by_cases e : a = p
    · subst e
      exact hf
    · exact (L2.upd_ne (H := F.F) (o := o) e).symm.trans q
  refine ⟨R.len, R.vl, fun i xs e => ?_, R.un, R.cn, R.cl, R.nd, fun a ha => ⟨(R.mz a ha).1, ne a (R.mz a ha).2⟩, fun a z => ?_, R.zz, R.zs, fun a u e => ?_, R.xs⟩
  · obtain ⟨a, vs, e1, e2, e3, e4, e5, e6⟩ := R.ow i xs e
    exact ⟨a, vs, e1, e2, e3, e4, e5, ne a e6⟩
  · rcases R.zf a z with q | q
    · exact .inl q
    · exact .inr (ne a q)
  · refine R.fr a u ?_
    show upd F.F p o a = some u
    rw [L2.upd_ne]
    · exact e
    · rintro rfl
      rw [hf] at e
      cases e
theorem Rel.pinM (R : Rel K (F.with p o) Z ms g σ H) : p ∉ ms := fun h => by
  have q := (R.mz p h).2
  have e : upd F.F p o p = none := q
  rw [L2.upd_same] at e
  cases e
theorem Rel.pinZ (R : Rel K (F.with p o) Z ms g σ H) (h : ¬ F.Z0 p) : ¬ Z p := fun z => by
  rcases R.zf p z with q | q
  · exact h q
  · have e : upd F.F p o p = none := q
    rw [L2.upd_same] at e
    cases e
theorem Rel.pinO (R : Rel K (F.with p o) Z ms g σ H) (i : Nat) (ys : List PV) (e : g.sl[i]? = some (.own ys)) : σ[i]? ≠ some (some (.ref p)) := fun q => by
  obtain ⟨a, vs, e1, _, _, _, _, e6⟩ := R.ow i ys e
  rw [q] at e1
  cases e1
  have e : upd F.F p o p = none := e6
  rw [L2.upd_same] at e
  cases e
theorem Rel.noZ0 (R : Rel K F Z ms g σ H) (h : H p = none) : ¬ F.Z0 p := fun z => R.freeZ h (R.zz p z)
/-- the pinned object is written -/
theorem Rel.rewrite {xs ys : List V} (R : Rel K (F.with p (.lst xs)) Z ms g σ H) (hz : ¬ F.Z0 p) (hf : F.F p = none) : Le Z ms H Z ms (upd H p (.lst ys)) ∧ Rel K (F.with p (.lst ys)) Z ms g σ (upd H p (.lst ys)) := by
  have nz := R.pinZ hz
  have nm := R.pinM
  have hp := R.pinned
  have l : Le Z ms H Z ms (upd H p (.lst ys)) := by
    refine ⟨fun _ z => z, fun b us z q => by rw [L2.upd_ne fun e => nz (by rw [← e]; exact z)]; exact q, fun b us q => ?_, fun b o u q => ?_, ⟨[], by simp⟩, fun b cq q n0 => ?_⟩
    · rw [L2.upd_ne]
      · exact q
      · rintro rfl
        rw [hp] at q
        cases q
    · rw [L2.upd_ne]
      · exact q
      · rintro rfl
        rw [hp] at q
        cases q
    · refine ⟨?_, n0⟩
      rw [L2.upd_ne]
      · exact q
      · rintro rfl
        rw [hp] at q
        have q := Option.some.inj q
        unfold LamX.CodeO at q
        exact L2.HO.noConfusion q
  have neF : ∀ a, (F.with p (.lst xs)).F a = none → (F.with p (.lst ys)).F a = none := fun a q => by
    have q' : upd F.F p (.lst xs) a = none := q
    show upd F.F p (.lst ys) a = none
    by_cases e : a = p
    · subst e
      rw [L2.upd_same] at q'
      cases q'
    · rw [L2.upd_ne e] at q' ⊢
      exact q'
  refine ⟨l, ⟨R.len, fun i v e => ?_, fun i us e => ?_, R.un, R.cn, fun n c a e1 e2 => ?_, R.nd, fun a ha => ⟨(R.mz a ha).1, neF a (R.mz a ha).2⟩, fun a z => (R.zf a z).imp id (neF a), R.zz, fun a z => ?_, fun a u e => ?_, R.xs⟩⟩
  · obtain ⟨x, e1, e2⟩ := R.vl i v e
    exact ⟨x, e1, Den.mono l _ _ e2⟩
  · obtain ⟨a, vs, e1, e2, e3, e4, e5, e6⟩ := R.ow i us e
    have na : a ≠ p := fun q => R.pinO i us e (q ▸ e1)
    exact ⟨a, vs, e1, by rw [L2.upd_ne na]; exact e2, Dens.mono l _ _ e3, e4, e5, neF a e6⟩
  · refine (R.cl n c a e1 e2).mono l (L2.upd_ne ?_)
    rintro rfl
    exact nm (List.mem_of_getElem? e2)
  · obtain ⟨vs, e⟩ := R.zs a z
    exact ⟨vs, by rw [L2.upd_ne fun q => nz (by rw [← q]; exact z)]; exact e⟩
  · have e' : upd F.F p (.lst ys) a = some u := e
    by_cases q : a = p
    · subst q
      rw [L2.upd_same] at e' ⊢
      exact e'
    · rw [L2.upd_ne q] at e' ⊢
      refine R.fr a u ?_
      show upd F.F p (.lst xs) a = some u
      rw [L2.upd_ne q]
      exact e'
/-- the pinned object becomes a cell -/
theorem Rel.cellNew {o o' : HO} {cell : Cell} (R : Rel K (F.with p o) Z ms g σ H) (hz : ¬ F.Z0 p) (hf : F.F p = none) (ho : ∀ xs, o ≠ .tup xs) (hof : ∀ q u, o ≠ .frz q u) (hoc : ∀ a q, o ≠ LamX.CodeO a q) (d : ∀ H', Le Z ms H Z (ms ++ [p]) H' → H' p = some o' → CellOk K Z (ms ++ [p]) H' F.w cell p) :
    Le Z ms H Z (ms ++ [p]) (upd H p o') ∧ Rel K F Z (ms ++ [p]) { g with hp := g.hp ++ [cell] } σ (upd H p o') := by
  have nz := R.pinZ hz
  have nm := R.pinM
  have hp := R.pinned
  have l : Le Z ms H Z (ms ++ [p]) (upd H p o') := by
    refine ⟨fun _ z => z, fun b us z q => by rw [L2.upd_ne fun e => nz (by rw [← e]; exact z)]; exact q, fun b us q => ?_, fun b ob u q => ?_, ⟨[p], rfl⟩, fun b cq q n0 => ?_⟩
    · rw [L2.upd_ne]
      · exact q
      · rintro rfl
        rw [hp] at q
        exact ho us (Option.some.inj q)
    · rw [L2.upd_ne]
      · exact q
      · rintro rfl
        rw [hp] at q
        exact hof _ _ (Option.some.inj q)
    · have ne : b ≠ p := by
        rintro rfl
        rw [hp] at q
        exact hoc _ _ (Option.some.inj q)
      exact ⟨by rw [L2.upd_ne ne]; exact q, by simp [n0, ne]⟩
  have R0 := R.unpin hf
  refine ⟨l, ⟨R.len, fun i v e => ?_, fun i us e => ?_, R.un, by simp [R.cn], fun n c a e1 e2 => ?_, ?_, fun a ha => ?_, R0.zf, R0.zz, fun a z => ?_, fun a u e => ?_, R.xs⟩⟩
  · obtain ⟨x, e1, e2⟩ := R.vl i v e
    exact ⟨x, e1, Den.mono l _ _ e2⟩
  · obtain ⟨a, vs, e1, e2, e3, e4, e5, e6⟩ := R0.ow i us e
    have na : a ≠ p := fun q => R.pinO i us e (q ▸ e1)
    exact ⟨a, vs, e1, by rw [L2.upd_ne na]; exact e2, Dens.mono l _ _ e3, e4, by simp [e5, na], e6⟩
  · by_cases hn : n < g.hp.length
    · rw [List.getElem?_append_left hn] at e1
      rw [List.getElem?_append_left (by rw [R.cn]; exact hn)] at e2
      refine (R.cl n c a e1 e2).mono l (L2.upd_ne ?_)
      rintro rfl
      exact nm (List.mem_of_getElem? e2)
    · rw [List.getElem?_append_right (by omega)] at e1
      rw [List.getElem?_append_right (by rw [R.cn]; omega), R.cn] at e2
      have h0 : n - g.hp.length = 0 := by
        have := (List.getElem?_eq_some_iff.mp e1).1
        simp at this
        omega
      rw [h0] at e1 e2
      simp at e1 e2
      subst e1 e2
      exact d _ l L2.upd_same
  · rw [List.nodup_append]
    exact ⟨R.nd, by simp, fun a ha b hb => by
      simp at hb
      subst hb
      exact fun q => nm (q ▸ ha)⟩
  · rcases List.mem_append.mp ha with h | h
    · exact R0.mz a h
    · simp at h
      subst h
      exact ⟨nz, hf⟩
  · obtain ⟨vs, e⟩ := R.zs a z
    exact ⟨vs, by rw [L2.upd_ne fun q => nz (by rw [← q]; exact z)]; exact e⟩
  · rw [L2.upd_ne]
    · exact R0.fr a u e
    · rintro rfl
      rw [hf] at e
      cases e
end

/-! ### {k: v, ..} -/
/-- nothing is raised -/
def noW : Wish := fun _ _ _ _ _ _ => False
/-- a reading at some frame -/
def tVx (K : PySem.W.Frag) (w : World) (f : M Res) : TE := fun σ H Q => ∃ F, F.w = w ∧ tV K F noW f σ H Q
def tEx (K : PySem.W.Frag) (w : World) (f : M Res) : TE := fun σ H Q => ∃ F, F.w = w ∧ tE K F noW f σ H Q
def tTx (K : PySem.W.Frag) (w : World) (f : M Bool) : TT := fun σ H Q => ∃ F, F.w = w ∧ tT K F noW f σ H Q
theorem PE.vx {X : Cx} {e : Expr} {f : M Res} (h : ∀ F, F.w = X.w → PE X e (tE X.K F noW f)) : PE X e (tVx X.K X.w f) := ⟨fun pins s σ H Q I ⟨F, hw, q⟩ => (PE.v (h F hw)).run pins s σ H Q I q⟩
theorem PE.ex {X : Cx} {e : Expr} {f : M Res} (h : ∀ F, F.w = X.w → PE X e (tE X.K F noW f)) : PE X e (tEx X.K X.w f) := ⟨fun pins s σ H Q I ⟨F, hw, q⟩ => (h F hw).run pins s σ H Q I q⟩
def dTrs (K : PySem.W.Frag) (w : World) (c : Call) : List Str → MEs → List (TE × TE)
  | k :: ks, .cons v vs => (L2.tC (.str k), tVx K w (ev c v)) :: dTrs K w c ks vs
  | _, _ => []
def MEs.plain : MEs → Bool
  | .nil => true
  | .cons _ r => MEs.plain r
  | .star _ _ => false
theorem pairs_ok {K : PySem.W.Frag} {w : World} {F : Fm} (hw : F.w = w) {c : Call} {σ : L2.St} : ∀ (ks : List Str) (vs : MEs) (hpl : vs.plain = true) (Z : Addr → Prop) (ms : List Addr) (g g' : G) (H : Hp) (ws : List PV) (Q : List (V × V) → Hp → Prop), Rel K F Z ms g σ H → evs c vs g = .ok ws g' → ks.length = ws.length →
    (∀ Z' ms' H' xs, Le Z ms H Z' ms' H' → Rel K F Z' ms' g' σ H' → Dens K Z' ms' H' ws xs → Q ((ks.map V.str).zip xs) H') → L2.tPairs (dTrs K w c ks vs) σ H Q
  | [], .nil, hpl, Z, ms, g, g', H, ws, Q, R, e, hl, k => by
    rw [evs_nil] at e
    cases e
    exact k Z ms H [] .refl R .nil
  | [], .cons v vs, hpl, Z, ms, g, g', H, ws, Q, R, e, hl, k => by
    simp only [evs_cons] at e
    cases h1 : ev c v g with
    | bad => rw [h1] at e; cases e
    | exc _ _ => rw [h1] at e; cases e
    | ok r g1 =>
      rw [h1, Ev.R.bind_ok] at e
      cases h2 : evs c vs g1 with
      | bad => rw [h2] at e; cases e
      | exc _ _ => rw [h2] at e; cases e
      | ok us g2 =>
        rw [h2, Ev.R.bind_ok] at e
        cases e
        simp at hl
  | _, .star _ _, hpl, Z, ms, g, g', H, ws, Q, R, e, hl, k => by cases hpl
  | k0 :: ks, .nil, hpl, Z, ms, g, g', H, ws, Q, R, e, hl, k => by
    rw [evs_nil] at e
    cases e
    simp at hl
  | k0 :: ks, .cons v vs, hpl, Z, ms, g, g', H, ws, Q, R, e, hl, k => by
    simp only [evs_cons] at e
    cases h1 : ev c v g with
    | bad => rw [h1] at e; cases e
    | exc _ _ => rw [h1] at e; cases e
    | ok r g1 =>
      rw [h1, Ev.R.bind_ok] at e
      cases h2 : evs c vs g1 with
      | bad => rw [h2] at e; cases e
      | exc _ _ => rw [h2] at e; cases e
      | ok us g2 =>
        rw [h2, Ev.R.bind_ok] at e
        cases e
        refine ⟨F, hw, Z, ms, g, R, Sat.mk h1 fun Z1 ms1 H1 l1 R1 x d1 => ?_⟩
        refine pairs_ok hw ks vs hpl Z1 ms1 g1 _ H1 us _ R1 h2 (by simpa using hl) fun Z2 ms2 H2 xs l2 R2 d2 => ?_
        exact k Z2 ms2 H2 (x :: xs) (l1.trans l2) R2 (.cons (Den.mono l2 _ _ d1) d2)
theorem dictGo_V {K : PySem.W.Frag} {Z : Addr → Prop} {ms : List Addr} {H : Hp} : ∀ (ks : List Str) (ws : List PV) (xs : List V) (acc : List (Key × PV)) (acc' : List (Key × V)), ks.length = ws.length → Dens K Z ms H ws xs → DenKV K Z ms H acc acc' →
    DenKV K Z ms H (dictGo ks ws acc) (L2.mergeK acc' ((ks.map fun k => (Sum.inr k : Key)).zip xs))
  | [], [], xs, acc, acc', _, d, a => by
    simp only [Dens] at d
    subst d
    exact a
  | [], _ :: _, _, _, _, h, _, _ => by simp at h
  | _ :: _, [], _, _, _, h, _, _ => by simp at h
  | k :: ks, w :: ws, xs, acc, acc', h, d, a => by
    simp only [Dens] at d
    obtain ⟨v, r, rfl, h1, h2⟩ := d
    exact dictGo_V ks ws r _ _ (by simpa using h) h2 (putK_V h1 a)
theorem zip_kV : ∀ (ks : List Str) (xs : List V), (ks.map V.str).zip xs = ((ks.map fun k => (Sum.inr k : Key)).zip xs).map fun kv => (L2.kV kv.1, kv.2)
  | [], xs => rfl
  | k :: ks, [] => rfl
  | k :: ks, x :: xs => by
    show (V.str k, x) :: (ks.map V.str).zip xs = _
    rw [zip_kV ks xs]
    rfl
theorem e_dct {X : Cx} {F : Fm} {W : Wish} {pos : Pos} (hw : F.w = X.w) {c : Call} {ks : List Str} {vs : MEs} {keys : List (Option Expr)} {values : List Expr} (h : L2.PPs X pos keys values (dTrs X.K X.w c ks vs)) (hall : keys.all (·.isSome) = true) (hl : keys.length = values.length) (h0 : keys ≠ [])
    (h15 : keys.length ≤ 15) (hpl : vs.plain = true) : PE X (.Dict keys values pos) (tE X.K F W (ev c (.dct ks vs))) := by
  refine PE.imp (L2.pe_disp h hall hl h0 h15) fun σ H Q ⟨Z, ms, g, R, S⟩ => ?_
  simp only [ev_dct] at S
  obtain ⟨ws, g1, e1, S1⟩ := S.stepN noX_nx
  replace e1 := noX_eq e1
  split at S1
  · rename_i hl2
    intro p hp
    have nz0 := R.noZ0 hp
    have nf := R.freeF hp
    refine pairs_ok (F := F.with p (.dK [])) hw ks vs hpl Z ms g g1 _ ws _ (R.pinNew hp) e1 hl2.1 fun Z2 ms2 H2 xs l2 R2 d2 => ?_
    refine ⟨R2.pinned, (ks.map fun k => (Sum.inr k : Key)).zip xs, zip_kV ks xs, ?_, ?_⟩
    · rw [List.length_zip, List.length_map]
      omega
    · have dgo := dictGo_V ks ws xs [] [] hl2.1 d2 (by simp only [DenKV])
      generalize hwm : L2.mergeK [] ((ks.map fun k => (Sum.inr k : Key)).zip xs) = wm at dgo ⊢
      obtain ⟨l3, R3⟩ := R2.cellNew (o := .dK []) (o' := .dK wm) (cell := .dk (dictGo ks ws [])) nz0 nf (fun _ => nofun) (fun _ _ => nofun) (fun _ _ => by unfold LamX.CodeO; exact fun e => L2.HO.noConfusion e) fun H' l e => ⟨wm, e, DenKV.mono l _ _ dgo⟩
      refine S1 Z2 _ _ ((Le.upd hp).trans (l2.trans l3)) R3 (.ref p) ?_
      simp only [ResOk, Den]
      refine ⟨p, rfl, ?_⟩
      rw [← R2.cn, List.getElem?_append_right (Nat.le_refl _)]
      simp
  · exact S1.elim

/-- {} -/
theorem e_dnew {X : Cx} {F : Fm} {W : Wish} {pos : Pos} {c : Call} : PE X (.Dict [] [] pos) (tE X.K F W (ev c .dnew)) := by
  refine PE.imp L2.pe_dnewK fun σ H Q ⟨Z, ms, g, R, S⟩ => ?_
  simp only [ev_dnew] at S
  intro p hp
  have nz0 := R.noZ0 hp
  have nf := R.freeF hp
  obtain ⟨l3, R3⟩ := (R.pinNew (o := .dK []) hp).cellNew (o' := .dK []) (cell := .dk []) nz0 nf (fun _ => nofun) (fun _ _ => nofun) (fun _ _ => by unfold LamX.CodeO; exact fun e => L2.HO.noConfusion e) fun H' l e => ⟨[], e, by simp only [DenKV]⟩
  rw [L2.upd_upd] at l3 R3
  refine S Z _ _ ((Le.upd hp).trans l3) R3 (.ref p) ?_
  simp only [ResOk, Den]
  refine ⟨p, rfl, ?_⟩
  rw [← R.cn, List.getElem?_append_right (Nat.le_refl _)]
  simp
/-! ### targets -/
theorem Rel.set {K : PySem.W.Frag} {F : Fm} {Z : Addr → Prop} {ms : List Addr} {g : G} {σ : L2.St} {H : Hp} {i : Nat} {r : Res} {x : V} (R : Rel K F Z ms g σ H) (ok : ResOk K F Z ms g σ H r x) (hi : i < g.sl.length) :
    Rel K F Z ms { g with sl := g.sl.set i r.slot } (σ.set i (some x)) H := by
  have hσ : i < σ.length := by rw [R.len]; exact hi
  refine ⟨by simpa using R.len, fun j v e => ?_, fun j xs e => ?_, fun j k xs ys a e1 e2 e3 e4 => ?_, R.cn, R.cl, R.nd, R.mz, R.zf, R.zz, R.zs, R.fr, fun j q => by
    obtain ⟨hj, q⟩ := xs_set r.slot_x q
    rw [List.getElem?_set_ne hj]
    exact R.xs j q⟩
  · by_cases hj : i = j
    · subst hj
      rw [List.getElem?_set_self hi] at e
      cases r with
      | val w =>
        cases e
        exact ⟨x, List.getElem?_set_self hσ, ok⟩
      | new xs => cases e
    · rw [List.getElem?_set_ne hj] at e ⊢
      exact R.vl j v e
  · by_cases hj : i = j
    · subst hj
      rw [List.getElem?_set_self hi] at e
      cases r with
      | val w => cases e
      | new ys =>
        cases e
        obtain ⟨a, vs, rfl, h1, h2, h3, h4, h5, _⟩ := ok
        exact ⟨a, vs, List.getElem?_set_self hσ, h1, h2, h3, h4, h5⟩
    · rw [List.getElem?_set_ne hj] at e ⊢
      exact R.ow j xs e
  · by_cases hj : i = j
    · subst hj
      rw [List.getElem?_set_self hi] at e1
      rw [List.getElem?_set_self hσ] at e3
      cases r with
      | val w => cases e1
      | new zs =>
        obtain ⟨b, vs, rfl, h1, h2, h3, h4, h5, h6⟩ := ok
        cases e3
        by_cases hk : i = k
        · exact hk
        · rw [List.getElem?_set_ne hk] at e2 e4
          exact absurd e4 (h6 k ys e2)
    · rw [List.getElem?_set_ne hj] at e1 e3
      by_cases hk : i = k
      · subst hk
        rw [List.getElem?_set_self hi] at e2
        rw [List.getElem?_set_self hσ] at e4
        cases r with
        | val w => cases e2
        | new zs =>
          obtain ⟨b, vs, rfl, h1, h2, h3, h4, h5, h6⟩ := ok
          cases e4
          exact absurd e3 (h6 j xs e1)
      · rw [List.getElem?_set_ne hk] at e2 e4
        exact R.un j k xs ys a e1 e2 e3 e4
theorem setVar_ok {i : Nat} {r : Res} {g g' : G} {u : Unit} (e : setVar i r g = .ok u g') : i < g.sl.length ∧ g' = { g with sl := g.sl.set i r.slot } := by
  unfold setVar at e
  split at e
  · cases e
    exact ⟨by assumption, rfl⟩
  · cases e
def gNms : List Nat → TGs
  | [] => L2.gNil
  | i :: is => L2.gCons (L2.gName i) (gNms is)
def gT (K : PySem.W.Frag) : MT → TG
  | .nm i => L2.gName i
  | .tp is => L2.gTup K is.length (gNms is)
theorem wipe_set {σ : L2.St} {i : Nat} {x : Option V} : ∀ {is : List Nat}, i ∈ is → L2.wipe (σ.set i x) is = L2.wipe σ is
  | [], h => by cases h
  | j :: is, h => by
    unfold L2.wipe
    by_cases hm : i ∈ is
    · rw [wipe_set hm]
    · have hj : i = j := by
        rcases List.mem_cons.mp h with e | e
        · exact e
        · exact absurd e hm
      subst hj
      have go : ∀ ks : List Nat, i ∉ ks → L2.wipe (σ.set i x) ks = (L2.wipe σ ks).set i x := by
        intro ks
        induction ks with
        | nil => intro _; rfl
        | cons k ks ih =>
          intro hk
          simp only [List.mem_cons, not_or] at hk
          unfold L2.wipe
          rw [ih hk.2, List.set_comm _ _ hk.1]
      rw [go is hm, List.set_set]
theorem setVars_ok {K : PySem.W.Frag} {F : Fm} {Z : Addr → Prop} {ms : List Addr} {H : Hp} {Q : L2.St → Hp → Prop} {all : List Nat} {σ0 : L2.St} : ∀ (is : List Nat) (vs : List PV) (xs : List V) (g g' : G) (σ : L2.St) (u : Unit), Rel K F Z ms g σ H → Dens K Z ms H vs xs → setVars is vs g = .ok u g' →
    (∀ i ∈ is, i ∈ all) → L2.wipe σ all = σ0 → (∀ σ', Rel K F Z ms g' σ' H → L2.wipe σ' all = σ0 → Q σ' H) → gNms is xs σ H Q
  | [], [], xs, g, g', σ, u, R, d, e, _, hw, k => by
    simp only [setVars] at e
    cases e
    simp only [Dens] at d
    exact ⟨d, k σ R hw⟩
  | [], _ :: _, _, _, _, _, _, _, _, e, _, _, _ => by simp only [setVars] at e; cases e
  | _ :: _, [], _, _, _, _, _, _, _, e, _, _, _ => by simp only [setVars] at e; cases e
  | i :: is, v :: vs, xs, g, g', σ, u, R, d, e, hm, hw, k => by
    simp only [setVars] at e
    simp only [Dens] at d
    obtain ⟨x, r, rfl, h1, h2⟩ := d
    cases q : setVar i (.val v) g with
    | bad => rw [q] at e; cases e
    | exc _ _ => rw [q] at e; cases e
    | ok u1 g1 =>
      rw [q, Ev.R.bind_ok] at e
      obtain ⟨hi, rfl⟩ := setVar_ok q
      refine ⟨x, r, rfl, ?_⟩
      have R1 := R.set (r := .val v) h1 hi
      exact setVars_ok is vs r _ g' _ u R1 h2 e (fun j hj => hm j (List.mem_cons_of_mem _ hj)) (by rw [wipe_set (hm i List.mem_cons_self)]; exact hw) k
theorem setVars_len : ∀ {is : List Nat} {xs : List PV} {g g' : G} {u : Unit}, setVars is xs g = .ok u g' → is.length = xs.length
  | [], [], _, _, _, _ => rfl
  | [], _ :: _, _, _, _, e => by simp only [setVars] at e; cases e
  | _ :: _, [], _, _, _, e => by simp only [setVars] at e; cases e
  | i :: is, y :: ys, g, g', u, e => by
    simp only [setVars] at e
    cases q : setVar i (.val y) g with
    | bad => rw [q] at e; cases e
    | exc _ _ => rw [q] at e; cases e
    | ok u1 g1 =>
      rw [q, Ev.R.bind_ok] at e
      simp [setVars_len e]
theorem bind_ok {K : PySem.W.Frag} {F : Fm} {Z : Addr → Prop} {ms : List Addr} {H : Hp} {Q : L2.St → Hp → Prop} {t : MT} {r : Res} {x : V} {g g' : G} {σ : L2.St} {u : Unit} (R : Rel K F Z ms g σ H) (ok : ResOk K F Z ms g σ H r x) (e : bindT t r g = .ok u g')
    (k : ∀ σ', Rel K F Z ms g' σ' H → L2.wipe σ' t.slots = L2.wipe σ t.slots → Q σ' H) : gT K t x σ H Q := by
  cases t with
  | nm i =>
    obtain ⟨hi, rfl⟩ := setVar_ok e
    exact k _ (R.set ok hi) (wipe_set (List.mem_singleton.mpr rfl))
  | tp is =>
    cases r with
    | new xs => cases e
    | val v =>
      cases v with
      | tup xs =>
        have e' : setVars is xs g = .ok u g' := e
        have ok' : Den K Z ms H (.tup xs) x := ok
        simp only [Den] at ok'
        obtain ⟨a, vs, rfl, h1, h2⟩ := ok'
        have hl : is.length = xs.length := by
          have go : ∀ (is : List Nat) (xs : List PV) (g g' : G) (u : Unit), setVars is xs g = .ok u g' → is.length = xs.length := by
            intro is
            induction is with
            | nil => intro xs g g' u e; cases xs with
              | nil => rfl
              | cons _ _ => simp only [setVars] at e; cases e
            | cons i is ih => intro xs g g' u e; cases xs with
              | nil => simp only [setVars] at e; cases e
              | cons y ys =>
                simp only [setVars] at e
                cases q : setVar i (.val y) g with
                | bad => rw [q] at e; cases e
                | exc _ _ => rw [q] at e; cases e
                | ok u1 g1 =>
                  rw [q, Ev.R.bind_ok] at e
                  simp [ih _ _ _ _ e]
          exact go _ _ _ _ _ e'
        exact ⟨a, vs, rfl, h1.sqT, by rw [h2.length]; exact hl.symm, setVars_ok is xs vs g g' σ u R h2 e' (fun _ h => h) rfl k⟩
      | _ => cases e
end Ev
/-! # Ev: enumerate over tuples. -/
namespace PySem
theorem meets_enum1 {v : Value} {o : Obj} {Hc : Heap → Prop} (B : Begins v o Hc) : Meets (Builtin.«enumerate.__new__» ⟨[.type "enumerate", v], []⟩) (fun _ R s => Hc s.heap ∧ R (.ok (.ret (.ref (s.heap.push o).objs.size)))
    { s with heap := (s.heap.push o).push { cls := .type "enumerate", data := .fields #[.none, .bool false, .ref s.heap.objs.size, rawInt 0, .none, .none] } }) :=
  .of_wp fun prog w A R s h => by
    obtain ⟨hp, gs, dr, tks, fs⟩ := s
    obtain ⟨h1, h⟩ := h
    have hsub := sub_enumerate
    have q1 : ∀ {A' : Around} {E : Value → Shared → Prop} {Q : Value → Shared → Prop}, Q (.ref hp.objs.size) ⟨hp.push o, gs, dr, tks, fs⟩ → wpAny (model prog w) A' (pyIter v) Q E ⟨hp, gs, dr, tks, fs⟩ :=
      fun q => B.iter prog w _ _ ⟨hp, gs, dr, tks, fs⟩ _ h1 q
    wp_walk using q1
    refine wpAny_stack_any fun stk => wpAny_pure ?_
    split
    · rename_i cc _ _ _ _ _
      cases (cc == Value.type "enumerate")
      · wp_walk using q1
        exact ⟨_, rfl, h⟩
      · wp_walk using q1
        exact ⟨_, rfl, h⟩
    · wp_walk using q1
      exact ⟨_, rfl, h⟩
section
variable {prog : Program} {w : World} {A : Around} {E : Value → Shared → Prop} {s : Shared}
theorem call_enum1 {v : Value} {o : Obj} {Hc : Heap → Prop} {Q : Value → Shared → Prop} (B : Begins v o Hc) (h1 : Hc s.heap)
    (h : ∀ h', IsEnum h' (s.heap.objs.size + 1) s.heap.objs.size 0 .none → h'.get? s.heap.objs.size = some o → (∀ b u, s.heap.get? b = some u → h'.get? b = some u) → Q (.ref (s.heap.objs.size + 1)) { s with heap := h' }) :
    wpAny (model prog w) A (call (.type "enumerate") [v]) Q E s := by
  refine callType_new F.called_enumerate (by decide) (F.typeCall_enumerate_1 _) (F.newCall_enumerate_1 _) (fun obj => F.args_object_init_2 obj _) F.entry_enumerate_new (meets_enum1 B) ⟨h1, ?_⟩
  have z1 : (s.heap.push o).objs.size = s.heap.objs.size + 1 := Heap.size_push ..
  show _ ∧ _
  rw [z1]
  have e1 := Heap.get?_push_size (s.heap.push o) (o := { cls := .type "enumerate", data := .fields #[.none, .bool false, .ref s.heap.objs.size, rawInt 0, .none, .none] }) rfl
  rw [z1] at e1
  exact ⟨⟨_, e1, rfl⟩, h _ e1 (Heap.get?_push_of_some _ (Heap.get?_push_size _ B.free)) fun b u q => Heap.get?_push_of_some _ (Heap.get?_push_of_some _ q)⟩
end
end PySem
namespace Ev
open PySem PySem.Spec PyProof.Rows
open L2 (V Hp HO upd SqL SqT Rd Cx Inv PE PT PW PA PS PSs PG PGs PI PK VK TE TT TA TS TG TGs TI Ends RelV Vals It Dp DpAll OpR UnR CallR TruR IxR SlR MtR EP TP AP SP)
/-- the tuple at a, each item in a new pair -/
def IteT (K : PySem.W.Frag) (a : Addr) : It :=
  ⟨fun i H => ∃ (xs : List V) (x : V), SqT K H a xs ∧ xs[i]? = some x, fun i H v H' => ∃ T x, v = .ref T ∧ H T = none ∧ H' = upd H T (.tup [.int (i : Nat), x]) ∧ ∀ xs, SqT K H a xs → xs[i]? = some x, fun i H => ∃ xs : List V, SqT K H a xs ∧ xs.length ≤ i⟩
theorem turn_enumT {P : Program} {w : World} {K : PySem.W.Frag} {elts : List Expr} {kk : Nat} {tpos : Pos} (a e it : Addr) (hai : a ≠ it) :
    L2.Turn P w K (.Tuple elts kk tpos) (IteT K a) [e, it] e (fun i h => (∃ old, IsEnum h e it ((i : Nat) : Int) old) ∧ h.IsTupleIter it a i ∧ e ≠ it ∧ e ≠ a) where
  mem := by simp
  obj := fun i h st b hb => by
    obtain ⟨⟨old, he⟩, ⟨o, ho, hc, hd⟩, _⟩ := st
    have eb : b = e ∨ b = it := by simpa using hb
    rcases eb with rfl | rfl
    · exact ⟨_, he, fun v q => nomatch q⟩
    · exact ⟨o, ho, fun v q => by rw [hd] at q; cases q⟩
  keep := fun i h h' st k => let ⟨⟨old, he⟩, hi, hne⟩ := st; ⟨⟨old, k e (by simp) _ he⟩, hi.at fun o q => k it (by simp) o q, hne⟩
  item := by
    intro X hP hw hK hc i pins s σ H E I hf st hg
    subst hP hw hK
    obtain ⟨⟨old, he⟩, hit, hne, hea⟩ := st
    obtain ⟨xs, x, hq, hx⟩ := hg
    obtain ⟨its, rv, tt, hz⟩ := I.tuple hq
    obtain ⟨u, hu, ru⟩ := rv.get hx
    have hel : e < s.heap.objs.size := Heap.lt_size he
    have hil : it < s.heap.objs.size := by obtain ⟨_, q, _⟩ := hit; exact Heap.lt_size q
    have hlt : i < its.toArray.size := by
      have := (List.getElem?_eq_some_iff.mp hu).1
      simpa using this
    refine wpAny_pyNext_enum_itemD (Draws.tuple (A := X.A.in1) (show X.A.in1.handled = none from I.ok.hd hc) it a hai its.toArray) he ⟨hit, tt⟩ hlt hne (by simp [hne, hea]) fun y h' tk hy ho hst hT hsz hk => ?_
    have ey : y = u := by
      have q : its[i]? = some y := by simpa using hy
      rw [hu] at q
      exact (Option.some.inj q).symm
    subst ey
    refine ⟨_, rfl, wpAny_letOwnedTupleGo_enum (s := { s with heap := h', toks := tk + 1 }) ho fun h'' he' sb => ?_⟩
    have hT2 : h''.get? s.heap.objs.size = some { cls := .type "tuple", data := .seq #[.int i tk, y] } := (sb.2 _ (Nat.ne_of_gt hel)).trans hT
    have new : L2.ObjOk X.prog X.w (upd H s.heap.objs.size (.tup [.int (i : Nat), x])) h'' s.heap.objs.size (.tup [.int (i : Nat), x]) :=
      ⟨by show 2 ≤ sizeLine; decide, [.int i tk, y], .cons ⟨_, rfl⟩ (.cons ru .nil), ⟨_, hT2, rfl, _, rfl⟩⟩
    have I1 : Inv X pins σ (upd H s.heap.objs.size (.tup [.int (i : Nat), x])) { s with heap := h'', toks := tk + 1 } :=
      I.turnedNew (ch := [e, it]) (fun b ob hb q => (sb.2 b (fun z => hb (by simp [z]))).trans (hk b ob (fun z => hb (by simp [z])) (fun z => hb (by simp [z])) q)) hf (Nat.le_refl _) new
    refine ⟨.ref s.heap.objs.size, _, I1, rfl, ⟨_, x, rfl, I.hok.fresh (Nat.le_refl _), rfl, fun ys hy' => ?_⟩, ⟨⟨y, ?_⟩, hst.1.at fun o q => (sb.2 it (Ne.symm hne)).trans q, hne, hea⟩, fun b hb => ?_⟩
    · obtain ⟨its2, rv2, ⟨o2, k1, k2, n2, k3⟩, _⟩ := I.tuple hy'
      obtain ⟨o1, j1, j2, n1, j3⟩ := tt
      rw [j1] at k1
      cases k1
      rw [j3] at k3
      injection k3 with k4 _
      have e1 : its = its2 := by simpa using congrArg Array.toList k4
      subst e1
      rw [rv2.inj rv]
      exact hx
    · have e1 : ((i + 1 : Nat) : Int) = (i : Int) + 1 := by omega
      rw [e1]
      exact he'
    · have hb' : b < s.heap.objs.size := by
        have eb : b = e ∨ b = it := by simpa using hb
        rcases eb with rfl | rfl
        · exact hel
        · exact hil
      rw [L2.upd_ne (Nat.ne_of_lt hb')]
      exact (hf b hb).1
  done := by
    intro X hP hw hK hc i pins s σ H E I hf st hg
    subst hP hw hK
    obtain ⟨⟨old, he⟩, hit, hne, hea⟩ := st
    obtain ⟨xs, hq, hx⟩ := hg
    obtain ⟨its, rv, tt, hz⟩ := I.tuple hq
    obtain ⟨f0, f1, f2, f3, f4, f5⟩ := hf it (by simp)
    have hl := rv.length
    have hT : s.TypeIs (.ref e) "enumerate" := ⟨_, he, rfl⟩
    unfold pyNext
    refine wpAny_bind (wpAny_attempt (wpAny_callSpecial?_slot (name := Str.ofString "__next__") hT PySem.F.slot_enumerate_next (wpAny_call_entry PySem.F.slot_enumerate_next hT PySem.F.entry_enumerate_next ?_ (PySem.F.args_enumerate_next_1 _))))
    show wpAny _ _ (field (.ref e) 2 >>= _) _ _ s
    refine wpAny_bind (wpAny_field he rfl (x := .ref it) rfl (wpAny_bind (wpAny_nextOf_tuple_end (A := X.A.in1) (show X.A.in1.handled = none from I.ok.hd hc) hit tt (by simp; omega) fun h' x he' hx' => ?_)))
    obtain ⟨o, ho, hc'⟩ := hx'
    exact wpAny_bind (wpAny_isInstance (T := "StopIteration") (b := true) ⟨o, ho, hc'⟩ isSubtype_stop (wpAny_pure ⟨rfl, I.turned (t' := s.toks) (fun b o hb q => he' b o hb q) f0 f1 f3 f4 f5⟩))
  self := fun A i s Q E st h => let ⟨⟨_, he⟩, _⟩ := st; wpAny_pyIter_enum he h
def iEnumT (K : PySem.W.Frag) (ta : TA) : TI := fun σ H R => ta σ H fun vs H1 => ∃ a xs, vs = [V.ref a] ∧ SqT K H1 a xs ∧ R (IteT K a) H1
theorem pi_enumT {X : Cx} {e : Expr} {ta : TA} {p pos tpos : Pos} {elts : List Expr} {kk : Nat} (hg : L2.Gl X "enumerate") (hm : X.mg "enumerate" = none) (ha : PA X [e] ta) (hs : starEach [e] X.env = [(false, eval e X.env)] := by rfl) :
    PI X (.Tuple elts kk tpos) (.Call (.Name "enumerate" p) [e] [] pos) (iEnumT X.K ta) := by
  refine ⟨fun pins s σ H R I h => ?_⟩
  refine PyProof.Rows.Call_ (L2.ld_blt (u := .type "enumerate") I hg hm (by decide +kernel) (PyProof.Rows.callWith_type1 (L2.thn (ha.run pos pins s σ H _ I h) fun us s1 ⟨vs, H1, I1, r1, q1⟩ => ?_) hs rfl))
  obtain ⟨a, xs, ex, hq, q⟩ := q1
  subst ex
  cases r1 with
  | cons r rr =>
    cases rr
    cases r
    obtain ⟨its, rv, tt, hz⟩ := I1.tuple hq
    refine call_enum1 (begins_tuple a its.toArray) tt fun h' he hit hk => wpAny_pyIter_enum he ?_
    have I2 : Inv X pins σ H1 { s1 with heap := h' } := I1.kept (t' := s1.toks) hk
    have hla : a < s1.heap.objs.size := by obtain ⟨o, ho, _⟩ := tt; exact Heap.lt_size ho
    refine ⟨s1.heap.objs.size + 1, [s1.heap.objs.size + 1, s1.heap.objs.size], _, _, H1, rfl, I2, turn_enumT a (s1.heap.objs.size + 1) s1.heap.objs.size (Nat.ne_of_lt hla), ⟨⟨.none, he⟩, ⟨_, hit, rfl, rfl⟩, Nat.succ_ne_self _, fun z => absurd hla (by rw [← z]; exact Nat.not_lt.mpr (Nat.le_succ _))⟩, fun b hb => ?_, q⟩
    have hle : s1.heap.objs.size ≤ b := by
      have eb : b = s1.heap.objs.size + 1 ∨ b = s1.heap.objs.size := by simpa using hb
      rcases eb with rfl | rfl
      · exact Nat.le_succ _
      · exact Nat.le_refl _
    exact I1.fpOk hle (I1.hok.fresh hle)
end Ev
/-! # Ev: blocks that gather into a dict or a set, whatever is gathered. -/
namespace Ev
open PySem PySem.Spec PyProof.Rows
open L2 (V Hp HO upd SqL SqT Rd Cx Inv PE PT PW PA PS PSs PG PGs PI PK VK TE TT TA TS TG TGs TI Ends RelV Vals It Dp DpAll OpR UnR CallR TruR IxR SlR MtR EP TP AP SP FpOk)

/-- how the gathered thing takes what an item gives: from the layer's heap, what is wanted of the heap behind -/
abbrev Taker := (Hp → Prop) → L2.St → Hp → Prop
/-- the walk of a block -/
def tBk (wi : TI) (g : TG) (tt : TT) (o0 : Addr → HO) (El : Addr → Taker) (vs : List Nat) : TE := fun σ H Q => wi σ H fun J H1 => ∀ D, H1 D = none → ∃ W : Nat → Nat → Hp → Prop, (∃ m, W 0 m (upd H1 D (o0 D))) ∧ ∀ i m H, W i m H →
  (J.stop i H ∧ Q (.ref D) H) ∨ (J.go i H ∧ ∃ Nx : Hp → Prop, (∀ H', Nx H' → ∃ m', m' < m ∧ W (i + 1) m' H') ∧ ∀ x H', J.yld i H x H' → g x (L2.wipe σ vs) H' fun σ2 H2 => L2.wipe σ2 vs = L2.wipe σ vs ∧ tt σ2 H2 fun b H3 => if b = true then El D Nx σ2 H3 else Nx H3)
/-- between two turns -/
def Between (Y : Cx) (fp : List Addr) (tn : Nat → Heap → Prop) (σ0 : L2.St) (W : Nat → Nat → Hp → Prop) (n : Nat) (t : Shared) : Prop := ∃ i H, Inv Y [] σ0 H t ∧ tn i t.heap ∧ (∀ b ∈ fp, H b = none) ∧ W i n H
section
variable {X : Cx} {s3 : Shared} {H3 : Hp} {scope : Scope} {ce : Env} {fp : List Addr} {tg : Expr} {J : It} {it : Addr} {tn : Nat → Heap → Prop} {ifs : List Expr} {g : TG} {tt : TT} {σ : L2.St} {vs : List Nat} {W : Nat → Nat → Hp → Prop} {El : Taker} {Stop : Hp → Prop}
theorem blk_turn (hc : X.calm = true) (T : L2.Turn X.prog X.w X.K tg J fp it tn) (pg : PG (X.blk s3 H3 scope ce fp) tg g) (pt : L2.PTs (X.blk s3 H3 scope ce fp) ifs tt)
    (turn : ∀ i m H, W i m H → (J.stop i H ∧ Stop H) ∨ (J.go i H ∧ ∃ Nx : Hp → Prop, (∀ H', Nx H' → ∃ m', m' < m ∧ W (i + 1) m' H') ∧ ∀ x H', J.yld i H x H' → g x (L2.wipe σ vs) H' fun σ2 H2 => L2.wipe σ2 vs = L2.wipe σ vs ∧ tt σ2 H2 fun b H3 => if b = true then El Nx σ2 H3 else Nx H3))
    (n : Nat) (t : Shared) (b : Between (X.blk s3 H3 scope ce fp) fp tn (L2.wipe σ vs) W n t) :
    wpAny (model X.prog X.w) X.A (pyNext (.ref it)) (fun r t1 => match r with
      | none => ∃ H, Inv (X.blk s3 H3 scope ce fp) [] (L2.wipe σ vs) H t1 ∧ Stop H
      | some v => wpAny (model X.prog X.w) X.A (letOwnedTupleGo tg (.ref it) v) (fun _ t2 => wpAny (model X.prog X.w) X.A (assign tg ce v) (fun _ t3 =>
          wpAny (model X.prog X.w) X.A (forIn ifs true fun c r => if r = true then do let ok ← isTrue c ce (eval c ce); pure (ForInStep.yield ok) else pure (ForInStep.yield r)) (fun ok t4 =>
            if ok = true then ∃ pins τ H4 Nx, Inv (X.blk s3 H3 scope ce fp) pins τ H4 t4 ∧ El Nx τ H4 ∧ ∀ t' H', Inv (X.blk s3 H3 scope ce fp) pins τ H' t' → Nx H' → ∃ m, m < n ∧ Between (X.blk s3 H3 scope ce fp) fp tn (L2.wipe σ vs) W m t'
            else ∃ m, m < n ∧ Between (X.blk s3 H3 scope ce fp) fp tn (L2.wipe σ vs) W m t4) (fun _ _ => False) t3) (fun _ _ => False) t2) (fun _ _ => False) t1) (fun _ _ => False) t := by
  obtain ⟨i, H, I, st, no, w⟩ := b
  have fpOk : ∀ {τ : L2.St} {H' : Hp} {t' : Shared}, Inv (X.blk s3 H3 scope ce fp) [] τ H' t' → (∀ b ∈ fp, H' b = none) → ∀ b ∈ fp, FpOk (X.blk s3 H3 scope ce fp) [] H' b := fun {τ H' t'} J' hn b hb =>
    ⟨hn b hb, (J'.ok.exf b hb).1, J'.ok.exfs b hb, .inl hb, fun x c e => (J'.ok.exf b hb).2 x c e, fun p hp => by cases (show p ∈ ([] : List (Addr × Obj)) ++ [] from hp)⟩
  rcases turn i n H w with ⟨stop, q⟩ | ⟨go, Nx, hNx, step⟩
  · refine L2.thnF (T.done (X.blk s3 H3 scope ce fp) rfl rfl rfl hc i [] t _ H (fun _ _ => False) I (fpOk I no) st stop) fun r t1 ⟨hr, I1⟩ => ?_
    subst hr
    exact ⟨H, I1, q⟩
  · refine L2.thnF (T.item (X.blk s3 H3 scope ce fp) rfl rfl rfl hc i [] t _ H (fun _ _ => False) I (fpOk I no) st go) fun r t1 ⟨u, hr, h1⟩ => ?_
    subst hr
    refine L2.thnF h1 fun _ t2 ⟨x, H2, I2, r2, y2, st2, n2⟩ => ?_
    have I2' := I2.pinned (fpOk I2 n2) (T.obj _ _ st2)
    refine L2.thnF (pg.run _ t2 _ H2 x u _ I2' r2 (step x H2 y2)) fun _ t3 ⟨τ, H5, I5, hw, q5⟩ => ?_
    have fin : ∀ (t' : Shared) (H' : Hp), Inv (X.blk s3 H3 scope ce fp) ([] ++ L2.pinsAt fp t2.heap) τ H' t' → Nx H' → ∃ m, m < n ∧ Between (X.blk s3 H3 scope ce fp) fp tn (L2.wipe σ vs) W m t' := fun t' H' I' nx => by
      obtain ⟨m, hm, w'⟩ := hNx H' nx
      have held : ∀ b ∈ fp, ∀ o, t2.heap.get? b = some o → t'.heap.get? b = some o ∧ H' b = none := fun b hb o e =>
        have z := I'.pin (b, o) (List.mem_append_right _ (List.mem_append_right _ (L2.mem_pinsAt hb e)))
        ⟨z.1, z.2.1⟩
      refine ⟨m, hm, i + 1, H', (I'.unpinned (pins := [])).weak (by rw [← hw, L2.wipe_length]) (fun j v e => ?_), T.keep _ _ _ st2 fun b hb o e => (held b hb o e).1, fun b hb => ?_, w'⟩
      · rw [← hw] at e
        exact (L2.wipe_some e).1
      · obtain ⟨o, e, _⟩ := T.obj _ _ st2 b hb
        exact (held b hb o e).2
    refine L2.thnF (pt.run _ t3 τ H5 _ I5 q5) fun b t4 ⟨H6, I6, q6⟩ => ?_
    cases b with
    | false => exact fin t4 H6 I6 q6
    | true => exact ⟨_, τ, H6, Nx, I6, q6, fin⟩
end
section
variable {X : Cx} {pins : List (Addr × Obj)} {σ : L2.St} {H : Hp} {s : Shared} {scope : Scope} {own : List (Str × Nat)} {fp : List Addr} {D : Addr}
/-- .. ended: back in the def -/
theorem blk_back {s3 : Shared} {H3 H5 : Hp} {cl : List (Str × Addr)} {τ : L2.St} {t : Shared} (I3 : Inv X pins σ H3 s3) (f3 : ∀ b ∈ fp, FpOk X pins H3 b) (I : Inv (X.blk s3 H3 scope (compEnvC scope cl s3.heap.objs.size X.env) fp) [] τ H5 t) :
    Inv X pins σ H5 t ∧ ∃ m, t.heap.Ns s3.heap.objs.size m ∧ ∀ h', Heap.SameBut s3.heap.objs.size t.heap h' → Inv X pins σ H5 { t with heap := h' } := by
  have J : Inv X pins σ H5 t := I3.call' (ch := fp) I.os I.base I.hok I.bare fun b hb => ⟨(f3 b hb).2.2.2.1, (f3 b hb).2.1, (f3 b hb).2.2.2.2.1, (f3 b hb).2.2.2.2.2⟩
  have nC : H5 s3.heap.objs.size = none := I.free
  obtain ⟨m, hn, _⟩ := I.loc
  obtain ⟨f0, f1, f2, f3', f4, f5⟩ := I3.fpOk (Nat.le_refl _) nC
  exact ⟨J, m, hn, fun h' sb => J.turned (t' := t.toks) (fun b o hb e => (sb.2 b hb).trans e) f0 f1 f3' f4 f5⟩
end
section
variable {X : Cx} {kx vx tg iter : Expr} {ifs : List Expr} {scope : Scope} {own : List (Str × Nat)} {pos : Pos} {wi : TI} {g : TG} {tt : TT} {El : Addr → Taker}
/-- {k: v for target in iter if ..}: D the new dict -/
theorem pe_dcG (hc : X.calm = true) (hN : X.N.Nodup) (hi : PI X tg iter wi) (ok : L2.BlkOk X.N X.env.scope scope own)
    (hg : ∀ (s : Shared) (H : Hp) (C : Addr) (cl : List (Str × Addr)) (fp : List Addr), PG (X.blk s H scope (compEnvC scope cl C X.env) fp) tg g)
    (ht : ∀ (s : Shared) (H : Hp) (C : Addr) (cl : List (Str × Addr)) (fp : List Addr), L2.PTs (X.blk s H scope (compEnvC scope cl C X.env) fp) ifs tt)
    (he : ∀ (s : Shared) (H : Hp) (C : Addr) (cl : List (Str × Addr)) (fp : List Addr) (D : Addr) (pins : List (Addr × Obj)) (τ : L2.St) (H4 : Hp) (t : Shared) (Nx : Hp → Prop), Inv (X.blk s H scope (compEnvC scope cl C X.env) fp) pins τ H4 t → El D Nx τ H4 →
      wpAny (model X.prog X.w) X.A (eval kx (compEnvC scope cl C X.env)) (fun kv t1 => wpAny (model X.prog X.w) X.A (eval vx (compEnvC scope cl C X.env)) (fun vv t2 => wpAny (model X.prog X.w) X.A (dictSet D kv vv) (fun _ t3 => ∃ H', Inv (X.blk s H scope (compEnvC scope cl C X.env) fp) pins τ H' t3 ∧ Nx H') (fun _ _ => False) t2) (fun _ _ => False) t1) (fun _ _ => False) t)
    (hs : ∀ x, foldedSetIterable iter X.env x = pure x) : PE X (.DictComp kx vx [⟨tg, iter, ifs, 0⟩] scope pos) (tBk wi g tt (fun _ => .dK []) El (own.map (·.2))) := by
  refine ⟨fun pins s σ H Q I h => ?_⟩
  rw [arm_eval_DictComp]
  refine wpAny_comprehension_free (use := none) rfl hs (L2.closure_ok fun y hy e => (ok.free y hy e).elim (fun k => I.ok.has _ (.inl k)) fun k => I.ok.has _ (.inr k)) ok.kind (fun y hy e => by rw [ok.uniq y hy, e]) (L2.thn (hi.run pins s σ H _ I h) fun xv s1 hx => L2.thn hx fun itv s2 h2 => ?_)
  obtain ⟨it, fp, tn, J, H2, e, I2, T, st2, f2, q⟩ := h2
  subst e
  refine wpAny_newObj_type (L2.newEnv_comp ?_)
  obtain ⟨W, ⟨m0, w0⟩, turn⟩ := q s2.heap.objs.size (I2.hok.fresh (Nat.le_refl _))
  have I3 : Inv X pins σ (upd H2 s2.heap.objs.size (.dK [])) { s2 with heap := s2.heap.push { cls := .type "dict", data := .dict #[] } } := I2.laid (t' := s2.toks) (fun b o e => Heap.get?_push_of_some _ e) (Nat.le_refl _) (L2.dk_empty s2.heap I2.big)
  have inFp : ∀ b ∈ fp, b < s2.heap.objs.size := fun b hb => by
    obtain ⟨o, e, _⟩ := T.obj _ _ st2 b hb
    exact Heap.lt_size e
  have f3 : ∀ b ∈ fp, FpOk X pins (upd H2 s2.heap.objs.size (.dK [])) b := fun b hb => ⟨by rw [L2.upd_ne (Nat.ne_of_lt (inFp b hb))]; exact (f2 b hb).1, (f2 b hb).2⟩
  have st3 : tn 0 (s2.heap.push { cls := .type "dict", data := .dict #[] }) := T.keep _ _ _ st2 fun b _ o e => Heap.get?_push_of_some _ e
  have I4 := L2.block_start I3 ok hN fun b hb => ⟨f3 b hb, by rw [Heap.size_push]; exact Nat.lt_succ_of_lt (inFp b hb)⟩
  have st4 := T.keep _ _ _ st3 fun b _ o e => pushCells_keeps scope.names ((s2.heap.push { cls := .type "dict", data := .dict #[] }).push { cls := .type "dict", data := .dict #[] }) _ _ (Heap.get?_push_of_some _ e)
  have pg := hg { s2 with heap := s2.heap.push { cls := .type "dict", data := .dict #[] } } (upd H2 s2.heap.objs.size (.dK [])) (s2.heap.push { cls := .type "dict", data := .dict #[] }).objs.size (cellsFrom ((s2.heap.push { cls := .type "dict", data := .dict #[] }).objs.size + 1) scope.names (L2.cloFrom X.env.cells scope.names [])) fp
  have pt := ht { s2 with heap := s2.heap.push { cls := .type "dict", data := .dict #[] } } (upd H2 s2.heap.objs.size (.dK [])) (s2.heap.push { cls := .type "dict", data := .dict #[] }).objs.size (cellsFrom ((s2.heap.push { cls := .type "dict", data := .dict #[] }).objs.size + 1) scope.names (L2.cloFrom X.env.cells scope.names [])) fp
  have pe := he { s2 with heap := s2.heap.push { cls := .type "dict", data := .dict #[] } } (upd H2 s2.heap.objs.size (.dK [])) (s2.heap.push { cls := .type "dict", data := .dict #[] }).objs.size (cellsFrom ((s2.heap.push { cls := .type "dict", data := .dict #[] }).objs.size + 1) scope.names (L2.cloFrom X.env.cells scope.names [])) fp s2.heap.objs.size
  generalize hs3 : ({ s2 with heap := s2.heap.push { cls := .type "dict", data := .dict #[] } } : Shared) = s3 at I3 I4 pg pt pe
  have e3 : (s2.heap.push { cls := .type "dict", data := .dict #[] }) = s3.heap := by rw [← hs3]
  try rw [e3] at st3
  try rw [e3] at st4
  try rw [e3]
  try rw [e3] at pg
  try rw [e3] at pt
  try rw [e3] at pe
  have loop : codeAny (model X.prog X.w) X.A (.compLoop (.DictComp kx vx [⟨tg, iter, ifs, 0⟩] scope pos) 0 (.ref it) (.ref s2.heap.objs.size) (compEnvC scope (cellsFrom (s3.heap.objs.size + 1) scope.names (L2.cloFrom X.env.cells scope.names [])) s3.heap.objs.size X.env))
      (compPost (model X.prog X.w) X.A X.xe none (EP X pins σ Q) (.ref s2.heap.objs.size) s3.heap.objs.size) { s3 with heap := pushCells (s3.heap.push { cls := .type "dict", data := .dict #[] }) scope.names } := by
    refine L2.compLoop_anyD (Between (X.blk s3 (upd H2 s2.heap.objs.size (.dK [])) scope (compEnvC scope (cellsFrom (s3.heap.objs.size + 1) scope.names (L2.cloFrom X.env.cells scope.names [])) s3.heap.objs.size X.env) fp) fp tn (L2.wipe σ (own.map (·.2))) W) (fun n t b => ?_) m0 ⟨0, _, I4, st4, fun b hb => (f3 b hb).1, w0⟩
    refine L2.thnF (blk_turn hc T pg pt turn n t b) fun r t1 h1 => ?_
    cases r with
    | none =>
      obtain ⟨H5, I5, q5⟩ := h1
      obtain ⟨_, m, b1, b2⟩ := blk_back I3 f3 I5
      exact ⟨m, b1, fun h' sb => ⟨.ref s2.heap.objs.size, H5, b2 h' sb, rfl, q5⟩⟩
    | some v =>
      refine L2.thnF h1 fun _ t2 h2 => L2.thnF h2 fun _ t3 h3 => L2.thnF h3 fun okk t4 h4 => ?_
      cases okk with
      | false => exact h4
      | true =>
        obtain ⟨pins', τ, H4, Nx, I6, el, fin⟩ := h4
        exact L2.thnF (pe pins' τ H4 t4 Nx I6 el) fun kv t5 h5 => L2.thnF h5 fun vv t6 h6 => L2.thnF h6 fun _ t7 ⟨H', I7, nx⟩ => fin t7 H' I7 nx
  exact codeAny_compStart_dict loop (T.self X.A 0 _ _ _ st4 loop)
end
end Ev
/-! # Ev, part 8: what is walked, comprehensions. -/
namespace Ev
open PySem PySem.Spec
open L2 (V Hp HO upd SqL SqT Rd Cx Inv PE PT PW PA PS PSs PG PGs PI PK VK TE TT TA TS TG TGs TI Ends RelV Vals It Dp DpAll OpR UnR CallR TruR IxR SlR MtR EP TP AP SP)

/-- the heap as it was, or with one new object -/
def Lay (H H' : Hp) : Prop := H' = H ∨ ∃ T o, H T = none ∧ H' = upd H T o
theorem Lay.rel {K : PySem.W.Frag} {F : Fm} {Z : Addr → Prop} {ms : List Addr} {g : G} {σ : L2.St} {H H' : Hp} (y : Lay H H') (R : Rel K F Z ms g σ H) : Le Z ms H Z ms H' ∧ Rel K F Z ms g σ H' := by
  rcases y with rfl | ⟨T, o, h, rfl⟩
  · exact ⟨.refl, R⟩
  · exact ⟨Le.upd h, R.laid h⟩
/-- what a target is handed: a tuple that is unpacked at once may be any -/
def YOk (K : PySem.W.Frag) (Z : Addr → Prop) (ms : List Addr) (H : Hp) : MT → PV → V → Prop
  | .nm _, y, x => Den K Z ms H y x
  | .tp _, y, x => Den K Z ms H y x ∨ ∃ ys a vs, y = .tup ys ∧ x = .ref a ∧ SqT K H a vs ∧ Dens K Z ms H ys vs
theorem YOk.of {K : PySem.W.Frag} {Z : Addr → Prop} {ms : List Addr} {H : Hp} {t : MT} {y : PV} {x : V} (h : Den K Z ms H y x) : YOk K Z ms H t y x := by
  cases t with
  | nm _ => exact h
  | tp _ => exact .inl h
theorem bind_okY {K : PySem.W.Frag} {F : Fm} {Z : Addr → Prop} {ms : List Addr} {H : Hp} {Q : L2.St → Hp → Prop} {t : MT} {y : PV} {x : V} {g g' : G} {σ : L2.St} {u : Unit} {all : List Nat} (ha : ∀ i ∈ t.slots, i ∈ all) (R : Rel K F Z ms g σ H) (ok : YOk K Z ms H t y x) (e : bindT t (.val y) g = .ok u g')
    (k : ∀ σ', Rel K F Z ms g' σ' H → L2.wipe σ' all = L2.wipe σ all → Q σ' H) : gT K t x σ H Q := by
  cases t with
  | nm i =>
    obtain ⟨hi, rfl⟩ := setVar_ok e
    exact k _ (R.set (r := .val y) ok hi) (wipe_set (ha i (List.mem_singleton.mpr rfl)))
  | tp is =>
    have go : ∀ ys a vs, y = .tup ys → x = .ref a → SqT K H a vs → Dens K Z ms H ys vs → gT K (.tp is) x σ H Q := by
      rintro ys a vs rfl rfl h1 h2
      have e' : setVars is ys g = .ok u g' := e
      exact ⟨a, vs, rfl, h1, by rw [h2.length]; exact (setVars_len e').symm, setVars_ok is ys vs g g' σ u R h2 e' ha rfl k⟩
    rcases ok with ok | ⟨ys, a, vs, h1, h2, h3, h4⟩
    · cases y with
      | tup ys =>
        simp only [Den] at ok
        obtain ⟨a, vs, h1, h2, h3⟩ := ok
        exact go ys a vs rfl h1 h2.sqT h3
      | _ => cases e
    · exact go ys a vs h1 h2 h3 h4
/-- J walks xs, in all heaps behind -/
def ItOk (K : PySem.W.Frag) (t : MT) (Z : Addr → Prop) (ms : List Addr) (H : Hp) (J : It) (xs : List PV) : Prop := ∀ Z' ms' H', Le Z ms H Z' ms' H' → ∀ i : Nat, (xs.length ≤ i → J.stop i H') ∧ ∀ y, xs[i]? = some y → J.go i H' ∧ ∀ x H'', J.yld i H' x H'' → Lay H' H'' ∧ YOk K Z' ms' H'' t y x
def tIt (K : PySem.W.Frag) (F : Fm) (W : Wish) (t : MT) (f : M (List PV)) : TI := fun σ H R => ∃ Z ms g, Rel K F Z ms g σ H ∧ Sat K F W σ Z ms H (f g) fun xs Z' ms' g' H' => ∀ J, ItOk K t Z' ms' H' J xs → R J H'
def tItx (K : PySem.W.Frag) (w : World) (t : MT) (f : M (List PV)) : TI := fun σ H R => ∃ F, F.w = w ∧ tIt K F noW t f σ H R
theorem itl_ok {K : PySem.W.Frag} {t : MT} {Z : Addr → Prop} {ms : List Addr} {H : Hp} {a : Addr} {xs : List PV} {vs : List V} (h : ∀ Z' ms' H', Le Z ms H Z' ms' H' → SqL K H' a vs) (d : Dens K Z ms H xs vs) : ItOk K t Z ms H (L2.Itl K a) xs := by
  intro Z' ms' H' l i
  have h1 := h Z' ms' H' l
  have d' := Dens.mono l _ _ d
  refine ⟨fun hi => ⟨vs, h1, by rw [d.length]; exact hi⟩, fun y hy => ?_⟩
  obtain ⟨v, e1, e2⟩ := d'.get hy
  refine ⟨⟨vs, v, h1, e1⟩, fun x H'' q => ?_⟩
  obtain ⟨rfl, q2⟩ := q
  have q2 := q2 vs h1
  rw [e1] at q2
  cases q2
  exact ⟨.inl rfl, .of e2⟩
theorem itt_ok {K : PySem.W.Frag} {t : MT} {Z : Addr → Prop} {ms : List Addr} {H : Hp} {a : Addr} {xs : List PV} {vs : List V} (h : ∀ Z' ms' H', Le Z ms H Z' ms' H' → SqT K H' a vs) (d : Dens K Z ms H xs vs) : ItOk K t Z ms H (L2.Itt K a) xs := by
  intro Z' ms' H' l i
  have h1 := h Z' ms' H' l
  have d' := Dens.mono l _ _ d
  refine ⟨fun hi => ⟨vs, h1, by rw [d.length]; exact hi⟩, fun y hy => ?_⟩
  obtain ⟨v, e1, e2⟩ := d'.get hy
  refine ⟨⟨vs, v, h1, e1⟩, fun x H'' q => ?_⟩
  obtain ⟨rfl, q2⟩ := q
  have q2 := q2 vs h1
  rw [e1] at q2
  cases q2
  exact ⟨.inl rfl, .of e2⟩
theorem itr_ok {K : PySem.W.Frag} {t : MT} {Z : Addr → Prop} {ms : List Addr} {H : Hp} {lo hi : Int} : ItOk K t Z ms H (L2.Itr lo (hi - lo).toNat) (rgItems lo hi) := by
  intro Z' ms' H' l i
  have hl : (rgItems lo hi).length = (hi - lo).toNat := by simp [rgItems]
  refine ⟨fun h => by rw [hl] at h; exact h, fun y hy => ?_⟩
  have hi' : i < (hi - lo).toNat := by rw [← hl]; exact (List.getElem?_eq_some_iff.mp hy).1
  refine ⟨hi', fun x H'' q => ?_⟩
  have e : (rgItems lo hi)[i]? = some (PV.int (lo + (i : Nat))) := by
    unfold rgItems
    rw [List.getElem?_map, List.getElem?_range hi']
    rfl
  rw [e] at hy
  cases hy
  obtain ⟨rfl, rfl⟩ := q
  exact ⟨.inl rfl, .of (by simp only [Den])⟩
theorem enuL_get : ∀ {xs : List PV} {k i : Nat}, (enuL k xs)[i]? = (xs[i]?).map fun x => PV.tup [.int ((k + i : Nat) : Int), x]
  | [], k, i => by simp [enuL]
  | x :: xs, k, 0 => by simp [enuL]
  | x :: xs, k, i + 1 => by
    rw [enuL, List.getElem?_cons_succ, enuL_get, List.getElem?_cons_succ]
    have : k + 1 + i = k + (i + 1) := by omega
    rw [this]
theorem enuL_len : ∀ {xs : List PV} {k : Nat}, (enuL k xs).length = xs.length
  | [], k => rfl
  | x :: xs, k => by simp [enuL, enuL_len]
theorem pair_ok {K : PySem.W.Frag} {Z : Addr → Prop} {ms : List Addr} {H : Hp} {is : List Nat} {T : Addr} {y z : PV} {v w : V} (hT : H T = none) (h1 : Den K Z ms H y v) (h2 : Den K Z ms H z w) : YOk K Z ms (upd H T (.tup [v, w])) (.tp is) (.tup [y, z]) (.ref T) :=
  .inr ⟨_, T, _, rfl, rfl, .inl (.inl L2.upd_same), .cons (Den.mono (Le.upd hT) _ _ h1) (.cons (Den.mono (Le.upd hT) _ _ h2) .nil)⟩
theorem ite_ok {K : PySem.W.Frag} {is : List Nat} {Z : Addr → Prop} {ms : List Addr} {H : Hp} {a : Addr} {xs : List PV} {vs : List V} (h : ∀ Z' ms' H', Le Z ms H Z' ms' H' → SqL K H' a vs) (d : Dens K Z ms H xs vs) : ItOk K (.tp is) Z ms H (L2.Ite K a) (enuL 0 xs) := by
  intro Z' ms' H' l i
  have h1 := h Z' ms' H' l
  have d' := Dens.mono l _ _ d
  refine ⟨fun hi => ⟨vs, h1, by rw [d.length]; rw [enuL_len] at hi; exact hi⟩, fun y hy => ?_⟩
  rw [enuL_get] at hy
  obtain ⟨z, hz, rfl⟩ := Option.map_eq_some_iff.mp hy
  obtain ⟨v, e1, e2⟩ := d'.get hz
  refine ⟨⟨vs, v, h1, e1⟩, fun x H'' q => ?_⟩
  obtain ⟨T, w, rfl, hT, rfl, q⟩ := q
  have q := q vs h1
  rw [e1] at q
  cases q
  rw [Nat.zero_add]
  exact ⟨.inr ⟨T, _, hT, rfl⟩, pair_ok hT (by simp only [Den]) e2⟩
theorem iteT_ok {K : PySem.W.Frag} {is : List Nat} {Z : Addr → Prop} {ms : List Addr} {H : Hp} {a : Addr} {xs : List PV} {vs : List V} (h : ∀ Z' ms' H', Le Z ms H Z' ms' H' → SqT K H' a vs) (d : Dens K Z ms H xs vs) : ItOk K (.tp is) Z ms H (IteT K a) (enuL 0 xs) := by
  intro Z' ms' H' l i
  have h1 := h Z' ms' H' l
  have d' := Dens.mono l _ _ d
  refine ⟨fun hi => ⟨vs, h1, by rw [d.length]; rw [enuL_len] at hi; exact hi⟩, fun y hy => ?_⟩
  rw [enuL_get] at hy
  obtain ⟨z, hz, rfl⟩ := Option.map_eq_some_iff.mp hy
  obtain ⟨v, e1, e2⟩ := d'.get hz
  refine ⟨⟨vs, v, h1, e1⟩, fun x H'' q => ?_⟩
  obtain ⟨T, w, rfl, hT, rfl, q⟩ := q
  have q := q vs h1
  rw [e1] at q
  cases q
  rw [Nat.zero_add]
  exact ⟨.inr ⟨T, _, hT, rfl⟩, pair_ok hT (by simp only [Den]) e2⟩
theorem zipL_get : ∀ {xs ys : List PV} {i : Nat} {z : PV}, (zipL xs ys)[i]? = some z → ∃ x y, xs[i]? = some x ∧ ys[i]? = some y ∧ z = .tup [x, y]
  | [], ys, i, z, h => by simp [zipL] at h
  | x :: xs, [], i, z, h => by simp [zipL] at h
  | x :: xs, y :: ys, 0, z, h => by
    simp [zipL] at h
    exact ⟨x, y, rfl, rfl, h.symm⟩
  | x :: xs, y :: ys, i + 1, z, h => by
    simp only [zipL, List.getElem?_cons_succ] at h ⊢
    exact zipL_get h
theorem zipL_len : ∀ {xs ys : List PV} {i : Nat}, (zipL xs ys).length ≤ i → xs.length ≤ i ∨ ys.length ≤ i
  | [], ys, i, h => .inl (Nat.zero_le _)
  | x :: xs, [], i, h => .inr (Nat.zero_le _)
  | x :: xs, y :: ys, 0, h => by simp [zipL] at h
  | x :: xs, y :: ys, i + 1, h => by
    simp only [zipL, List.length_cons] at h ⊢
    have := zipL_len (xs := xs) (ys := ys) (i := i) (by omega)
    omega
theorem itz_ok {K : PySem.W.Frag} {is : List Nat} {Z : Addr → Prop} {ms : List Addr} {H : Hp} {a b : Addr} {xs ys : List PV} {vs ws : List V} (h : ∀ Z' ms' H', Le Z ms H Z' ms' H' → SqL K H' a vs ∧ SqL K H' b ws) (d : Dens K Z ms H xs vs) (d2 : Dens K Z ms H ys ws) : ItOk K (.tp is) Z ms H (L2.Itz K a b) (zipL xs ys) := by
  intro Z' ms' H' l i
  obtain ⟨h1, h2⟩ := h Z' ms' H' l
  have d' := Dens.mono l _ _ d
  have d2' := Dens.mono l _ _ d2
  refine ⟨fun hi => ⟨vs, ws, h1, h2, by rw [d.length, d2.length]; exact zipL_len hi⟩, fun y hy => ?_⟩
  obtain ⟨x1, x2, q1, q2, rfl⟩ := zipL_get hy
  obtain ⟨v, e1, e2⟩ := d'.get q1
  obtain ⟨w, e3, e4⟩ := d2'.get q2
  refine ⟨⟨vs, ws, v, w, h1, h2, e1, e3⟩, fun x H'' q => ?_⟩
  obtain ⟨T, v', w', rfl, hT, rfl, k1, k2⟩ := q
  have k1 := k1 vs h1
  have k2 := k2 ws h2
  rw [e1] at k1
  rw [e3] at k2
  cases k1
  cases k2
  exact ⟨.inr ⟨T, _, hT, rfl⟩, pair_ok hT e2 e4⟩
theorem itzT_ok {K : PySem.W.Frag} {is : List Nat} {Z : Addr → Prop} {ms : List Addr} {H : Hp} {a b : Addr} {xs ys : List PV} {vs ws : List V} (h : ∀ Z' ms' H', Le Z ms H Z' ms' H' → SqT K H' a vs ∧ SqT K H' b ws) (d : Dens K Z ms H xs vs) (d2 : Dens K Z ms H ys ws) : ItOk K (.tp is) Z ms H (RZ.ItzT K a b) (zipL xs ys) := by
  intro Z' ms' H' l i
  obtain ⟨h1, h2⟩ := h Z' ms' H' l
  have d' := Dens.mono l _ _ d
  have d2' := Dens.mono l _ _ d2
  refine ⟨fun hi => ⟨vs, ws, h1, h2, by rw [d.length, d2.length]; exact zipL_len hi⟩, fun y hy => ?_⟩
  obtain ⟨x1, x2, q1, q2, rfl⟩ := zipL_get hy
  obtain ⟨v, e1, e2⟩ := d'.get q1
  obtain ⟨w, e3, e4⟩ := d2'.get q2
  refine ⟨⟨vs, ws, v, w, h1, h2, e1, e3⟩, fun x H'' q => ?_⟩
  obtain ⟨T, v', w', rfl, hT, rfl, k1, k2⟩ := q
  have k1 := k1 vs h1
  have k2 := k2 ws h2
  rw [e1] at k1
  rw [e3] at k2
  cases k1
  cases k2
  exact ⟨.inr ⟨T, _, hT, rfl⟩, pair_ok hT e2 e4⟩

section
variable {X : Cx} {F : Fm} {W : Wish} {tg : Expr} {t : MT}
theorem p_it {c : Call} {a : ME} {e : Expr} (h : PE X e (tE X.K F W (ev c a))) : PI X tg e (tIt X.K F W t (evi c (.it a))) := by
  refine ⟨fun pins s σ H Rr I ⟨Z, ms, g, R, S⟩ => ?_⟩
  simp only [evi_it] at S
  rcases S.split with ⟨x0, g1, e1, S1⟩ | ⟨r, g1, e1, S1⟩
  · exact (L2.pi_list (PE.v h)).run pins s σ H Rr I ⟨Z, ms, g, R, Sat.exc e1 S1⟩
  obtain ⟨xs, e2, S2⟩ := S1.lift
  unfold itemsI at e2
  split at e2
  · rename_i z hr
    cases e2
    refine (L2.pi_str (PE.v h)).run pins s σ H Rr I ⟨Z, ms, g, R, Sat.mk e1 fun Z1 ms1 H1 l1 R1 x d1 => ?_⟩
    rw [hr] at d1
    simp only [Den] at d1
    subst d1
    refine ⟨z, rfl, S2 Z1 ms1 H1 l1 R1 _ fun Z' ms' H' l i => ⟨fun hi => show z.cps.size ≤ i by simpa using hi, fun y hy => ?_⟩⟩
    rw [List.getElem?_map] at hy
    obtain ⟨k, hk, rfl⟩ := Option.map_eq_some_iff.mp hy
    rw [Array.getElem?_toList] at hk
    refine ⟨(Array.getElem?_eq_some_iff.mp hk).1, fun x H'' q => ?_⟩
    obtain ⟨rfl, k', hk', rfl⟩ := q
    rw [hk] at hk'
    cases hk'
    exact ⟨.inl rfl, .of (by simp only [Den])⟩
  unfold itemsOf at e2
  split at e2
  · rename_i hr
    cases e2
    refine (L2.pi_list (PE.v h)).run pins s σ H Rr I ⟨Z, ms, g, R, Sat.mk e1 fun Z1 ms1 H1 l1 R1 x d1 => ?_⟩
    rw [hr] at d1
    simp only [Den] at d1
    obtain ⟨b, vs, rfl, hz, hb, d⟩ := d1
    refine ⟨b, rfl, ⟨vs, .inl (.inl hb)⟩, S2 Z1 ms1 H1 l1 R1 _ (itl_ok (fun Z' ms' H' l => ?_) d)⟩
    exact .inl (.inl (l.zh b vs hz hb))
  · rename_i hr
    cases e2
    refine (L2.pi_tup (PE.v h)).run pins s σ H Rr I ⟨Z, ms, g, R, Sat.mk e1 fun Z1 ms1 H1 l1 R1 x d1 => ?_⟩
    rw [hr] at d1
    simp only [Den] at d1
    obtain ⟨b, vs, rfl, hb, d⟩ := d1
    exact ⟨b, rfl, ⟨vs, hb.sqT⟩, S2 Z1 ms1 H1 l1 R1 _ (itt_ok (fun Z' ms' H' l => (l.tupD hb).sqT) d)⟩
  · rename_i ns hr
    cases e2
    refine (L2.pi_list (PE.v h)).run pins s σ H Rr I ⟨Z, ms, g, R, Sat.mk e1 fun Z1 ms1 H1 l1 R1 x d1 => ?_⟩
    rw [hr] at d1
    simp only [Den] at d1
    obtain ⟨b, rfl, hb⟩ := d1
    exact ⟨b, rfl, ⟨_, hb.sq⟩, S2 Z1 ms1 H1 l1 R1 _ (itl_ok (fun Z' ms' H' l => (l.fzL hb).sq) (Dens.ints ns))⟩
  · cases e2
theorem p_rg1 {c : Call} {a : ME} {e : Expr} {p pos : Pos} (hg : L2.Gl X "range") (hm : X.mg "range" = none) (h : PE X e (tE X.K F W (ev c a))) (hs : starEach [e] X.env = [(false, eval e X.env)] := by rfl) : PI X tg (.Call (.Name "range" p) [e] [] pos) (tIt X.K F W t (evi c (.rg1 a))) := by
  refine ⟨fun pins s σ H Rr I ⟨Z, ms, g, R, S⟩ => ?_⟩
  simp only [evi_rg1] at S
  rcases S.split with ⟨x0, g1, e1, S1⟩ | ⟨r, g1, e1, S1⟩
  · exact (L2.pi_range1 hg hm (L2.pa_cons (PE.v h) L2.pa_nil hs) hs).run pins s σ H Rr I ⟨Z, ms, g, R, Sat.exc e1 S1⟩
  obtain ⟨j, e2, S2⟩ := S1.stepL
  split at S2
  · rename_i hj
    refine (L2.pi_range1 hg hm (L2.pa_cons (PE.v h) L2.pa_nil hs) hs).run pins s σ H Rr I ⟨Z, ms, g, R, Sat.mk e1 fun Z1 ms1 H1 l1 R1 x d1 => ?_⟩
    rw [asInt_some e2] at d1
    simp only [Den] at d1
    subst d1
    refine ⟨j, rfl, (rgOk_iff.mp hj).1, (rgOk_iff.mp hj).2, S2 Z1 ms1 H1 l1 R1 _ ?_⟩
    have := itr_ok (K := X.K) (t := t) (Z := Z1) (ms := ms1) (H := H1) (lo := 0) (hi := j)
    rw [Int.sub_zero] at this
    exact this
  · exact S2.elim
theorem p_rg2 {c : Call} {a b : ME} {e e' : Expr} {p pos : Pos} (hg : L2.Gl X "range") (hm : X.mg "range" = none) (h : PE X e (tE X.K F W (ev c a))) (h' : PE X e' (tE X.K F W (ev c b))) (hs : starEach [e, e'] X.env = [(false, eval e X.env), (false, eval e' X.env)] := by rfl)
    (hs2 : starEach [e'] X.env = [(false, eval e' X.env)] := by rfl) : PI X tg (.Call (.Name "range" p) [e, e'] [] pos) (tIt X.K F W t (evi c (.rg2 a b))) := by
  refine ⟨fun pins s σ H Rr I ⟨Z, ms, g, R, S⟩ => ?_⟩
  simp only [evi_rg2] at S
  rcases S.split with ⟨x0, g1, e1, S1⟩ | ⟨r, g1, e1, S1⟩
  · exact (L2.pi_range2 hg hm (L2.pa_cons (PE.v h) (L2.pa_cons (PE.v h') L2.pa_nil hs2) (by rw [hs, hs2])) hs hs2).run pins s σ H Rr I ⟨Z, ms, g, R, Sat.exc e1 S1⟩
  rcases S1.split with ⟨x0, g2, e2, S2⟩ | ⟨r2, g2, e2, S2⟩
  · exact (L2.pi_range2 hg hm (L2.pa_cons (PE.v h) (L2.pa_cons (PE.v h') L2.pa_nil hs2) (by rw [hs, hs2])) hs hs2).run pins s σ H Rr I ⟨Z, ms, g, R, Sat.mk e1 fun Z1 ms1 H1 l1 R1 x d1 => ⟨Z1, ms1, g1, R1, Sat.exc e2 fun Z' ms' H' l => S2 Z' ms' H' (l1.trans l)⟩⟩
  obtain ⟨i, e3, S3⟩ := S2.stepL
  obtain ⟨j, e4, S4⟩ := S3.stepL
  split at S4
  · rename_i hj
    refine (L2.pi_range2 hg hm (L2.pa_cons (PE.v h) (L2.pa_cons (PE.v h') L2.pa_nil hs2) (by rw [hs, hs2])) hs hs2).run pins s σ H Rr I ⟨Z, ms, g, R, Sat.mk e1 fun Z1 ms1 H1 l1 R1 x d1 => ?_⟩
    refine ⟨Z1, ms1, g1, R1, Sat.mk e2 fun Z2 ms2 H2 l2 R2 y d2 => ?_⟩
    rw [asInt_some e3] at d1
    rw [asInt_some e4] at d2
    simp only [Den] at d1 d2
    subst d1 d2
    exact ⟨i, j, rfl, ⟨(rgOk_iff.mp hj.1).1, (rgOk_iff.mp hj.1).2, (rgOk_iff.mp hj.2).1, (rgOk_iff.mp hj.2).2⟩, S4 Z2 ms2 H2 (l1.trans l2) R2 _ itr_ok⟩
  · exact S4.elim
theorem p_enu {c : Call} {a : ME} {e : Expr} {is : List Nat} {elts : List Expr} {kk : Nat} {p pos tpos : Pos} (hg : L2.Gl X "enumerate") (hm : X.mg "enumerate" = none) (h : PE X e (tE X.K F W (ev c a))) (hs : starEach [e] X.env = [(false, eval e X.env)]) :
    PI X (.Tuple elts kk tpos) (.Call (.Name "enumerate" p) [e] [] pos) (tIt X.K F W (.tp is) (evi c (.enu a))) := by
  refine ⟨fun pins s σ H Rr I ⟨Z, ms, g, R, S⟩ => ?_⟩
  simp only [evi_enu] at S
  have hA : PA X [e] (L2.tCons (tV X.K F W (ev c a)) L2.tNil) := L2.pa_cons (PE.v h) L2.pa_nil hs
  rcases S.split with ⟨x0, g1, e1, S1⟩ | ⟨r, g1, e1, S1⟩
  · exact (L2.pi_enum hg hm hA hs).run pins s σ H Rr I ⟨Z, ms, g, R, Sat.exc e1 S1⟩
  obtain ⟨xs, e2, S2⟩ := S1.stepL
  unfold itemsOf at e2
  split at e2
  · rename_i hr
    cases e2
    refine (L2.pi_enum hg hm hA hs).run pins s σ H Rr I ⟨Z, ms, g, R, Sat.mk e1 fun Z1 ms1 H1 l1 R1 x d1 => ?_⟩
    rw [hr] at d1
    simp only [Den] at d1
    obtain ⟨b, vs, rfl, hz, hb, d⟩ := d1
    exact ⟨b, vs, rfl, .inl (.inl hb), S2 Z1 ms1 H1 l1 R1 _ (ite_ok (fun Z' ms' H' l => .inl (.inl (l.zh b vs hz hb))) d)⟩
  · rename_i hr
    cases e2
    refine (pi_enumT hg hm hA hs).run pins s σ H Rr I ⟨Z, ms, g, R, Sat.mk e1 fun Z1 ms1 H1 l1 R1 x d1 => ?_⟩
    rw [hr] at d1
    simp only [Den] at d1
    obtain ⟨b, vs, rfl, hb, d⟩ := d1
    exact ⟨b, vs, rfl, hb.sqT, S2 Z1 ms1 H1 l1 R1 _ (iteT_ok (fun Z' ms' H' l => (l.tupD hb).sqT) d)⟩
  · rename_i ns hr
    cases e2
    refine (L2.pi_enum hg hm hA hs).run pins s σ H Rr I ⟨Z, ms, g, R, Sat.mk e1 fun Z1 ms1 H1 l1 R1 x d1 => ?_⟩
    rw [hr] at d1
    simp only [Den] at d1
    obtain ⟨b, rfl, hb⟩ := d1
    exact ⟨b, _, rfl, hb.sq, S2 Z1 ms1 H1 l1 R1 _ (ite_ok (fun Z' ms' H' l => (l.fzL hb).sq) (Dens.ints ns))⟩
  · cases e2
theorem p_zip {c : Call} {a b : ME} {e e2 : Expr} {is : List Nat} {elts : List Expr} {kk : Nat} {p pos tpos : Pos} (hg : L2.Gl X "zip") (hm : X.mg "zip" = none) (h : PE X e (tE X.K F W (ev c a))) (h2 : PE X e2 (tE X.K F W (ev c b)))
    (hs : starEach [e, e2] X.env = [(false, eval e X.env), (false, eval e2 X.env)]) (hs2 : starEach [e2] X.env = [(false, eval e2 X.env)]) : PI X (.Tuple elts kk tpos) (.Call (.Name "zip" p) [e, e2] [] pos) (tIt X.K F W (.tp is) (evi c (.zip a b))) := by
  have hA : PA X [e, e2] (L2.tCons (tV X.K F W (ev c a)) (L2.tCons (tV X.K F W (ev c b)) L2.tNil)) := L2.pa_cons (PE.v h) (L2.pa_cons (PE.v h2) L2.pa_nil hs2) (by rw [hs, hs2])
  have P := RZ.pi_zipA (tpos := tpos) (elts := elts) (kk := kk) (pos := pos) (p := p) hg hm hA (by rw [hs, hs2]) (by rw [hs2]; rfl)
  refine ⟨fun pins s σ H Rr I ⟨Z, ms, g, R, S⟩ => P.run pins s σ H Rr I ?_⟩
  simp only [evi_zip] at S
  rcases S.split with ⟨x0, g1, e1, S1⟩ | ⟨r, g1, e1, S1⟩
  · exact ⟨Z, ms, g, R, Sat.exc e1 S1⟩
  refine ⟨Z, ms, g, R, Sat.mk e1 fun Z1 ms1 H1 l1 R1 x d1 => ?_⟩
  rcases (S1.le l1).split with ⟨x0, g2, e3, S2⟩ | ⟨r2, g2, e3, S2⟩
  · exact ⟨Z1, ms1, g1, R1, Sat.exc e3 S2⟩
  refine ⟨Z1, ms1, g1, R1, Sat.mk e3 fun Z2 ms2 H2 l2 R2 y d2 => ?_⟩
  obtain ⟨xs, e4, S3⟩ := (S2.le l2).lift
  have d1 := Den.mono l2 _ _ d1
  generalize r.pv = v1 at d1 e4
  generalize r2.pv = v2 at d2 e4
  unfold zipV at e4
  split at e4
  · cases e4
    simp only [Den] at d1 d2
    obtain ⟨b1, vs, rfl, hz1, hb1, k1⟩ := d1
    obtain ⟨b2, ws, rfl, hz2, hb2, k2⟩ := d2
    exact ⟨b1, b2, vs, ws, rfl, .inl ⟨.inl (.inl hb1), .inl (.inl hb2), S3 Z2 ms2 H2 .refl R2 _ (itz_ok (fun Z' ms' H' l => ⟨.inl (.inl (l.zh _ _ hz1 hb1)), .inl (.inl (l.zh _ _ hz2 hb2))⟩) k1 k2)⟩⟩
  · cases e4
    simp only [Den] at d1 d2
    obtain ⟨b1, vs, rfl, hb1, k1⟩ := d1
    obtain ⟨b2, ws, rfl, hb2, k2⟩ := d2
    exact ⟨b1, b2, vs, ws, rfl, .inr ⟨hb1.sqT, hb2.sqT, S3 Z2 ms2 H2 .refl R2 _ (itzT_ok (fun Z' ms' H' l => ⟨(l.tupD hb1).sqT, (l.tupD hb2).sqT⟩) k1 k2)⟩⟩
  · cases e4
theorem s_no {c : Call} : L2.PTs X [] (tTx X.K X.w (tsto c .no)) := ⟨fun pins s σ H Q I ⟨F, hw, Z, ms, g, R, S⟩ => L2.pts_nil.run pins s σ H Q I (by
  simp only [tsto_no] at S
  exact Sat.here R S)⟩
theorem s_so {c : Call} {a : ME} {e : Expr} (h : ∀ F, F.w = X.w → PT X e (tT X.K F noW (tst c a))) : L2.PTs X [e] (tTx X.K X.w (tsto c (.so a))) := L2.pts_one ⟨fun pins s σ H Q I ⟨F, hw, q⟩ => (h F hw).run pins s σ H Q I q⟩
end

/-! ### slots wiped, put back -/
theorem wipe_out {sl : List Slot} {i : Nat} : ∀ {is : List Nat}, i ∉ is → (wipe sl is)[i]? = sl[i]?
  | [], _ => rfl
  | j :: is, h => by
    simp only [List.mem_cons, not_or] at h
    unfold wipe
    rw [List.getElem?_set_ne (fun e => h.1 e.symm)]
    exact wipe_out h.2
theorem wipe_in {sl : List Slot} {i : Nat} {s : Slot} : ∀ {is : List Nat}, i ∈ is → (wipe sl is)[i]? = some s → s = .no
  | [], h, _ => by cases h
  | j :: is, h, e => by
    unfold wipe at e
    by_cases q : j = i
    · subst q
      rw [List.getElem?_set] at e
      simp only [if_true] at e
      split at e
      · cases e
        rfl
      · cases e
    · rw [List.getElem?_set_ne q] at e
      exact wipe_in ((List.mem_cons.mp h).resolve_left fun z => q z.symm) e
theorem wipe_length {sl : List Slot} : ∀ {is : List Nat}, (wipe sl is).length = sl.length
  | [] => rfl
  | j :: is => by
    unfold wipe
    rw [List.length_set]
    exact wipe_length
theorem back_out {old sl : List Slot} {i : Nat} : ∀ {is : List Nat}, i ∉ is → (back old sl is)[i]? = sl[i]?
  | [], _ => rfl
  | j :: is, h => by
    simp only [List.mem_cons, not_or] at h
    unfold back
    rw [List.getElem?_set_ne (fun e => h.1 e.symm)]
    exact back_out h.2
theorem back_in {old sl : List Slot} {i : Nat} {s : Slot} : ∀ {is : List Nat}, i ∈ is → (back old sl is)[i]? = some s → s = old.getD i .no
  | [], h, _ => by cases h
  | j :: is, h, e => by
    unfold back at e
    by_cases q : j = i
    · subst q
      rw [List.getElem?_set] at e
      simp only [if_true] at e
      split at e
      · cases e
        rfl
      · cases e
    · rw [List.getElem?_set_ne q] at e
      exact back_in ((List.mem_cons.mp h).resolve_left fun z => q z.symm) e
theorem back_length {old sl : List Slot} : ∀ {is : List Nat}, (back old sl is).length = sl.length
  | [] => rfl
  | j :: is => by
    unfold back
    rw [List.length_set]
    exact back_length
theorem getD_val {sl : List Slot} {i : Nat} {s : Slot} (h : s = sl.getD i .no) (hs : s ≠ .no) : sl[i]? = some s := by
  rw [List.getD_eq_getElem?_getD] at h
  cases q : sl[i]? with
  | none =>
    rw [q] at h
    exact absurd h hs
  | some u =>
    rw [q] at h
    rw [h]
    rfl
theorem noOwn_in {sl : List Slot} {i : Nat} {xs : List PV} : ∀ {is : List Nat}, noOwn sl is = true → i ∈ is → sl[i]? ≠ some (.own xs)
  | [], _, h, _ => by cases h
  | j :: is, h, hm, e => by
    unfold noOwn at h
    simp only [Bool.and_eq_true] at h
    rcases List.mem_cons.mp hm with q | q
    · subst q
      rw [e] at h
      exact Bool.false_ne_true h.1
    · exact noOwn_in h.2 q e
theorem wipe_sub {σ : L2.St} {is : List Nat} : ∀ js : List Nat, (∀ j ∈ js, j ∈ is) → L2.wipe (L2.wipe σ js) is = L2.wipe σ is := by
  intro js
  induction js with
  | nil => intro _; rfl
  | cons j js ih =>
    intro h
    show L2.wipe ((L2.wipe σ js).set j none) is = _
    rw [wipe_set (h j List.mem_cons_self)]
    exact ih fun k hk => h k (List.mem_cons_of_mem _ hk)
theorem wipe_wipe {σ : L2.St} {is : List Nat} : L2.wipe (L2.wipe σ is) is = L2.wipe σ is := wipe_sub is fun _ h => h
section
variable {K : PySem.W.Frag} {F F' : Fm} {Z Z1 : Addr → Prop} {ms ms1 : List Addr} {g g1 : G} {σ : L2.St} {H H1 : Hp} {is : List Nat}
theorem Rel.wipe (R : Rel K F Z ms g σ H) : Rel K F Z ms { g with sl := wipe g.sl is } (L2.wipe σ is) H := by
  have out : ∀ {i : Nat} {s : Slot}, (Ev.wipe g.sl is)[i]? = some s → s ≠ .no → i ∉ is ∧ g.sl[i]? = some s := fun {i s} e h => by
    by_cases q : i ∈ is
    · exact absurd (wipe_in q e) h
    · rw [wipe_out q] at e
      exact ⟨q, e⟩
  refine ⟨by rw [L2.wipe_length, R.len]; exact wipe_length.symm, fun i v e => ?_, fun i xs e => ?_, fun i j xs ys a e1 e2 e3 e4 => ?_, R.cn, R.cl, R.nd, R.mz, R.zf, R.zz, R.zs, R.fr, fun i e => by
    obtain ⟨q, e'⟩ := out e nofun
    rw [L2.wipe_out q]
    exact R.xs i e'⟩
  · obtain ⟨q, e'⟩ := out e (by simp)
    rw [L2.wipe_out q]
    exact R.vl i v e'
  · obtain ⟨q, e'⟩ := out e (by simp)
    rw [L2.wipe_out q]
    exact R.ow i xs e'
  · obtain ⟨q1, e1'⟩ := out e1 (by simp)
    obtain ⟨q2, e2'⟩ := out e2 (by simp)
    rw [L2.wipe_out q1] at e3
    rw [L2.wipe_out q2] at e4
    exact R.un i j xs ys a e1' e2' e3 e4
theorem back_own {old sl : List Slot} {i : Nat} {xs : List PV} (no : noOwn old is = true) (e : (back old sl is)[i]? = some (.own xs)) : i ∉ is ∧ sl[i]? = some (.own xs) := by
  by_cases q : i ∈ is
  · exact absurd (getD_val (back_in q e) (by simp)) (noOwn_in no q)
  · rw [back_out q] at e
    exact ⟨q, e⟩
theorem Rel.back (R : Rel K F Z ms g (L2.wipe σ is) H) (R1 : Rel K F' Z1 ms1 g1 σ H1) (no : noOwn g1.sl is = true) (l : Le Z1 ms1 H1 Z ms H) (hx : F'.xo = F.xo := by rfl) : Rel K F Z ms { g with sl := Ev.back g1.sl g.sl is } σ H := by
  refine ⟨?_, fun i v e => ?_, fun i xs e => ?_, fun i j xs ys a e1 e2 e3 e4 => ?_, R.cn, R.cl, R.nd, R.mz, R.zf, R.zz, R.zs, R.fr, fun i e => by
    by_cases q : i ∈ is
    · obtain ⟨a, h1, h2⟩ := R1.xs i (getD_val (back_in q e) nofun)
      exact ⟨a, hx.symm.trans h1, h2⟩
    · replace e : (Ev.back g1.sl g.sl is)[i]? = _ := e
      rw [back_out q] at e
      have := R.xs i e
      rw [L2.wipe_out q] at this
      exact this⟩
  · have := R.len
    rw [L2.wipe_length] at this
    rw [this]
    exact back_length.symm
  · by_cases q : i ∈ is
    · obtain ⟨x, h1, h2⟩ := R1.vl i v (getD_val (back_in q e) (by simp))
      exact ⟨x, h1, Den.mono l _ _ h2⟩
    · replace e : (Ev.back g1.sl g.sl is)[i]? = _ := e
      rw [back_out q] at e
      have := R.vl i v e
      rw [L2.wipe_out q] at this
      exact this
  · obtain ⟨q, e'⟩ := back_own no e
    have := R.ow i xs e'
    rw [L2.wipe_out q] at this
    exact this
  · obtain ⟨q1, e1'⟩ := back_own no e1
    obtain ⟨q2, e2'⟩ := back_own no e2
    exact R.un i j xs ys a e1' e2' (by rw [L2.wipe_out q1]; exact e3) (by rw [L2.wipe_out q2]; exact e4)
end

/-! ### [e for t in it if k] -/
theorem lc_sat {K : PySem.W.Frag} {F : Fm} {W : Wish} {c : Call} {t : MT} {it : MI} {k : MO} {el : ME} {σ : L2.St} {H : Hp} {Q : VK} {w : World} (hw : F.w = w) (h : tE K F W (ev c (.lc t it k el)) σ H Q) :
    L2.tLc (tIt K F W t (evi c it)) (gT K t) (tTx K w (tsto c k)) (tVx K w (ev c el)) t.slots σ H Q := by
  obtain ⟨Z, ms, g, R, S⟩ := h
  simp only [ev_lc] at S
  rcases S.split with ⟨x0, g1, e1, S1⟩ | ⟨xs, g1, e1, S1⟩
  · exact ⟨Z, ms, g, R, Sat.exc e1 S1⟩
  refine ⟨Z, ms, g, R, Sat.mk e1 fun Z1 ms1 H1 l1 R1 J jo D hD => ?_⟩
  split at S1
  case isFalse => exact S1.elim
  rename_i no
  obtain ⟨ys, g2, e2, S2⟩ := (S1.le l1).stepN noX_nx
  replace e2 := noX_eq e2
  have nz0 := R1.noZ0 hD
  have nf := R1.freeF hD
  refine ⟨fun i m H2 => m = xs.length - i ∧ i ≤ xs.length ∧ ∃ Z2 ms2 g3 acc vs, Le Z1 ms1 (upd H1 D (.lst [])) Z2 ms2 H2 ∧ Rel K (F.with D (.lst vs)) Z2 ms2 g3 (L2.wipe σ t.slots) H2 ∧ Dens K Z2 ms2 H2 acc vs ∧ lcGo t.slots (bindT t) (tsto c k) (ev c el) (xs.drop i) acc g3 = .ok ys g2,
    ⟨_, rfl, Nat.zero_le _, Z1, ms1, _, [], [], .refl, (R1.pinNew (o := .lst []) hD).wipe, .nil, e2⟩, fun i m H2 ⟨hm, hi, Z2, ms2, g3, acc, vs, l2, R2, d2, e3⟩ => ?_⟩
  have l12 : Le Z1 ms1 H1 Z2 ms2 H2 := (Le.upd hD).trans l2
  obtain ⟨j1, j2⟩ := jo Z2 ms2 H2 l12 i
  by_cases hlt : i < xs.length
  · right
    rw [List.drop_eq_getElem_cons hlt] at e3
    unfold lcGo at e3
    obtain ⟨jgo, jy⟩ := j2 xs[i] (List.getElem?_eq_getElem hlt)
    refine ⟨jgo, fun H5 => ∃ Z2 ms2 g3 acc vs, Le Z1 ms1 (upd H1 D (.lst [])) Z2 ms2 H5 ∧ Rel K (F.with D (.lst vs)) Z2 ms2 g3 (L2.wipe σ t.slots) H5 ∧ Dens K Z2 ms2 H5 acc vs ∧ lcGo t.slots (bindT t) (tsto c k) (ev c el) (xs.drop (i + 1)) acc g3 = .ok ys g2,
      fun H5 w => ⟨xs.length - (i + 1), by omega, rfl, hlt, w⟩, fun x H3 yl => ?_⟩
    obtain ⟨lay, dx⟩ := jy x H3 yl
    obtain ⟨lL, R2⟩ := lay.rel R2
    replace l2 := l2.trans lL
    replace d2 := Dens.mono lL _ _ d2
    cases hb : bindT t (.val xs[i]) g3 with
    | bad => rw [hb] at e3; cases e3
    | exc _ _ => rw [hb] at e3; cases e3
    | ok u g4 =>
      rw [hb, Ev.R.bind_ok] at e3
      refine bind_okY (all := t.slots) (fun _ h => h) R2 dx hb fun σ4 R4 w4 => ?_
      rw [wipe_wipe] at w4
      refine ⟨w4, ?_⟩
      cases ht : tsto c k g4 with
      | bad => rw [ht] at e3; cases e3
      | exc _ _ => rw [ht] at e3; cases e3
      | ok b g5 =>
        rw [ht, Ev.R.bind_ok] at e3
        refine ⟨F.with D (.lst vs), hw, Z2, ms2, g4, R4, Sat.mk ht fun Z5 ms5 H5 l5 R5 => ?_⟩
        cases b with
        | false =>
          rw [if_neg Bool.false_ne_true] at e3 ⊢
          exact ⟨Z5, ms5, _, acc, vs, l2.trans l5, w4 ▸ R5.wipe, Dens.mono l5 _ _ d2, e3⟩
        | true =>
          rw [if_pos rfl] at e3 ⊢
          cases hv : ev c el g5 with
          | bad => rw [hv] at e3; cases e3
          | exc _ _ => rw [hv] at e3; cases e3
          | ok y g6 =>
            rw [hv, Ev.R.bind_ok] at e3
            split at e3
            case isFalse => cases e3
            rename_i hz
            refine ⟨F.with D (.lst vs), hw, Z5, ms5, g5, R5, Sat.mk hv fun Z6 ms6 H6 l6 R6 v dv => ?_⟩
            have d6 := Dens.mono l6 _ _ (Dens.mono l5 _ _ d2)
            refine ⟨vs, R6.pinned, by rw [d6.length]; exact hz, ?_⟩
            obtain ⟨l7, R7⟩ := R6.rewrite (ys := vs ++ [v]) nz0 nf
            refine ⟨Z6, ms6, _, acc ++ [y.pv], vs ++ [v], l2.trans (l5.trans (l6.trans l7)), w4 ▸ R7.wipe, ?_, e3⟩
            exact (Dens.mono l7 _ _ d6).append (.cons (Den.mono l7 _ _ dv) .nil)
  · left
    have hn : xs.drop i = [] := List.drop_eq_nil_of_le (by omega)
    rw [hn] at e3
    unfold lcGo at e3
    cases e3
    refine ⟨j1 (by omega), ?_⟩
    have R3 := R2.back R1 no l12
    refine S2 Z2 ms2 H2 l12 (R3.unpin nf) _ ⟨D, vs, rfl, R3.pinned, d2, R3.pinZ nz0, R3.pinM, nf, fun i ys e => R3.pinO i ys e⟩
theorem e_lc {X : Cx} {F : Fm} {W : Wish} {elt tg iter : Expr} {ifs : List Expr} {scope : Scope} {own : List (Str × Nat)} {pos : Pos} {c : Call} {t : MT} {it : MI} {k : MO} {el : ME} (hw : F.w = X.w) (hc : X.calm = true) (hN : X.N.Nodup) (hi : PI X tg iter (tIt X.K F W t (evi c it))) (ok : L2.BlkOk X.N X.env.scope scope own) (ho : own.map (·.2) = t.slots)
    (hg : ∀ (s : Shared) (H : Hp) (C : Addr) (cl : List (Str × Addr)) (fp : List Addr), PG (X.blk s H scope (compEnvC scope cl C X.env) fp) tg (gT X.K t))
    (ht : ∀ (s : Shared) (H : Hp) (C : Addr) (cl : List (Str × Addr)) (fp : List Addr), L2.PTs (X.blk s H scope (compEnvC scope cl C X.env) fp) ifs (tTx X.K X.w (tsto c k)))
    (he : ∀ (s : Shared) (H : Hp) (C : Addr) (cl : List (Str × Addr)) (fp : List Addr), PE (X.blk s H scope (compEnvC scope cl C X.env) fp) elt (tVx X.K X.w (ev c el))) (hs : ∀ x, foldedSetIterable iter X.env x = pure x) :
    PE X (.ListComp elt [⟨tg, iter, ifs, 0⟩] scope pos) (tE X.K F W (ev c (.lc t it k el))) := by
  refine PE.imp (L2.pe_lc hc hN hi ok hg ht he hs) fun σ H Q h => ?_
  rw [ho]
  exact lc_sat hw h
end Ev
/-! # Ev: comprehensions with two for, of dicts. -/
namespace Ev
open PySem PySem.Spec
open L2 (V Hp HO upd SqL SqT Rd Cx Inv PE PT PW PA PS PSs PG PGs PI PK VK TE TT TA TS TG TGs TI Ends RelV Vals It Dp DpAll OpR UnR CallR TruR IxR SlR MtR EP TP AP SP)

/-! ### [e for t in it if k for t2 in it2 if k2] -/
theorem wipe_app {sl : List Slot} {a b : List Nat} : wipe sl (a ++ b) = wipe (wipe sl b) a := by
  induction a with
  | nil => rfl
  | cons i a ih =>
    show (wipe sl (a ++ b)).set i .no = (wipe (wipe sl b) a).set i .no
    rw [ih]
theorem lc2_sat {K : PySem.W.Frag} {F : Fm} {W : Wish} {c : Call} {t t2 : MT} {it it2 : MI} {k k2 : MO} {el : ME} {σ : L2.St} {H : Hp} {Q : VK} {w : World} (hw : F.w = w) (h : tE K F W (ev c (.lc2 t it k t2 it2 k2 el)) σ H Q) :
    L2.tLc2 (tIt K F W t (evi c it)) (gT K t) (tTx K w (tsto c k)) (tItx K w t2 (evi c it2)) (gT K t2) (tTx K w (tsto c k2)) (tVx K w (ev c el)) (t.slots ++ t2.slots) t2.slots σ H Q := by
  obtain ⟨Z, ms, g, R, S⟩ := h
  simp only [ev_lc2] at S
  generalize hall : t.slots ++ t2.slots = all at S ⊢
  have sub1 : ∀ i ∈ t.slots, i ∈ all := fun i h => by rw [← hall]; exact List.mem_append_left _ h
  have sub2 : ∀ i ∈ t2.slots, i ∈ all := fun i h => by rw [← hall]; exact List.mem_append_right _ h
  rcases S.split with ⟨x0, g1, e1, S1⟩ | ⟨xs, g1, e1, S1⟩
  · exact ⟨Z, ms, g, R, Sat.exc e1 S1⟩
  refine ⟨Z, ms, g, R, Sat.mk e1 fun Z1 ms1 H1 l1 R1 J jo D hD => ?_⟩
  split at S1
  case isFalse => exact S1.elim
  rename_i no
  obtain ⟨ys, g2, e2, S2⟩ := (S1.le l1).stepN noX_nx
  replace e2 := noX_eq e2
  have nz0 := R1.noZ0 hD
  have nf := R1.freeF hD
  generalize hin : (fun acc (h : G) => (evi c it2 h).bind fun ys h1 => lcGo t2.slots (bindT t2) (tsto c k2) (ev c el) ys acc { h1 with sl := wipe h1.sl t2.slots }) = inner at e2
  refine ⟨fun i m H2 => m = xs.length - i ∧ i ≤ xs.length ∧ ∃ Z2 ms2 g3 acc vs, Le Z1 ms1 (upd H1 D (.lst [])) Z2 ms2 H2 ∧ Rel K (F.with D (.lst vs)) Z2 ms2 g3 (L2.wipe σ all) H2 ∧ Dens K Z2 ms2 H2 acc vs ∧ lc2Go all (bindT t) (tsto c k) inner (xs.drop i) acc g3 = .ok ys g2,
    ⟨_, rfl, Nat.zero_le _, Z1, ms1, _, [], [], .refl, (R1.pinNew (o := .lst []) hD).wipe, .nil, e2⟩, fun i m H2 ⟨hm, hi, Z2, ms2, g3, acc, vs, l2, R2, d2, e3⟩ => ?_⟩
  have l12 : Le Z1 ms1 H1 Z2 ms2 H2 := (Le.upd hD).trans l2
  obtain ⟨j1, j2⟩ := jo Z2 ms2 H2 l12 i
  by_cases hlt : i < xs.length
  · right
    rw [List.drop_eq_getElem_cons hlt] at e3
    unfold lc2Go at e3
    obtain ⟨jgo, jy⟩ := j2 xs[i] (List.getElem?_eq_getElem hlt)
    refine ⟨jgo, fun H5 => ∃ Z2 ms2 g3 acc vs, Le Z1 ms1 (upd H1 D (.lst [])) Z2 ms2 H5 ∧ Rel K (F.with D (.lst vs)) Z2 ms2 g3 (L2.wipe σ all) H5 ∧ Dens K Z2 ms2 H5 acc vs ∧ lc2Go all (bindT t) (tsto c k) inner (xs.drop (i + 1)) acc g3 = .ok ys g2,
      fun H5 w => ⟨xs.length - (i + 1), by omega, rfl, hlt, w⟩, fun x H3 yl => ?_⟩
    obtain ⟨lay, dx⟩ := jy x H3 yl
    obtain ⟨lL, R2⟩ := lay.rel R2
    replace l2 := l2.trans lL
    replace d2 := Dens.mono lL _ _ d2
    cases hb : bindT t (.val xs[i]) g3 with
    | bad => rw [hb] at e3; cases e3
    | exc _ _ => rw [hb] at e3; cases e3
    | ok u g4 =>
      rw [hb, Ev.R.bind_ok] at e3
      refine bind_okY sub1 R2 dx hb fun σ4 R4 w4 => ?_
      rw [wipe_wipe] at w4
      refine ⟨w4, ?_⟩
      cases ht : tsto c k g4 with
      | bad => rw [ht] at e3; cases e3
      | exc _ _ => rw [ht] at e3; cases e3
      | ok b g5 =>
        rw [ht, Ev.R.bind_ok] at e3
        refine ⟨F.with D (.lst vs), hw, Z2, ms2, g4, R4, Sat.mk ht fun Z5 ms5 H5 l5 R5 => ?_⟩
        cases b with
        | false =>
          rw [if_neg Bool.false_ne_true] at e3 ⊢
          exact ⟨Z5, ms5, _, acc, vs, l2.trans l5, w4 ▸ R5.wipe, Dens.mono l5 _ _ d2, e3⟩
        | true =>
          rw [if_pos rfl] at e3 ⊢
          rw [← hin] at e3
          simp only at e3
          cases hv : evi c it2 g5 with
          | bad => rw [hv] at e3; cases e3
          | exc _ _ => rw [hv] at e3; cases e3
          | ok zs g6 =>
            rw [hv, Ev.R.bind_ok, hin] at e3
            refine ⟨F.with D (.lst vs), hw, Z5, ms5, g5, R5, Sat.mk hv fun Z6 ms6 H6 l6 R6 J2 jo2 => ?_⟩
            have d6 := Dens.mono l6 _ _ (Dens.mono l5 _ _ d2)
            have l26 := l2.trans (l5.trans l6)
            cases hgo : lcGo t2.slots (bindT t2) (tsto c k2) (ev c el) zs acc { g6 with sl := wipe g6.sl t2.slots } with
            | bad => rw [hgo] at e3; cases e3
            | exc _ _ => rw [hgo] at e3; cases e3
            | ok acc' g7 =>
              rw [hgo, Ev.R.bind_ok] at e3
              refine ⟨fun j n H7 => n = zs.length - j ∧ j ≤ zs.length ∧ ∃ Z7 ms7 g8 acc8 vs8, Le Z6 ms6 H6 Z7 ms7 H7 ∧ Le Z1 ms1 (upd H1 D (.lst [])) Z7 ms7 H7 ∧ Rel K (F.with D (.lst vs8)) Z7 ms7 g8 (L2.wipe σ4 t2.slots) H7 ∧ Dens K Z7 ms7 H7 acc8 vs8 ∧ lcGo t2.slots (bindT t2) (tsto c k2) (ev c el) (zs.drop j) acc8 g8 = .ok acc' g7,
                ⟨_, rfl, Nat.zero_le _, Z6, ms6, _, acc, vs, .refl, l26, R6.wipe, d6, hgo⟩, fun j n H7 ⟨hn, hj, Z7, ms7, g8, acc8, vs8, l67, l7, R7, d7, e7⟩ => ?_⟩
              obtain ⟨i1, i2⟩ := jo2 Z7 ms7 H7 l67 j
              by_cases hlj : j < zs.length
              · right
                rw [List.drop_eq_getElem_cons hlj] at e7
                unfold lcGo at e7
                obtain ⟨igo, iy⟩ := i2 zs[j] (List.getElem?_eq_getElem hlj)
                refine ⟨igo, fun H8 => ∃ Z7 ms7 g8 acc8 vs8, Le Z6 ms6 H6 Z7 ms7 H8 ∧ Le Z1 ms1 (upd H1 D (.lst [])) Z7 ms7 H8 ∧ Rel K (F.with D (.lst vs8)) Z7 ms7 g8 (L2.wipe σ4 t2.slots) H8 ∧ Dens K Z7 ms7 H8 acc8 vs8 ∧ lcGo t2.slots (bindT t2) (tsto c k2) (ev c el) (zs.drop (j + 1)) acc8 g8 = .ok acc' g7,
                  fun H8 w => ⟨zs.length - (j + 1), by omega, rfl, hlj, w⟩, fun x2 H8 yl2 => ?_⟩
                obtain ⟨lay2, dx2⟩ := iy x2 H8 yl2
                obtain ⟨lL2, R7⟩ := lay2.rel R7
                replace l7 := l7.trans lL2
                replace l67 := l67.trans lL2
                replace d7 := Dens.mono lL2 _ _ d7
                cases hb2 : bindT t2 (.val zs[j]) g8 with
                | bad => rw [hb2] at e7; cases e7
                | exc _ _ => rw [hb2] at e7; cases e7
                | ok u2 g9 =>
                  rw [hb2, Ev.R.bind_ok] at e7
                  refine bind_okY (all := t2.slots) (fun _ h => h) R7 dx2 hb2 fun σ9 R9 w9 => ?_
                  rw [wipe_wipe] at w9
                  refine ⟨w9, ?_⟩
                  cases ht2 : tsto c k2 g9 with
                  | bad => rw [ht2] at e7; cases e7
                  | exc _ _ => rw [ht2] at e7; cases e7
                  | ok b2 g10 =>
                    rw [ht2, Ev.R.bind_ok] at e7
                    refine ⟨F.with D (.lst vs8), hw, Z7, ms7, g9, R9, Sat.mk ht2 fun Za msa Ha la Ra => ?_⟩
                    cases b2 with
                    | false =>
                      rw [if_neg Bool.false_ne_true] at e7 ⊢
                      exact ⟨Za, msa, _, acc8, vs8, l67.trans la, l7.trans la, w9 ▸ Ra.wipe, Dens.mono la _ _ d7, e7⟩
                    | true =>
                      rw [if_pos rfl] at e7 ⊢
                      cases hv2 : ev c el g10 with
                      | bad => rw [hv2] at e7; cases e7
                      | exc _ _ => rw [hv2] at e7; cases e7
                      | ok y g11 =>
                        rw [hv2, Ev.R.bind_ok] at e7
                        split at e7
                        case isFalse => cases e7
                        rename_i hz
                        refine ⟨F.with D (.lst vs8), hw, Za, msa, g10, Ra, Sat.mk hv2 fun Zb msb Hb lb Rb v dv => ?_⟩
                        have db := Dens.mono lb _ _ (Dens.mono la _ _ d7)
                        refine ⟨vs8, Rb.pinned, by rw [db.length]; exact hz, ?_⟩
                        obtain ⟨lc, Rc⟩ := Rb.rewrite (ys := vs8 ++ [v]) nz0 nf
                        refine ⟨Zb, msb, _, acc8 ++ [y.pv], vs8 ++ [v], l67.trans (la.trans (lb.trans lc)), l7.trans (la.trans (lb.trans lc)), w9 ▸ Rc.wipe, ?_, e7⟩
                        exact (Dens.mono lc _ _ db).append (.cons (Den.mono lc _ _ dv) .nil)
              · left
                have hn : zs.drop j = [] := List.drop_eq_nil_of_le (by omega)
                rw [hn] at e7
                unfold lcGo at e7
                cases e7
                refine ⟨i1 (by omega), Z7, ms7, _, _, vs8, l7, ?_, d7, e3⟩
                have Rw := R7.wipe (is := all)
                rw [wipe_sub _ sub2, w4] at Rw
                exact Rw
  · left
    have hn : xs.drop i = [] := List.drop_eq_nil_of_le (by omega)
    rw [hn] at e3
    unfold lc2Go at e3
    cases e3
    refine ⟨j1 (by omega), ?_⟩
    have R3 := R2.back R1 no l12
    refine S2 Z2 ms2 H2 l12 (R3.unpin nf) _ ⟨D, vs, rfl, R3.pinned, d2, R3.pinZ nz0, R3.pinM, nf, fun i ys e => R3.pinO i ys e⟩

/-! ### {k: e for t in it if c} -/
theorem Rel.rewriteO {K : PySem.W.Frag} {F : Fm} {Z : Addr → Prop} {ms : List Addr} {g : G} {σ : L2.St} {H : Hp} {p : Addr} {o o' : HO} (R : Rel K (F.with p o) Z ms g σ H) (hz : ¬ F.Z0 p) (hf : F.F p = none) (ho : ∀ xs, o ≠ .tup xs) (hof : ∀ q u, o ≠ .frz q u) (hoc : ∀ a q, o ≠ LamX.CodeO a q) :
    Le Z ms H Z ms (upd H p o') ∧ Rel K (F.with p o') Z ms g σ (upd H p o') := by
  have nz := R.pinZ hz
  have nm := R.pinM
  have hp := R.pinned
  have l : Le Z ms H Z ms (upd H p o') := by
    refine ⟨fun _ z => z, fun b us z q => by rw [L2.upd_ne fun e => nz (by rw [← e]; exact z)]; exact q, fun b us q => ?_, fun b ob u q => ?_, ⟨[], by simp⟩, fun b cq q n0 => ?_⟩
    · rw [L2.upd_ne]
      · exact q
      · rintro rfl
        rw [hp] at q
        exact ho us (Option.some.inj q)
    · rw [L2.upd_ne]
      · exact q
      · rintro rfl
        rw [hp] at q
        exact hof _ _ (Option.some.inj q)
    · have ne : b ≠ p := by
        rintro rfl
        rw [hp] at q
        exact hoc _ _ (Option.some.inj q)
      exact ⟨by rw [L2.upd_ne ne]; exact q, n0⟩
  have neF : ∀ a, (F.with p o).F a = none → (F.with p o').F a = none := fun a q => by
    have q' : upd F.F p o a = none := q
    show upd F.F p o' a = none
    by_cases e : a = p
    · subst e
      rw [L2.upd_same] at q'
      cases q'
    · rw [L2.upd_ne e] at q' ⊢
      exact q'
  refine ⟨l, ⟨R.len, fun i v e => ?_, fun i us e => ?_, R.un, R.cn, fun n c a e1 e2 => ?_, R.nd, fun a ha => ⟨(R.mz a ha).1, neF a (R.mz a ha).2⟩, fun a z => (R.zf a z).imp id (neF a), R.zz, fun a z => ?_, fun a u e => ?_, R.xs⟩⟩
  · obtain ⟨x, e1, e2⟩ := R.vl i v e
    exact ⟨x, e1, Den.mono l _ _ e2⟩
  · obtain ⟨a, vs, e1, e2, e3, e4, e5, e6⟩ := R.ow i us e
    have na : a ≠ p := fun q => R.pinO i us e (q ▸ e1)
    exact ⟨a, vs, e1, by rw [L2.upd_ne na]; exact e2, Dens.mono l _ _ e3, e4, e5, neF a e6⟩
  · refine (R.cl n c a e1 e2).mono l (L2.upd_ne ?_)
    rintro rfl
    exact nm (List.mem_of_getElem? e2)
  · obtain ⟨vs, e⟩ := R.zs a z
    exact ⟨vs, by rw [L2.upd_ne fun q => nz (by rw [← q]; exact z)]; exact e⟩
  · have e' : upd F.F p o' a = some u := e
    by_cases q : a = p
    · subst q
      rw [L2.upd_same] at e' ⊢
      exact e'
    · rw [L2.upd_ne q] at e' ⊢
      refine R.fr a u ?_
      show upd F.F p o a = some u
      rw [L2.upd_ne q]
      exact e'
/-- a cell's object is no list, no tuple, nothing locked -/
theorem CellOk.obj {K : PySem.W.Frag} {Z : Addr → Prop} {ms : List Addr} {H : Hp} {w : World} {c : Cell} {d : Addr} {o : HO} (ok : CellOk K Z ms H w c d) (e : H d = some o) : (∀ xs, o ≠ .tup xs) ∧ ∀ q u, o ≠ .frz q u := by
  cases c with
  | dk kvs =>
    obtain ⟨ws, h, _⟩ := ok
    rw [e] at h
    have h := Option.some.inj h
    subst h
    exact ⟨fun _ q => L2.HO.noConfusion q, fun _ _ q => L2.HO.noConfusion q⟩
  | dn kvs =>
    obtain ⟨ws, h, _⟩ := ok
    rw [e] at h
    have h := Option.some.inj h
    unfold DN at h
    generalize DNraw w d ws = φ at h
    subst h
    exact ⟨fun _ q => L2.HO.noConfusion q, fun _ _ q => L2.HO.noConfusion q⟩
  | ls kvs =>
    obtain ⟨ws, h, _⟩ := ok
    rw [e] at h
    have h := Option.some.inj h
    subst h
    exact ⟨fun _ q => L2.HO.noConfusion q, fun _ _ q => L2.HO.noConfusion q⟩
  | tb q =>
    obtain ⟨ws, h, _⟩ := ok
    rw [e] at h
    have h := Option.some.inj h
    subst h
    exact ⟨fun _ q => L2.HO.noConfusion q, fun _ _ q => L2.HO.noConfusion q⟩
section
variable {X : Cx} {Z : Addr → Prop} {ms : List Addr} {H : Hp} {c c' : Cell} {d : Addr} {k v : PV} {y z : V}
/-- d[k] = v, in the evaluator and at the machine -/
theorem cell_put (hu : X.A.units + 66 < cLine) (ok : CellOk X.K Z ms H X.w c d) (dk : Den X.K Z ms H k y) (dv : Den X.K Z ms H v z) (e : putC c k v = some c') : ∃ o', (∀ Z' ms' H', Le Z ms H Z' ms' H' → H' d = some o' → CellOk X.K Z' ms' H' X.w c' d) ∧
    ∀ (pins : List (Addr × Obj)) (σ : L2.St) (s : Shared) (u r : Value) (A : Around) (Q : Unit → Shared → Prop) (E : Value → Shared → Prop), A.units ≤ X.A.units → Inv X pins σ H s → RelV y u → RelV z r → (∀ s', Inv X pins σ (upd H d o') s' → Q () s') →
      wpAny (model X.prog X.w) A (setItem (.ref d) u r) Q E s ∧ (A = X.A → wpAny (model X.prog X.w) A (dictSet d u r) Q E s) := by
  cases c with
  | ls _ => cases e
  | tb _ => cases e
  | dk kvs =>
    obtain ⟨ws, h1, h2⟩ := ok
    simp only [putC] at e
    split at e
    · rename_i j hj
      obtain ⟨hl, rfl⟩ := ck_some e
      obtain rfl := keyOf_D dk hj
      refine ⟨.dK (L2.putK ws j z), fun Z' ms' H' l q => ⟨_, q, DenKV.mono l _ _ (putK_V dv h2)⟩, fun pins σ s u r A Q E ha I ry rz h => ⟨?_, fun hA => ?_⟩⟩
      · exact L2.d_setItem (by omega) I (L2.DPut.k h1 (by rw [h2.length]; exact hl)) ry rz h
      · subst hA
        exact L2.d_dictSet I h1 (by rw [h2.length]; exact hl) ry rz h
    · split at e
      · obtain ⟨n, e1, rfl⟩ := Option.map_eq_some_iff.mp e
        obtain ⟨b, rfl⟩ := nkT_D dk e1
        simp only [DenKV] at h2
        subst h2
        refine ⟨DN X.w d [(n, b, z)], fun Z' ms' H' l q => ⟨_, q, ?_⟩, fun pins σ s u r A Q E ha I ry rz h => ?_⟩
        · simp only [DenN]
          exact ⟨n, b, z, [], rfl, e1, Den.mono l _ _ dk, Den.mono l _ _ dv, rfl⟩
        · cases ry
          exact ⟨dn_setItem0 (v := v) (by omega) I h1 e1 dk rz h, fun hA => dn_dictSet0 (v := v) (by omega) I h1 e1 dk rz h⟩
      · cases e
  | dn kvs =>
    obtain ⟨es, h1, h2⟩ := ok
    simp only [putC] at e
    obtain ⟨n, e1, e2⟩ := Option.bind_eq_some_iff.mp e
    obtain ⟨hl, rfl⟩ := ck_some e2
    obtain ⟨b, rfl⟩ := nkT_D dk e1
    refine ⟨DN X.w d (putE es n b z), fun Z' ms' H' l q => ⟨_, q, DenN.mono l _ _ (h2.put e1 dk dv)⟩, fun pins σ s u r A Q E ha I ry rz h => ?_⟩
    cases ry
    exact ⟨dn_setItem (k := k) (v := v) (by omega) I h1 h2 e1 dk hl rz h, fun hA => dn_dictSet (k := k) (v := v) (by omega) I h1 h2 e1 dk hl rz h⟩
end
/-- what an item gives to the dict at D -/
def ElD (K : PySem.W.Frag) (w : World) (kk el : M Res) (D : Addr) : Taker := fun Nx σ H => ∃ (F : Fm) (o : HO) (cl : Cell) (Z : Addr → Prop) (ms : List Addr) (g : G) (y z : Res) (g1 g2 : G) (cl' : Cell), F.w = w ∧ ¬ F.Z0 D ∧ F.F D = none ∧ Rel K (F.with D o) Z ms g σ H ∧ CellOk K Z ms H w cl D ∧
  kk g = .ok y g1 ∧ el g1 = .ok z g2 ∧ putC cl y.pv z.pv = some cl' ∧ ∀ o' Z' ms' H', Le Z ms H Z' ms' H' → Rel K (F.with D o') Z' ms' g2 σ H' → CellOk K Z' ms' H' w cl' D → Nx H'
theorem dcn_sat {K : PySem.W.Frag} {F : Fm} {W : Wish} {c : Call} {t : MT} {it : MI} {k : MO} {kk el : ME} {σ : L2.St} {H : Hp} {Q : VK} {w : World} (hw : F.w = w) (h : tE K F W (ev c (.dcn t it k kk el)) σ H Q) :
    tBk (tIt K F W t (evi c it)) (gT K t) (tTx K w (tsto c k)) (fun _ => .dK []) (ElD K w (ev c kk) (ev c el)) t.slots σ H Q := by
  obtain ⟨Z, ms, g, R, S⟩ := h
  simp only [ev_dcn] at S
  rcases S.split with ⟨x0, g1, e1, S1⟩ | ⟨xs, g1, e1, S1⟩
  · exact ⟨Z, ms, g, R, Sat.exc e1 S1⟩
  refine ⟨Z, ms, g, R, Sat.mk e1 fun Z1 ms1 H1 l1 R1 J jo D hD => ?_⟩
  split at S1
  case isFalse => exact S1.elim
  rename_i no
  obtain ⟨clE, g2, e2, S2⟩ := (S1.le l1).stepN noX_nx
  replace e2 := noX_eq e2
  have nz0 := R1.noZ0 hD
  have nf := R1.freeF hD
  refine ⟨fun i m H2 => m = xs.length - i ∧ i ≤ xs.length ∧ ∃ Z2 ms2 g3 cl o, Le Z1 ms1 (upd H1 D (.dK [])) Z2 ms2 H2 ∧ Rel K (F.with D o) Z2 ms2 g3 (L2.wipe σ t.slots) H2 ∧ CellOk K Z2 ms2 H2 w cl D ∧ dcGo t.slots (bindT t) (tsto c k) (ev c kk) (ev c el) (xs.drop i) cl g3 = .ok clE g2,
    ⟨_, rfl, Nat.zero_le _, Z1, ms1, _, .dk [], _, .refl, (R1.pinNew (o := .dK []) hD).wipe, ⟨[], L2.upd_same, by simp only [DenKV]⟩, e2⟩, fun i m H2 ⟨hm, hi, Z2, ms2, g3, cl, o, l2, R2, d2, e3⟩ => ?_⟩
  have l12 : Le Z1 ms1 H1 Z2 ms2 H2 := (Le.upd hD).trans l2
  obtain ⟨j1, j2⟩ := jo Z2 ms2 H2 l12 i
  by_cases hlt : i < xs.length
  · right
    rw [List.drop_eq_getElem_cons hlt] at e3
    unfold dcGo at e3
    obtain ⟨jgo, jy⟩ := j2 xs[i] (List.getElem?_eq_getElem hlt)
    refine ⟨jgo, fun H5 => ∃ Z2 ms2 g3 cl o, Le Z1 ms1 (upd H1 D (.dK [])) Z2 ms2 H5 ∧ Rel K (F.with D o) Z2 ms2 g3 (L2.wipe σ t.slots) H5 ∧ CellOk K Z2 ms2 H5 w cl D ∧ dcGo t.slots (bindT t) (tsto c k) (ev c kk) (ev c el) (xs.drop (i + 1)) cl g3 = .ok clE g2,
      fun H5 w => ⟨xs.length - (i + 1), by omega, rfl, hlt, w⟩, fun x H3 yl => ?_⟩
    obtain ⟨lay, dx⟩ := jy x H3 yl
    have p2 := R2.pinned
    obtain ⟨lL, R2⟩ := lay.rel R2
    replace l2 := l2.trans lL
    replace d2 := d2.mono lL (by rw [R2.pinned, p2])
    cases hb : bindT t (.val xs[i]) g3 with
    | bad => rw [hb] at e3; cases e3
    | exc _ _ => rw [hb] at e3; cases e3
    | ok u g4 =>
      rw [hb, Ev.R.bind_ok] at e3
      refine bind_okY (all := t.slots) (fun _ h => h) R2 dx hb fun σ4 R4 w4 => ?_
      rw [wipe_wipe] at w4
      refine ⟨w4, ?_⟩
      cases ht : tsto c k g4 with
      | bad => rw [ht] at e3; cases e3
      | exc _ _ => rw [ht] at e3; cases e3
      | ok b g5 =>
        rw [ht, Ev.R.bind_ok] at e3
        refine ⟨F.with D o, hw, Z2, ms2, g4, R4, Sat.mk ht fun Z5 ms5 H5 l5 R5 => ?_⟩
        have d5 := d2.mono l5 (by rw [R5.pinned, R2.pinned])
        cases b with
        | false =>
          rw [if_neg Bool.false_ne_true] at e3
          show if false = true then _ else _
          rw [if_neg Bool.false_ne_true]
          exact ⟨Z5, ms5, _, cl, o, l2.trans l5, w4 ▸ R5.wipe, d5, e3⟩
        | true =>
          rw [if_pos rfl] at e3
          show if true = true then _ else _
          rw [if_pos rfl]
          cases hv : ev c kk g5 with
          | bad => rw [hv] at e3; cases e3
          | exc _ _ => rw [hv] at e3; cases e3
          | ok y g6 =>
            rw [hv, Ev.R.bind_ok] at e3
            cases hz : ev c el g6 with
            | bad => rw [hz] at e3; cases e3
            | exc _ _ => rw [hz] at e3; cases e3
            | ok z g7 =>
              rw [hz, Ev.R.bind_ok] at e3
              cases hp : putC cl y.pv z.pv with
              | none => rw [hp] at e3; cases e3
              | some cl' =>
                rw [hp, lift_some, Ev.R.bind_ok] at e3
                refine ⟨F, o, cl, Z5, ms5, g5, y, z, g6, g7, cl', hw, nz0, nf, R5, d5, hv, hz, hp, fun o' Z' ms' H' l' R' ok' => ?_⟩
                exact ⟨Z', ms', _, cl', o', l2.trans (l5.trans l'), w4 ▸ R'.wipe, ok', e3⟩
  · left
    have hn : xs.drop i = [] := List.drop_eq_nil_of_le (by omega)
    rw [hn] at e3
    unfold dcGo at e3
    cases e3
    refine ⟨j1 (by omega), ?_⟩
    have R3 := R2.back R1 no l12
    obtain ⟨q1, q2⟩ := d2.obj R2.pinned
    obtain ⟨l3, R4⟩ := R3.cellNew (o' := o) (cell := clE) nz0 nf q1 q2 (d2.code R2.pinned) fun H' l e => by
      rw [hw]
      exact d2.mono l (by rw [e, R2.pinned])
    have hup : upd H2 D o = H2 := by
      funext a
      by_cases q : a = D
      · subst q
        rw [L2.upd_same, R2.pinned]
      · rw [L2.upd_ne q]
    rw [hup] at l3 R4
    refine S2 Z2 _ H2 (l12.trans l3) R4 (.ref D) ?_
    simp only [ResOk, Den]
    refine ⟨D, rfl, ?_⟩
    have hc2 := R2.cn
    rw [List.getElem?_append_right (by omega), hc2]
    simp
theorem e_dcn {X : Cx} {F : Fm} {W : Wish} {kx vx tg iter : Expr} {ifs : List Expr} {scope : Scope} {own : List (Str × Nat)} {pos : Pos} {c : Call} {t : MT} {it : MI} {k : MO} {kk el : ME} (hw : F.w = X.w) (hu : X.A.units + 66 < cLine) (hc : X.calm = true) (hN : X.N.Nodup) (hi : PI X tg iter (tIt X.K F W t (evi c it))) (ok : L2.BlkOk X.N X.env.scope scope own) (ho : own.map (·.2) = t.slots)
    (hg : ∀ (s : Shared) (H : Hp) (C : Addr) (cl : List (Str × Addr)) (fp : List Addr), PG (X.blk s H scope (compEnvC scope cl C X.env) fp) tg (gT X.K t))
    (ht : ∀ (s : Shared) (H : Hp) (C : Addr) (cl : List (Str × Addr)) (fp : List Addr), L2.PTs (X.blk s H scope (compEnvC scope cl C X.env) fp) ifs (tTx X.K X.w (tsto c k)))
    (hk : ∀ (s : Shared) (H : Hp) (C : Addr) (cl : List (Str × Addr)) (fp : List Addr) (F : Fm), F.w = X.w → PE (X.blk s H scope (compEnvC scope cl C X.env) fp) kx (tE X.K F noW (ev c kk)))
    (he : ∀ (s : Shared) (H : Hp) (C : Addr) (cl : List (Str × Addr)) (fp : List Addr) (F : Fm), F.w = X.w → PE (X.blk s H scope (compEnvC scope cl C X.env) fp) vx (tE X.K F noW (ev c el))) (hs : ∀ x, foldedSetIterable iter X.env x = pure x) :
    PE X (.DictComp kx vx [⟨tg, iter, ifs, 0⟩] scope pos) (tE X.K F W (ev c (.dcn t it k kk el))) := by
  refine PE.imp (pe_dcG (El := ElD X.K X.w (ev c kk) (ev c el)) hc hN hi ok hg ht ?_ hs) fun σ H Q h => ?_
  · rintro s H C cl fp D pins τ H4 s4 Nx I ⟨F', o, cell, Z, ms, g, y, z, g1, g2, cell', hw', nz0, nf, R, okc, ek, ee, ep, fin⟩
    refine L2.thnF ((PE.v (hk s H C cl fp (F'.with D o) hw')).run pins s4 τ H4 (fun x H5 => ∃ (Z1 : Addr → Prop) (ms1 : List Addr), Le Z ms H4 Z1 ms1 H5 ∧ Rel X.K (F'.with D o) Z1 ms1 g1 τ H5 ∧ Den X.K Z1 ms1 H5 y.pv x) I ⟨Z, ms, g, R, Sat.mk ek fun Z1 ms1 H5 l1 R1 x d1 => ⟨Z1, ms1, l1, R1, d1⟩⟩) fun kv s5 ⟨x, H5, I5, r5, Z1, ms1, l1, R1, d1⟩ => ?_
    refine L2.thnF ((PE.v (he s H C cl fp (F'.with D o) hw')).run pins s5 τ H5 (fun x2 H6 => ∃ (Z2 : Addr → Prop) (ms2 : List Addr), Le Z1 ms1 H5 Z2 ms2 H6 ∧ Rel X.K (F'.with D o) Z2 ms2 g2 τ H6 ∧ Den X.K Z2 ms2 H6 z.pv x2) I5 ⟨Z1, ms1, g1, R1, Sat.mk ee fun Z2 ms2 H6 l2 R2 x2 d2 => ⟨Z2, ms2, l2, R2, d2⟩⟩) fun vv s6 ⟨x2, H6, I6, r6, Z2, ms2, l2, R2, d2⟩ => ?_
    have okc2 := (okc.mono l1 (by rw [R1.pinned, R.pinned])).mono l2 (by rw [R2.pinned, R1.pinned])
    obtain ⟨o', p1, p2⟩ := cell_put (X := X.blk s H scope (compEnvC scope cl C X.env) fp) hu okc2 (Den.mono l2 _ _ d1) d2 ep
    obtain ⟨q1, q2⟩ := okc2.obj R2.pinned
    obtain ⟨l3, R3⟩ := R2.rewriteO (o' := o') nz0 nf q1 q2 (okc2.code R2.pinned)
    exact (p2 pins τ s6 kv vv X.A _ _ (Nat.le_refl _) I6 r5 r6 fun s' I' => ⟨_, I', fin o' Z2 ms2 _ (l1.trans (l2.trans l3)) R3 (p1 Z2 ms2 _ l3 L2.upd_same)⟩).2 rfl
  · rw [ho]
    exact dcn_sat hw h
end Ev
/-! # Ev: sets counted. -/
namespace Ev
open PySem PySem.Spec PyProof.Rows
open L2 (V Hp HO upd SqL SqT Rd Cx Inv PE PT PW PA PS PSs PG PGs PI PK VK TE TT TA TS TG TGs TI Ends RelV Vals It Dp DpAll OpR UnR CallR TruR IxR SlR MtR EP TP AP SP FpOk)
section
variable {X : Cx} {elt tg iter : Expr} {ifs : List Expr} {scope : Scope} {own : List (Str × Nat)} {pos : Pos} {wi : TI} {g : TG} {tt : TT} {El : Addr → Taker}
/-- {elt for target in iter if ..}: D the new set -/
theorem pe_scG (hc : X.calm = true) (hN : X.N.Nodup) (hi : PI X tg iter wi) (ok : L2.BlkOk X.N X.env.scope scope own)
    (hg : ∀ (s : Shared) (H : Hp) (C : Addr) (cl : List (Str × Addr)) (fp : List Addr), PG (X.blk s H scope (compEnvC scope cl C X.env) fp) tg g)
    (ht : ∀ (s : Shared) (H : Hp) (C : Addr) (cl : List (Str × Addr)) (fp : List Addr), L2.PTs (X.blk s H scope (compEnvC scope cl C X.env) fp) ifs tt)
    (he : ∀ (s : Shared) (H : Hp) (C : Addr) (cl : List (Str × Addr)) (fp : List Addr) (D : Addr) (pins : List (Addr × Obj)) (τ : L2.St) (H4 : Hp) (t : Shared) (Nx : Hp → Prop), Inv (X.blk s H scope (compEnvC scope cl C X.env) fp) pins τ H4 t → El D Nx τ H4 →
      wpAny (model X.prog X.w) X.A (eval elt (compEnvC scope cl C X.env)) (fun kv t1 => wpAny (model X.prog X.w) X.A (call (.builtin "set.add") [.ref D, kv]) (fun _ t3 => ∃ H', Inv (X.blk s H scope (compEnvC scope cl C X.env) fp) pins τ H' t3 ∧ Nx H') (fun _ _ => False) t1) (fun _ _ => False) t)
    (hs : ∀ x, foldedSetIterable iter X.env x = pure x) : PE X (.SetComp elt [⟨tg, iter, ifs, 0⟩] scope pos) (tBk wi g tt (fun D => L2.SetK X.prog X.w D (fun _ => false) 0) El (own.map (·.2))) := by
  refine ⟨fun pins s σ H Q I h => ?_⟩
  rw [PpSet.eval_SetComp]
  refine wpAny_comprehension_free (use := none) rfl hs (L2.closure_ok fun y hy e => (ok.free y hy e).elim (fun k => I.ok.has _ (.inl k)) fun k => I.ok.has _ (.inr k)) ok.kind (fun y hy e => by rw [ok.uniq y hy, e]) (L2.thn (hi.run pins s σ H _ I h) fun xv s1 hx => L2.thn hx fun itv s2 h2 => ?_)
  obtain ⟨it, fp, tn, J, H2, e, I2, T, st2, f2, q⟩ := h2
  subst e
  refine PpSet.newSet_ok (L2.newEnv_comp ?_)
  obtain ⟨W, ⟨m0, w0⟩, turn⟩ := q s2.heap.objs.size (I2.hok.fresh (Nat.le_refl _))
  have fresh : (s2.heap.push { cls := .type "set", dict := none, data := .set #[] 0 (.fresh 0 0 (!X.w.params.followText "set-order")) }).SetOf (L2.mixKind X.prog X.w) s2.heap.objs.size (fun _ => false) 0 :=
    ⟨_, #[], 0, _, Heap.get?_push_size _ rfl, ⟨rfl, rfl, rfl⟩, rfl, (fun e he => by simp at he), (fun k => by simp), (by decide), (by rfl), rfl⟩
  have I3 : Inv X pins σ (upd H2 s2.heap.objs.size (L2.SetK X.prog X.w s2.heap.objs.size (fun _ => false) 0)) { s2 with heap := s2.heap.push { cls := .type "set", dict := none, data := .set #[] 0 (.fresh 0 0 (!X.w.params.followText "set-order")) } } :=
    I2.laid (t' := s2.toks) (fun b o e => Heap.get?_push_of_some _ e) (Nat.le_refl _) (L2.setK_new fresh)
  have inFp : ∀ b ∈ fp, b < s2.heap.objs.size := fun b hb => by
    obtain ⟨o, e, _⟩ := T.obj _ _ st2 b hb
    exact Heap.lt_size e
  have f3 : ∀ b ∈ fp, FpOk X pins (upd H2 s2.heap.objs.size (L2.SetK X.prog X.w s2.heap.objs.size (fun _ => false) 0)) b := fun b hb => ⟨by rw [L2.upd_ne (Nat.ne_of_lt (inFp b hb))]; exact (f2 b hb).1, (f2 b hb).2⟩
  generalize hs3 : ({ s2 with heap := s2.heap.push { cls := .type "set", dict := none, data := .set #[] 0 (.fresh 0 0 (!X.w.params.followText "set-order")) } } : Shared) = s3 at I3
  have e3 : s2.heap.push { cls := .type "set", dict := none, data := .set #[] 0 (.fresh 0 0 (!X.w.params.followText "set-order")) } = s3.heap := by rw [← hs3]
  have st3 : tn 0 s3.heap := T.keep _ _ _ st2 fun b _ o e => by rw [← e3]; exact Heap.get?_push_of_some _ e
  have lt3 : ∀ b ∈ fp, b < s3.heap.objs.size := fun b hb => by rw [← e3, Heap.size_push]; exact Nat.lt_succ_of_lt (inFp b hb)
  have I4 := L2.block_start I3 ok hN fun b hb => ⟨f3 b hb, lt3 b hb⟩
  have st4 := T.keep _ _ _ st3 fun b _ o e => pushCells_keeps scope.names (s3.heap.push { cls := .type "dict", data := .dict #[] }) _ _ (Heap.get?_push_of_some _ e)
  have pg := hg s3 (upd H2 s2.heap.objs.size (L2.SetK X.prog X.w s2.heap.objs.size (fun _ => false) 0)) s3.heap.objs.size (cellsFrom (s3.heap.objs.size + 1) scope.names (L2.cloFrom X.env.cells scope.names [])) fp
  have pt := ht s3 (upd H2 s2.heap.objs.size (L2.SetK X.prog X.w s2.heap.objs.size (fun _ => false) 0)) s3.heap.objs.size (cellsFrom (s3.heap.objs.size + 1) scope.names (L2.cloFrom X.env.cells scope.names [])) fp
  have pe := he s3 (upd H2 s2.heap.objs.size (L2.SetK X.prog X.w s2.heap.objs.size (fun _ => false) 0)) s3.heap.objs.size (cellsFrom (s3.heap.objs.size + 1) scope.names (L2.cloFrom X.env.cells scope.names [])) fp s2.heap.objs.size
  have loop : codeAny (model X.prog X.w) X.A (.compLoop (.SetComp elt [⟨tg, iter, ifs, 0⟩] scope pos) 0 (.ref it) (.ref s2.heap.objs.size) (compEnvC scope (cellsFrom (s3.heap.objs.size + 1) scope.names (L2.cloFrom X.env.cells scope.names [])) s3.heap.objs.size X.env))
      (compPost (model X.prog X.w) X.A X.xe none (EP X pins σ Q) (.ref s2.heap.objs.size) s3.heap.objs.size) { s3 with heap := pushCells (s3.heap.push { cls := .type "dict", data := .dict #[] }) scope.names } := by
    refine PpSet.compLoopS_any (Between (X.blk s3 (upd H2 s2.heap.objs.size (L2.SetK X.prog X.w s2.heap.objs.size (fun _ => false) 0)) scope (compEnvC scope (cellsFrom (s3.heap.objs.size + 1) scope.names (L2.cloFrom X.env.cells scope.names [])) s3.heap.objs.size X.env) fp) fp tn (L2.wipe σ (own.map (·.2))) W) (fun n t b => ?_) m0 ⟨0, _, I4, st4, fun b hb => (f3 b hb).1, w0⟩
    refine L2.thnF (blk_turn hc T pg pt turn n t b) fun r t1 h1 => ?_
    cases r with
    | none =>
      obtain ⟨H5, I5, q5⟩ := h1
      obtain ⟨_, m, b1, b2⟩ := blk_back I3 f3 I5
      exact ⟨m, b1, fun h' sb => ⟨.ref s2.heap.objs.size, H5, b2 h' sb, rfl, q5⟩⟩
    | some v =>
      refine L2.thnF h1 fun _ t2 h2 => L2.thnF h2 fun _ t3 h3 => L2.thnF h3 fun okk t4 h4 => ?_
      cases okk with
      | false => exact h4
      | true =>
        obtain ⟨pins', τ, H4, Nx, I6, el, fin⟩ := h4
        exact L2.thnF (pe pins' τ H4 t4 Nx I6 el) fun kv t5 h5 => L2.thnF h5 fun _ t7 ⟨H', I7, nx⟩ => fin t7 H' I7 nx
  exact PpSet.codeAny_compStart_set loop (T.self X.A 0 _ _ _ st4 loop)
end
/-! ### counting -/
theorem SetK_code {P : Program} {w : World} {d : Addr} {S : L2.Key → Bool} {n : Nat} {a : Addr} {q : Str} : L2.SetK P w d S n ≠ LamX.CodeO a q := fun e => by
  unfold L2.SetK LamX.CodeO at e
  have e := L2.HO.ext.inj e
  let ob : Obj := { cls := .none, data := .fields #[.none, .str q 0] }
  let h : Heap := { objs := Array.replicate (a + d + 1) ob }
  have g : ∀ x, x ≤ a + d → h.get? x = some ob := fun x hx => by
    show (match (Array.replicate (a + d + 1) ob)[x]? with | some ⟨_, _, .freed, _⟩ => none | o => o) = _
    rw [Array.getElem?_replicate, if_pos (Nat.lt_succ_of_le hx)]
  have e1 := congrFun e h
  have r : h.SetOf (L2.mixKind P w) d S n := by
    rw [e1]
    exact ⟨ob, _, 0, g a (Nat.le_add_right ..), rfl, rfl⟩
  obtain ⟨o, es, ep, t, ho, _, hd, _⟩ := r
  rw [g d (Nat.le_add_left ..)] at ho
  cases ho
  cases hd
def hasK (x : L2.Key) (l : List L2.Key) : Bool := l.any fun y => decide (y = x)
theorem hasK_mem {x : L2.Key} {l : List L2.Key} : hasK x l = true ↔ x ∈ l := by
  unfold hasK
  rw [List.any_eq_true]
  constructor
  · rintro ⟨y, h1, h2⟩
    rw [← of_decide_eq_true h2]
    exact h1
  · exact fun h => ⟨x, h, decide_eq_true rfl⟩
theorem distK_cons (x : L2.Key) (l : List L2.Key) : distK (x :: l) = if hasK x l = true then distK l else distK l + 1 := rfl
theorem hasK_app {x y : L2.Key} {l : List L2.Key} : hasK y (l ++ [x]) = (hasK y l || decide (x = y)) := by
  unfold hasK
  rw [List.any_append]
  simp
theorem distK_snoc (x : L2.Key) : ∀ l : List L2.Key, distK (l ++ [x]) = if hasK x l = true then distK l else distK l + 1
  | [] => rfl
  | y :: l => by
    rw [List.cons_append, distK_cons, distK_snoc x l, distK_cons, hasK_app]
    have e : hasK x (y :: l) = (decide (y = x) || hasK x l) := rfl
    rw [e]
    by_cases h1 : y = x
    · subst h1
      cases hasK y l <;> simp
    · have h1' : ¬ x = y := fun e => h1 e.symm
      cases hasK y l <;> cases hasK x l <;> simp [h1, h1']
theorem kys_get : ∀ {xs : List PV} {ks : List L2.Key}, kys xs = some ks → ks.length = xs.length ∧ ∀ (i : Nat) y, xs[i]? = some y → ∃ k, ks[i]? = some k ∧ keyOf y = some k
  | [], ks, e => by
    cases e
    exact ⟨rfl, fun i y q => by simp at q⟩
  | y :: r, ks, e => by
    simp only [kys] at e
    obtain ⟨k, e1, e2⟩ := Option.bind_eq_some_iff.mp e
    obtain ⟨ks', e3, rfl⟩ := Option.map_eq_some_iff.mp e2
    obtain ⟨h1, h2⟩ := kys_get e3
    refine ⟨by simp [h1], fun i z q => ?_⟩
    cases i with
    | zero =>
      cases q
      exact ⟨k, rfl, e1⟩
    | succ i => exact h2 i z (by simpa using q)
/-- what an item gives to the set at D: what the name i holds -/
def ElS (P : Program) (w : World) (i : Nat) (D : Addr) : Taker := fun Nx σ H => ∃ (k : L2.Key) (S : L2.Key → Bool) (n : Nat), σ[i]? = some (some (L2.kV k)) ∧ H D = some (L2.SetK P w D S n) ∧ n + 1 < scanBound ∧ Nx (upd H D (L2.SetK P w D (fun j => S j || decide (j = k)) (if S k = true then n else n + 1)))
/-- len of a set of keys -/
theorem call_lenK {X : Cx} : CallR X (.builtin "len") (fun xs H Q => ∃ (p : Addr) (S : L2.Key → Bool) (n : Nat), xs = [V.ref p] ∧ H p = some (L2.SetK X.prog X.w p S n) ∧ Q (.int (n : Nat)) H) := by
  intro pins s σ H xs us Q I r h
  obtain ⟨p, S, n, rfl, e, q⟩ := h
  obtain ⟨u, rfl, ru⟩ := L2.vals1 r
  cases ru
  obtain ⟨o, es, ep, t, ho, hex, hd, _, _, hb, hf, hn⟩ := L2.setK_get I e
  have : scanBound = 4096 := rfl
  exact call_len_set ho hex hd hf (by omega) ⟨.int (n : Nat), H, I.tok _, ⟨_, by rw [hn]⟩, q⟩
section
variable {X : Cx} {F : Fm} {W : Wish}
theorem lset_sat {c : Call} {i : Nat} {a : ME} {σ : L2.St} {H : Hp} {Q : VK} (hσ : True) (h : tE X.K F W (ev c (.lset i a)) σ H Q) :
    tBk (tIt X.K F W (.nm i) (evi c (.it a))) (L2.gName i) (fun σ H Q => Q true H) (fun D => L2.SetK X.prog X.w D (fun _ => false) 0) (ElS X.prog X.w i) [i] σ H (fun v H' => ∃ (p : Addr) (S : L2.Key → Bool) (n : Nat), [v] = [V.ref p] ∧ H' p = some (L2.SetK X.prog X.w p S n) ∧ Q (.int (n : Nat)) H') := by
  obtain ⟨Z, ms, g, R, S⟩ := h
  simp only [ev_lset] at S
  have e0 : evi c (.it a) g = ((ev c a g).bind fun r g1 => lift (itemsI r.pv) g1) := by rw [evi_it]
  rcases S.split with ⟨x0, g1, e1, S1⟩ | ⟨r, g1, e1, S1⟩
  · exact ⟨Z, ms, g, R, Sat.exc (by rw [e0, e1, Ev.R.bind_exc]) S1⟩
  split at S1
  case isFalse => exact S1.elim
  rename_i hi
  obtain ⟨v, e2, S2⟩ := S1.lift
  obtain ⟨xs, e3, e4⟩ := Option.bind_eq_some_iff.mp e2
  unfold lsetV at e4
  obtain ⟨ks, e5, e6⟩ := Option.bind_eq_some_iff.mp e4
  obtain ⟨hlen, rfl⟩ := ck_some e6
  obtain ⟨hl, hk⟩ := kys_get e5
  refine ⟨Z, ms, g, R, Sat.mk (g := g1) (a := xs) (by rw [e0, e1, Ev.R.bind_ok, itemsI_of e3, lift_some]) fun Z1 ms1 H1 l1 R1 J jo D hD => ?_⟩
  have nf := R1.freeF hD
  have nz0 := R1.noZ0 hD
  refine ⟨fun j m H2 => m = xs.length - j ∧ j ≤ xs.length ∧ ∃ Z2 ms2 S0, Le Z1 ms1 H1 Z2 ms2 H2 ∧ Rel X.K (F.with D (L2.SetK X.prog X.w D S0 (distK (ks.take j)))) Z2 ms2 g1 σ H2 ∧ ∀ k, S0 k = true ↔ k ∈ ks.take j,
    ⟨_, rfl, Nat.zero_le _, Z1, ms1, _, Le.upd hD, R1.pinNew hD, fun k => by simp⟩, fun j m H2 ⟨hm, hj, Z2, ms2, S0, l2, R2, hS⟩ => ?_⟩
  obtain ⟨j1, j2⟩ := jo Z2 ms2 H2 l2 j
  by_cases hlt : j < xs.length
  · right
    obtain ⟨jgo, jy⟩ := j2 xs[j] (List.getElem?_eq_getElem hlt)
    refine ⟨jgo, fun H5 => ∃ Z2 ms2 S0, Le Z1 ms1 H1 Z2 ms2 H5 ∧ Rel X.K (F.with D (L2.SetK X.prog X.w D S0 (distK (ks.take (j + 1))))) Z2 ms2 g1 σ H5 ∧ ∀ k, S0 k = true ↔ k ∈ ks.take (j + 1), fun H5 w => ⟨xs.length - (j + 1), by omega, rfl, hlt, w⟩, fun x H3 yl => ?_⟩
    obtain ⟨lay, dx⟩ := jy x H3 yl
    obtain ⟨lL, R3⟩ := lay.rel R2
    obtain ⟨k, k1, k2⟩ := hk j xs[j] (List.getElem?_eq_getElem hlt)
    have dx : Den X.K Z2 ms2 H3 xs[j] x := dx
    obtain rfl := keyOf_D (X := X) dx k2
    have ht : ks.take (j + 1) = ks.take j ++ [k] := by
      rw [List.take_add_one, k1]
      rfl
    refine ⟨wipe_set (List.mem_singleton.mpr rfl) |>.trans wipe_wipe, ?_⟩
    show if true = true then _ else _
    rw [if_pos rfl]
    have hn : distK (ks.take j) ≤ j := by
      have go : ∀ l : List L2.Key, distK l ≤ l.length := by
        intro l
        induction l with
        | nil => exact Nat.le_refl _
        | cons a r ih =>
          simp only [distK, List.length_cons]
          split <;> omega
      exact Nat.le_trans (go _) (by rw [List.length_take]; omega)
    have hsb : scanBound = 4096 := rfl
    obtain ⟨l4, R4⟩ := R3.rewriteO (o' := L2.SetK X.prog X.w D (fun j => S0 j || decide (j = k)) (if S0 k = true then distK (ks.take j) else distK (ks.take j) + 1)) nz0 nf (fun _ q => L2.HO.noConfusion q) (fun _ _ q => L2.HO.noConfusion q) (fun _ _ => SetK_code)
    refine ⟨k, S0, _, ?_, R3.pinned, by omega, Z2, ms2, fun j => S0 j || decide (j = k), l2.trans (lL.trans l4), ?_, fun k' => ?_⟩
    · have hl2 : i < (L2.wipe σ [i]).length := by rw [L2.wipe_length, R1.len]; exact hi
      exact List.getElem?_set_self hl2
    · rw [ht, distK_snoc]
      have : (if hasK k (ks.take j) = true then distK (ks.take j) else distK (ks.take j) + 1) = if S0 k = true then distK (ks.take j) else distK (ks.take j) + 1 := by
        by_cases q : S0 k = true
        · rw [if_pos q, if_pos (hasK_mem.mpr ((hS k).mp q))]
        · rw [if_neg q, if_neg fun z => q ((hS k).mpr (hasK_mem.mp z))]
      rw [this]
      exact R4
    · rw [ht]
      simp only [Bool.or_eq_true, decide_eq_true_eq, List.mem_append, List.mem_singleton, hS k']
  · left
    refine ⟨j1 (by omega), D, S0, _, rfl, R2.pinned, ?_⟩
    have : ks.take j = ks := List.take_of_length_le (by omega)
    rw [this] at R2
    rw [this]
    exact S2 Z2 ms2 H2 (l1.trans l2) (R2.unpin nf) _ (by simp only [ResOk, Den])
/-- len({x for x in e}) -/
theorem e_lset {c : Call} {i : Nat} {a : ME} {x : Str} {iter : Expr} {scope : Scope} {p p1 p2 p3 pos : Pos} (hc : X.calm = true) (hN : X.N.Nodup) (hi : ∀ tg, PI X tg iter (tIt X.K F W (.nm i) (evi c (.it a)))) (ok : L2.BlkOk X.N X.env.scope scope [(x, i)])
    (hg : ∀ (s : Shared) (H : Hp) (C : Addr) (cl : List (Str × Addr)) (fp : List Addr), PG (X.blk s H scope (compEnvC scope cl C X.env) fp) (.Name x p1) (L2.gName i))
    (hv : ∀ (s : Shared) (H : Hp) (C : Addr) (cl : List (Str × Addr)) (fp : List Addr), PE (X.blk s H scope (compEnvC scope cl C X.env) fp) (.Name x p2) (L2.tVar i)) (hs : ∀ x, foldedSetIterable iter X.env x = pure x)
    (hgl : L2.Gl X "len") (hm : X.mg "len" = none) :
    PE X (.Call (.Name "len" p) [.SetComp (.Name x p2) [⟨.Name x p1, iter, [], 0⟩] scope p3] [] pos) (tE X.K F W (ev c (.lset i a))) := by
  have inner : PE X (.SetComp (.Name x p2) [⟨.Name x p1, iter, [], 0⟩] scope p3) (tBk (tIt X.K F W (.nm i) (evi c (.it a))) (L2.gName i) (fun σ H Q => Q true H) (fun D => L2.SetK X.prog X.w D (fun _ => false) 0) (ElS X.prog X.w i) ([(x, i)].map (·.2))) := by
    refine pe_scG hc hN (hi _) ok hg (fun s H C cl fp => ⟨fun pins s' σ' H' Q I q => L2.pts_nil.run pins s' σ' H' Q I q⟩) ?_ hs
    rintro s H C cl fp D pins τ H4 s4 Nx I ⟨k, S, n, h1, h2, h3, nx⟩
    refine L2.thnF ((hv s H C cl fp).run pins s4 τ H4 (fun y H5 => y = L2.kV k ∧ H5 = H4) I ⟨_, h1, rfl, rfl⟩) fun kv s5 ⟨y, H5, I5, r5, hy, hH⟩ => ?_
    subst hy hH
    refine L2.thnF (L2.mt_saddK (X := X.blk s H scope (compEnvC scope cl C X.env) fp) pins s5 τ H5 (.ref D) [L2.kV k] (.ref D) [kv] (fun v H' => H' = upd H5 D (L2.SetK X.prog X.w D (fun j => S j || decide (j = k)) (if S k = true then n else n + 1))) I5 rfl (.cons r5 .nil) ⟨D, k, S, n, rfl, rfl, h2, h3, rfl⟩) fun _ s6 ⟨v, H6, I6, r6, hH⟩ => ?_
    subst hH
    exact ⟨_, I6, nx⟩
  have hA : PA X [.SetComp (.Name x p2) [⟨.Name x p1, iter, [], 0⟩] scope p3] (L2.tCons _ L2.tNil) := L2.pa_cons inner L2.pa_nil rfl
  refine PE.imp (L2.pe_callB call_lenK hgl hm (by decide +kernel) hA (by decide +kernel) rfl rfl rfl) fun σ H Q h => ?_
  exact lset_sat (X := X) (F := F) (W := W) trivial h
end
end Ev
/-! # Ev: list(range(..)), [e for .. for ..]. -/
namespace Ev
open PySem PySem.Spec
open L2 (V Hp HO upd SqL SqT Rd Cx Inv PE PT PW PA PS PSs PG PGs PI PK VK TE TT TA TS TG TGs TI Ends RelV Vals It Dp DpAll OpR UnR CallR TruR IxR SlR MtR EP TP AP SP)
theorem rg_V (lo hi : Int) : L2.rgV lo hi = (List.range (hi - lo).toNat).map (fun i : Nat => V.int (lo + (i : Nat))) := rfl
theorem rg_size (lo hi : Int) : (rgItems lo hi).length = (hi - lo).toNat := by simp [rgItems]
theorem rg_dens {K : PySem.W.Frag} {Z : Addr → Prop} {ms : List Addr} {H : Hp} (lo hi : Int) : Dens K Z ms H (rgItems lo hi) (L2.rgV lo hi) := by
  have e1 : rgItems lo hi = ((List.range (hi - lo).toNat).map fun i : Nat => lo + (i : Int)).map PV.int := by
    unfold rgItems
    rw [List.map_map]
    rfl
  have e2 : L2.rgV lo hi = ((List.range (hi - lo).toNat).map fun i : Nat => lo + (i : Int)).map V.int := by
    rw [rg_V, List.map_map]
    rfl
  rw [e1, e2]
  exact Dens.ints _
section
variable {X : Cx} {F : Fm} {W : Wish} {c : Call}
theorem lrg_end {lo hi : Int} {g g1 : G} {σ : L2.St} {Z : Addr → Prop} {ms : List Addr} {H1 : Hp} {Q : VK} (h1 : rgOk lo) (h2 : rgOk hi) (R1 : Rel X.K F Z ms g1 σ H1)
    (S : Sat X.K F W σ Z ms H1 (if (rgItems lo hi).length ≤ 16777216 then (Ev.R.ok (Res.new (rgItems lo hi)) g1 : Ev.R Res) else .bad) fun r Z' ms' g' H' => ∀ x, ResOk X.K F Z' ms' g' σ H' r x → Q x H') :
    L2.RgOk lo hi ∧ ∀ q, H1 q = none → Q (.ref q) (upd H1 q (.lst (L2.rgV lo hi))) := by
  split at S
  case isFalse => exact S.elim
  rename_i hl
  rw [rg_size] at hl
  refine ⟨⟨(rgOk_iff.mp h1).1, (rgOk_iff.mp h1).2, (rgOk_iff.mp h2).1, (rgOk_iff.mp h2).2, hl⟩, fun q hq => ?_⟩
  exact After.newL R1 (After.of S) (rg_dens lo hi) hq
theorem e_lrg1 {a : ME} {e : Expr} {p p2 pos pos2 : Pos} (hc : X.calm = true) (hg : L2.Gl X "list") (hm : X.mg "list" = none) (hg2 : L2.Gl X "range") (hm2 : X.mg "range" = none) (he : PE X e (tE X.K F W (ev c a))) (hs : starEach [e] X.env = (false, eval e X.env) :: starEach [] X.env) :
    PE X (.Call (.Name "list" p) [.Call (.Name "range" p2) [e] [] pos2] [] pos) (tE X.K F W (ev c (.lrg (.rg1 a)))) := by
  refine PE.imp (L2.pe_listRg hc hg hm (L2.prg_1 hg2 hm2 (PE.v he) hs)) fun σ H Q ⟨Z, ms, g, R, S⟩ => ?_
  simp only [ev_lrg, evi_rg1] at S
  rcases S.split with ⟨x0, g1, e1, S1⟩ | ⟨xs, g1, e1, S1⟩
  · cases h1 : ev c a g with
    | bad => rw [h1] at e1; cases e1
    | exc y k =>
      rw [h1, Ev.R.bind_exc] at e1
      cases e1
      exact ⟨Z, ms, g, R, Sat.exc h1 S1⟩
    | ok r g2 =>
      rw [h1, Ev.R.bind_ok] at e1
      cases h2 : asInt r.pv with
      | none => rw [h2, lift_none, Ev.R.bind_bad] at e1; cases e1
      | some j =>
        rw [h2, lift_some, Ev.R.bind_ok] at e1
        split at e1 <;> cases e1
  · cases h1 : ev c a g with
    | bad => rw [h1] at e1; cases e1
    | exc y k => rw [h1] at e1; cases e1
    | ok r g2 =>
      rw [h1, Ev.R.bind_ok] at e1
      cases h2 : asInt r.pv with
      | none => rw [h2, lift_none, Ev.R.bind_bad] at e1; cases e1
      | some j =>
        rw [h2, lift_some, Ev.R.bind_ok] at e1
        split at e1
        case isFalse => cases e1
        rename_i hj
        cases e1
        refine ⟨Z, ms, g, R, Sat.mk h1 fun Z1 ms1 H1 l1 R1 x d1 => ?_⟩
        rw [asInt_some h2] at d1
        simp only [Den] at d1
        subst d1
        exact ⟨j, rfl, lrg_end (g := g) ⟨by decide⟩ hj R1 (S1.le l1)⟩
theorem e_lrg2 {a b : ME} {e e2 : Expr} {p p2 pos pos2 : Pos} (hc : X.calm = true) (hg : L2.Gl X "list") (hm : X.mg "list" = none) (hg2 : L2.Gl X "range") (hm2 : X.mg "range" = none) (he : PE X e (tE X.K F W (ev c a))) (he2 : PE X e2 (tE X.K F W (ev c b)))
    (hs : starEach [e, e2] X.env = (false, eval e X.env) :: starEach [e2] X.env) (hs2 : starEach [e2] X.env = (false, eval e2 X.env) :: starEach [] X.env) (hp : (backTo pos2 (starEach [e2] X.env)).any (·.1) = false) :
    PE X (.Call (.Name "list" p) [.Call (.Name "range" p2) [e, e2] [] pos2] [] pos) (tE X.K F W (ev c (.lrg (.rg2 a b)))) := by
  refine PE.imp (L2.pe_listRg hc hg hm (L2.prg_2 hg2 hm2 (PE.v he) (PE.v he2) hs hs2 hp)) fun σ H Q ⟨Z, ms, g, R, S⟩ => ?_
  simp only [ev_lrg, evi_rg2] at S
  have S' : Sat X.K F W σ Z ms H ((ev c a g).bind fun r g1 => (ev c b g1).bind fun s g2 => (lift (asInt r.pv) g2).bind fun i g3 => (lift (asInt s.pv) g3).bind fun j g4 => if rgOk i ∧ rgOk j then (if (rgItems i j).length ≤ 16777216 then .ok (Res.new (rgItems i j)) g4 else .bad) else .bad) fun r Z' ms' g' H' => ∀ x, ResOk X.K F Z' ms' g' σ H' r x → Q x H' := by
    refine Eq.mp (congrArg (fun r => Sat X.K F W σ Z ms H r _) ?_) S
    cases ev c a g with
    | bad => rfl
    | exc y k => rfl
    | ok r g1 =>
      simp only [Ev.R.bind_ok]
      cases ev c b g1 with
      | bad => rfl
      | exc y k => rfl
      | ok s g2 =>
        simp only [Ev.R.bind_ok]
        cases asInt r.pv with
        | none => rfl
        | some i =>
          simp only [lift_some, Ev.R.bind_ok]
          cases asInt s.pv with
          | none => rfl
          | some j =>
            simp only [lift_some, Ev.R.bind_ok]
            split <;> rfl
  rcases S'.split with ⟨x0, g1, e1, S1⟩ | ⟨r, g1, e1, S1⟩
  · exact ⟨Z, ms, g, R, Sat.exc e1 S1⟩
  refine ⟨Z, ms, g, R, Sat.mk e1 fun Z1 ms1 H1 l1 R1 x d1 => ?_⟩
  rcases (S1.le l1).split with ⟨x0, g2, e2, S2⟩ | ⟨s, g2, e2, S2⟩
  · exact ⟨Z1, ms1, g1, R1, Sat.exc e2 S2⟩
  obtain ⟨i, e3, S3⟩ := S2.stepL
  obtain ⟨j, e4, S4⟩ := S3.stepL
  split at S4
  case isFalse => exact S4.elim
  rename_i hj
  refine ⟨Z1, ms1, g1, R1, Sat.mk e2 fun Z2 ms2 H2 l2 R2 y d2 => ?_⟩
  rw [asInt_some e3] at d1
  rw [asInt_some e4] at d2
  simp only [Den] at d1 d2
  subst d1 d2
  exact ⟨i, j, rfl, rfl, lrg_end (g := g) hj.1 hj.2 R2 (S4.le l2)⟩
theorem e_lc2 {elt tg iter tg1 iter1 : Expr} {ifs ifs1 : List Expr} {scope : Scope} {own : List (Str × Nat)} {pos : Pos} {t t2 : MT} {it it2 : MI} {k k2 : MO} {el : ME} (hw : F.w = X.w) (hc : X.calm = true) (hN : X.N.Nodup) (hi : PI X tg iter (tIt X.K F W t (evi c it))) (ok : L2.BlkOk X.N X.env.scope scope own) (ho : own.map (·.2) = t.slots ++ t2.slots)
    (hg : ∀ (s : Shared) (H : Hp) (C : Addr) (cl : List (Str × Addr)) (fp : List Addr), PG (X.blk s H scope (compEnvC scope cl C X.env) fp) tg (gT X.K t))
    (ht : ∀ (s : Shared) (H : Hp) (C : Addr) (cl : List (Str × Addr)) (fp : List Addr), L2.PTs (X.blk s H scope (compEnvC scope cl C X.env) fp) ifs (tTx X.K X.w (tsto c k)))
    (hi1 : ∀ (s : Shared) (H : Hp) (C : Addr) (cl : List (Str × Addr)) (fp : List Addr) (F : Fm), F.w = X.w → PI (X.blk s H scope (compEnvC scope cl C X.env) fp) tg1 iter1 (tIt X.K F noW t2 (evi c it2)))
    (hg1 : ∀ (s : Shared) (H : Hp) (C : Addr) (cl : List (Str × Addr)) (fp : List Addr), PG (X.blk s H scope (compEnvC scope cl C X.env) fp) tg1 (gT X.K t2))
    (ht1 : ∀ (s : Shared) (H : Hp) (C : Addr) (cl : List (Str × Addr)) (fp : List Addr), L2.PTs (X.blk s H scope (compEnvC scope cl C X.env) fp) ifs1 (tTx X.K X.w (tsto c k2)))
    (he : ∀ (s : Shared) (H : Hp) (C : Addr) (cl : List (Str × Addr)) (fp : List Addr), PE (X.blk s H scope (compEnvC scope cl C X.env) fp) elt (tVx X.K X.w (ev c el))) (hs : ∀ x, foldedSetIterable iter X.env x = pure x) (hs1 : ∀ env x, foldedSetIterable iter1 env x = pure x) :
    PE X (.ListComp elt [⟨tg, iter, ifs, 0⟩, ⟨tg1, iter1, ifs1, 0⟩] scope pos) (tE X.K F W (ev c (.lc2 t it k t2 it2 k2 el))) := by
  refine PE.imp (L2.pe_lc2 (vs1 := t2.slots) (wi1 := tItx X.K X.w t2 (evi c it2)) hc hN hi ok (fun i h => by rw [ho]; exact List.mem_append_right _ h) hg ht (fun s H C cl fp => ⟨fun pins s' σ H' Q I ⟨F', hF', q⟩ => (hi1 s H C cl fp F' hF').run pins s' σ H' Q I q⟩) hg1 ht1 he hs hs1) fun σ H Q h => ?_
  rw [ho]
  exact lc2_sat hw h
end
end Ev
/-! # Ev, part 9: statements. -/
namespace Ev
open PySem PySem.Spec
open L2 (V Hp HO upd SqL SqT Rd Cx Inv PE PT PW PA PS PSs PG PGs PI PK VK TE TT TA TS TG TGs TI Ends RelV Vals It Dp DpAll OpR UnR CallR TruR IxR SlR MtR EP TP AP SP)

/-- what holds behind a statement's run -/
def FlOk (K : PySem.W.Frag) (F : Fm) (D : Ends) (Z : Addr → Prop) (ms : List Addr) (g : G) (σ : L2.St) (H : Hp) : Fl → Prop
  | .nx => D.nx σ H
  | .brk => D.bk σ H
  | .cnt => D.ct σ H
  | .ret r => ∀ x, ResOk K F Z ms g σ H r x → D.rt x H
def Fin (K : PySem.W.Frag) (F : Fm) (W : Wish) (D : Ends) (Z : Addr → Prop) (ms : List Addr) (H : Hp) : R Fl → Prop
  | .ok f g => ∀ σ' Z' ms' H', Le Z ms H Z' ms' H' → Rel K F Z' ms' g σ' H' → FlOk K F D Z' ms' g σ' H' f
  | .exc x g => ∀ σ' Z' ms' H', Le Z ms H Z' ms' H' → Rel K F Z' ms' g σ' H' → W x Z' ms' g σ' H'
  | .bad => False
def tS (K : PySem.W.Frag) (F : Fm) (W : Wish) (f : M Fl) : TS := fun D σ H => ∃ Z ms g, Rel K F Z ms g σ H ∧ Fin K F W D Z ms H (f g)
section
variable {K : PySem.W.Frag} {F : Fm} {W : Wish} {D : Ends} {Z Z' : Addr → Prop} {ms ms' : List Addr} {H H' : Hp} {g : G} {σ : L2.St}
theorem Fin.split {β : Type} {r : R β} {f : β → M Fl} (S : Fin K F W D Z ms H (r.bind f)) : (∃ x g, r = .exc x g ∧ ∀ σ' Z' ms' H', Le Z ms H Z' ms' H' → Rel K F Z' ms' g σ' H' → W x Z' ms' g σ' H') ∨ ∃ a g, r = .ok a g ∧ Fin K F W D Z ms H (f a g) := by
  cases r with
  | ok a g => exact .inr ⟨a, g, rfl, S⟩
  | exc x g => exact .inl ⟨x, g, rfl, S⟩
  | bad => exact S.elim
theorem Fin.stepN {β : Type} {r : R β} {f : β → M Fl} (S : Fin K F W D Z ms H (r.bind f)) (hn : ∀ x g, r ≠ .exc x g) : ∃ a g, r = .ok a g ∧ Fin K F W D Z ms H (f a g) := by
  cases r with
  | ok a g => exact ⟨a, g, rfl, S⟩
  | exc x g => exact absurd rfl (hn x g)
  | bad => exact S.elim
theorem Fin.le {r : R Fl} (S : Fin K F W D Z ms H r) (l : Le Z ms H Z' ms' H') : Fin K F W D Z' ms' H' r := by
  cases r with
  | ok a g => exact fun s Z2 ms2 H2 l2 R2 => S s Z2 ms2 H2 (l.trans l2) R2
  | exc a g => exact fun s Z2 ms2 H2 l2 R2 => S s Z2 ms2 H2 (l.trans l2) R2
  | bad => exact S.elim
theorem setVar_nx {i : Nat} {r : Res} {g : G} (x : EX) (g' : G) : setVar i r g ≠ .exc x g' := by
  unfold setVar
  split <;> exact nofun
theorem setVars_nx : ∀ {is : List Nat} {vs : List PV} {g : G} (x : EX) (g' : G), setVars is vs g ≠ .exc x g'
  | [], [], g, x, g' => nofun
  | [], _ :: _, g, x, g' => nofun
  | _ :: _, [], g, x, g' => nofun
  | i :: is, v :: vs, g, x, g' => by
    intro e
    unfold setVars at e
    cases h : setVar i (.val v) g with
    | bad => rw [h] at e; cases e
    | exc y k => exact setVar_nx y k h
    | ok u k =>
      rw [h, Ev.R.bind_ok] at e
      exact setVars_nx x g' e
theorem bindT_nx {t : MT} {r : Res} {g : G} (x : EX) (g' : G) : bindT t r g ≠ .exc x g' := by
  cases t with
  | nm i => exact setVar_nx x g'
  | tp is =>
    cases r with
    | new xs => exact nofun
    | val v =>
      cases v with
      | tup xs => exact setVars_nx x g'
      | _ => exact nofun
theorem setPar_nx : ∀ {is : List Nat} {vs : List Res} {g : G} (x : EX) (g' : G), setPar is vs g ≠ .exc x g'
  | [], [], g, x, g' => nofun
  | [], _ :: _, g, x, g' => nofun
  | _ :: _, [], g, x, g' => nofun
  | i :: is, v :: vs, g, x, g' => by
    intro e
    unfold setPar at e
    cases h : setPar is vs g with
    | bad => rw [h] at e; cases e
    | exc y k => exact setPar_nx y k h
    | ok u k =>
      rw [h, Ev.R.bind_ok] at e
      exact setVar_nx x g' e
theorem putG_nx {y k v : PV} {g : G} (x : EX) (g' : G) : putG y k v g ≠ .exc x g' := by
  unfold putG
  split
  · split <;> exact nofun
  · exact nofun
theorem Fin.here {f : Fl} (S : Fin K F W D Z ms H (.ok f g)) (R : Rel K F Z ms g σ H) : FlOk K F D Z ms g σ H f := S σ Z ms H .refl R
theorem CellOk.at {w : World} {c : Cell} {d : Addr} (ok : CellOk K Z ms H w c d) : ∃ o, H d = some o := by
  cases c with
  | dk kvs =>
    obtain ⟨ws, h, _⟩ := ok
    exact ⟨_, h⟩
  | dn kvs =>
    obtain ⟨ws, h, _⟩ := ok
    exact ⟨_, h⟩
  | ls kvs =>
    obtain ⟨ws, h, _⟩ := ok
    exact ⟨_, h⟩
  | tb q =>
    obtain ⟨ws, h, _⟩ := ok
    exact ⟨_, h⟩
/-- a cell written -/
theorem Rel.cellSet {n : Nat} {p : Addr} {c0 cell : Cell} {o' : HO} (R : Rel K F Z ms g σ H) (hn : g.hp[n]? = some c0) (hm : ms[n]? = some p) (d : ∀ Z' ms' H', Le Z ms H Z' ms' H' → H' p = some o' → CellOk K Z' ms' H' F.w cell p) :
    Le Z ms H Z ms (upd H p o') ∧ Rel K F Z ms { g with hp := g.hp.set n cell } σ (upd H p o') := by
  have pm : p ∈ ms := List.mem_of_getElem? hm
  have nz := (R.mz p pm).1
  have ok0 := R.cl n c0 p hn hm
  obtain ⟨o, hp⟩ := ok0.at
  obtain ⟨q1, q2⟩ := ok0.obj hp
  have l : Le Z ms H Z ms (upd H p o') := by
    refine ⟨fun _ z => z, fun b us z q => by rw [L2.upd_ne fun e => nz (by rw [← e]; exact z)]; exact q, fun b us q => ?_, fun b ob u q => ?_, ⟨[], by simp⟩, fun b cq q n0 => ⟨by rw [L2.upd_ne fun e => n0 (by rw [e]; exact pm)]; exact q, n0⟩⟩
    · rw [L2.upd_ne]
      · exact q
      · rintro rfl
        rw [hp] at q
        exact q1 us (Option.some.inj q)
    · rw [L2.upd_ne]
      · exact q
      · rintro rfl
        rw [hp] at q
        exact q2 _ _ (Option.some.inj q)
  have hl : n < g.hp.length := (List.getElem?_eq_some_iff.mp hn).1
  refine ⟨l, ⟨R.len, fun i v e => ?_, fun i us e => ?_, R.un, by rw [List.length_set]; exact R.cn, fun m c a e1 e2 => ?_, R.nd, R.mz, R.zf, R.zz, fun a z => ?_, fun a u e => ?_, R.xs⟩⟩
  · obtain ⟨x, e1, e2⟩ := R.vl i v e
    exact ⟨x, e1, Den.mono l _ _ e2⟩
  · obtain ⟨a, vs, e1, e2, e3, e4, e5, e6⟩ := R.ow i us e
    have na : a ≠ p := fun q => e5 (q ▸ pm)
    exact ⟨a, vs, e1, by rw [L2.upd_ne na]; exact e2, Dens.mono l _ _ e3, e4, e5, e6⟩
  · by_cases q : n = m
    · subst q
      rw [List.getElem?_set_self hl] at e1
      cases e1
      rw [hm] at e2
      cases e2
      exact d Z ms _ l L2.upd_same
    · rw [List.getElem?_set_ne q] at e1
      refine (R.cl m c a e1 e2).mono l (L2.upd_ne ?_)
      rintro rfl
      refine q ?_
      exact (List.getElem?_inj (List.getElem?_eq_some_iff.mp hm).1 R.nd).mp (hm.trans e2.symm)
  · obtain ⟨vs, e⟩ := R.zs a z
    exact ⟨vs, by rw [L2.upd_ne fun q => nz (by rw [← q]; exact z)]; exact e⟩
  · rw [L2.upd_ne]
    · exact R.fr a u e
    · rintro rfl
      have := (R.mz a pm).2
      rw [this] at e
      cases e
end

section
variable (c : Call)
theorem ex_asg (t e) : ex c (.asg t e) = fun g => (ev c e g).bind fun r g1 => (bindT t r g1).bind fun _ g2 => .ok .nx g2 := rfl
theorem ex_par (is es) : ex c (.par is es) = fun g => (evsR c es g).bind fun vs g1 => (setPar is vs g1).bind fun _ g2 => .ok .nx g2 := rfl
theorem ex_put (o k e) : ex c (.put o k e) = fun g => (ev c e g).bind fun r g1 => (opd c o g1).bind fun x g2 => (opd c k g2).bind fun y g3 => (look x g3).bind fun xv g4 => (look y g4).bind fun yv g5 => (putG xv yv r.pv g5).bind fun _ g6 => .ok .nx g6 := rfl
theorem ex_ex (e) : ex c (.ex e) = fun g => (ev c e g).bind fun _ g1 => .ok .nx g1 := rfl
theorem ex_iff (t a b) : ex c (.iff t a b) = fun g => (tst c t g).bind fun k g1 => if k = true then exs c a g1 else exs c b g1 := rfl
theorem ex_for (t it b) : ex c (.for_ t it b) = fun g => (evi c it g).bind fun xs g1 => forGo (bindT t) (exs c b) xs g1 := rfl
theorem ex_ret (e) : ex c (.ret e) = fun g => (retF e (ev c e) g).bind fun r g1 => .ok (.ret r) g1 := rfl
theorem ex_retN : ex c .retN = fun g => .ok (.ret (.val .non)) g := rfl
theorem ex_pas : ex c .pas = fun g => .ok .nx g := rfl
theorem ex_brk : ex c .brk = fun g => .ok .brk g := rfl
theorem ex_cnt : ex c .cnt = fun g => .ok .cnt g := rfl
theorem ex_nvr : ex c .nvr = fun _ => .bad := rfl
theorem exs_nil : exs c .nil = fun g => .ok .nx g := rfl
theorem exs_cons (s r) : exs c (.cons s r) = fun g => (ex c s g).bind fun f g1 => match f with
    | .nx => exs c r g1
    | f => .ok f g1 := rfl
end

section
variable {X : Cx} {F : Fm} {W : Wish} {pos : Pos} {c : Call}
theorem s_asg {t : MT} {m : ME} {tg e : Expr} (he : PE X e (tE X.K F W (ev c m))) (hg : PG X tg (gT X.K t)) (hs : swapsWithSole [tg] e pos.line X.env = pure false) (hw : swappedStores [tg] e X.env = pure none) (h1 : (assignEach [tg] X.env).map (·.2) = [assign tg X.env]) :
    PS X (.Assign [tg] e pos) (tS X.K F W (ex c (.asg t m))) := by
  refine PS.imp (L2.ps_asg he hg hs hw h1) fun D σ H ⟨Z, ms, g, R, S⟩ => ?_
  simp only [ex_asg] at S
  rcases S.split with ⟨x0, g1, e1, S1⟩ | ⟨r, g1, e1, S1⟩
  · exact ⟨Z, ms, g, R, Sat.exc e1 (S1 _)⟩
  obtain ⟨u, g2, e2, S2⟩ := S1.stepN bindT_nx
  exact ⟨Z, ms, g, R, Sat.mk e1 fun Z1 ms1 H1 l1 R1 x rx => bind_ok R1 rx e2 fun σ' R2 _ => (S2.le l1).here R2⟩
theorem s_setLc {i : Nat} {y : Str} {py : Pos} {elt tg iter : Expr} {ifs : List Expr} {scope : Scope} {own : List (Str × Nat)} {pos spos : Pos} {t : MT} {it : MI} {k : MO} {el : ME} (hF : F.w = X.w) (hc : X.calm = true) (hN : X.N.Nodup) (hy : X.N[i]? = some y) (hyl : X.env.scope.names.lookup y = some .local)
    (hsw : swapsWith (.ListComp elt [⟨tg, iter, ifs, 0⟩] scope pos) (some (.Name y py)) spos.line X.env = pure true) (hi : PI X tg iter (tIt X.K F W t (evi c it))) (ok : L2.BlkOk X.N X.env.scope scope own) (ho : own.map (·.2) = t.slots)
    (hg : ∀ (s : Shared) (H : Hp) (C : Addr) (cl : List (Str × Addr)) (fp : List Addr), PG (X.blk s H scope (compEnvC scope cl C X.env) fp) tg (gT X.K t))
    (ht : ∀ (s : Shared) (H : Hp) (C : Addr) (cl : List (Str × Addr)) (fp : List Addr), L2.PTs (X.blk s H scope (compEnvC scope cl C X.env) fp) ifs (tTx X.K X.w (tsto c k)))
    (he : ∀ (s : Shared) (H : Hp) (C : Addr) (cl : List (Str × Addr)) (fp : List Addr), PE (X.blk s H scope (compEnvC scope cl C X.env) fp) elt (tVx X.K X.w (ev c el))) (hs : ∀ x, foldedSetIterable iter X.env x = pure x) :
    PS X (.Assign [.Name y py] (.ListComp elt [⟨tg, iter, ifs, 0⟩] scope pos) spos) (tS X.K F W (ex c (.asg (.nm i) (.lc t it k el)))) := by
  refine PS.imp (L2.ps_setLc hc hN hy hyl hsw hi ok hg ht he hs) fun D σ H ⟨Z, ms, g, R, S⟩ => ?_
  rw [ho]
  refine lc_sat hF ?_
  simp only [ex_asg] at S
  rcases S.split with ⟨x0, g1, e1, S1⟩ | ⟨r, g1, e1, S1⟩
  · exact ⟨Z, ms, g, R, Sat.exc e1 (S1 _)⟩
  obtain ⟨u, g2, e2, S2⟩ := S1.stepN bindT_nx
  exact ⟨Z, ms, g, R, Sat.mk e1 fun Z1 ms1 H1 l1 R1 x rx => bind_ok (t := .nm i) R1 rx e2 fun σ' R2 _ => (S2.le l1).here R2⟩
end
def Res.isNew : Res → Bool
  | .val _ => false
  | .new _ => true
/-- results, their new lists unlike one another -/
def ResOks (K : PySem.W.Frag) (F : Fm) (Z : Addr → Prop) (ms : List Addr) (g : G) (σ : L2.St) (H : Hp) : List Res → List V → Prop
  | [], xs => xs = []
  | r :: rs, xs => ∃ x ys, xs = x :: ys ∧ ResOk K F Z ms g σ H r x ∧ (r.isNew = true → ∀ s y, (s, y) ∈ rs.zip ys → s.isNew = true → y ≠ x) ∧ ResOks K F Z ms g σ H rs ys
def tRs (K : PySem.W.Frag) (F : Fm) (W : Wish) (f : M (List Res)) : TA := fun σ H Q => ∃ Z ms g, Rel K F Z ms g σ H ∧ Sat K F W σ Z ms H (f g) fun rs Z' ms' g' H' => ∀ xs, ResOks K F Z' ms' g' σ H' rs xs → Q xs H'
theorem ResOk.unpin {K : PySem.W.Frag} {F : Fm} {Z : Addr → Prop} {ms : List Addr} {g : G} {σ : L2.St} {H : Hp} {p : Addr} {o : HO} {r : Res} {x : V} (ok : ResOk K (F.with p o) Z ms g σ H r x) : ResOk K F Z ms g σ H r x ∧ (r.isNew = true → x ≠ .ref p) := by
  cases r with
  | val v => exact ⟨ok, fun q => by cases q⟩
  | new xs =>
    obtain ⟨a, vs, rfl, h1, h2, h3, h4, h5, h6⟩ := ok
    have ne : a ≠ p := by
      rintro rfl
      have e : upd F.F a o a = none := h5
      rw [L2.upd_same] at e
      cases e
    refine ⟨⟨a, vs, rfl, h1, h2, h3, h4, ?_, h6⟩, fun _ q => ne (by cases q; rfl)⟩
    have e : upd F.F p o a = none := h5
    rw [L2.upd_ne ne] at e
    exact e
theorem ResOks.unpin {K : PySem.W.Frag} {F : Fm} {Z : Addr → Prop} {ms : List Addr} {g : G} {σ : L2.St} {H : Hp} {p : Addr} {o : HO} : ∀ {rs : List Res} {xs : List V}, ResOks K (F.with p o) Z ms g σ H rs xs → ResOks K F Z ms g σ H rs xs ∧ ∀ s y, (s, y) ∈ rs.zip xs → s.isNew = true → y ≠ .ref p
  | [], xs, h => ⟨h, fun s y m => by cases m⟩
  | r :: rs, xs, h => by
    obtain ⟨x, ys, rfl, h1, h2, h3⟩ := h
    obtain ⟨k1, k2⟩ := h1.unpin
    obtain ⟨i1, i2⟩ := ResOks.unpin h3
    refine ⟨⟨x, ys, rfl, k1, h2, i1⟩, fun s y m hn => ?_⟩
    rw [List.zip_cons_cons] at m
    rcases List.mem_cons.mp m with e | m
    · cases e
      exact k2 hn
    · exact i2 s y m hn
theorem ResOk.set {K : PySem.W.Frag} {F : Fm} {Z : Addr → Prop} {ms : List Addr} {g : G} {σ : L2.St} {H : Hp} {r s : Res} {x y : V} {j : Nat} (ok : ResOk K F Z ms g σ H r x) (hd : r.isNew = true → s.isNew = true → y ≠ x) : ResOk K F Z ms { g with sl := g.sl.set j s.slot } (σ.set j (some y)) H r x := by
  cases r with
  | val v => exact ok
  | new xs =>
    obtain ⟨a, vs, rfl, h1, h2, h3, h4, h5, h6⟩ := ok
    refine ⟨a, vs, rfl, h1, h2, h3, h4, h5, fun i ys e q => ?_⟩
    have e' : (g.sl.set j s.slot)[i]? = some (.own ys) := e
    by_cases hij : j = i
    · subst hij
      rw [List.getElem?_set] at e' q
      simp only [if_true] at e' q
      split at e'
      · split at q
        · have e2 := Option.some.inj e'
          have q2 := Option.some.inj (Option.some.inj q)
          cases s with
          | val v => cases e2
          | new zs => exact hd rfl rfl q2
        · cases q
      · cases e'
    · rw [List.getElem?_set_ne hij] at e' q
      exact h6 i ys e' q
section
variable {X : Cx} {F : Fm} {W : Wish} {c : Call}
theorem rs_nil : PA X [] (tRs X.K F W (evsR c .nil)) := PA.imp L2.pa_nil fun σ H Q ⟨Z, ms, g, R, S⟩ => Sat.here R S [] rfl
theorem rs_star {m : ME} {r : MEs} {es : List Expr} : PA X es (tRs X.K F W (evsR c (.star m r))) := ⟨fun p pins s σ H Q I ⟨Z, ms, g, R, S⟩ => by
  simp only [evsR_star] at S
  exact S.elim⟩
theorem rs_cons {m : ME} {r : MEs} {e : Expr} {es : List Expr} (hF : F.w = X.w) (h : PE X e (tE X.K F W (ev c m))) (t : PA X es (tRs X.K F W (evsR c r))) (t' : ∀ F, F.w = X.w → PA X es (tRs X.K F noW (evsR c r))) (hs : starEach (e :: es) X.env = (false, eval e X.env) :: starEach es X.env) : PA X (e :: es) (tRs X.K F W (evsR c (.cons m r))) := by
  have both : PA X es (fun σ H Q => tRs X.K F W (evsR c r) σ H Q ∨ ∃ F', F'.w = X.w ∧ tRs X.K F' noW (evsR c r) σ H Q) := ⟨fun p pins s σ H Q I q => by
    rcases q with q | ⟨F', hF', q⟩
    · exact t.run p pins s σ H Q I q
    · exact (t' F' hF').run p pins s σ H Q I q⟩
  refine PA.imp (L2.pa_cons h both hs) fun σ H Q ⟨Z, ms, g, R, S⟩ => ?_
  simp only [evsR_cons] at S
  rcases S.split with ⟨x0, g1, e1, S1⟩ | ⟨v, g1, e1, S1⟩
  · exact ⟨Z, ms, g, R, Sat.exc e1 S1⟩
  refine ⟨Z, ms, g, R, Sat.mk e1 fun Z1 ms1 H1 l1 R1 x rx => ?_⟩
  cases v with
  | val v =>
    left
    rcases (S1.le l1).split with ⟨x0, g2, e2, S2⟩ | ⟨rs, g2, e2, S2⟩
    · exact ⟨Z1, ms1, g1, R1, Sat.exc e2 S2⟩
    refine ⟨Z1, ms1, g1, R1, Sat.mk e2 fun Z2 ms2 H2 l2 R2 ys d2 => ?_⟩
    exact S2 Z2 ms2 H2 l2 R2 (x :: ys) ⟨x, ys, rfl, Den.mono l2 _ _ rx, (fun q => by cases q), d2⟩
  | new xs =>
    right
    obtain ⟨a, vs, rfl, h1, h2, h3, h4, h5, h6⟩ := rx
    obtain ⟨rs, g2, e2, S2⟩ := (S1.le l1).stepN noX_nx
    refine ⟨F.with a (.lst vs), hF, Z1, ms1, g1, R1.pin h1 h3 h4 h6, Sat.mk (noX_eq e2) fun Z2 ms2 H2 l2 R2 ys d2 => ?_⟩
    obtain ⟨k1, k2⟩ := d2.unpin
    exact S2 Z2 ms2 H2 l2 (R2.unpin h5) (.ref a :: ys) ⟨.ref a, ys, rfl, ⟨a, vs, rfl, R2.pinned, Dens.mono l2 _ _ h2, R2.pinZ fun z => h3 (R1.zz a z), R2.pinM, h5, fun i ys e => R2.pinO i ys e⟩, fun _ => k2, k1⟩
end
section
variable {X : Cx} {F : Fm} {W : Wish} {pos : Pos} {c : Call}
theorem s_par {i j : Nat} {x y : Str} {a b : Expr} {es : MEs} {px py pt : Pos} {kt k2 pt2} (hc : X.calm = true) (hN : X.N.Nodup) (hi : X.N[i]? = some x) (hj : X.N[j]? = some y) (hij : i ≠ j)
    (hx : X.env.scope.names.lookup x = some .local) (hy : X.env.scope.names.lookup y = some .local) (ha : PA X [a, b] (tRs X.K F W (evsR c es)))
    (hw : swappedStores [.Tuple [.Name x px, .Name y py] kt pt] (.Tuple [a, b] k2 pt2) X.env = pure (some [x, y]))
    (hs : swapsWithSole [.Tuple [.Name x px, .Name y py] kt pt] (.Tuple [a, b] k2 pt2) pos.line X.env = pure false) :
    PS X (.Assign [.Tuple [.Name x px, .Name y py] kt pt] (.Tuple [a, b] k2 pt2) pos) (tS X.K F W (ex c (.par [i, j] es))) := by
  refine PS.imp (L2.ps_par hc hN hi hj hij hx hy ha hw hs) fun D σ H ⟨Z, ms, g, R, S⟩ => ?_
  simp only [ex_par] at S
  rcases S.split with ⟨x0, g1, e1, S1⟩ | ⟨vs, g1, e1, S1⟩
  · exact ⟨Z, ms, g, R, Sat.exc e1 (S1 _)⟩
  obtain ⟨u, g2, e2, S2⟩ := S1.stepN setPar_nx
  refine ⟨Z, ms, g, R, Sat.mk e1 fun Z1 ms1 H1 l1 R1 xs d1 => ?_⟩
  match vs, e2, d1 with
  | [], e2, _ => simp [setPar] at e2
  | [_], e2, _ =>
    simp only [setPar] at e2
    cases e2
  | _ :: _ :: _ :: _, e2, _ =>
    simp only [setPar] at e2
    cases e2
  | [v, w], e2, d1 =>
    simp only [setPar, Ev.R.bind_ok] at e2
    obtain ⟨v', r1, rfl, dv, q1, w', r2, rfl, dw, q2, rfl⟩ := d1
    cases p1 : setVar j w g1 with
    | bad => rw [p1] at e2; cases e2
    | exc _ _ => rw [p1] at e2; cases e2
    | ok u1 g3 =>
      rw [p1, Ev.R.bind_ok] at e2
      obtain ⟨h1, rfl⟩ := setVar_ok p1
      obtain ⟨h2, rfl⟩ := setVar_ok e2
      have R2 := R1.set dw h1
      have dv2 : ResOk X.K F Z1 ms1 { g1 with sl := g1.sl.set j w.slot } (σ.set j (some w')) H1 v v' := dv.set fun z1 z2 => q1 z1 w w' (by simp) z2
      have R3 := R2.set dv2 h2
      refine ⟨v', w', rfl, ?_⟩
      rw [List.set_comm _ _ hij]
      exact (S2.le l1).here R3
theorem s_par3 {i j k : Nat} {x y z : Str} {a b d : Expr} {es : MEs} {px py pz pt : Pos} {kt k2 pt2} (hc : X.calm = true) (hN : X.N.Nodup) (hi : X.N[i]? = some x) (hj : X.N[j]? = some y) (hk : X.N[k]? = some z) (hij : i ≠ j) (hik : i ≠ k) (hjk : j ≠ k)
    (hx : X.env.scope.names.lookup x = some .local) (hy : X.env.scope.names.lookup y = some .local) (hz : X.env.scope.names.lookup z = some .local) (ha : PA X [a, b, d] (tRs X.K F W (evsR c es)))
    (hw : swappedStores [.Tuple [.Name x px, .Name y py, .Name z pz] kt pt] (.Tuple [a, b, d] k2 pt2) X.env = pure (some [x, y, z]))
    (hs : swapsWithSole [.Tuple [.Name x px, .Name y py, .Name z pz] kt pt] (.Tuple [a, b, d] k2 pt2) pos.line X.env = pure false) :
    PS X (.Assign [.Tuple [.Name x px, .Name y py, .Name z pz] kt pt] (.Tuple [a, b, d] k2 pt2) pos) (tS X.K F W (ex c (.par [i, j, k] es))) := by
  refine PS.imp (L2.ps_par3 hc hN hi hj hk hij hik hjk hx hy hz ha hw hs) fun D σ H ⟨Z, ms, g, R, S⟩ => ?_
  simp only [ex_par] at S
  rcases S.split with ⟨x0, g1, e1, S1⟩ | ⟨vs, g1, e1, S1⟩
  · exact ⟨Z, ms, g, R, Sat.exc e1 (S1 _)⟩
  obtain ⟨u, g2, e2, S2⟩ := S1.stepN setPar_nx
  refine ⟨Z, ms, g, R, Sat.mk e1 fun Z1 ms1 H1 l1 R1 xs d1 => ?_⟩
  match vs, e2, d1 with
  | [], e2, _ => simp [setPar] at e2
  | [_], e2, _ =>
    simp only [setPar] at e2
    cases e2
  | [_, _], e2, _ =>
    simp only [setPar] at e2
    cases e2
  | _ :: _ :: _ :: _ :: _, e2, _ =>
    simp only [setPar] at e2
    cases e2
  | [v, w, t], e2, d1 =>
    simp only [setPar, Ev.R.bind_ok] at e2
    obtain ⟨v', r1, rfl, dv, n1, w', r2, rfl, dw, n2, t', r3, rfl, dt, n3, rfl⟩ := d1
    cases q1 : setVar k t g1 with
    | bad => rw [q1] at e2; cases e2
    | exc _ _ => rw [q1] at e2; cases e2
    | ok u1 g3 =>
      rw [q1, Ev.R.bind_ok] at e2
      cases q2 : setVar j w g3 with
      | bad => rw [q2] at e2; cases e2
      | exc _ _ => rw [q2] at e2; cases e2
      | ok u2 g4 =>
        rw [q2, Ev.R.bind_ok] at e2
        obtain ⟨h1, rfl⟩ := setVar_ok q1
        obtain ⟨h2, rfl⟩ := setVar_ok q2
        obtain ⟨h3, rfl⟩ := setVar_ok e2
        have R2 := R1.set dt h1
        have dw2 : ResOk X.K F Z1 ms1 { g1 with sl := g1.sl.set k t.slot } (σ.set k (some t')) H1 w w' := dw.set fun z1 z2 => n2 z1 t t' (by simp) z2
        have R3 := R2.set dw2 h2
        have dv2 : ResOk X.K F Z1 ms1 { g1 with sl := g1.sl.set k t.slot } (σ.set k (some t')) H1 v v' := dv.set fun z1 z2 => n1 z1 t t' (by simp) z2
        have dv3 := dv2.set (j := j) (s := w) (y := w') fun z1 z2 => n1 z1 w w' (by simp) z2
        have R4 := R3.set dv3 h3
        refine ⟨v', w', t', rfl, ?_⟩
        rw [List.set_comm (i := j) (j := k) _ _ hjk, List.set_comm (i := i) (j := k) _ _ hik, List.set_comm (i := i) (j := j) _ _ hij] at *
        exact (S2.le l1).here R4
/-- o[i] = v by the evaluator's cells -/
def rSetC (X : Cx) : L2.TSet := fun o i v H Q => ∃ d o', o = .ref d ∧ (∀ (pins : List (Addr × Obj)) (σ : L2.St) (s : Shared) (u r : Value) (A : Around) (Q : Unit → Shared → Prop) (E : Value → Shared → Prop), A.units ≤ X.A.units → Inv X pins σ H s → RelV i u → RelV v r → (∀ s', Inv X pins σ (upd H d o') s' → Q () s') →
      wpAny (model X.prog X.w) A (setItem (.ref d) u r) Q E s ∧ (A = X.A → wpAny (model X.prog X.w) A (dictSet d u r) Q E s)) ∧ Q (upd H d o')
theorem s_put {o k m : ME} {oe ke e : Expr} {pos' : Pos} (hF : F.w = X.w) (hu : X.A.units + 66 < cLine) (ho : PE X oe (tO X.K F W (opd c o))) (hk : PE X ke (tO X.K F W (opd c k))) (he : PE X e (tE X.K F W (ev c m))) (hs : swapsWith e (some (.Subscript oe ke pos')) pos.line X.env = pure false) :
    PS X (.Assign [.Subscript oe ke pos'] e pos) (tS X.K F W (ex c (.put o k m))) := by
  refine ⟨fun pins s σ H D I h => ?_⟩
  have h : tV X.K F W (ev c m) σ H fun v H1 => tO X.K F W (opd c o) σ H1 fun x H2 => tO X.K F W (opd c k) σ H2 fun y H3 => rSetC X x y v H3 fun H4 => D.nx σ H4 := by
    obtain ⟨Z, ms, g, R, S⟩ := h
    simp only [ex_put] at S
    rcases S.split with ⟨x0, g1, e1, S1⟩ | ⟨r, g1, e1, S1⟩
    · exact ⟨Z, ms, g, R, Sat.exc e1 (S1 _)⟩
    refine ⟨Z, ms, g, R, Sat.mk e1 fun Z1 ms1 H1 l1 R1 v dv => ?_⟩
    rcases (S1.le l1).split with ⟨x0, g2, e2, S2⟩ | ⟨o1, g2, e2, S2⟩
    · exact ⟨Z1, ms1, g1, R1, Sat.exc e2 (S2 _)⟩
    refine ⟨Z1, ms1, g1, R1, Sat.mk e2 fun Z2 ms2 H2 l2 R2 x d2 => ?_⟩
    rcases (S2.le l2).split with ⟨x0, g3, e3, S3⟩ | ⟨o2, g3, e3, S3⟩
    · exact ⟨Z2, ms2, g2, R2, Sat.exc e3 (S3 _)⟩
    obtain ⟨xv, g4, e4, S4⟩ := S3.stepN look_nx
    obtain ⟨yv, g5, e5, S5⟩ := S4.stepN look_nx
    obtain ⟨u, g6, e6, S6⟩ := S5.stepN putG_nx
    refine ⟨Z2, ms2, g2, R2, Sat.mk e3 fun Z3 ms3 H3 l3 R3 y d3 => ?_⟩
    obtain ⟨rfl, w1⟩ := look_ok R3 (d2.mono l3) e4
    obtain ⟨rfl, w2⟩ := look_ok R3 d3 e5
    unfold putG at e6
    split at e6
    · rename_i n
      obtain ⟨p, rfl, hp⟩ := w1.ref
      split at e6
      · rename_i c' hc'
        cases e6
        obtain ⟨c0, hc0, hput⟩ := Option.bind_eq_some_iff.mp hc'
        have dv3 := Den.mono (l2.trans l3) _ _ dv
        have ok := R3.cl n c0 p hc0 hp
        rw [hF] at ok
        rcases w2 with dk | ⟨_, _, ys, rfl, _⟩
        · obtain ⟨o', p1, p2⟩ := cell_put hu ok dk dv3 hput
          obtain ⟨l4, R4⟩ := R3.cellSet hc0 hp fun Z' ms' H' l q => by
            rw [hF]
            exact p1 Z' ms' H' l q
          exact ⟨p, o', rfl, fun pins σ s u r A Q E => p2 pins σ s u r A Q E, (S6.le (l3.trans l4)).here R4⟩
        · cases c0 with
          | dk kvs =>
            cases kvs <;> simp [putC, keyOf, nkT] at hput
          | dn kvs => simp [putC, nkT] at hput
          | ls _ => cases hput
          | tb _ => cases hput
      · cases e6
    · cases e6
  refine wpAny_Assign_Subscript (L2.thn ((PE.v he).run pins s σ H _ I h) fun r s1 ⟨v, H1, I1, rv, q1⟩ => L2.thn (ho.run pins s1 σ H1 _ I1 q1) fun u s2 ⟨x, H2, I2, rx, q2⟩ => L2.thn (hk.run pins s2 σ H2 _ I2 q2) fun iv s3 ⟨y, H3, I3, ry, d, o', ex, g, q3⟩ => ?_) hs
  subst ex
  obtain rfl : u = Value.ref d := rx
  exact (g pins σ s3 iv r X.A _ _ (Nat.le_refl _) I3 ry rv fun s4 I4 => ⟨σ, _, I4, q3⟩).1
theorem s_ex {m : ME} {e : Expr} (he : PE X e (tE X.K F W (ev c m))) (hs : swapsWith e none pos.line X.env = pure false) : PS X (.Expr e pos) (tS X.K F W (ex c (.ex m))) := by
  refine PS.imp (L2.ps_expr (PE.v he) hs) fun D σ H ⟨Z, ms, g, R, S⟩ => ?_
  simp only [ex_ex] at S
  rcases S.split with ⟨x0, g1, e1, S1⟩ | ⟨r, g1, e1, S1⟩
  · exact ⟨Z, ms, g, R, Sat.exc e1 (S1 _)⟩
  exact ⟨Z, ms, g, R, Sat.mk e1 fun Z1 ms1 H1 l1 R1 x rx => (S1.le l1).here R1⟩
theorem s_doc {x j pos'} : PS X (.Expr (.Constant (.str x) j pos) pos') (tS X.K F W (ex c .pas)) := PS.imp L2.ps_doc fun D σ H ⟨Z, ms, g, R, S⟩ => S.here R
theorem s_iff {t : ME} {a b : MSs} {e : Expr} {p q : List Stmt} (he : PT X e (tT X.K F W (tst c t))) (ha : PSs X p (tS X.K F W (exs c a))) (hb : PSs X q (tS X.K F W (exs c b))) : PS X (.If e p q pos) (tS X.K F W (ex c (.iff t a b))) := by
  refine PS.imp (L2.ps_if he ha hb) fun D σ H ⟨Z, ms, g, R, S⟩ => ?_
  simp only [ex_iff] at S
  rcases S.split with ⟨x0, g1, e1, S1⟩ | ⟨k, g1, e1, S1⟩
  · exact ⟨Z, ms, g, R, Sat.exc e1 (S1 _)⟩
  refine ⟨Z, ms, g, R, Sat.mk e1 fun Z1 ms1 H1 l1 R1 => ?_⟩
  cases k with
  | true =>
    rw [if_pos rfl] at S1 ⊢
    exact ⟨Z1, ms1, g1, R1, S1.le l1⟩
  | false =>
    rw [if_neg Bool.false_ne_true] at S1 ⊢
    exact ⟨Z1, ms1, g1, R1, S1.le l1⟩
theorem s_for {t : MT} {it : MI} {b : MSs} {tg iter : Expr} {body : List Stmt} (hp : PassesOwn (model X.prog X.w) X.A X.env X.xe) (hc : X.calm = true) (hi : PI X tg iter (tIt X.K F W t (evi c it))) (hg : PG X tg (gT X.K t)) (hb : PSs X body (tS X.K F W (exs c b)))
    (hs : ∀ x, foldedSetIterable iter X.env x = pure x) : PS X (.For tg iter body [] pos) (tS X.K F W (ex c (.for_ t it b))) := by
  refine PS.imp (L2.ps_for hp hc hi hg hb hs) fun D σ H ⟨Z, ms, g, R, S⟩ => ?_
  simp only [ex_for] at S
  rcases S.split with ⟨x0, g1, e1, S1⟩ | ⟨xs, g1, e1, S1⟩
  · exact ⟨Z, ms, g, R, Sat.exc e1 (S1 _)⟩
  refine ⟨Z, ms, g, R, Sat.mk e1 fun Z1 ms1 H1 l1 R1 J jo => ?_⟩
  refine ⟨fun i m σ2 H2 => m = xs.length - i ∧ i ≤ xs.length ∧ ∃ Z2 ms2 g2, Le Z1 ms1 H1 Z2 ms2 H2 ∧ Rel X.K F Z2 ms2 g2 σ2 H2 ∧ Fin X.K F W D Z2 ms2 H2 (forGo (bindT t) (exs c b) (xs.drop i) g2),
    ⟨_, rfl, Nat.zero_le _, Z1, ms1, g1, .refl, R1, S1.le l1⟩, fun i m σ2 H2 ⟨hm, hi, Z2, ms2, g2, l2, R2, S2⟩ => ?_⟩
  obtain ⟨j1, j2⟩ := jo Z2 ms2 H2 l2 i
  by_cases hlt : i < xs.length
  · right
    rw [List.drop_eq_getElem_cons hlt] at S2
    unfold forGo at S2
    obtain ⟨jgo, jy⟩ := j2 xs[i] (List.getElem?_eq_getElem hlt)
    refine ⟨jgo, fun σ5 H5 => ∃ Z2 ms2 g2, Le Z1 ms1 H1 Z2 ms2 H5 ∧ Rel X.K F Z2 ms2 g2 σ5 H5 ∧ Fin X.K F W D Z2 ms2 H5 (forGo (bindT t) (exs c b) (xs.drop (i + 1)) g2),
      fun σ5 H5 w => ⟨xs.length - (i + 1), by omega, rfl, hlt, w⟩, fun x H3 yl => ?_⟩
    obtain ⟨lay, dx⟩ := jy x H3 yl
    obtain ⟨lL, R2⟩ := lay.rel R2
    replace l2 := l2.trans lL
    replace S2 := S2.le lL
    obtain ⟨u, g3, e3, S3⟩ := S2.stepN bindT_nx
    rcases S3.split with ⟨x0, g4, e4, S4⟩ | ⟨f, g4, e4, S4⟩
    · refine bind_okY (all := t.slots) (fun _ h => h) R2 dx e3 fun σ4 R4 _ => ⟨Z2, ms2, g3, R4, ?_⟩
      rw [e4]
      exact S4
    refine bind_okY (all := t.slots) (fun _ h => h) R2 dx e3 fun σ4 R4 _ => ⟨Z2, ms2, g3, R4, ?_⟩
    rw [e4]
    intro σ5 Z5 ms5 H5 l5 R5
    cases f with
    | nx => exact ⟨Z5, ms5, g4, l2.trans l5, R5, S4.le l5⟩
    | cnt => exact ⟨Z5, ms5, g4, l2.trans l5, R5, S4.le l5⟩
    | brk => exact (S4.le l5).here R5
    | ret r => exact (S4.le l5).here R5
  · left
    have hn : xs.drop i = [] := List.drop_eq_nil_of_le (by omega)
    rw [hn] at S2
    unfold forGo at S2
    exact ⟨j1 (by omega), S2.here R2⟩
theorem retF_ne {m : ME} {f : M Res} (h : ∀ i, m ≠ .var i) : retF m f = f := by
  cases m <;> first | rfl | exact absurd rfl (h _)
theorem e_ret {m : ME} {e : Expr} (he : PE X e (tE X.K F W (ev c m))) (h : ∀ i, m ≠ .var i) : PE X e (tE X.K F W (retF m (ev c m))) := by
  rw [retF_ne h]
  exact he
theorem e_retV {i : Nat} {x : Str} (hN : X.N[i]? = some x) (hv : L2.Vis X.env.scope x) (hd : (x == ("__debug__" : Str)) = false) (hcd : (x == ("__classdict__" : Str)) = false) : PE X (.Name x pos) (tE X.K F W (retF (.var i) (ev c (.var i)))) := by
  refine ⟨fun pins s σ H Q I h => ?_⟩
  obtain ⟨Z, ms, g, R, S⟩ := id h
  by_cases q : ∃ xs, g.sl[i]? = some (.own xs)
  · obtain ⟨xs, q⟩ := q
    have e : retF (.var i) (ev c (.var i)) g = .ok (.new xs) { g with sl := g.sl.set i .no } := by
      unfold retF
      simp only [q]
    rw [e] at S
    refine (L2.pe_var hN hv hd hcd).run pins s σ H Q I ?_
    obtain ⟨a, vs, h1, h2, h3, h4, h5, h6⟩ := R.ow i xs q
    refine ⟨_, h1, ?_⟩
    have hi : i < g.sl.length := (List.getElem?_eq_some_iff.mp q).1
    have out : ∀ {j : Nat} {s : Slot}, (g.sl.set i .no)[j]? = some s → s ≠ .no → i ≠ j ∧ g.sl[j]? = some s := fun {j s} e h => by
      by_cases q : i = j
      · subst q
        rw [List.getElem?_set_self hi] at e
        cases e
        exact absurd rfl h
      · rw [List.getElem?_set_ne q] at e
        exact ⟨q, e⟩
    have R2 : Rel X.K F Z ms { g with sl := g.sl.set i .no } σ H := by
      refine ⟨by rw [List.length_set]; exact R.len, fun j v e => R.vl j v (out e (by simp)).2, fun j ys e => R.ow j ys (out e (by simp)).2, fun j k ys zs b e1 e2 e3 e4 => R.un j k ys zs b (out e1 (by simp)).2 (out e2 (by simp)).2 e3 e4, R.cn, R.cl, R.nd, R.mz, R.zf, R.zz, R.zs, R.fr, fun j e => R.xs j (out e nofun).2⟩
    refine S Z ms H .refl R2 _ ⟨a, vs, rfl, h2, h3, h4, h5, h6, fun j ys e z => ?_⟩
    obtain ⟨n, e'⟩ := out e (by simp)
    exact n (R.un i j xs ys a q e' h1 z)
  · have e : retF (.var i) (ev c (.var i)) g = ev c (.var i) g := by
      unfold retF
      simp only
      split
      · rename_i xs z
        exact absurd ⟨xs, z⟩ q
      · rfl
    rw [e] at S
    exact (e_var hN hv hd hcd).run pins s σ H Q I ⟨Z, ms, g, R, S⟩
theorem s_ret {m : ME} {e : Expr} (he : PE X e (tE X.K F W (retF m (ev c m)))) : PS X (.Return (some e) pos) (tS X.K F W (ex c (.ret m))) := by
  refine PS.imp (L2.ps_ret he) fun D σ H ⟨Z, ms, g, R, S⟩ => ?_
  simp only [ex_ret] at S
  rcases S.split with ⟨x0, g1, e1, S1⟩ | ⟨r, g1, e1, S1⟩
  · exact ⟨Z, ms, g, R, Sat.exc e1 (S1 _)⟩
  exact ⟨Z, ms, g, R, Sat.mk e1 fun Z1 ms1 H1 l1 R1 x rx => (S1.le l1).here R1 x rx⟩
theorem s_retN : PS X (.Return none pos) (tS X.K F W (ex c .retN)) := PS.imp L2.ps_retN fun D σ H ⟨Z, ms, g, R, S⟩ => S.here R _ (by simp only [ResOk, Den])
theorem s_pas : PS X (.Pass pos) (tS X.K F W (ex c .pas)) := PS.imp L2.ps_pass fun D σ H ⟨Z, ms, g, R, S⟩ => S.here R
theorem s_brk : PS X (.Break pos) (tS X.K F W (ex c .brk)) := PS.imp L2.ps_break fun D σ H ⟨Z, ms, g, R, S⟩ => S.here R
theorem s_cnt : PS X (.Continue pos) (tS X.K F W (ex c .cnt)) := PS.imp L2.ps_continue fun D σ H ⟨Z, ms, g, R, S⟩ => S.here R
theorem s_nvr {st : Stmt} : PS X st (tS X.K F W (ex c .nvr)) := PS.imp L2.ps_never fun D σ H ⟨Z, ms, g, R, S⟩ => S.elim
theorem ss_nil : PSs X [] (tS X.K F W (exs c .nil)) := PSs.imp L2.pss_nil fun D σ H ⟨Z, ms, g, R, S⟩ => S.here R
theorem ss_cons {s : MS} {r : MSs} {st : Stmt} {rest : List Stmt} (h : PS X st (tS X.K F W (ex c s))) (t : PSs X rest (tS X.K F W (exs c r))) : PSs X (st :: rest) (tS X.K F W (exs c (.cons s r))) := by
  refine PSs.imp (L2.pss_cons h t) fun D σ H ⟨Z, ms, g, R, S⟩ => ?_
  simp only [exs_cons] at S
  rcases S.split with ⟨x0, g1, e1, S1⟩ | ⟨f, g1, e1, S1⟩
  · refine ⟨Z, ms, g, R, ?_⟩
    rw [e1]
    exact S1
  refine ⟨Z, ms, g, R, ?_⟩
  rw [e1]
  intro σ1 Z1 ms1 H1 l1 R1
  cases f with
  | nx => exact ⟨Z1, ms1, g1, R1, S1.le l1⟩
  | brk => exact (S1.le l1).here R1
  | cnt => exact (S1.le l1).here R1
  | ret x => exact (S1.le l1).here R1
end
end Ev
/-! # Ev: lists that are things of their own; names of the module. -/
namespace Ev
open PySem PySem.Spec
open L2 (V Hp HO upd SqL SqT Rd Cx Inv PE PT PW PA PS PSs PG PGs PI PK VK TE TT TA TS TG TGs TI Ends RelV Vals It Dp DpAll OpR UnR CallR TruR IxR SlR MtR EP TP AP SP)
section
variable {K : PySem.W.Frag} {F : Fm} {Z : Addr → Prop} {ms : List Addr} {g : G} {σ : L2.St} {H : Hp}
theorem Rel.cellOwn {xs : List PV} {x : V} (R : Rel K F Z ms g σ H) (ok : ResOk K F Z ms g σ H (.new xs) x) : ∃ a, x = .ref a ∧ Le Z ms H Z (ms ++ [a]) H ∧ Rel K F Z (ms ++ [a]) { g with hp := g.hp ++ [.ls xs] } σ H := by
  obtain ⟨a, vs, rfl, e, d, nz, nm, nf, no⟩ := ok
  have l : Le Z ms H Z (ms ++ [a]) H := ⟨fun _ z => z, fun _ _ _ e => e, fun _ _ e => e, fun _ _ _ e => e, ⟨[a], rfl⟩, fun b cq q n0 => ⟨q, by
    have ne : b ≠ a := by
      rintro rfl
      rw [e] at q
      have q := Option.some.inj q
      unfold LamX.CodeO at q
      exact L2.HO.noConfusion q
    simp [n0, ne]⟩⟩
  refine ⟨a, rfl, l, ⟨R.len, fun i v e => ?_, fun i us e' => ?_, R.un, by simp [R.cn], fun n c b e1 e2 => ?_, ?_, fun b hb => ?_, R.zf, R.zz, R.zs, R.fr, R.xs⟩⟩
  · obtain ⟨x, e1, e2⟩ := R.vl i v e
    exact ⟨x, e1, Den.mono l _ _ e2⟩
  · obtain ⟨b, ws, e1, e2, e3, e4, e5, e6⟩ := R.ow i us e'
    have na : b ≠ a := fun q => no i us e' (q ▸ e1)
    exact ⟨b, ws, e1, e2, Dens.mono l _ _ e3, e4, by simp [e5, na], e6⟩
  · by_cases hn : n < g.hp.length
    · rw [List.getElem?_append_left hn] at e1
      rw [List.getElem?_append_left (by rw [R.cn]; exact hn)] at e2
      exact (R.cl n c b e1 e2).mono l rfl
    · rw [List.getElem?_append_right (by omega)] at e1
      rw [List.getElem?_append_right (by rw [R.cn]; omega), R.cn] at e2
      have h0 : n - g.hp.length = 0 := by
        have := (List.getElem?_eq_some_iff.mp e1).1
        simp at this
        omega
      rw [h0] at e1 e2
      simp at e1 e2
      subst e1 e2
      exact ⟨vs, e, Dens.mono l _ _ d⟩
  · rw [List.nodup_append]
    exact ⟨R.nd, by simp, fun b hb c hc => by
      simp at hc
      subst hc
      exact fun q => nm (q ▸ hb)⟩
  · rcases List.mem_append.mp hb with h | h
    · exact R.mz b h
    · simp at h
      subst h
      exact ⟨nz, nf⟩
end
section
variable {X : Cx} {F : Fm} {W : Wish} {pos : Pos} {c : Call}
theorem e_lnew {a : ME} {x : Expr} (ha : PE X x (tE X.K F W (ev c a))) : PE X x (tE X.K F W (ev c (.lnew a))) := by
  refine PE.imp ha fun σ H Q ⟨Z, ms, g, R, S⟩ => ?_
  simp only [ev_lnew] at S
  rcases S.split with ⟨x0, g1, e1, S1⟩ | ⟨r, g1, e1, S1⟩
  · exact ⟨Z, ms, g, R, Sat.exc e1 S1⟩
  refine ⟨Z, ms, g, R, ?_⟩
  cases r with
  | val v => exact S1.elim
  | new xs =>
    rw [e1]
    intro Z1 ms1 H1 l1 R1 x ok
    obtain ⟨p, rfl, l2, R2⟩ := R1.cellOwn ok
    refine S1 Z1 _ H1 (l1.trans l2) R2 (.ref p) ?_
    simp only [ResOk, Den]
    refine ⟨p, rfl, ?_⟩
    rw [← R1.cn, List.getElem?_append_right (Nat.le_refl _)]
    simp
theorem e_glb {x : Str} {v : PV} (h : ∃ u, X.mg x = some u ∧ ∀ Z ms H, ∃ y, RelV y u ∧ Den X.K Z ms H v y) (hg : L2.Gl X x) (hd : (x == ("__debug__" : Str)) = false) : PE X (.Name x pos) (tE X.K F W (ev c (.glb x v))) := by
  obtain ⟨u, hm, h⟩ := h
  refine ⟨fun pins s σ H Q I ⟨Z, ms, g, R, S⟩ => ?_⟩
  obtain ⟨y, ry, dy⟩ := h Z ms H
  refine L2.ld_glob I hg hm ⟨y, H, I, ry, ?_⟩ hd
  rw [ev_glb] at S
  exact S Z ms H .refl R y dy
theorem lsAt_ok {v : PV} {g g' : G} {u : Unit} (e : lsAt v g = .ok u g') : ∃ n xs, v = .ref n ∧ g.hp[n]? = some (.ls xs) ∧ g' = g := by
  unfold lsAt at e
  split at e
  · split at e
    · cases e
      exact ⟨_, _, rfl, by assumption, rfl⟩
    · cases e
  · cases e
theorem lsAt_nx {v : PV} {g : G} (x : EX) (g' : G) : lsAt v g ≠ .exc x g' := by
  unfold lsAt
  split
  · split <;> exact nofun
  · exact nofun
theorem lappV_nx {v w : PV} {g : G} (x : EX) (g' : G) : lappV v w g ≠ .exc x g' := by
  unfold lappV
  split
  · split
    · split <;> exact nofun
    · exact nofun
  · exact nofun
theorem lappV_ok {n : Nat} {w : PV} {g g' : G} {r : Res} (e : lappV (.ref n) w g = .ok r g') : ∃ xs, g.hp[n]? = some (.ls xs) ∧ xs.length + 1 ≤ sizeLine ∧ r = .val .non ∧ g' = { g with hp := g.hp.set n (.ls (xs ++ [w])) } := by
  unfold lappV at e
  simp only at e
  split at e
  · split at e
    · cases e
      exact ⟨_, by assumption, by assumption, rfl, rfl⟩
    · cases e
  · cases e
theorem e_lapp {o a : ME} {x y : Expr} {ap : Pos} (hx : PE X x (tE X.K F W (ev c o))) (ha : PE X y (tE X.K F W (ev c a))) (hl : (ap.endLine == pos.line) = true) (hs : starEach [y] X.env = [(false, eval y X.env)]) (hb : attributeBase x "append" X.env (eval x X.env) = eval x X.env) :
    PE X (.Call (.Attribute x "append" ap) [y] [] pos) (tE X.K F W (ev c (.lapp o a))) := by
  have hA : PA X [y] (L2.tCons (tV X.K F W (ev c a)) L2.tNil) := L2.pa_cons (PE.v ha) L2.pa_nil hs
  refine PE.imp (L2.pe_bm (cpos := pos) PySem.F.plainAttrs_list PySem.F.slot_list_append PySem.F.type_list_append L2.mt_append (PE.v hx) hA hb (by rw [hs]; rfl) hl (by rw [hs]; rfl) rfl) fun σ H Q ⟨Z, ms, g, R, S⟩ => ?_
  simp only [ev_lapp] at S
  rcases S.split with ⟨x0, g1, e1, S1⟩ | ⟨r, g1, e1, S1⟩
  · exact ⟨Z, ms, g, R, Sat.exc e1 S1⟩
  refine ⟨Z, ms, g, R, Sat.mk e1 fun Z1 ms1 H1 l1 R1 x dx => ?_⟩
  obtain ⟨_, g0, e0, S0⟩ := (S1.le l1).stepN lsAt_nx
  obtain ⟨n, xs0, hr, h0, rfl⟩ := lsAt_ok e0
  rw [hr] at dx S0
  simp only [Den] at dx
  obtain ⟨p, rfl, hp⟩ := dx
  obtain ⟨vs0, k1, k2⟩ := R1.cl n _ p h0 hp
  refine ⟨.inl ⟨rfl, vs0, .inl (.inl k1)⟩, ?_⟩
  rcases S0.split with ⟨x0, g2, e2, S2⟩ | ⟨r2, g2, e2, S2⟩
  · exact ⟨Z1, ms1, g0, R1, Sat.exc e2 S2⟩
  refine ⟨Z1, ms1, g0, R1, Sat.mk e2 fun Z2 ms2 H2 l2 R2 y dy => ?_⟩
  replace S2 := S2.le l2
  cases e3 : lappV (.ref n) r2.pv g2 with
  | bad => rw [e3] at S2; exact S2.elim
  | exc y g3 => exact absurd e3 (lappV_nx y g3)
  | ok r3 g3 =>
    rw [e3] at S2
    obtain ⟨xs, h1, h2, rfl, rfl⟩ := lappV_ok e3
    have hp2 : ms2[n]? = some p := by
      obtain ⟨rr, rfl⟩ := l2.m
      rw [List.getElem?_append_left (List.getElem?_eq_some_iff.mp hp).1]
      exact hp
    obtain ⟨vs, j1, j2⟩ := R2.cl n _ p h1 hp2
    obtain ⟨l3, R3⟩ := R2.cellSet (cell := .ls (xs ++ [r2.pv])) (o' := .lst (vs ++ [y])) h1 hp2 fun Z' ms' H' l e => ⟨_, e, (Dens.mono l _ _ j2).append (.cons (Den.mono l _ _ dy) .nil)⟩
    have hlen := j2.length
    exact ⟨p, vs, y, rfl, rfl, j1, by omega, S2 Z2 ms2 _ l3 R3 _ (by simp only [ResOk, Den])⟩
end
end Ev
/-! # Ev: a, *b = a tuple. -/
namespace Ev
open PySem PySem.Spec PyProof.Rows
open L2 (V Hp HO upd SqL SqT Rd Cx Inv PE PT PW PA PS PSs PG PGs PI PK VK TE TT TA TS TG TGs TI Ends RelV Vals It Dp DpAll OpR UnR CallR TruR IxR SlR MtR EP TP AP SP)
section
variable {prog : Program} {w : World} {A : Around} {E : Value → Shared → Prop} {s : Shared} {I : Addr} {fp wr : List Addr} {G : Array GenState → Array GenState → Prop} {n : Nat} {P : Nat → Value → Prop} {St : Nat → Shared → Prop}
theorem walk_from (W : WalksS prog w A I fp wr G n P St) {k : Nat} (hk : k ≤ n) : WalksS prog w A I fp wr G (n - k) (fun i => P (i + k)) (fun i => St (i + k)) :=
  { sub := W.sub
    grefl := W.grefl
    gtrans := W.gtrans
    frame := fun i => W.frame (i + k)
    item := fun i s Q E hi st hQ => W.item (i + k) s Q E (by omega) st fun v s' h1 h2 h3 => hQ v s' h1 (by rw [show i + 1 + k = i + k + 1 by omega]; exact h2) h3
    done := fun s Q E st hQ => W.done s Q E (by rw [show n - k + k = n by omega] at st; exact st) hQ
    self := fun i s Q E st hQ => W.self (i + k) s Q E st hQ }
theorem items_rest {x : Value} {r : List Value} {acc : Array Value} (h : ItemsOf (fun i v => (x :: r).toArray[i + 1]? = some v) acc r.length) : acc.toList = r := by
  obtain ⟨h1, h2⟩ := h
  refine List.ext_getElem (by simpa using h1) fun j hj hj' => ?_
  have := h2 j acc[j] (by simp)
  have e : (some r[j] : Option Value) = some acc[j] := by
    rw [← this]
    simp
  simpa using (Option.some.inj e).symm
theorem unpack_star {t : Addr} {x : Value} {r : List Value} {Q : List Value → Shared → Prop} (hh : A.handled = none) (ht : s.heap.IsTuple t (x :: r).toArray) (hz : r.length ≤ sizeLine)
    (hQ : ∀ (h' : Heap) (tk : Nat), (∀ b o, s.heap.get? b = some o → h'.get? b = some o) → s.toks ≤ tk → Q [x, .ref h'.objs.size] { s with heap := h'.push { cls := .type "list", data := .seq r.toArray }, toks := tk }) :
    wpAny (model prog w) A (unpackItems (.ref t) 2 (some 1)) Q E s := by
  have hlt : t ≠ s.heap.objs.size := by obtain ⟨o, ho, _⟩ := ht; exact Nat.ne_of_lt (Heap.lt_size ho)
  unfold unpackItems
  refine wpAny_bind ?_
  unfold notIterableAtAll
  refine wpAny_bind (wpAny_specialOf ht.typeIs F.slot_tuple_iter.lookup ?_)
  refine wpAny_pure ?_
  simp only [Bool.false_eq_true, if_false]
  refine wpAny_bind (wpAny_holding (wpAny_pyIter_tuple ht ?_))
  refine wpAny_bind (wpAny_holding (wpAny_draw_tuple hlt 1 0 _ _ ⟨_, Heap.get?_push_size _ rfl, rfl, rfl⟩ (ht.push _) (by simp) fun h1 hit hs => ?_))
  have hone : List.take 1 (List.drop 0 (x :: r).toArray.toList) = [x] := by simp
  rw [hone, if_neg (by simp)]
  have ht1 : h1.IsTuple t (x :: r).toArray := (ht.push _).extBut hs.extBut hlt
  have hI1 : s.heap.objs.size < h1.objs.size := by obtain ⟨o, e, _⟩ := hit; exact Heap.lt_size e
  have hh1 : A.in1.handled = none := by simp [hh]
  have W := walk_from (Walks.tuple (prog := prog) (w := w) hh1 s.heap.objs.size t hlt (x :: r).toArray).toS (k := 1) (by simp)
  have hn : (x :: r).toArray.size - 1 = r.length := by simp
  rw [hn] at W
  refine wpAny_bind (wpAny_holding (wpAny_collect_iter (.inr (.inr (.inr rfl))) W (fun i s st => st.1.typeIs) ⟨hit, ht1⟩ (fun b hb => ?_) List.mem_cons_self (fun s' acc hm hit' => ?_) hz))
  · rcases List.mem_cons.mp hb with rfl | hb
    · exact hI1
    · rw [List.mem_singleton.mp hb]
      obtain ⟨o, e, _⟩ := ht1
      exact Heap.lt_size e
  · rw [items_rest hit', if_neg (by omega)]
    refine wpAny_bind (wpAny_newList ?_ (by simpa using hz))
    refine wpAny_pure ?_
    obtain ⟨hp', g2, d', tk', os'⟩ := s'
    have eg : g2 = s.gens := hm.gens
    have ed : d' = s.drawn := hm.drawn
    have eo : os' = s.os := hm.os
    subst eg ed eo
    have et : List.take (r.length - (2 - 1 - 1)) r = r := by simp
    have ed2 : List.drop (r.length - (2 - 1 - 1)) r = [] := by simp
    simp only [et, ed2, List.append_nil, List.cons_append, List.nil_append]
    refine hQ hp' tk' (fun b o e => ?_) hm.toks
    have hb : b ≠ s.heap.objs.size := Nat.ne_of_lt (Heap.lt_size e)
    exact hm.heap b o (by simpa using hb) (hs.extBut b o hb (Heap.get?_push_of_some _ e))
end
section
variable {X : Cx} {pos : Pos}
/-- i the first, j the list of the others -/
def gStar (K : PySem.W.Frag) (i j : Nat) : TG := fun v σ H Q => ∃ a x xs, v = .ref a ∧ SqT K H a (x :: xs) ∧ ∀ p, H p = none → Q ((σ.set i (some x)).set j (some (.ref p))) (upd H p (.lst xs))
theorem pg_star {a b : Expr} {p3 : Pos} {i j k : Nat} (hc : X.calm = true) (ha : PG X a (L2.gName i)) (hb : PG X b (L2.gName j)) (hs : assignEach [a, .Starred b p3] X.env = [(false, assign a X.env), (true, assign b X.env)]) :
    PG X (.Tuple [a, .Starred b p3] k pos) (gStar X.K i j) := by
  refine ⟨fun pins s σ H v u Q I rv hw => ?_⟩
  obtain ⟨q, x, xs, rfl, hq, hw⟩ := hw
  cases rv
  obtain ⟨its, rvs, ht, hz⟩ := I.tuple hq
  cases rvs with
  | @cons _ ux _ us r1 r2 =>
  have hlen : xs.length = us.length := by have := r2.length; omega
  have hz2 : us.length ≤ sizeLine := by
    have q : xs.length + 1 ≤ sizeLine := by simpa using hz
    rw [← hlen]
    exact Nat.le_of_succ_le q
  rw [arm_assign_Tuple, hs]
  refine wpAny_bind (wpAny_standAt ?_)
  unfold unpack
  show wpAny _ _ (holding [Value.ref q] (unpackItems (Value.ref q) 2 (some 1)) >>= _) _ _ s
  refine wpAny_bind (wpAny_holding (unpack_star (I.ok.hd hc) ht hz2 fun h' tk hk hle => ?_))
  have I1 : Inv X pins σ H { s with heap := h', toks := tk } := I.kept (t' := tk) hk
  have hz3 : xs.length ≤ sizeLine := hlen ▸ hz2
  have I2 : Inv X pins σ (upd H h'.objs.size (.lst xs)) { s with heap := h'.push { cls := .type "list", data := .seq us.toArray }, toks := tk } :=
    I1.laid (t' := tk) (fun b o e => Heap.get?_push_of_some _ e) (Nat.le_refl _) ⟨hz3, us, 0, r2, Heap.get?_push_size _ rfl⟩
  have free : H h'.objs.size = none := I1.hok.fresh (Nat.le_refl _)
  have q2 := hw _ free
  show wpAny _ _ (assignInOrder [assign a X.env, assign b X.env] [ux, Value.ref h'.objs.size]) _ _ _
  unfold assignInOrder
  refine wpAny_bind (wpAny_holding (L2.thn (ha.run pins _ σ _ x ux (fun σ1 H1 => σ1 = σ.set i (some x) ∧ H1 = upd H h'.objs.size (.lst xs)) I2 r1 ⟨rfl, rfl⟩) fun _ s3 ⟨σ1, H1, I3, e1, e2⟩ => ?_))
  subst e1 e2
  unfold assignInOrder
  refine wpAny_bind (wpAny_holding (L2.thn (hb.run pins _ _ _ (.ref h'.objs.size) (.ref h'.objs.size) Q I3 rfl q2) fun _ s4 h4 => ?_))
  unfold assignInOrder
  exact wpAny_pure h4
end
end Ev
/-! # Ev: len(set(e)) of a tuple of ints and texts. -/
namespace Ev
open PySem PySem.Spec PyProof.Rows
open L2 (V Hp HO upd SqL SqT Rd Cx Inv PE PT PW PA PS PSs PG PGs PI PK VK TE TT TA TS TG TGs TI Ends RelV Vals It Dp DpAll OpR UnR CallR TruR IxR SlR MtR EP TP AP SP)
abbrev mem0 (ks : List L2.Key) : L2.Key → Bool := fun j => hasK j ks
/-- the object of a set just made -/
abbrev set0 (w : World) : Obj := { cls := .type "set", dict := none, data := .set #[] 0 (.fresh 0 0 (!w.params.followText "set-order")) }
section
variable {P : Program} {w : World} {A : Around} {E : Value → Shared → Prop} {s : Shared}
theorem distK_le : ∀ ks : List L2.Key, distK ks ≤ ks.length
  | [] => Nat.le_refl _
  | k :: ks => by
    have := distK_le ks
    simp only [distK, List.length_cons]
    split <;> omega
theorem take_at {ks : List L2.Key} {i : Nat} {k : L2.Key} (h : ks[i]? = some k) : ks.take (i + 1) = ks.take i ++ [k] := by
  rw [List.take_add_one, h]
  rfl
theorem setK_loop {I : Addr} {fp wr : List Addr} {G : Array GenState → Array GenState → Prop} {n : Nat} {Pv : Nat → Value → Prop} {St : Nat → Shared → Prop} {R : Result → Shared → Prop}
    (W : WalksS P w A.in1 I fp wr G n Pv St) (D : Addr) (off : D ∉ fp) (ks : List L2.Key) (en : n = ks.length) (room : ks.length + 1 < scanBound) (hv : ∀ i v, Pv i v → ∃ k, ks[i]? = some k ∧ RelV (L2.kV k) v) :
    ∀ (m i : Nat) (s : Shared), n - i = m → i ≤ n → St i s → s.heap.SetOf (L2.mixKind P w) D (mem0 (ks.take i)) (distK (ks.take i)) →
      (∀ z, Moved (D :: wr) G s z → z.heap.SetOf (L2.mixKind P w) D (mem0 ks) (distK ks) → R (.ok (.ret .none)) z) →
      codeAny (model P w) A (.builtin "set.update.loop" ⟨[.ref D, .ref I], []⟩) R s := by
  have offw : D ∉ wr := fun h => off (W.sub D h)
  have into : ∀ b ∈ wr, b ∈ D :: wr := fun b => List.mem_cons_of_mem D
  intro m
  induction m with
  | zero =>
    intro i s em le st so fin
    obtain rfl : i = n := by omega
    refine (codeAny_builtin F.entry_set_update_loop ?_)
    rw [A.under_plainId F.plain_set_update_loop _]
    show wpAny _ _ (pyNext (.ref I) >>= _) _ _ s
    refine wpAny_bind (W.done s _ _ st fun z mv => ?_)
    have all : ks.take i = ks := List.take_of_length_le (by omega)
    rw [all] at so
    exact (wpAny_pure (fin z (mv.mono into) (L2.setOf_at so fun o e => mv.heap D o offw e)))
  | succ m ih =>
    intro i s em le st so fin
    have lt : i < n := by omega
    refine (codeAny_builtin F.entry_set_update_loop ?_)
    rw [A.under_plainId F.plain_set_update_loop _]
    show wpAny _ _ (pyNext (.ref I) >>= _) _ _ s
    refine wpAny_bind (W.item i s _ _ lt st fun v z pv st' mv => ?_)
    obtain ⟨k, hk, rk⟩ := hv i v pv
    have so' := L2.setOf_at so fun o e => mv.heap D o offw e
    show wpAny _ _ (holding [v] (setAdd D v) >>= _) _ _ z
    refine wpAny_bind (wpAny_holding ?_)
    unfold setAdd
    refine wpAny_holding ?_
    have ik := L2.kV_is (P := P) (w := w) rk
    refine wpAny_bind ((L2.mixKind P w).pyHash ik ?_)
    have le2 := distK_le (ks.take i)
    have lt2 : (ks.take i).length ≤ ks.length := by rw [List.length_take]; omega
    refine wpAny_setAddHashed_of (s := { z with toks := z.toks + 1 }) ik (L2.key_scan rk) so' (by omega) fun h' sb so2 => ?_
    have so3 : h'.SetOf (L2.mixKind P w) D (mem0 (ks.take (i + 1))) (distK (ks.take (i + 1))) := by
      have e1 : (fun j => mem0 (ks.take i) j || decide (j = k)) = mem0 (ks.take (i + 1)) := by
        funext j
        show (hasK j (ks.take i) || decide (j = k)) = hasK j (ks.take (i + 1))
        rw [take_at hk, hasK_app]
        congr 1
        by_cases q : j = k
        · subst q
          rfl
        · have q' : ¬ k = j := fun e => q e.symm
          simp [q, q']
      have e2 : (if mem0 (ks.take i) k = true then distK (ks.take i) else distK (ks.take i) + 1) = distK (ks.take (i + 1)) := by
        rw [take_at hk, distK_snoc]
      rw [← e1, ← e2]
      exact so2
    refine wpAny_pure ⟨plainId_quiet F.plain_set_update_loop _, ih (i + 1) _ (by omega) lt (W.frame _ z _ _ st' (Nat.le_succ _) fun b hb o e => ?_) so3 fun z2 mv2 so4 => ?_⟩
    · rw [sb.2 b (fun h : b = D => off (h ▸ hb))]
      exact e
    · refine fin z2 (Moved.trans W.gtrans ((mv.mono into).then_heap (Nat.le_succ _) fun b o hb e => ?_) mv2) so4
      rw [sb.2 b (fun h : b = D => hb (h ▸ List.mem_cons_self))]
      exact e
theorem vals_atV : ∀ {xs : List V} {us : List Value} {i : Nat} {u : Value}, Vals xs us → us[i]? = some u → ∃ x, xs[i]? = some x ∧ RelV x u
  | _, _, _, _, .nil, e => by simp at e
  | x :: xs, y :: us, 0, u, .cons r t, e => ⟨x, rfl, by cases e; exact r⟩
  | x :: xs, y :: us, i + 1, u, .cons r t, e => vals_atV t (i := i) (by simpa using e)
theorem set_of_tup {q : Addr} {us : Array Value} (ks : List L2.Key) {Q : Value → Shared → Prop} (calm : A.handled = none) (tp : s.heap.IsTuple q us) (rk : Vals (ks.map L2.kV) us.toList) (room : ks.length + 1 < scanBound)
    (fin : ∀ (g : Heap) (tk : Nat), g.SetOf (L2.mixKind P w) s.heap.objs.size (mem0 ks) (distK ks) → (∀ b o, s.heap.get? b = some o → g.get? b = some o) → Q (.ref s.heap.objs.size) { s with heap := g, toks := tk }) :
    wpAny (model P w) A (call (.type "set") [.ref q]) Q E s := by
  have size : us.size = ks.length := by
    have e := rk.length
    rw [List.length_map, Array.length_toList] at e
    exact e.symm
  have ⟨c, tl, hmro⟩ := F.called_set.mro
  have made := F.called_set.made
  have isub := F.called_set.sub
  refine (wpAny_call (codeAny_of_tree ?_))
  show wpAny _ _ (callAny (.type "set") _) _ _ s
  refine wpAny_pure ⟨(Code.quiet_builtin _ (by decide +kernel)), (codeAny_builtin F.entry_type_call ?_)⟩
  rw [Around.under_plain (weight_type_call_type "set" [.ref q] []) rfl]
  have n1 := F.called_set.notType
  have n2 := F.called_set.canCreate
  have n3 := F.typeCall_set_1 (.ref q)
  repeat (any_goals (first | assumption | wp_step))
  refine codeAny_mono (L2.code_set_led1 (.ref q) (E := E) (Q₁ := fun ob z => ob = .ref s.heap.objs.size ∧ z = { s with heap := s.heap.push (set0 w) }) ⟨rfl, rfl⟩) fun r z hr => ?_
  cases r with
  | error e => exact hr
  | ok fl =>
    cases fl with
    | ret ob =>
      obtain ⟨rfl, rfl⟩ := hr
      have at0 : (s.heap.push (set0 w)).get? s.heap.objs.size = some (set0 w) := Heap.get?_push_size _ rfl
      have ty0 : Shared.TypeIs { s with heap := s.heap.push (set0 w) } (.ref s.heap.objs.size) "set" := ⟨_, at0, rfl⟩
      have i1 := F.called_set.init.lookup
      have i2 := F.called_set.init.bind (.ref s.heap.objs.size)
      repeat (any_goals (first | assumption | wp_step))
      refine codeAny_mono (codeAny_call_builtin (R := wants (fun r z => r = .none ∧ ∃ g tk, z = { s with heap := g, toks := tk } ∧ g.SetOf (L2.mixKind P w) s.heap.objs.size (mem0 ks) (distK ks) ∧ ∀ b o, s.heap.get? b = some o → g.get? b = some o) E) F.called_set.init.plain F.entry_set_init (check_set_init_1 ty0 ?_)) fun r2 z2 hr2 => ?_
      · obtain ⟨⟨ocl, odi, oda, osl⟩, hol, hcl, nl, hdl⟩ := tp
        simp only at hcl hdl
        subst hcl hdl
        have hol2 : (s.heap.push (set0 w)).get? q = some { cls := .type "tuple", dict := odi, data := .seq us nl, slots := osl } := Heap.get?_push_of_some _ hol
        have u1 := F.sub_tuple_set
        have u2 := F.sub_tuple_frozenset
        have u3 : (Value.type "tuple" == Value.type "dict") = false := by decide
        have tp2 : (s.heap.push (set0 w)).IsTuple q us := ⟨_, hol2, rfl, nl, rfl⟩
        unfold Builtin.«set.__init__» noKeywords Builtin.Frozenset.updateFrom
        generalize hPI : pyIter = PI
        wp_walk
        subst hPI
        refine wpAny_pyIter_tuple tp2 ?_
        refine (wpAny_bind (wpAny_runValue ?_))
        have lt : q < s.heap.objs.size := Heap.lt_size hol
        have calm3 : A.in1.in1.in1.handled = none := by simp [calm]
        have sz : (s.heap.push (set0 w)).objs.size = s.heap.objs.size + 1 := Heap.size_push ..
        have neI : q ≠ (s.heap.push (set0 w)).objs.size := by
          rw [sz]
          exact Nat.ne_of_lt (Nat.lt_succ_of_lt lt)
        have off : s.heap.objs.size ∉ [(s.heap.push (set0 w)).objs.size, q] := by
          rw [sz]
          simp only [List.mem_cons, List.not_mem_nil, or_false, not_or]
          exact ⟨Nat.ne_of_lt (Nat.lt_succ_self _), Nat.ne_of_gt lt⟩
        have hv : ∀ (i : Nat) (v : Value), us[i]? = some v → ∃ k, ks[i]? = some k ∧ RelV (L2.kV k) v := fun i v e => by
          obtain ⟨x, e1, e2⟩ := vals_atV rk (i := i) (by rw [Array.getElem?_toList]; exact e)
          rw [List.getElem?_map] at e1
          obtain ⟨k, e3, rfl⟩ := Option.map_eq_some_iff.mp e1
          exact ⟨k, e3, e2⟩
        refine setK_loop (Walks.tuple calm3 _ q neI us).toS s.heap.objs.size off ks size room hv (us.size - 0) 0 _ (by omega) (Nat.zero_le _) ⟨⟨_, Heap.get?_push_size _ rfl, rfl, rfl⟩, (tp2.push _)⟩ ?start ?stop
        case start =>
          exact ⟨_, #[], 0, _, Heap.get?_push_of_some _ at0, ⟨rfl, rfl, rfl⟩, rfl, (fun e he => by simp at he), (fun k => by simp [mem0, hasK]), (by decide), (by rfl), rfl⟩
        case stop =>
          intro z mv so
          obtain ⟨g, g2, d2, tk, os2⟩ := z
          have eg : g2 = s.gens := mv.gens
          have ed : d2 = s.drawn := mv.drawn
          have eo : os2 = s.os := mv.os
          subst eg ed eo
          show wpAny _ _ _ _ _ _
          refine (wpAny_pure ?_)
          show wpAny _ _ (ret Value.none) _ _ _
          refine wpAny_pure ⟨rfl, g, tk, rfl, so, fun b o e => ?_⟩
          have b0 : b < s.heap.objs.size := Heap.lt_size e
          refine mv.heap b o ?_ (Heap.get?_push_of_some _ (Heap.get?_push_of_some _ e))
          simp only [List.mem_cons, List.not_mem_nil, or_false, not_or]
          exact ⟨Nat.ne_of_lt b0, by rw [sz]; exact Nat.ne_of_lt (Nat.lt_succ_of_lt b0)⟩
      · cases r2 with
        | error e => exact hr2
        | ok f2 =>
          cases f2 with
          | ret r =>
            obtain ⟨rfl, g, tk, rfl, so, keep⟩ := hr2
            repeat (any_goals (first | assumption | wp_step))
            exact fin _ _ so keep
          | _ => exact hr2.elim
    | _ => exact hr.elim
end
end Ev
/-! # Ev: len(set(e)), a, *b = e. -/
namespace Ev
open PySem PySem.Spec PyProof.Rows
open L2 (V Hp HO upd SqL SqT Rd Cx Inv PE PT PW PA PS PSs PG PGs PI PK VK TE TT TA TS TG TGs TI Ends RelV Vals It Dp DpAll OpR UnR CallR TruR IxR SlR MtR EP TP AP SP)
section
variable {X : Cx} {F : Fm} {W : Wish}
theorem kys_V {K : PySem.W.Frag} {Z : Addr → Prop} {ms : List Addr} {H : Hp} : ∀ {ys : List PV} {vs : List V} {ks : List L2.Key}, Dens K Z ms H ys vs → kys ys = some ks → vs = ks.map L2.kV
  | [], vs, ks, d, e => by
    simp only [Dens] at d
    simp only [kys] at e
    cases e
    exact d
  | y :: ys, vs, ks, d, e => by
    simp only [Dens] at d
    obtain ⟨v, r, rfl, h1, h2⟩ := d
    simp only [kys] at e
    obtain ⟨k, e1, e2⟩ := Option.bind_eq_some_iff.mp e
    obtain ⟨ks', e3, rfl⟩ := Option.map_eq_some_iff.mp e2
    rw [keyOf_V (.inl h1) e1, kys_V h2 e3]
    rfl
/-- len(set(e)) -/
theorem e_lset2 {c : Call} {a : ME} {e : Expr} {p p2 q pos : Pos} (hc : X.calm = true) (he : PE X e (tE X.K F W (ev c a))) (hg : L2.Gl X "len") (hm : X.mg "len" = none) (hg2 : L2.Gl X "set") (hm2 : X.mg "set" = none) (hs : starEach [e] X.env = (false, eval e X.env) :: starEach [] X.env) :
    PE X (.Call (.Name "len" p) [.Call (.Name "set" p2) [e] [] q] [] pos) (tE X.K F W (ev c (.lset2 a))) := by
  refine ⟨fun pins s σ H Q I ⟨Z, ms, g, R, S⟩ => ?_⟩
  simp only [ev_lset2] at S
  have rd : tV X.K F W (ev c a) σ H fun x H1 => ∃ (b : Addr) (ks : List L2.Key), x = V.ref b ∧ SqT X.K H1 b (ks.map L2.kV) ∧ ks.length < 4000 ∧ Q (.int (distK ks : Nat)) H1 := by
    rcases S.split with ⟨x0, g1, e1, S1⟩ | ⟨r, g1, e1, S1⟩
    · exact ⟨Z, ms, g, R, Sat.exc e1 S1⟩
    refine ⟨Z, ms, g, R, Sat.mk e1 fun Z1 ms1 H1 l1 R1 x d1 => ?_⟩
    obtain ⟨r2, e2, S2⟩ := S1.lift
    obtain ⟨xs, e3, e4⟩ := Option.bind_eq_some_iff.mp e2
    unfold tupsOf at e3
    split at e3
    case h_2 => cases e3
    rename_i ys hr
    cases e3
    unfold lsetV at e4
    obtain ⟨ks, e5, e6⟩ := Option.bind_eq_some_iff.mp e4
    obtain ⟨hl, rfl⟩ := ck_some e6
    rw [hr] at d1
    simp only [Den] at d1
    obtain ⟨b, vs, rfl, h1, h2⟩ := d1
    have := kys_V h2 e5
    subst this
    exact ⟨b, ks, rfl, h1.sqT, hl, S2 Z1 ms1 H1 l1 R1 _ (by simp only [ResOk, Den])⟩
  refine Call_ (L2.ld_blt I hg hm PySem.boot_len ?_)
  refine (callWith_builtin1 (args_cons ?_ rfl) rfl rfl)
  refine Call_ (L2.ld_blt I hg2 hm2 boot_set ?_)
  refine callWith_type1 (args_cons (L2.thn ((PE.v he).run pins s σ H _ I rd) fun v s1 ⟨x, H1, I1, r1, b, ks, ex, sq, hl, q1⟩ => args_nil ?_) hs) hs rfl
  subst ex
  cases r1
  obtain ⟨its, rv, tp, _⟩ := I1.tuple sq
  have hsb : scanBound = 4096 := rfl
  refine set_of_tup ks (I1.ok.hd hc) tp (by simpa using rv) (by omega) fun h' tk so keep => ?_
  refine (args_nil ?_)
  obtain ⟨o, es, ep, t, ho, hex, hd, _, _, _, hf, hn⟩ := so
  have I2 : Inv X pins σ H1 { s1 with heap := h', toks := tk } := I1.kept keep
  have := distK_le ks
  exact call_len_set ho hex hd hf (by rw [hn]; omega) ⟨.int (distK ks : Nat), H1, I2.tok _, ⟨_, by rw [hn]⟩, q1⟩
/-- a, *b = e -/
theorem ex_star {c : Call} (i j m) : ex c (.star i j m) = fun g => (ev c m g).bind fun r g1 => starV i j r g1 := rfl
theorem starV_ok {i j : Nat} {r : Res} {g g' : G} {f : Fl} (e : starV i j r g = .ok f g') : ∃ x xs, r = .val (.tup (x :: xs)) ∧ i < g.sl.length ∧ j < g.sl.length ∧ f = .nx ∧ g' = { g with sl := (g.sl.set i (.val x)).set j (.own xs) } := by
  unfold starV at e
  split at e
  · rename_i x xs
    cases q : setVar i (.val x) g with
    | bad => rw [q] at e; cases e
    | exc _ _ => rw [q] at e; cases e
    | ok u g1 =>
      rw [q, Ev.R.bind_ok] at e
      obtain ⟨h1, rfl⟩ := setVar_ok q
      cases q2 : setVar j (.new xs) { g with sl := g.sl.set i (Res.val x).slot } with
      | bad => rw [q2] at e; cases e
      | exc _ _ => rw [q2] at e; cases e
      | ok u2 g2 =>
        rw [q2, Ev.R.bind_ok] at e
        obtain ⟨h2, rfl⟩ := setVar_ok q2
        cases e
        exact ⟨x, xs, rfl, h1, by simpa using h2, rfl, rfl⟩
  · cases e
theorem starV_nx {i j : Nat} {r : Res} {g : G} (x : EX) (g' : G) : starV i j r g ≠ .exc x g' := by
  unfold starV
  split
  · intro e
    rename_i y ys
    cases q : setVar i (.val y) g with
    | bad => rw [q] at e; cases e
    | exc _ _ => exact setVar_nx _ _ q
    | ok u g1 =>
      rw [q, Ev.R.bind_ok] at e
      cases q2 : setVar j (.new ys) g1 with
      | bad => rw [q2] at e; cases e
      | exc _ _ => exact setVar_nx _ _ q2
      | ok u2 g2 => rw [q2, Ev.R.bind_ok] at e; cases e
  · exact nofun
theorem s_star {c : Call} {i j : Nat} {m : ME} {a b e : Expr} {p3 tp pos : Pos} {k : Nat} (hc : X.calm = true) (he : PE X e (tE X.K F W (ev c m))) (ha : PG X a (L2.gName i)) (hb : PG X b (L2.gName j)) (hst : assignEach [a, .Starred b p3] X.env = [(false, assign a X.env), (true, assign b X.env)])
    (hs : swapsWithSole [.Tuple [a, .Starred b p3] k tp] e pos.line X.env = pure false) (hw : swappedStores [.Tuple [a, .Starred b p3] k tp] e X.env = pure none) (h1 : (assignEach [.Tuple [a, .Starred b p3] k tp] X.env).map (·.2) = [assign (.Tuple [a, .Starred b p3] k tp) X.env]) :
    PS X (.Assign [.Tuple [a, .Starred b p3] k tp] e pos) (tS X.K F W (ex c (.star i j m))) := by
  refine PS.imp (L2.ps_asg he (pg_star hc ha hb hst) hs hw h1) fun D σ H ⟨Z, ms, g, R, S⟩ => ?_
  simp only [ex_star] at S
  rcases S.split with ⟨x0, g1, e1, S1⟩ | ⟨r, g1, e1, S1⟩
  · exact ⟨Z, ms, g, R, Sat.exc e1 (S1 _)⟩
  refine ⟨Z, ms, g, R, Sat.mk e1 fun Z1 ms1 H1 l1 R1 x rx => ?_⟩
  replace S1 := S1.le l1
  cases e2 : starV i j r g1 with
  | bad => rw [e2] at S1; exact S1.elim
  | exc y g2 => exact absurd e2 (starV_nx y g2)
  | ok f g2 =>
    rw [e2] at S1
    obtain ⟨y, ys, rfl, hi, hj, rfl, rfl⟩ := starV_ok e2
    simp only [ResOk, Den] at rx
    obtain ⟨q, vs, rfl, h2, h3⟩ := rx
    simp only [Dens] at h3
    obtain ⟨v, vr, rfl, h4, h5⟩ := h3
    refine ⟨q, v, vr, rfl, h2.sqT, fun p hp => ?_⟩
    have R2 := R1.set (r := .val y) h4 hi
    have R3 := R2.laid (o := .lst vr) hp
    have ok := R2.newL (xs := ys) hp h5
    have R4 := R3.set (i := j) ok (by simpa using hj)
    exact (S1.le (Le.upd hp)).here R4
end
end Ev
/-! # Ev, part 10: calls of defs. -/
namespace Ev
open PySem PySem.Spec
open L2 (V Hp HO upd SqL SqT Rd Cx Inv PE PT PW PA PS PSs PG PGs PI PK VK TE TT TA TS TG TGs TI Ends RelV Vals It Dp DpAll OpR UnR CallR TruR IxR SlR MtR EP TP AP SP Room Env0 CE)

/-- the cells stand in the heap -/
structure HpOk (K : PySem.W.Frag) (w : World) (Z : Addr → Prop) (ms : List Addr) (hp : List Cell) (H : Hp) : Prop where
  cn : ms.length = hp.length
  cl : ∀ (n : Nat) c a, hp[n]? = some c → ms[n]? = some a → CellOk K Z ms H w c a
  nd : ms.Nodup
  mz : ∀ a ∈ ms, ¬ Z a
  zs : ∀ a, Z a → ∃ vs, H a = some (.lst vs)
/-- what a call leaves of the heap -/
structure Lft (K : PySem.W.Frag) (w : World) (Z : Addr → Prop) (ms : List Addr) (H : Hp) (Z' : Addr → Prop) (ms' : List Addr) (hp' : List Cell) (H' : Hp) : Prop where
  le : Le Z ms H Z' ms' H'
  kp : ∀ a o, H a = some o → a ∉ ms → H' a = some o
  z : ∀ a, Z' a → Z a ∨ H a = none
  m : ∀ a ∈ ms', a ∈ ms ∨ H a = none
  ok : HpOk K w Z' ms' hp' H'
/-- what a call hands back -/
structure Pay (K : PySem.W.Frag) (w : World) (Z : Addr → Prop) (ms : List Addr) (H : Hp) (Z' : Addr → Prop) (ms' : List Addr) (hp' : List Cell) (H' : Hp) (r : Res) (x : V) : Prop extends Lft K w Z ms H Z' ms' hp' H' where
  rs : match r with
    | .val v => Den K Z' ms' H' v x
    | .new xs => ∃ a vs, x = .ref a ∧ H' a = some (.lst vs) ∧ Dens K Z' ms' H' xs vs ∧ ¬ Z' a ∧ a ∉ ms' ∧ H a = none
/-- the exception classes: where the class lies, what its fields are called -/
structure CTab where
  ct : Nat → Option (Addr × List Str)
  fo : Fm → Prop := fun _ => True
instance : CoeFun CTab fun _ => Nat → Option (Addr × List Str) := ⟨CTab.ct⟩
/-- this exception is that object -/
def ExcDen (T : CTab) (K : PySem.W.Frag) (Z : Addr → Prop) (ms : List Addr) (H : Hp) (x : EX) (cls : Value) (d : Option Addr) : Prop :=
  ∃ C ns dx fs vs, T x.cls = some (C, ns) ∧ cls = .ref C ∧ d = some dx ∧ H dx = some (.xd fs) ∧ dx ∉ ms ∧ ¬ Z dx ∧ vs.length = ns.length ∧ Dens K Z ms H x.args vs ∧ ∀ n v, (n, v) ∈ ns.zip vs → fs.lookup n = some v
/-- the wish as HandS has it -/
def wxOf (T : CTab) (K : PySem.W.Frag) (F : Fm) (W : Wish) : L2.WX := fun cls d σ H => ∃ x Z ms g, ExcDen T K Z ms H x cls d ∧ Rel K F Z ms g σ H ∧ W x Z ms g σ H
/-- the layer takes what the evaluator lets out -/
def Tk (T : CTab) (X : Cx) (F : Fm) (W : Wish) : Prop := F.w = X.w ∧ L2N.Takes X (wxOf T X.K F W) ∧ (X.calm = false → T.fo F)
/-- behind a call -/
def Back (T : CTab) (K : PySem.W.Frag) (P : Program) (w : World) (outer : List Env) (Z : Addr → Prop) (ms : List Addr) (H : Hp) (s : Shared) (hp' : List Cell) (o : Out) (res : Result) (s' : Shared) : Prop :=
  match o with
  | .ret r => ∃ u, res = .ok (.ret u) ∧ CE outer P w H s (fun v H' => ∃ Z' ms', Pay K w Z ms H Z' ms' hp' H' r v) u s'
  | .exc x => ∃ e, res = .error e ∧ L2N.CX P w outer H s (fun cls d H' => ∃ Z' ms', Lft K w Z ms H Z' ms' hp' H' ∧ ExcDen T K Z' ms' H' x cls d) e s'
/-- a call's form: the def's name, how many arguments stand in their places, the keywords -/
structure Tg where
  name : Str
  p : Nat
  ks : List Str
/-- the calls' forms; the module's own names, with their values -/
inductive HQ where | isa (C : Str) | fld (f : Str)
/-- ls: said, raise may stand; cm: nothing is handled; xs: the error classes, with their fields; lq: what a lambda of this def is called; sn: the def that says; hn, hs, hq: the handled error's name, its slot, what is asked of it -/
structure TTab where
  tg : List Tg
  gl : List (Str × PV)
  ls : Bool := false
  cm : Bool := true
  xs : List (Str × List Str) := []
  lq : Str := ""
  sn : Str := ""
  ln : List Str := []
  sr : Nat := 0
  hn : Str := ""
  hs : Nat := 0
  hq : List HQ := []
/-- this name of the module has this value, in each heap -/
def GlOk (K : PySem.W.Frag) (mg : Str → Option Value) (x : Str) (v : PV) : Prop := ∃ u, mg x = some u ∧ ∀ Z ms H, ∃ y, RelV y u ∧ Den K Z ms H v y
theorem GlOk.int {K : PySem.W.Frag} {mg : Str → Option Value} {x : Str} {i : Int} {t : Tok} (h : mg x = some (.int i t)) : GlOk K mg x (.int i) := ⟨_, h, fun Z ms H => ⟨.int i, ⟨t, rfl⟩, by simp only [Den]⟩⟩
theorem GlOk.str {K : PySem.W.Frag} {mg : Str → Option Value} {x i : Str} {t : Tok} (h : mg x = some (.str i t)) : GlOk K mg x (.str i) := ⟨_, h, fun Z ms H => ⟨.str i, ⟨t, rfl⟩, by simp only [Den]⟩⟩
/-- a row of texts -/
def Txs : List Str → List Value → Prop
  | [], us => us = []
  | x :: xs, us => ∃ t r, us = .str x t :: r ∧ Txs xs r
theorem Txs.den {K : PySem.W.Frag} {Z : Addr → Prop} {ms : List Addr} {H : Hp} : ∀ {xs : List Str} {us : List Value}, Txs xs us → Vals (xs.map V.str) us ∧ Dens K Z ms H (xs.map PV.str) (xs.map V.str)
  | [], us, h => by
    simp only [Txs] at h
    subst h
    exact ⟨.nil, .nil⟩
  | x :: xs, us, h => by
    simp only [Txs] at h
    obtain ⟨t, r, rfl, h⟩ := h
    obtain ⟨h1, h2⟩ := Txs.den (K := K) (Z := Z) (ms := ms) (H := H) h
    exact ⟨.cons ⟨t, rfl⟩ h1, .cons (by simp only [Den]) h2⟩
theorem GlOk.txs {K : PySem.W.Frag} {mg : Str → Option Value} {x : Str} {xs : List Str} {a : Addr} {its : Array Value} {n : Nat} {sl : Array (Option Value)} (h : mg x = some (.ref a)) (hl : K.lookup a = some ⟨.type "tuple", none, .seq its n, sl⟩) (hz : its.size ≤ sizeLine) (ht : Txs xs its.toList) :
    GlOk K mg x (.tup (xs.map PV.str)) := ⟨_, h, fun Z ms H => by
  obtain ⟨h1, h2⟩ := Txs.den (K := K) (Z := Z) (ms := ms) (H := H) ht
  refine ⟨.ref a, rfl, ?_⟩
  simp only [Den]
  exact ⟨a, _, rfl, .inr ⟨_, its, n, hl, rfl, rfl, rfl, hz, h1⟩, h2⟩⟩
/-- calls of this form do what the evaluator says -/
structure CallOk (T : CTab) (P : Program) (w : World) (K : PySem.W.Frag) (mg : Str → Option Value) (base : Heap) (k : Nat) (t : Tg) (cf : List PV → List PV → List Cell → Option (Out × List Cell)) : Prop where
  ex : ∃ f : Addr, mg t.name = some (.ref f) ∧ PySem.W.keepIn K (.ref f) = true ∧ ∀ (A : Around) (outer : List Env) (s : Shared) (H : Hp) (us ws : List Value) (vs zs : List V) (as bs : List PV) (Z : Addr → Prop) (ms : List Addr) (hp : List Cell) (r : Out) (hp' : List Cell),
    Room (3 * k) A → A.guards = some [] → Env0 P w K mg base A outer s H → us.length = t.p → ws.length = t.ks.length → Vals vs us → Vals zs ws → Dens K Z ms H as vs → Dens K Z ms H bs zs → HpOk K w Z ms hp H → cf as bs hp = some (r, hp') →
    codeAny (model P w) A (.call (.ref f) ⟨us, t.ks.zip ws⟩) (Back T K P w outer Z ms H s hp' r) s

section
variable {K : PySem.W.Frag} {F : Fm} {Z : Addr → Prop} {ms : List Addr} {g : G} {σ : L2.St} {H : Hp}
theorem Rel.hpOk (R : Rel K F Z ms g σ H) : HpOk K F.w Z ms g.hp H := ⟨R.cn, R.cl, R.nd, fun a h => (R.mz a h).1, R.zs⟩
theorem Rel.left (R : Rel K F Z ms g σ H) {Z' : Addr → Prop} {ms' : List Addr} {hp' : List Cell} {H' : Hp} (p : Lft K F.w Z ms H Z' ms' hp' H') : Rel K F Z' ms' { g with hp := hp' } σ H' ∧ ∀ (i : Nat) (xs : List PV), g.sl[i]? = some (.own xs) → ∃ a vs, σ[i]? = some (some (.ref a)) ∧ H a = some (.lst vs) := by
  have nz : ∀ {a : Addr} {o : HO}, H a = some o → ¬ Z a → ¬ Z' a := fun {a o} e n z => (p.z a z).elim n fun q => by rw [q] at e; cases e
  have nm : ∀ {a : Addr} {o : HO}, H a = some o → a ∉ ms → a ∉ ms' := fun {a o} e n z => (p.m a z).elim n fun q => by rw [q] at e; cases e
  have ow : ∀ (i : Nat) (xs : List PV), g.sl[i]? = some (.own xs) → ∃ a vs, σ[i]? = some (some (.ref a)) ∧ H a = some (.lst vs) ∧ H' a = some (.lst vs) ∧ Dens K Z' ms' H' xs vs ∧ ¬ Z' a ∧ a ∉ ms' ∧ F.F a = none := fun i xs e => by
    obtain ⟨a, vs, e1, e2, e3, e4, e5, e6⟩ := R.ow i xs e
    exact ⟨a, vs, e1, e2, p.kp a _ e2 e5, Dens.mono p.le _ _ e3, nz e2 e4, nm e2 e5, e6⟩
  refine ⟨⟨R.len, fun i v e => ?_, fun i xs e => ?_, R.un, p.ok.cn, p.ok.cl, p.ok.nd, fun a ha => ⟨p.ok.mz a ha, ?_⟩, fun a z => ?_, fun a z => p.le.z a (R.zz a z), p.ok.zs, fun a o e => ?_, R.xs⟩, ?_⟩
  · obtain ⟨x, e1, e2⟩ := R.vl i v e
    exact ⟨x, e1, Den.mono p.le _ _ e2⟩
  · obtain ⟨a, vs, e1, _, e2, e3, e4, e5, e6⟩ := ow i xs e
    exact ⟨a, vs, e1, e2, e3, e4, e5, e6⟩
  · rcases p.m a ha with h | h
    · exact (R.mz a h).2
    · exact R.freeF h
  · rcases p.z a z with h | h
    · exact R.zf a h
    · exact .inr (R.freeF h)
  · have e1 := R.fr a o e
    refine p.kp a o e1 fun h => ?_
    rw [(R.mz a h).2] at e
    cases e
  · exact fun i xs e => by
      obtain ⟨a, vs, h1, h2, _⟩ := ow i xs e
      exact ⟨a, vs, h1, h2⟩
theorem Rel.paid (R : Rel K F Z ms g σ H) {Z' : Addr → Prop} {ms' : List Addr} {hp' : List Cell} {H' : Hp} {r : Res} {x : V} (p : Pay K F.w Z ms H Z' ms' hp' H' r x) : Rel K F Z' ms' { g with hp := hp' } σ H' ∧ ResOk K F Z' ms' { g with hp := hp' } σ H' r x := by
  obtain ⟨R', ow⟩ := R.left p.toLft
  refine ⟨R', ?_⟩
  cases r with
  | val v => exact p.rs
  | new xs =>
    obtain ⟨a, vs, h1, h2, h3, h4, h5, h6⟩ := p.rs
    refine ⟨a, vs, h1, h2, h3, h4, h5, R.freeF h6, fun i ys e q => ?_⟩
    obtain ⟨b, ws, e1, e2⟩ := ow i ys e
    rw [q] at e1
    cases e1
    rw [h6] at e2
    cases e2
end

/-- plain: no star -/
def noSt : Expr → Bool
  | .Starred _ _ => false
  | _ => true
theorem star_cons {e : Expr} {es : List Expr} {env : Env} (h : noSt e = true) : starEach (e :: es) env = (false, eval e env) :: starEach es env := by
  cases e <;> first | rfl | cases h
theorem backTo_any {pos : Pos} (l : List (Bool × Sem Value)) : (backTo pos l).any (·.1) = l.any (·.1) := by
  unfold backTo
  rw [List.any_map]
  rfl
theorem star_any {pos : Pos} {env : Env} : ∀ {es : List Expr}, es.all noSt = true → (backTo pos (starEach es env)).any (·.1) = false := by
  intro es h
  rw [backTo_any]
  induction es with
  | nil => rfl
  | cons e r ih =>
    simp only [List.all_cons, Bool.and_eq_true] at h
    rw [star_cons h.1, List.any_cons, ih h.2]
    rfl
/-- the keywords' names -/
def kwNames : List Keyword → List (Option Str)
  | [] => []
  | ⟨n, _, _⟩ :: r => n :: kwNames r
theorem kw_names {pos : Pos} {env : Env} : ∀ (kws : List Keyword), (backToKw pos (keywordEach kws env)).map (·.1) = kwNames kws
  | [] => by first | rfl | simp [keywordEach, backToKw, kwNames]
  | ⟨n, v, p⟩ :: r => by
    have ih := kw_names (pos := pos) (env := env) r
    show n :: _ = n :: _
    exact congrArg _ ih
theorem kw_all {pos : Pos} {env : Env} {kws : List Keyword} {ks : List Str} (h : kwNames kws = ks.map some) : (backToKw pos (keywordEach kws env)).all (·.1.isSome) = true ∧ (backToKw pos (keywordEach kws env)).filterMap (·.1) = ks ∧ (backToKw pos (keywordEach kws env)).any (·.1.isNone) = false := by
  have e := kw_names (pos := pos) (env := env) kws
  rw [h] at e
  generalize backToKw pos (keywordEach kws env) = l at e ⊢
  clear h
  induction l generalizing ks with
  | nil =>
    cases ks with
    | nil => exact ⟨rfl, rfl, rfl⟩
    | cons _ _ => cases e
  | cons a r ih =>
    cases ks with
    | nil => cases e
    | cons k ks =>
      simp only [List.map_cons, List.cons.injEq] at e
      obtain ⟨h1, h2, h3⟩ := ih e.2
      refine ⟨?_, ?_, ?_⟩
      · simp only [List.all_cons, h1, e.1]
        rfl
      · rw [List.filterMap_cons, e.1]
        simp only [h2]
      · simp only [List.any_cons, h3, e.1]
        rfl
section
variable {X : Cx} {F : Fm} {W : Wish} {T : CTab} {pos : Pos} {c : Call}
theorem PK.imp {kws : List Keyword} {t t' : TA} (h : PK X kws t) (k : ∀ σ H Q, t' σ H Q → t σ H Q) : PK X kws t' := ⟨fun p pins s σ H Q I q => h.run p pins s σ H Q I (k σ H Q q)⟩
theorem ks_nil : PK X [] (tVs X.K F W (evs c .nil)) := PK.imp L2.pk_nil fun σ H Q ⟨Z, ms, g, R, S⟩ => Sat.here R S [] .nil
theorem ks_cons {m : ME} {r : MEs} {e : Expr} {n : Option Str} {p : Pos} {es : List Keyword} (h : PE X e (tE X.K F W (ev c m))) (t : PK X es (tVs X.K F W (evs c r))) : PK X (⟨n, e, p⟩ :: es) (tVs X.K F W (evs c (.cons m r))) := by
  refine PK.imp (L2.pk_cons (PE.v h) t) fun σ H Q ⟨Z, ms, g, R, S⟩ => ?_
  simp only [evs_cons] at S
  rcases S.split with ⟨x0, g1, e1, S1⟩ | ⟨v, g1, e1, S1⟩
  · exact ⟨Z, ms, g, R, Sat.exc e1 S1⟩
  refine ⟨Z, ms, g, R, Sat.mk e1 fun Z1 ms1 H1 l1 R1 x d1 => ?_⟩
  rcases (S1.le l1).split with ⟨x0, g2, e2, S2⟩ | ⟨vs, g2, e2, S2⟩
  · exact ⟨Z1, ms1, g1, R1, Sat.exc e2 S2⟩
  refine ⟨Z1, ms1, g1, R1, Sat.mk e2 fun Z2 ms2 H2 l2 R2 xs d2 => ?_⟩
  exact S2 Z2 ms2 H2 l2 R2 (x :: xs) (.cons (Den.mono l2 _ _ d1) d2)
def MEs.len : MEs → Nat
  | .nil => 0
  | .cons _ r => r.len + 1
  | .star _ r => r.len
/-- the callee runs -/
theorem call_run (tk : Tk T X F W) {k : Nat} {i : Nat} {t : Tg} {f : Addr} {pins : List (Addr × Obj)} {σ : L2.St} {H : Hp} {s : Shared} {Q : VK} {us ws : List Value} {vs zs : List V} {as bs : List PV} {Z : Addr → Prop} {ms : List Addr} {g : G}
    (C : ∀ (A : Around) (outer : List Env) (s : Shared) (H : Hp) (us ws : List Value) (vs zs : List V) (as bs : List PV) (Z : Addr → Prop) (ms : List Addr) (hp : List Cell) (r : Out) (hp' : List Cell),
      Room k A → A.guards = some [] → Env0 X.prog X.w X.K X.mg X.base A outer s H → us.length = t.p → ws.length = t.ks.length → Vals vs us → Vals zs ws → Dens X.K Z ms H as vs → Dens X.K Z ms H bs zs → HpOk X.K X.w Z ms hp H → c i as bs hp = some (r, hp') →
      codeAny (model X.prog X.w) A (.call (.ref f) ⟨us, t.ks.zip ws⟩) (Back T X.K X.prog X.w outer Z ms H s hp' r) s)
    (hr : Room k X.A) (hgd : X.A.guards = some []) (I : Inv X pins σ H s) (hu : us.length = t.p) (hw : ws.length = t.ks.length) (r1 : Vals vs us) (r2 : Vals zs ws) (R : Rel X.K F Z ms g σ H) (d1 : Dens X.K Z ms H as vs) (d2 : Dens X.K Z ms H bs zs)
    (S : Sat X.K F W σ Z ms H (callC c i as bs g) fun r Z' ms' g' H' => ∀ x, ResOk X.K F Z' ms' g' σ H' r x → Q x H') : wpAny (model X.prog X.w) X.A (call (.ref f) us (t.ks.zip ws)) (EP X pins σ Q) X.xe s := by
  unfold callC at S
  cases e : c i as bs g.hp with
  | none => rw [e] at S; exact S.elim
  | some p =>
    obtain ⟨o, hp'⟩ := p
    rw [e] at S
    have hok := R.hpOk
    rw [tk.1] at hok
    refine wpAny_call (codeAny_mono (C X.A X.stack s H us ws vs zs as bs Z ms g.hp o hp' hr hgd I.env0 hu hw r1 r2 d1 d2 hok e) fun res s' h => ?_)
    cases o with
    | ret r =>
      obtain ⟨u, rfl, h⟩ := h
      show EP X pins σ Q u s'
      obtain ⟨v, H', I', rv, Z', ms', py⟩ := I.after h
      rw [← tk.1] at py
      obtain ⟨R', ok⟩ := R.paid py
      exact ⟨v, H', I', rv, S Z' ms' H' py.le R' v ok⟩
    | exc x =>
      obtain ⟨u, rfl, h⟩ := h
      show X.xe u s'
      refine tk.2.1 u s' (L2N.XE.of_call I (fun cls d H' q => ?_) h)
      obtain ⟨Z', ms', lf, xd⟩ := q
      rw [← tk.1] at lf
      have R' := (R.left lf).1
      exact ⟨x, Z', ms', _, xd, R', S Z' ms' H' lf.le R'⟩
theorem evs_length {c : Call} : ∀ (es : MEs) (g g' : G) (vs : List PV), es.plain = true → evs c es g = .ok vs g' → vs.length = es.len
  | .star _ _, g, g', vs, hp, e => by cases hp
  | .nil, g, g', vs, hp, e => by
    rw [evs_nil] at e
    cases e
    rfl
  | .cons m r, g, g', vs, hp, e => by
    simp only [evs_cons] at e
    cases h1 : ev c m g with
    | bad => rw [h1] at e; cases e
    | exc y k => rw [h1] at e; cases e
    | ok a g1 =>
      rw [h1, Ev.R.bind_ok] at e
      cases h2 : evs c r g1 with
      | bad => rw [h2] at e; cases e
      | exc y k => rw [h2] at e; cases e
      | ok b g2 =>
        rw [h2, Ev.R.bind_ok] at e
        cases e
        show b.length + 1 = r.len + 1
        rw [evs_length r _ _ b hp h2]
theorem call_sat {i : Nat} {es ks : MEs} {σ : L2.St} {H : Hp} {Q : VK} (hes : es.plain = true) (hks : ks.plain = true) (h : tE X.K F W (ev c (.call i es ks)) σ H Q) : tVs X.K F W (evs c es) σ H fun vs H1 => tVs X.K F W (evs c ks) σ H1 fun zs H2 =>
    ∃ Z ms g as bs, Rel X.K F Z ms g σ H2 ∧ Dens X.K Z ms H2 as vs ∧ Dens X.K Z ms H2 bs zs ∧ as.length = es.len ∧ bs.length = ks.len ∧ Sat X.K F W σ Z ms H2 (callC c i as bs g) fun r Z' ms' g' H' => ∀ x, ResOk X.K F Z' ms' g' σ H' r x → Q x H' := by
  obtain ⟨Z, ms, g, R, S⟩ := h
  simp only [ev_call] at S
  rcases S.split with ⟨x0, g1, e1, S1⟩ | ⟨as, g1, e1, S1⟩
  · exact ⟨Z, ms, g, R, Sat.exc e1 S1⟩
  refine ⟨Z, ms, g, R, Sat.mk e1 fun Z1 ms1 H1 l1 R1 vs d1 => ?_⟩
  rcases (S1.le l1).split with ⟨x0, g2, e2, S2⟩ | ⟨bs, g2, e2, S2⟩
  · exact ⟨Z1, ms1, g1, R1, Sat.exc e2 S2⟩
  refine ⟨Z1, ms1, g1, R1, Sat.mk e2 fun Z2 ms2 H2 l2 R2 zs d2 => ?_⟩
  exact ⟨Z2, ms2, g2, as, bs, R2, Dens.mono l2 _ _ d1, d2, evs_length es _ _ _ hes e1, evs_length ks _ _ _ hks e2, S2.le l2⟩
theorem nil_out {σ : L2.St} {H : Hp} {Q : List V → Hp → Prop} (h : tVs X.K F W (evs c .nil) σ H Q) : Q [] H := by
  obtain ⟨Z, ms, g, R, S⟩ := h
  exact Sat.here R S [] .nil
/-- f(e, .., k = v, ..) -/
theorem e_call (tk : Tk T X F W) {k i : Nat} {t : Tg} {x : Str} {p : Pos} {as : List Expr} {kws : List Keyword} {es ks : MEs} (C : CallOk T X.prog X.w X.K X.mg X.base k t (c i)) (hr : Room (3 * k) X.A) (hgd : X.A.guards = some []) (hx : x = t.name) (hg : L2.Gl X x) (hdb : (x == ("__debug__" : Str)) = false)
    (ha : PA X as (tVs X.K F W (evs c es))) (hk : PK X kws (tVs X.K F W (evs c ks))) (hst : as.all noSt = true) (hn : kwNames kws = t.ks.map some) (hes : es.plain = true) (hks : ks.plain = true) (hp : es.len = t.p) (hq : ks.len = t.ks.length) (h1 : as = [] → es = .nil) (h2 : kws = [] → ks = .nil) :
    PE X (.Call (.Name x p) as kws pos) (tE X.K F W (ev c (.call i es ks))) := by
  obtain ⟨f, hm, hkp, C⟩ := C.ex
  subst hx
  refine ⟨fun pins s σ H Q I h => ?_⟩
  have h := call_sat hes hks h
  refine wpAny_Call_Name_kw (L2.ld_glob I hg hm ?_ hdb)
  obtain ⟨k1, k2, k3⟩ := kw_all (pos := pos) (env := X.env) hn
  have go : ∀ {s2 : Shared} {H2 : Hp} {us ws : List Value} {vs zs : List V}, Inv X pins σ H2 s2 → Vals vs us → Vals zs ws → (∃ Z ms g as bs, Rel X.K F Z ms g σ H2 ∧ Dens X.K Z ms H2 as vs ∧ Dens X.K Z ms H2 bs zs ∧ as.length = es.len ∧ bs.length = ks.len ∧ Sat X.K F W σ Z ms H2 (callC c i as bs g) fun r Z' ms' g' H' => ∀ x, ResOk X.K F Z' ms' g' σ H' r x → Q x H') →
      wpAny (model X.prog X.w) X.A (call (.ref f) us (t.ks.zip ws)) (EP X pins σ Q) X.xe s2 := fun {s2 H2 us ws vs zs} I2 r1 r2 q => by
    obtain ⟨Z, ms, g, as, bs, R, d1, d2, l1, l2, S⟩ := q
    exact call_run tk C hr hgd I2 (by rw [← r1.length, d1.length, l1, hp]) (by rw [← r2.length, d2.length, l2, hq]) r1 r2 R d1 d2 S
  have noK : kws = [] → t.ks = [] := fun e => by
    subst e
    cases q : t.ks with
    | nil => rfl
    | cons a r => rw [q] at hn; cases hn
  cases as with
  | nil =>
    obtain rfl := h1 rfl
    have h := nil_out h
    cases kws with
    | nil =>
      obtain rfl := h2 rfl
      have h := nil_out h
      refine PySem.W.callWith_K0 I.kIn hkp ?_
      have := go (us := []) (ws := []) I .nil .nil h
      rw [noK rfl] at this
      exact this
    | cons kv kr =>
      refine PySem.W.callWith_KW0 (h₀ := X.base) I.ok.mod.kin hkp k1 (L2.thn (hk.run pos pins s σ H _ I h) fun ws s2 ⟨zs, H2, I2, rz, q2⟩ => ⟨I2.kIn, ?_⟩) (by rw [k3]; rfl)
      rw [k2]
      exact go (us := []) I2 .nil rz q2
  | cons e es =>
    simp only [List.all_cons, Bool.and_eq_true] at hst
    have he := star_cons (e := e) (es := es) (env := X.env) hst.1
    have hpl := star_any (pos := pos) (env := X.env) hst.2
    cases kws with
    | nil =>
      refine PySem.W.callWith_K (h₀ := X.base) I.ok.mod.kin hkp (L2.thn (ha.run pos pins s σ H _ I h) fun us s1 ⟨vs, H1, I1, r, q⟩ => ⟨I1.kIn, ?_⟩) he hpl
      obtain rfl := h2 rfl
      have q := nil_out q
      have := go (ws := []) I1 r .nil q
      rw [noK rfl] at this
      exact this
    | cons kv kr =>
      refine PySem.W.callWith_KW (h₀ := X.base) I.ok.mod.kin hkp k1 (L2.thn (ha.run pos pins s σ H _ I h) fun us s1 ⟨vs, H1, I1, r, q⟩ => ?_) ?_ he
      · refine L2.thn (hk.run pos pins s1 σ H1 _ I1 q) fun ws s2 ⟨zs, H2, I2, rz, q2⟩ => ⟨I2.kIn, ?_⟩
        rw [k2]
        exact go I2 r rz q2
      · rw [k3, he, backTo_any, List.any_cons, ← backTo_any (pos := pos), hpl]
        rfl
end
end Ev
/-! # Ev: a lambda made, with what it leaves of the heap. -/
namespace Ev
open PySem PySem.Spec PyProof.Rows
open L2 (V Hp HO upd Cx Inv)
/-- the heap behind the making of a lambda: the same, or the table longer by one code object -/
inductive LamH (q : Str) (P : Addr) (H : Hp) : Hp → Prop
  | same : LamH q P H H
  | grown {ps more : Array Value} {c : Addr} : H P = some (.tbl ps) → H c = none → LamH q P H (upd (upd H P (.tbl (ps ++ more))) c (LamX.CodeO c q))
theorem LamH.keep {q : Str} {P : Addr} {H H1 : Hp} (l : LamH q P H H1) {b : Addr} {o : HO} (e : H b = some o) (n : b ≠ P) : H1 b = some o := by
  cases l with
  | same => exact e
  | @grown ps more c hP hc =>
    have : b ≠ c := fun z => by
      rw [z, hc] at e
      cases e
    rw [L2.upd_ne this, L2.upd_ne n, e]
theorem tab_grow {H : Hp} {P c : Addr} {q : Str} {ps : Array Value} {pos : Pos} (hP : H P = some (.tbl ps)) (hc : H c = none) (ht : TriplesOk ps.toList)
    (ha : ∀ (p : Pos) (cv : Value), codeAmong p ps.toList = some cv → ∃ d, cv = .ref d ∧ H d = some (LamX.CodeO d q)) :
    LamX.TabS (upd (upd H P (.tbl (ps ++ #[rawInt pos.line, rawInt pos.col, .ref c]))) c (LamX.CodeO c q)) P q := by
  have nc : P ≠ c := fun z => by
    rw [z, hc] at hP
    cases hP
  have el : (ps ++ #[rawInt pos.line, rawInt pos.col, .ref c]).toList = ps.toList ++ [rawInt pos.line, rawInt pos.col, .ref c] := Array.toList_append
  refine ⟨_, (L2.upd_ne nc).trans L2.upd_same, el ▸ PySem.TriplesOk_snoc _ _ _ _ ht, fun p cv h => ?_⟩
  rcases LamX.among_app _ ht (el ▸ h) with h | rfl
  · obtain ⟨d, rfl, e⟩ := ha p cv h
    have d1 : d ≠ c := fun z => by
      rw [z, hc] at e
      cases e
    have d2 : d ≠ P := fun z => by
      rw [z, hP] at e
      exact LamX.codeO_ne ps (Option.some.inj e).symm
    exact ⟨d, rfl, by rw [L2.upd_ne d1, L2.upd_ne d2, e]⟩
  · exact ⟨c, rfl, L2.upd_same⟩
section
variable {X : Cx} {pins : List (Addr × Obj)} {σ : L2.St} {H : Hp} {s : Shared}
/-- lambda: body -/
theorem lam_mk {q : Str} {c P : Addr} {prs : Arguments} {bd : Expr} {scp : Scope} {pos : Pos} {E Q : Value → Shared → Prop} (I : Inv X pins σ H s) (TB : LamX.TabB X.base X.mg c P) (hcd : X.env.code = .ref c) (hq : q = X.env.qual ++ "<lambda>") (T : LamX.TabS H P q)
    (hdf : defaultsOf prs X.env = ([], [])) (hfr : ∀ y ∈ scp.names, y.2 = .free → ∃ d, X.env.cells.lookup y.1 = some d)
    (fin : ∀ (f d : Addr) (pm ct : Value) (H1 : Hp) (s1 : Shared), Inv X pins σ H1 s1 → LamH q P H H1 → LamX.TabS H1 P q → s1.heap.get? f = some (PySem.W.kla_obj "<lambda>" q prs bd scp (L2.cloFrom X.env.cells scp.names []) pm d ct) → H1 f = none → f ∉ L2.frs X.stack → H1 d = some (LamX.CodeO d q) → Q (.ref f) s1) :
    wpAny (model X.prog X.w) X.A (eval (.Lambda prs bd scp pos) X.env) Q E s := by
  subst hq
  have T0 := T
  obtain ⟨ps, hP, ht, ha⟩ := T
  have bP := TB.bm.keeps I.bk
  have hP2 := I.hok P _ hP
  have fresh : ∀ {f : Addr}, s.heap.objs.size ≤ f → f ∉ L2.frs X.stack := fun {f} hf z => (List.mem_cons.mp (I.stkSub _ z)).elim (fun e => by
    exact Nat.lt_irrefl _ (Nat.lt_of_lt_of_le (e ▸ I.lt) hf)) (I.nofs hf)
  refine PySem.W.kla_eval hdf ?_
  cases hc : codeAmong pos ps.toList with
  | some cv =>
    obtain ⟨d, rfl, hd⟩ := ha pos cv hc
    refine PySem.W.kla_makeFunctionHit (mg := X.mg) (c := c) (P := P) (ps := ps) (L2.closure_ok hfr) I.ok.glob (I.mod.glob.keeps I.bk) hcd (TB.code.keeps I.bk) hP2 ht hc bP fun ct h1 tk hx hsz => ?_
    exact fin _ d ((X.mg "__name__").getD .none) ct H _ (I.kept fun b o e => Heap.get?_push_of_some _ (hx b o e)) .same T0 (Heap.get?_push_size _ rfl) (I.hok.fresh hsz) (fresh hsz) hd
  | none =>
    refine PySem.W.kla_makeFunction (mg := X.mg) (c := c) (P := P) (ps := ps) (L2.closure_ok hfr) I.ok.glob (I.mod.glob.keeps I.bk) hcd (TB.code.keeps I.bk) hP2 ht hc TB.gP bP fun d ct h1 tk hx hge hlt hrec htb => ?_
    obtain ⟨d2, oc, vs, t, ed, hoc, hdt, hv⟩ := hrec
    cases ed
    have hd := I.hok.fresh hge
    have up := Nat.le_trans hge (Nat.le_of_lt hlt)
    have J := LamX.inv_table (t' := tk) (q := X.env.qual ++ "<lambda>") (more := #[rawInt pos.line, rawInt pos.col, .ref d]) (h' := h1.push (PySem.W.kla_obj "<lambda>" (X.env.qual ++ "<lambda>") prs bd scp (L2.cloFrom X.env.cells scp.names []) ((X.mg "__name__").getD .none) d ct)) I hP
      (fun b o n e => Heap.get?_push_of_some _ (hx b o n e)) (Heap.get?_push_of_some _ htb) hge ⟨oc, vs, t, Heap.get?_push_of_some _ hoc, hdt, hv⟩
    refine fin h1.objs.size d ((X.mg "__name__").getD .none) ct _ _ J (.grown hP hd) (tab_grow hP hd ht ha) (Heap.get?_push_size _ rfl) ?_ (fresh up) L2.upd_same
    have n1 : h1.objs.size ≠ d := Nat.ne_of_gt hlt
    have n2 : h1.objs.size ≠ P := Nat.ne_of_gt (Nat.lt_of_lt_of_le (Heap.lt_size hP2) up)
    rw [L2.upd_ne n1, L2.upd_ne n2]
    exact I.hok.fresh up
end
/-- the state behind it -/
theorem Rel.lam {K : PySem.W.Frag} {F : Fm} {Z : Addr → Prop} {ms : List Addr} {g : G} {σ : L2.St} {H H1 : Hp} {q : Str} {P : Addr} {t : Nat} (R : Rel K F Z ms g σ H) (L : LamH q P H H1) (T : LamX.TabS H1 P q) (hc : g.hp[t]? = some (.tb q)) (hm : ms[t]? = some P) :
    Le Z ms H Z ms H1 ∧ Rel K F Z ms g σ H1 := by
  have pm : P ∈ ms := List.mem_of_getElem? hm
  obtain ⟨ps0, hP, _⟩ : ∃ ps, H P = some (.tbl ps) ∧ True := by
    obtain ⟨ps, e, _⟩ := R.cl t _ P hc hm
    exact ⟨ps, e, trivial⟩
  have ne : ∀ {a : Addr} {o : HO}, H a = some o → (∀ ps, o ≠ .tbl ps) → a ≠ P := fun {a o} e n z => by
    rw [z, hP] at e
    exact n ps0 (Option.some.inj e).symm
  have kp : ∀ {a : Addr} {o : HO}, H a = some o → (∀ ps, o ≠ .tbl ps) → H1 a = some o := fun {a o} e n => L.keep e (ne e n)
  have l : Le Z ms H Z ms H1 := ⟨fun _ z => z, fun a xs _ e => kp e fun _ z => L2.HO.noConfusion z, fun a xs e => kp e fun _ z => L2.HO.noConfusion z, fun a o u e => kp e fun _ z => L2.HO.noConfusion z, ⟨[], by simp⟩, fun a cq e n => ⟨kp e LamX.codeO_ne, n⟩⟩
  refine ⟨l, R.len, fun i v e => ?_, fun i xs e => ?_, R.un, R.cn, fun n c a e1 e2 => ?_, R.nd, R.mz, R.zf, R.zz, fun a z => ?_, fun a o e => ?_, R.xs⟩
  · obtain ⟨x, e1, e2⟩ := R.vl i v e
    exact ⟨x, e1, Den.mono l _ _ e2⟩
  · obtain ⟨a, vs, e1, e2, e3, e4⟩ := R.ow i xs e
    exact ⟨a, vs, e1, kp e2 fun _ z => L2.HO.noConfusion z, Dens.mono l _ _ e3, e4⟩
  · by_cases h : a = P
    · subst h
      have hn : n = t := by
        have h1 := (List.getElem?_eq_some_iff.mp e2).1
        exact (List.getElem?_inj h1 R.nd).mp (e2.trans hm.symm)
      subst hn
      rw [hc] at e1
      cases e1
      obtain ⟨_, _, _, tk, _⟩ := R.cl n _ a hc e2
      obtain ⟨ps, p1, p2, p3⟩ := T
      refine ⟨ps, p1, p2, tk, fun pos cv h => ?_⟩
      obtain ⟨d, h1, h2⟩ := p3 pos cv h
      refine ⟨d, h1, h2, fun dm => ?_⟩
      obtain ⟨m, cd, m1, m2, ok⟩ := R.cell dm
      obtain ⟨o, ho⟩ := ok.at
      by_cases hd : d = a
      · rw [hd, p1] at h2
        exact LamX.codeO_ne ps (Option.some.inj h2).symm
      · have := L.keep ho hd
        rw [h2] at this
        exact ok.code ho d q (Option.some.inj this).symm
    · have ok := R.cl n c a e1 e2
      obtain ⟨o, ho⟩ := ok.at
      exact ok.mono l ((L.keep ho h).trans ho.symm)
  · obtain ⟨vs, e⟩ := R.zs a z
    exact ⟨vs, kp e fun _ z => L2.HO.noConfusion z⟩
  · refine L.keep (R.fr a o e) fun z => ?_
    rw [z, (R.mz P pm).2] at e
    cases e
/-! ### a lambda called -/
/-- the context of the lambda's body; what it lets out is told with the context None -/
def lamN (X : Cx) (A : Around) (outer : List Env) (s : Shared) (H : Hp) (E : L2.XK) (scp : Scope) (f d : Addr) : Cx :=
  { LamX.lamCx X A outer s H E scp f d with
    xe := fun e s1 => wpAny (model X.prog X.w) (A.deeper (LamX.lamEnv X scp s.heap.objs.size f d)) (leaving (LamX.lamEnv X scp s.heap.objs.size f d) e) (fun _ s2 => L2N.CX X.prog X.w outer H s E e s2) (fun e1 s2 => L2N.CX X.prog X.w outer H s E e1 s2) s1 }
theorem inv_xe {X : Cx} {xe : Value → Shared → Prop} {pins : List (Addr × Obj)} {σ : L2.St} {H : Hp} {s : Shared} (I : Inv X pins σ H s) : Inv { X with xe := xe } pins σ H s :=
  ⟨by cases I.ok; constructor <;> assumption, I.os, I.bare, I.base, I.loc, I.cell, I.free, I.freeC, I.pin, I.hok, I.len⟩
theorem lamN_takes {X : Cx} {A : Around} {outer : List Env} {s : Shared} {H : Hp} {E : L2.XK} {scp : Scope} {f d : Addr} : L2N.Takes (lamN X A outer s H E scp f d) (fun cls dd _ H => E cls dd H) :=
  L2N.takes_of (E := E) rfl rfl rfl rfl
section
variable {X : Cx} {pins : List (Addr × Obj)} {σ : L2.St} {H : Hp} {s : Shared}
/-- a(), where a holds the lambda: in a def that was entered at s -/
theorem act_lam {Eg : L2.XK} {Ng : List Str} {qg : Str} {sg : Scope} {gf f d : Addr} {cdg pm ct : Value} {prs : Arguments} {bd : Expr} {scp : Scope} {k i : Nat} {a q : Str} {pn : List (Addr × Obj)} {xe : Value → Shared → Prop} {W : L2.WX} {E : L2.XK} {tb : L2.TE} {p1 p2 : Pos}
    (I : Inv X pins σ H s) (L : LamX.LamS X.env.scope scp) (hq : q = X.env.qual ++ "<lambda>") (hf : s.heap.get? f = some (PySem.W.kla_obj "<lambda>" q prs bd scp (L2.cloFrom X.env.cells scp.names []) pm d ct)) (hfn : H f = none) (hfr : f ∉ L2.frs X.stack)
    (hbd : bindArgs (PySem.W.kla_fn "<lambda>" q prs bd scp (L2.cloFrom X.env.cells scp.names []) pm (.ref d) ct) ⟨[], []⟩ = pure [])
    (tk : L2N.Takes ((L2.cxOf (L2N.CX X.prog X.w) X.prog X.w X.K X.mg X.base Ng qg sg gf cdg X.A X.stack s H Eg).tr pn xe) W) (hW : ∀ cls dd σ1 H1, σ1.length = Ng.length → E cls dd H1 → W cls dd σ1 H1) (hr : L2.Room (k + 1) (X.A.deeper (envOfC qg sg s.heap.objs.size gf cdg)))
    (body : ∀ (outer : List Env) (s1 : Shared) (H1 : Hp), L2.Room k ((X.A.deeper (envOfC qg sg s.heap.objs.size gf cdg)).deeper (LamX.lamEnv X scp s1.heap.objs.size f d)) → L2.PE (lamN X (X.A.deeper (envOfC qg sg s.heap.objs.size gf cdg)) outer s1 H1 E scp f d) bd tb)
    (hN : Ng[i]? = some a) (hv : L2.Vis sg a) (hd1 : (a == ("__debug__" : Str)) = false) (hd2 : (a == ("__classdict__" : Str)) = false) :
    L2.PE ((L2.cxOf (L2N.CX X.prog X.w) X.prog X.w X.K X.mg X.base Ng qg sg gf cdg X.A X.stack s H Eg).tr pn xe) (.Call (.Name a p1) [] [] p2)
      (fun σ1 H1 Q => σ1[i]? = some (some (.ref f)) ∧ H1 d = some (LamX.CodeO d q) ∧ tb σ H1 Q) := by
  subst hq
  refine ⟨fun pins1 s1 σ1 H1 Q J h => ?_⟩
  obtain ⟨h1, h2, h3⟩ := h
  refine wpAny_Call_Name_kw (L2.thn ((L2.pe_var (pos := p1) (i := i) hN hv hd1 hd2).run pins1 s1 σ1 H1 (fun v H2 => v = .ref f ∧ H2 = H1) J ⟨.ref f, h1, rfl, rfl⟩) fun u s2 z => ?_)
  obtain ⟨v, H2, J2, rv, rfl, rfl⟩ := z
  obtain rfl : u = Value.ref f := rv
  have ho := J2.base.keep f _ hf hfn hfr (fun z => nomatch (show f ∈ ([] : List Addr) from z))
  have un : L2.Un (L2.frs X.stack) [] H H2 s.heap s2.heap := J2.base
  obtain ⟨⟨oc, vs, t, c1, c2, c3⟩, _, _⟩ := J2.hok d _ h2
  refine PySem.W.callWith_F0 ⟨_, _, _, _, ho⟩ ?_
  have run : codeAny (model X.prog X.w) (X.A.deeper (envOfC qg sg s.heap.objs.size gf cdg)) (.call (.ref f) ⟨[], []⟩) (L2.CR (L2N.CX X.prog X.w) (envOfC qg sg s.heap.objs.size gf cdg :: X.stack) X.prog X.w H2 s2 Q E) s2 := by
    refine PySem.W.kla_callFunE hr.depth ho rfl L.co L.gen rfl ⟨d, oc, vs, t, rfl, c1, c2, c3⟩ ?_
    rw [hbd]
    refine wpAny_pure (wpAny_newFunctionEnv (fun y hy => (L.own y hy).2) (fun y hy => absurd hy (by simp)) (fun h2 hns hsb => ⟨J2.nolimit.fresh _ hsb, ?_⟩) L.kind)
    have kp : ∀ b o, s2.heap.get? b = some o → h2.get? b = some o := fun b o e => hsb.extBut b o (Nat.ne_of_lt (Heap.lt_size e)) (Heap.get?_push_of_some _ e)
    have J3 := LamX.lam_start2 (E := E) (f := f) (c' := d) (tk := s2.toks + ([] : List (Str × Value)).length) I L J2.env0 hr.hd un hns kp
    refine PySem.W.kla_codeExpr (wpAny_mono ((body _ s2 H2 (hr.deeper _)).run [] _ _ H2 Q (inv_xe J3) h3) (fun v s3 hq => ?_) fun e s3 hq => hq)
    obtain ⟨w1, H3, J4, rv, q⟩ := hq
    exact ⟨w1, H3, J4.os, J4.bare, J4.base, J4.hok, rv, q⟩
  refine wpAny_call (codeAny_mono run fun r s3 hq => ?_)
  cases r with
  | error e => exact tk e s3 (L2N.XE.of_call J2 (fun cls dd H' h => hW cls dd σ1 H' J2.len h) hq)
  | ok fl =>
    cases fl with
    | ret u => exact J2.after hq
    | next => exact False.elim hq
    | brk => exact False.elim hq
    | cont => exact False.elim hq
end
end Ev
/-! # Ev: what may be asked of a caught exception with fields of its own. -/
namespace Ev
open PySem PySem.Spec PySem.Calls PyProof.Rows PySem.W
section
variable {prog : Program} {w : World} {A : Around} {E : Value → Shared → Prop} {s : Shared} {K : Frag} {x D : Addr} {ox : Obj} {od : Option Obj}
theorem found_data {C : Addr} {nm : Str} {a g : Value} (hc : (clsIn K C).isSome = true) (ha : findIn K (.ref C) nm = some (some a)) (hg : specialIn K a "__get__" = some (some g)) (ht : takesIn K a = some true) : findObj K C od nm = some (.bind g a) := by
  obtain ⟨cd, e⟩ := Option.isSome_iff_exists.mp hc
  unfold findObj; rw [e, Option.bind_some, ha, Option.bind_some]; simp [hg, ht]
/-- e.__class__ -/
theorem cls_of {Q : Option Value → Shared → Prop} (c : L2.ExcC K D) (X : K.In s.heap) (I : PySem.W.InstAt s.heap x ox D od) (h : Q (some (.ref D)) { s with toks := s.toks + 1 }) : wpAny (model prog w) A (getAttr? (.ref x) "__class__") Q E s := by
  have hf : findObj K D od "__class__" = some (.bind (.builtin "getset_descriptor.__get__") (.builtin "object.__class__")) := found_data (by obtain ⟨cd, hc, _⟩ := any_some c.hd; rw [hc]; rfl) c.ha c.hn c.ht
  obtain ⟨hp, g, d, t, os⟩ := s
  have M0 := I.type (M := model prog w); have M1 := looks_findIn (M := model prog w) X c.hg; have M2 := looks_findIn (M := model prog w) X c.hk; have M3 := looks_find (M := model prog w) X I hf
  have sub : Looks (model prog w) hp (isInstance (.ref x) (.type "BaseException")) true := M0.andThen (looks_subIn X c.hs)
  have n2 : (Value.builtin "BaseException.__getattribute__" == Value.builtin "object.__getattribute__") = false := by decide +kernel
  have n0 : (false && onTheHeap (Value.builtin "BaseException.__getattribute__")) = false := rfl
  have n1 : (onTheHeap (Value.ref D) && Value.builtin "BaseException.__getattribute__" == Value.builtin "object.__getattribute__") = false := by rw [n2]; rfl
  unfold getAttr? getAttrBy? getAttrBy; refine wpAny_bind (wpAny_mkText (wpAny_bind (wpAny_attempt (wpAny_holding (wpAny_bind (M0.at (wpAny_bind (M1.at ?_))))))))
  show wpAny _ _ (if (onTheHeap (Value.ref D) && Value.builtin "BaseException.__getattribute__" == Value.builtin "object.__getattribute__") = true then _ else _) _ _ _; rw [n1, if_neg Bool.false_ne_true]
  unfold getAttrByItsOwn hookBefore; refine wpAny_bind ?_; rw [if_pos (show onTheHeap (Value.ref D) = true from rfl)]
  refine M2.at (wpAny_bind (wpAny_attempt (wpAny_holding ?_))); unfold callGetattribute; rw [n0, if_neg Bool.false_ne_true]
  unfold boundAndCalled; rw [PySem.F.excAttr_ValueError.ga.bind (.ref x)]; refine wpAny_bind (wpAny_pure ?_)
  show wpAny _ _ (call (.builtin "BaseException.__getattribute__") [.ref x, .str "__class__" t]) _ _ _; refine wpAny_call (codeAny_call_builtin PySem.F.excAttr_ValueError.ga.plain PySem.F.entry_bexc_ga ?_)
  refine @check_slot (model prog w) _ _ ⟨hp, g, d, t + 1, os⟩ "BaseException.__getattribute__" "BaseException" "__getattribute__" (.ref x) [.str "__class__" t] [] _ (by decide +kernel) (by decide +kernel) sub (PySem.F.args_bexc_ga _ _) ?_
  unfold Builtin.«object.__getattribute__»; refine wpAny_bind (wpAny_of_eq (a := ((Value.ref x : Value), [Value.str "__class__" t])) (by first | rfl | (simp only [slotArgs]; rfl)) ?_)
  refine wpAny_bind (wpAny_pure (wpAny_bind (M0.at (wpAny_bind (M3.at ?_))))); show wpAny _ _ (holding [Value.builtin "object.__class__"] (call (.builtin "getset_descriptor.__get__") [.builtin "object.__class__", .ref x, .ref D]) >>= ret) _ _ _
  refine wpAny_bind (wpAny_holding (wpAny_call (class_get (s := ⟨hp, g, d, t + 1, os⟩) (ox := ox) (od := od) X I c.hm ?_))); refine wpAny_pure ?_
  show wpAny _ _ (handedOut (.ref D)) _ _ _; rw [handedOut_of (v := .ref D) rfl]
  first | exact wpAny_pure (wpAny_pure h) | exact wpAny_pure h | exact wpAny_pure (wpAny_bind (wpAny_pure (wpAny_pure h)))
/-- what isinstance asks -/
theorem kit_of (c : L2.ExcC K D) : KitX K (.ref x) (.ref D) (fun h => PySem.W.InstAt h x ox D od) where
  ca := fun X I k => cls_of c X I k
  ty := fun _ _ _ I => I.type
  it := fun _ _ X _ => by
    obtain ⟨cd, e, _⟩ := any_some c.hd; unfold clsIn at e; split at e
    · rename_i o1 o2 o3 o4 ho
      exact fun A1 Q1 E1 s1 k q => by unfold isType loadHead; exact wpAny_bind (wpAny_loadPart (k _ _ (X _ _ ho)) (wpAny_pure q))
    · cases e
  ne := fun h tp dd its n sl X ht => by
    obtain ⟨cd, e, _⟩ := any_some c.hd
    refine Bool.eq_false_iff.mpr fun q => ?_; obtain rfl := Value.ref.inj (beq_iff_eq.mp q); unfold clsIn at e; split at e
    · rename_i o1 o2 o3 o4 ho
      have z := (X _ _ ho).symm.trans ht; cases z
    · cases e
end
section
open L2 (V Hp HO VK CallR RelV)
/-- isinstance(e, c), where the context holds e's object -/
def rIsX (K : Frag) (D a dd : Addr) : List V → Hp → VK → Prop := fun xs H Q => ∃ (c : V) (cv : Value) (b : Bool) (fs : List (Str × V)), xs = [.ref a, c] ∧ (∀ u, RelV c u → u = cv) ∧ kitOne K (.ref D) cv = some b ∧ H dd = some (.xd fs) ∧ Q (.bl b) H
theorem is_x {X : L2.Cx} {a D dd : Addr} {oe : Obj} (hp : (a, oe) ∈ X.pn) (c : L2.ExcC X.K D) (hz : L2.Zc (.ref D) (some dd) oe) (hf : ∃ vs, oe.data = .fields vs) : CallR X (.builtin "isinstance") (rIsX X.K D a dd) := by
  intro pins s σ H xs us Q I r h
  obtain ⟨c2, cv, b, fs, rfl, hcv, e, hx, q⟩ := h
  match us, r with
  | [_, u2], .cons rx (.cons rt .nil) =>
    cases rx
    obtain rfl := hcv _ rt
    obtain ⟨g1, _⟩ := I.pin (a, oe) (List.mem_append_left _ hp)
    obtain ⟨vs, hv⟩ := hf
    obtain ⟨mA, hns, _⟩ : L2.ObjOk X.prog X.w H s.heap dd (.xd fs) := I.hok dd _ hx
    obtain ⟨ob, ho, _⟩ := L2.lookIn_ns hns
    have J : PySem.W.InstAt s.heap a oe D (some ob) := ⟨g1, hz.1, by unfold PySem.W.notCls; rw [hv] <;> rfl, by rw [hz.2]; exact ho⟩
    exact PySem.W.kia_one (kit_of c) I.kIn J e (fun z => nomatch z) fun tk => ⟨.bl b, H, I.kept (t' := tk) fun _ _ z => z, rfl, q⟩
/-- e.n, where the context holds e's object -/
theorem fld_x {X : L2.Cx} {a C dd : Addr} {oe : Obj} {e : Expr} {te : L2.TE} {pos : Pos} {n : Str} (hp : (a, oe) ∈ X.pn) (T : L2.XfC X.K C) (hno : findIn X.K (.ref C) n = some none) (hz : L2.Zc (.ref C) (some dd) oe) (hf : ∃ vs, oe.data = .fields vs) (he : L2.PE X e te)
    (hb : attributeBase e n X.env (eval e X.env) = eval e X.env) : L2.PE X (.Attribute e n pos) (fun σ H Q => te σ H fun x H1 => x = .ref a ∧ ∃ (fs : List (Str × V)) (v : V), H1 dd = some (.xd fs) ∧ fs.lookup n = some v ∧ Q v H1) := by
  refine ⟨fun pins s σ H Q I h => L2.attr_of hb (L2.thn (he.run pins s σ H _ I h) fun u s1 z => ?_)⟩
  obtain ⟨x, H1, I1, rx, rfl, fs, v, hx, hl, q⟩ := z
  obtain rfl : u = Value.ref a := rx
  obtain ⟨g1, _⟩ := I1.pin (a, oe) (List.mem_append_left _ hp)
  obtain ⟨vs, hv⟩ := hf
  obtain ⟨mA, hns, hr⟩ : L2.ObjOk X.prog X.w H1 s1.heap dd (.xd fs) := I1.hok dd _ hx
  obtain ⟨ob, ho, lk⟩ := L2.lookIn_ns hns
  obtain ⟨w1, hw, rw1⟩ := L2.RelO.some_of (v := v) (o := mA n) (by rw [← hl]; exact hr n)
  have J : PySem.W.InstAt s1.heap a oe C (some ob) := ⟨g1, hz.1, by unfold PySem.W.notCls; rw [hv] <;> rfl, by rw [hz.2]; exact ho⟩
  exact HandSPX.exc_get I1.kIn J T.ga T.gg T.exC (PySem.W.findObj_own T.hdC hno rfl (by rw [lk, hw])) (L2.handed_of rw1) ⟨v, H1, I1.tok _, rw1, q⟩
end
end Ev
/-! # Ev: an error class's own __init__: super().__init__(x, ..), self.x = x, .. -/
namespace Ev
open PySem PySem.Spec PySem.Calls PyProof.Rows PySem.W
/-- super().__init__(x, ..) -/
def ixHead (es : List Expr) (p0 p1 p2 p5 p6 : Pos) : Stmt := .Expr (.Call (.Attribute (.Call (.Name "super" p0) [] [] p1) "__init__" p2) es [] p5) p6
/-- self.x = x -/
def ixPut (x : Str) (q0 q1 q2 q3 : Pos) : Stmt := .Assign [.Attribute (.Name "self" q0) x q1] (.Name x q2) q3
def ix2 (x y : Str) (p0 p1 p2 p3 p4 p5 p6 q0 q1 q2 q3 r0 r1 r2 r3 : Pos) : List Stmt := [ixHead [.Name x p3, .Name y p4] p0 p1 p2 p5 p6, ixPut x q0 q1 q2 q3, ixPut y r0 r1 r2 r3]
def ix1 (x : Str) (p0 p1 p2 p3 p5 p6 q0 q1 q2 q3 : Pos) : List Stmt := [ixHead [.Name x p3] p0 p1 p2 p5 p6, ixPut x q0 q1 q2 q3]
abbrev exR (C t : Addr) (d : Option Addr) : Obj := { cls := .ref C, dict := d, data := .fields #[.ref t, .none, .none, .none, .bool false, .none] }
/-- what the written part says of the class and its __init__ -/
structure XIn (K : Frag) (prog : Program) (C fI : Addr) (qual : Str) (params : Arguments) (body : List Stmt) (scope : Scope) (xs : List Str) : Prop where
  T : L2.OexC K C
  init : findIn K (.ref C) "__init__" = some (some (.ref fI))
  tI : typeIn K (.ref fI) = some (.type "function")
  fn : ∃ (dV kV doc pm ct oc : Value) (an od : Option Addr) (osl : Array (Option Value)) (cc cda : Addr) (ccl cl : Value) (cdd cld : Option Addr) (ccs csl : Array (Option Value)) (vs : Array Value) (file : Str) (tf : Tok),
    K.lookup fI = some ⟨oc, od, .func (ksFn "__init__" qual params body scope dV kV doc pm an (.ref cda) ct cc), osl⟩ ∧ codeIn K (.ref cda) qual = true ∧ K.lookup cda = some ⟨ccl, cdd, .fields vs, ccs⟩ ∧ vs[2]? = some (.str file tf) ∧ ((prog.main.file : Str) == file) = true ∧
    K.lookup cc = some ⟨cl, cld, .cell (some (.ref C)), csl⟩ ∧ ∀ (us : List Value), us.length = xs.length → bindArgs (ksFn "__init__" qual params body scope dV kV doc pm an (.ref cda) ct cc) ⟨us, []⟩ = pure (xs.zip us)
  ar : ∃ ar, (params.posonlyargs ++ params.args).head? = some ar ∧ ar.arg = "self"
  sup : ks_superIn K C C "__init__" = some (some (.builtin "ValueError.__init__"))
  ho : nsIn K cStatics "thirdparty.any" = some none
  hB : subIn K (.ref C) (.type "ValueError") = some true
  hC : mroIn K C (.ref C) = some true
  htop : (prog.main.scope.names.lookup ("super" : Str)).isSome = false
  hks : scope.names.lookup ("super" : Str) = some .globalImplicit
  hkc : scope.names.lookup ("__class__" : Str) = some .free
  hk : scope.kind = .function
  hco : scope.isCoroutine = false
  hge : scope.isGenerator = false
  hcell : ∀ x ∈ scope.names, x.2 ≠ .cell
  hloc : ∀ x ∈ xs, scope.names.lookup x = some .local
  self : xs.head? = some "self"
  nd : xs.Nodup
  fld : ∀ x ∈ xs.tail, findIn K (.ref C) x = some none ∧ (x == ("__debug__" : Str)) = false
/-- the head's tree -/
def HeadEq (qual : Str) (scope : Scope) (es : List Expr) (p0 p1 p2 p5 : Pos) : Prop := ∀ (L f cda cc : Addr), interactive (ksEnv qual scope L f (.ref cda) cc) = false ∧ ∃ pl : Sem Bool, eval (.Call (.Attribute (.Call (.Name "super" p0) [] [] p1) "__init__" p2) es [] p5) (ksEnv qual scope L f (.ref cda) cc) = (do
  let ov ← attributeBase (.Call (.Name "super" p0) [] [] p1) "__init__" (ksEnv qual scope L f (.ref cda) cc) (eval (.Call (.Name "super" p0) [] [] p1) (ksEnv qual scope L f (.ref cda) cc))
  standAt p2.atName
  let (g, first) ← holding [ov] (getMethod ov "__init__" pl)
  callWith p5 g first (backTo p5 (starEach es (ksEnv qual scope L f (.ref cda) cc))) [])
section
variable {M : Model} {P : Program} {w : World} {A : Around} {E : Value → Shared → Prop} {K : Frag} {C fI : Addr}
theorem ld {s : Shared} {env : Env} {m : Str → Option Value} {x : Str} {pos : Pos} {v : Value} {Q : Value → Shared → Prop} (hn : s.heap.Ns env.locals m) (hv : m x = some v) (hk : env.scope.kind = .function) (hl : env.kindOf x = some .local) (hd : (x == ("__debug__" : Str)) = false) (h : Q v s) :
    wpAny M A (eval (.Name x pos) env) Q E s := wpAny_Name (wpAny_loadName_local hk hl hn hv h) hd
/-- ValueError.__init__ bound to the object, called -/
theorem call_mw {hp : Heap} {g : Array GenState} {d : Drawn} {t : Nat} {os : OsState} {u a t0 : Addr} {rest : List Value} {Q : Value → Shared → Prop} {nm q : Str} {N : Addr} {bs bm : List Value} {hdct : Bool} {sn : List Str} {sub : List Value} {ab : Bool} {col : Option Bool} {dd : Option Addr} {k0 k1 k2 k3 k5 : Option Value}
    (hC : hp.get? C = some (excClassObj nm q C N bs bm hdct sn sub ab col dd k0 k1 k2 k3 k5 "ValueError.__new__")) (ha : hp.get? a = some (exR C t0 none)) (hu : hp.get? u = some (kxs_mw "ValueError.__init__" a)) (hz : rest.length ≤ sizeLine)
    (h : ∀ h' t1, (∀ b o, b ≠ a → hp.get? b = some o → h'.get? b = some o) → h'.get? a = some (exR C t1 none) → Q .none ⟨h', g, d, t, os⟩) :
    wpAny (model P w) A (call (.ref u) rest) Q E ⟨hp, g, d, t, os⟩ := by
  refine wpAny_call (codeAny_of_tree ?_)
  show wpAny _ A.in1 (callAny (.ref u) ⟨rest, []⟩) _ _ _
  simp only [callAny]
  refine wpAny_bind (wpAny_load hu ?_)
  simp only [kxs_mw, show (Value.type "method-wrapper" == Value.type "method" || Value.type "method-wrapper" == Value.type "builtin_function_or_method" || Value.type "method-wrapper" == Value.type "method-wrapper") = true by decide, if_true]
  refine KFB.if_so (by decide) ?_
  refine wpAny_bind (check_bound_init PySem.F.excBase_ValueError.toExcCallFacts hC ha rfl ?_)
  refine wpAny_bind (wpAny_pure (wpAny_pure ?_))
  refine ⟨plainId_quiet PySem.F.excBase_ValueError.init.plain _, codeAny_builtin PySem.F.excBase_ValueError.initEntry ?_⟩
  exact exc_init_tree (cls := .ref C) (t0 := t0) (dv := none) (c2 := .none) (c3 := .none) (b4 := .bool false) ha hz fun h' k e _ => h h' _ k e
/-- the head of such an __init__ -/
theorem ix_head {s : Shared} {qual : Str} {params : Arguments} {body : List Stmt} {scope : Scope} {xs : List Str} {mg mb : Str → Option Value} {a t0 L cda cc f : Addr} {m : Str → Option Value} {file : Str} {tf : Tok} {vs : Array Value} {ccl cl : Value} {cdd cld : Option Addr} {ccs csl : Array (Option Value)} {dV kV doc pm ct oc : Value} {an od : Option Addr} {osl : Array (Option Value)}
    {bd rest : List Stmt} {es : List Expr} {us : List Value} {p0 p1 p2 p5 p6 : Pos} {Q : Flow → Shared → Prop} (X : XIn K P C f qual params body scope xs) (HE : HeadEq qual scope es p0 p1 p2 p5)
    (lk : K.lookup f = some ⟨oc, od, .func (ksFn "__init__" qual params body scope dV kV doc pm an (.ref cda) ct cc), osl⟩) (hcd : K.lookup cda = some ⟨ccl, cdd, .fields vs, ccs⟩) (hvs : vs[2]? = some (.str file tf)) (hfile : ((P.main.file : Str) == file) = true) (hcc : K.lookup cc = some ⟨cl, cld, .cell (some (.ref C)), csl⟩)
    (KX : K.In s.heap) (hg : s.heap.Ns mainGlobals mg) (hb : s.heap.Ns builtinsNs mb) (hsg : mg "super" = none) (hsb : mb "super" = some (.type "super")) (hL : s.heap.Ns L m) (hself : m "self" = some (.ref a)) (ha : s.heap.get? a = some (exR C t0 none)) (hne : es ≠ [])
    (hes : ∀ (s1 : Shared) (Q1 : List Value → Shared → Prop), s1.heap.Ns L m → Q1 us s1 → wpAny (model P w) A (spliced (backTo p5 (starEach es (ksEnv qual scope L f (.ref cda) cc)))) Q1 E s1)
    (he : ∃ e r, es = e :: r ∧ starEach es (ksEnv qual scope L f (.ref cda) cc) = (false, eval e (ksEnv qual scope L f (.ref cda) cc)) :: starEach r (ksEnv qual scope L f (.ref cda) cc) ∧ (backTo p5 (starEach r (ksEnv qual scope L f (.ref cda) cc))).any (·.1) = false) (hul : us.length ≤ sizeLine)
    (h : ∀ h' t1 tk, (∀ b o, b ≠ a → s.heap.get? b = some o → h'.get? b = some o) → h'.get? a = some (exR C t1 none) → wpAny (model P w) A (execs rest (ksEnv qual scope L f (.ref cda) cc)) Q E { s with heap := h', toks := tk }) :
    _root_.PySem.wpAt (model P w) A (.func bd (ksEnv qual scope L f (.ref cda) cc)) (execs (ixHead es p0 p1 p2 p5 p6 :: rest) (ksEnv qual scope L f (.ref cda) cc)) Q E s := by
  obtain ⟨ar, har, hself'⟩ := X.ar
  obtain ⟨hp, g, d, t, os⟩ := s
  obtain ⟨nm, q, N, bs, bm, sn, sub, ab, col, dd, k0, k1, k2, k3, k5, hC, hbm⟩ := X.T.cls
  have hlC : clsIn K C = some { name := nm, bases := bs, mro := .ref C :: bm, ns := N, qualname := q, hasDict := true, slotNames := sn, subclasses := sub, abstract := ab, collection := col, hasDel := false } := by unfold clsIn; rw [hC] <;> rfl
  have hCh : hp.get? C = some (excClassObj nm q C N bs bm true sn sub ab col dd k0 k1 k2 k3 k5 "ValueError.__new__") := KX _ _ hC
  have aC : a ≠ C := fun z => by
    have e := hCh
    rw [← z, ha] at e
    cases e
  obtain ⟨hint, pl, heq⟩ := HE L f cda cc
  refine ks_wpAt_execs_cons (ks_wpAt_Expr_any (ks_wpAt_MethodCall (pl := pl) (ks_wpAt_super_base (env := ksEnv qual scope L f (.ref cda) cc) X.hks X.hkc (by decide) rfl (KX _ _ lk) rfl har rfl (KX _ _ hcd) rfl hvs hfile X.htop ?_) heq) hint)
  refine ks_loadName_global X.hk X.hks (loadGlobal_builtin (env := ksEnv qual scope L f (.ref cda) cc) hg hsg hb hsb ⟨rfl, ?_⟩)
  refine wpAny_loadName_free X.hk X.hkc rfl ⟨_, KX _ _ hcc, rfl⟩ ?_
  rw [hself']
  refine wpAny_loadName_local X.hk (X.hloc _ (List.mem_of_mem_head? X.self)) hL hself ?_
  refine ks_wpAny_isType_cls hCh rfl ⟨rfl, ?_⟩
  refine ks_wpAny_call_super hCh rfl ha rfl (fun c e => by cases e) (looks_mroIn KX X.hC) (fun h1 e1 kp1 => ?_)
  have hI : ∀ {h : Heap}, K.In h → h.get? a = some (exR C t0 none) → Looks (model P w) h (isInstance (.ref a) (.type "ValueError")) true := fun {h} KX e => by
    have I : InstAt h a (exR C t0 none) C none := ⟨e, rfl, rfl, trivial⟩
    exact I.type.andThen (looks_subIn KX X.hB)
  have sup := X.sup
  unfold ks_superIn at sup
  rw [hlC] at sup
  refine kxs_getMethod kxs_ValueError e1 (looks_opaque (KX.keeps kp1) X.ho) (l₀ := .ref C :: bm) (fun A Q E s k q => wpAny_bind ((looks_clsIn (KX.keeps kp1) hlC) A _ E s k (wpAny_pure q))) rfl (KX.keeps kp1) sup (hI (KX.keeps kp1) (kp1 _ _ ha)) aC (by decide) ?_
  obtain ⟨e, r, rfl, he1, he2⟩ := he
  have kp2 : ∀ b o, hp.get? b = some o → (h1.push (kxs_mw "ValueError.__init__" a)).get? b = some o := fun b o z => Heap.get?_push_of_some _ (kp1 b o z)
  have hu : (h1.push (kxs_mw "ValueError.__init__" a)).get? h1.objs.size = some (kxs_mw "ValueError.__init__" a) := Heap.get?_push_at rfl rfl
  have L2 : (h1.push (kxs_mw "ValueError.__init__" a)).Ns L m := hL.keeps kp2
  have hes2 := hes ⟨h1.push (kxs_mw "ValueError.__init__" a), g, d, t + 1, os⟩
  rw [he1] at hes2 ⊢
  refine kxs_callWith (i := "ValueError.__init__") (x := a) (by show (false || (backTo p5 (starEach r (ksEnv qual scope L f (.ref cda) cc))).any (·.1)) = false; rw [he2]; rfl) ?_
  refine evalArgs_plain (hes2 _ L2 ⟨hu, ?_⟩)
  refine call_mw (kp2 _ _ hCh) (kp2 _ _ ha) hu hul fun h' t1 k3 e3 => ?_
  exact wpAt_of_wpAny (h h' t1 _ (fun b o nb z => k3 b o nb (kp2 b o z)) e3)
/-- self.x = x, the first field -/
theorem ix_put0 {s : Shared} {env : Env} {m : Str → Option Value} {rest : List Stmt} {x : Str} {u : Value} {a t0 : Addr} {q0 q1 q2 q3 : Pos} {Q : Flow → Shared → Prop} (T : L2.OexC K C) (KX : K.In s.heap) (hL : s.heap.Ns env.locals m) (hk : env.scope.kind = .function)
    (hls : env.kindOf "self" = some .local) (hlx : env.kindOf x = some .local) (hdx : (x == ("__debug__" : Str)) = false) (hself : m "self" = some (.ref a)) (hx : m x = some u) (ha : s.heap.get? a = some (exR C t0 none)) (hno : findIn K (.ref C) x = some none)
    (h : ∀ h' tk dx, (∀ b o, b ≠ a → s.heap.get? b = some o → h'.get? b = some o) → s.heap.objs.size ≤ dx → dx ≠ a → h'.get? a = some (exR C t0 (some dx)) → h'.Ns1 dx (fun y => if y = x then some u else none) → wpAny (model P w) A (execs rest env) Q E { s with heap := h', toks := tk }) :
    wpAny (model P w) A (execs (ixPut x q0 q1 q2 q3 :: rest) env) Q E s := by
  obtain ⟨hp, g, d, t, os⟩ := s
  obtain ⟨nm, q, N, bs, bm, sn, sub, ab, col, dd, k0, k1, k2, k3, k5, hC, hbm⟩ := T.cls
  have hcl : clsIn K C = some { name := nm, bases := bs, mro := .ref C :: bm, ns := N, qualname := q, hasDict := true, slotNames := sn, subclasses := sub, abstract := ab, collection := col, hasDel := false } := by unfold clsIn; rw [hC] <;> rfl
  refine wpAny_execs_cons (plainObj_wpAny_Assign_Attribute (ld hL hx hk hlx hdx (ld hL hself hk hls (by decide) ?_)))
  refine set_plain KX (ox := exR C t0 none) (od := none) ⟨ha, rfl, rfl, trivial⟩ T.sa ?_
  exact PySem.HandSPX.exc_osa KX ha hcl (show PySem.HandSPX.refsVE (.ref C :: bm) = true from hbm) rfl hno fun h' tk' dx k dn dne hx hn => h h' tk' dx k dn dne hx hn
/-- a further one -/
theorem ix_put1 {s : Shared} {env : Env} {m m0 : Str → Option Value} {ns : List Str} {rest : List Stmt} {x : Str} {u : Value} {a t0 dx : Addr} {q0 q1 q2 q3 : Pos} {Q : Flow → Shared → Prop} (T : L2.OexC K C) (KX : K.In s.heap) (hL : s.heap.Ns env.locals m) (hk : env.scope.kind = .function)
    (hls : env.kindOf "self" = some .local) (hlx : env.kindOf x = some .local) (hdx : (x == ("__debug__" : Str)) = false) (hself : m "self" = some (.ref a)) (hx : m x = some u) (ha : s.heap.get? a = some (exR C t0 (some dx))) (hns : s.heap.Ns1 dx m0) (hw : Within m0 ns) (hz : ns.length ≤ 1000) (hno : findIn K (.ref C) x = some none)
    (h : ∀ h' tk, (∀ b o, b ≠ dx → s.heap.get? b = some o → h'.get? b = some o) → h'.Ns1 dx (fun y => if y = x then some u else m0 y) → wpAny (model P w) A (execs rest env) Q E { s with heap := h', toks := tk }) :
    wpAny (model P w) A (execs (ixPut x q0 q1 q2 q3 :: rest) env) Q E s := by
  obtain ⟨hp, g, d, t, os⟩ := s
  obtain ⟨nm, q, N, bs, bm, sn, sub, ab, col, dd, k0, k1, k2, k3, k5, hC, hbm⟩ := T.cls
  have hcl : clsIn K C = some { name := nm, bases := bs, mro := .ref C :: bm, ns := N, qualname := q, hasDict := true, slotNames := sn, subclasses := sub, abstract := ab, collection := col, hasDel := false } := by unfold clsIn; rw [hC] <;> rfl
  obtain ⟨oD, _, _, hoD, _, _⟩ := hns.count hw
  refine wpAny_execs_cons (plainObj_wpAny_Assign_Attribute (ld hL hx hk hlx hdx (ld hL hself hk hls (by decide) ?_)))
  refine set_plain KX (ox := exR C t0 (some dx)) (od := some oD) ⟨ha, rfl, rfl, hoD⟩ T.sa ?_
  exact PySem.OEX.osa_old KX ha hns hw hz hcl (show PySem.HandSPX.refsVE (.ref C :: bm) = true from hbm) rfl hno fun h' tk' k hn => h h' tk' k hn
theorem codeRec_in {h : Heap} {v : Value} {q : Str} (KX : K.In h) (e : codeIn K v q = true) : h.CodeRec v q := codeRec_of KX e
end
section
variable {P : Program} {w : World} {A : Around} {K : Frag} {C fI : Addr} {s : Shared} {mg mb : Str → Option Value} {qual : Str} {params : Arguments} {scope : Scope} {R : Result → Shared → Prop} {a t0 : Addr}
theorem xi_run2 {x y : Str} {u1 u2 : Value} {p0 p1 p2 p3 p4 p5 p6 q0 q1 q2 q3 r0 r1 r2 r3 : Pos} (X : XIn K P C fI qual params (ix2 x y p0 p1 p2 p3 p4 p5 p6 q0 q1 q2 q3 r0 r1 r2 r3) scope ["self", x, y]) (HE : HeadEq qual scope [.Name x p3, .Name y p4] p0 p1 p2 p5)
    (KX : K.In s.heap) (hKa : K.lookup a = none) (hg : s.heap.Ns mainGlobals mg) (hb : s.heap.Ns builtinsNs mb) (hsg : mg "super" = none) (hsb : mb "super" = some (.type "super")) (lim : s.heap.NoLimit) (hr : A.depth < recursionLimit) (ha : s.heap.get? a = some (exR C t0 none))
    (h : ∀ h' tk t1 dx, (∀ b o, b ≠ a → s.heap.get? b = some o → h'.get? b = some o) → s.heap.objs.size ≤ dx → dx ≠ a → h'.get? a = some (exR C t1 (some dx)) → h'.Ns1 dx (fun z => if z = y then some u2 else if z = x then some u1 else none) → R (.ok (.ret .none)) { s with heap := h', toks := tk }) :
    codeAny (model P w) A (.call (.ref fI) ⟨[.ref a, u1, u2], []⟩) R s := by
  obtain ⟨dV, kV, doc, pm, ct, oc, an, od, osl, cc, cda, ccl, cl, cdd, cld, ccs, csl, vs, file, tf, lk, hcd, hcda, hvs, hfile, hcc, hbind⟩ := X.fn
  have nd := X.nd
  simp only [List.nodup_cons, List.mem_cons, List.not_mem_nil, or_false, not_or, not_false_eq_true, List.nodup_nil, and_true] at nd
  obtain ⟨⟨n1, n2⟩, n3⟩ := nd
  have l0 := X.hloc "self" (by simp)
  have l1 := X.hloc x (by simp)
  have l2 := X.hloc y (by simp)
  have f1 := X.fld x (by simp)
  have f2 := X.fld y (by simp)
  refine ks_codeAny_call_defAt (fd := ksFn "__init__" qual params (ix2 x y p0 p1 p2 p3 p4 p5 p6 q0 q1 q2 q3 r0 r1 r2 r3) scope dV kV doc pm an (.ref cda) ct cc) (body := ix2 x y p0 p1 p2 p3 p4 p5 p6 q0 q1 q2 q3 r0 r1 r2 r3) (binds := [("self", .ref a), (x, u1), (y, u2)]) hr (KX _ _ lk) rfl lim (codeRec_of KX hcd) rfl (BindsTo.of_eq (hbind [.ref a, u1, u2] rfl)) X.hcell (fun z hz => ?_) (fun h0 hns keep => ?_) X.hco X.hge X.hk
  · simp only [List.mem_cons, List.not_mem_nil, or_false] at hz
    rcases hz with rfl | rfl | rfl <;> assumption
  have m0 : ([("self", Value.ref a), (x, u1), (y, u2)] : List (Str × Value)).reverse.lookup ("self" : Str) = some (.ref a) := by
    simp [List.lookup, n1, n2, beq_eq_false_iff_ne.mpr n1, beq_eq_false_iff_ne.mpr n2]
  have m1 : ([("self", Value.ref a), (x, u1), (y, u2)] : List (Str × Value)).reverse.lookup x = some u1 := by
    simp [List.lookup, beq_eq_false_iff_ne.mpr n3]
  have m2 : ([("self", Value.ref a), (x, u1), (y, u2)] : List (Str × Value)).reverse.lookup y = some u2 := by
    simp [List.lookup]
  generalize hm : (fun x_1 => ([("self", Value.ref a), (x, u1), (y, u2)] : List (Str × Value)).reverse.lookup x_1) = m at hns
  rw [show ([("self", Value.ref a), (x, u1), (y, u2)] : List (Str × Value)).reverse.lookup ("self" : Str) = m ("self" : Str) from congrFun hm _] at m0
  rw [show ([("self", Value.ref a), (x, u1), (y, u2)] : List (Str × Value)).reverse.lookup x = m x from congrFun hm _] at m1
  rw [show ([("self", Value.ref a), (x, u1), (y, u2)] : List (Str × Value)).reverse.lookup y = m y from congrFun hm _] at m2
  have aL : s.heap.objs.size ≠ a := Nat.ne_of_gt (Heap.lt_size ha)
  have hsk : ∀ {h : Heap} {b : Addr} {m : Str → Option Value} {h' : Heap}, (∀ b o, b ≠ a → h.get? b = some o → h'.get? b = some o) → b ≠ a → h.Ns b m → h'.Ns b m := fun {h b m h'} k n z => by
    obtain ⟨o, es, ep, e, r⟩ := z
    exact ⟨o, es, ep, k _ _ n e, r⟩
  show _root_.PySem.wpAt (model P w) (A.deeper (ksEnv qual scope s.heap.objs.size fI (.ref cda) cc)) (.func _ (ksEnv qual scope s.heap.objs.size fI (.ref cda) cc)) (execs _ (ksEnv qual scope s.heap.objs.size fI (.ref cda) cc)) _ _ _
  refine ix_head (m := m) (us := [u1, u2]) X HE lk hcda hvs hfile hcc (KX.keeps keep) (hg.keeps keep) (hb.keeps keep) hsg hsb hns m0 (keep _ _ ha) (by simp) (fun s1 Q1 hL q => ?_) ⟨_, _, rfl, rfl, rfl⟩ (by rw [sizeLine_eq]; simp) fun h1 t1 tk1 kp1 ha1 => ?_
  · refine spliced_more (ld hL m1 X.hk l1 f1.2 (spliced_more (ld hL m2 X.hk l2 f2.2 (spliced_none q))))
  have kin : ∀ {h h' : Heap}, K.In h → (∀ b o, b ≠ a → h.get? b = some o → h'.get? b = some o) → K.In h' := fun {h h'} KI k b o e => k b o (fun z => by
    rw [z, hKa] at e
    cases e) (KI b o e)
  have K1 := kin (KX.keeps keep) kp1
  have L1 : h1.Ns s.heap.objs.size m := hsk kp1 aL hns
  refine ix_put0 X.T K1 L1 X.hk l0 l1 f1.2 m0 m1 ha1 f1.1 fun h2 tk2 dx kp2 ge2 ne2 ha2 hd2 => ?_
  have dL : s.heap.objs.size < dx := Nat.lt_of_lt_of_le L1.lt ge2
  have kpa : ∀ b o, b ≠ dx → h2.get? b = some o → h2.get? b = some o := fun _ _ _ e => e
  refine ix_put1 (ns := [x]) X.T (kin K1 kp2) (hsk kp2 aL L1) X.hk l0 l2 f2.2 m0 m2 ha2 hd2 (Within.cons x u1 Within.nil) (by simp) f2.1 fun h3 tk3 kp3 hd3 => ?_
  refine wpAny_execs_nil (h h3 tk3 t1 dx (fun b o n e => ?_) (Nat.le_of_lt dL) ne2 (kp3 _ _ (Ne.symm ne2) ha2) hd3)
  refine kp3 _ _ (fun z => ?_) (kp2 _ _ n (kp1 _ _ n (keep _ _ e)))
  have := Heap.lt_size e
  rw [z] at this
  exact absurd this (Nat.not_lt.mpr (Nat.le_of_lt dL))
/-- .. with one field -/
theorem xi_run1 {x : Str} {u1 : Value} {p0 p1 p2 p3 p5 p6 q0 q1 q2 q3 : Pos} (X : XIn K P C fI qual params (ix1 x p0 p1 p2 p3 p5 p6 q0 q1 q2 q3) scope ["self", x]) (HE : HeadEq qual scope [.Name x p3] p0 p1 p2 p5)
    (KX : K.In s.heap) (hKa : K.lookup a = none) (hg : s.heap.Ns mainGlobals mg) (hb : s.heap.Ns builtinsNs mb) (hsg : mg "super" = none) (hsb : mb "super" = some (.type "super")) (lim : s.heap.NoLimit) (hr : A.depth < recursionLimit) (ha : s.heap.get? a = some (exR C t0 none))
    (h : ∀ h' tk t1 dx, (∀ b o, b ≠ a → s.heap.get? b = some o → h'.get? b = some o) → s.heap.objs.size ≤ dx → dx ≠ a → h'.get? a = some (exR C t1 (some dx)) → h'.Ns1 dx (fun z => if z = x then some u1 else none) → R (.ok (.ret .none)) { s with heap := h', toks := tk }) :
    codeAny (model P w) A (.call (.ref fI) ⟨[.ref a, u1], []⟩) R s := by
  obtain ⟨dV, kV, doc, pm, ct, oc, an, od, osl, cc, cda, ccl, cl, cdd, cld, ccs, csl, vs, file, tf, lk, hcd, hcda, hvs, hfile, hcc, hbind⟩ := X.fn
  have nd := X.nd
  simp only [List.nodup_cons, List.mem_cons, List.not_mem_nil, or_false, not_false_eq_true, List.nodup_nil, and_true] at nd
  have n1 := nd
  have l0 := X.hloc "self" (by simp)
  have l1 := X.hloc x (by simp)
  have f1 := X.fld x (by simp)
  refine ks_codeAny_call_defAt (fd := ksFn "__init__" qual params (ix1 x p0 p1 p2 p3 p5 p6 q0 q1 q2 q3) scope dV kV doc pm an (.ref cda) ct cc) (body := ix1 x p0 p1 p2 p3 p5 p6 q0 q1 q2 q3) (binds := [("self", .ref a), (x, u1)]) hr (KX _ _ lk) rfl lim (codeRec_of KX hcd) rfl (BindsTo.of_eq (hbind [.ref a, u1] rfl)) X.hcell (fun z hz => ?_) (fun h0 hns keep => ?_) X.hco X.hge X.hk
  · simp only [List.mem_cons, List.not_mem_nil, or_false] at hz
    rcases hz with rfl | rfl <;> assumption
  have m0 : ([("self", Value.ref a), (x, u1)] : List (Str × Value)).reverse.lookup ("self" : Str) = some (.ref a) := by
    simp [List.lookup, n1, beq_eq_false_iff_ne.mpr n1]
  have m1 : ([("self", Value.ref a), (x, u1)] : List (Str × Value)).reverse.lookup x = some u1 := by
    simp [List.lookup]
  generalize hm : (fun x_1 => ([("self", Value.ref a), (x, u1)] : List (Str × Value)).reverse.lookup x_1) = m at hns
  rw [show ([("self", Value.ref a), (x, u1)] : List (Str × Value)).reverse.lookup ("self" : Str) = m ("self" : Str) from congrFun hm _] at m0
  rw [show ([("self", Value.ref a), (x, u1)] : List (Str × Value)).reverse.lookup x = m x from congrFun hm _] at m1
  have aL : s.heap.objs.size ≠ a := Nat.ne_of_gt (Heap.lt_size ha)
  have hsk : ∀ {h : Heap} {b : Addr} {m : Str → Option Value} {h' : Heap}, (∀ b o, b ≠ a → h.get? b = some o → h'.get? b = some o) → b ≠ a → h.Ns b m → h'.Ns b m := fun {h b m h'} k n z => by
    obtain ⟨o, es, ep, e, r⟩ := z
    exact ⟨o, es, ep, k _ _ n e, r⟩
  show _root_.PySem.wpAt (model P w) (A.deeper (ksEnv qual scope s.heap.objs.size fI (.ref cda) cc)) (.func _ (ksEnv qual scope s.heap.objs.size fI (.ref cda) cc)) (execs _ (ksEnv qual scope s.heap.objs.size fI (.ref cda) cc)) _ _ _
  refine ix_head (m := m) (us := [u1]) X HE lk hcda hvs hfile hcc (KX.keeps keep) (hg.keeps keep) (hb.keeps keep) hsg hsb hns m0 (keep _ _ ha) (by simp) (fun s1 Q1 hL q => ?_) ⟨_, _, rfl, rfl, rfl⟩ (by rw [sizeLine_eq]; simp) fun h1 t1 tk1 kp1 ha1 => ?_
  · refine spliced_more (ld hL m1 X.hk l1 f1.2 (spliced_none q))
  have kin : ∀ {h h' : Heap}, K.In h → (∀ b o, b ≠ a → h.get? b = some o → h'.get? b = some o) → K.In h' := fun {h h'} KI k b o e => k b o (fun z => by
    rw [z, hKa] at e
    cases e) (KI b o e)
  have K1 := kin (KX.keeps keep) kp1
  have L1 : h1.Ns s.heap.objs.size m := hsk kp1 aL hns
  refine ix_put0 X.T K1 L1 X.hk l0 l1 f1.2 m0 m1 ha1 f1.1 fun h2 tk2 dx kp2 ge2 ne2 ha2 hd2 => ?_
  have dL : s.heap.objs.size < dx := Nat.lt_of_lt_of_le L1.lt ge2
  exact wpAny_execs_nil (h h2 tk2 t1 dx (fun b o n e => kp2 _ _ n (kp1 _ _ n (keep _ _ e))) (Nat.le_of_lt dL) ne2 ha2 hd2)
end
/-! ### C(e, ..) makes an exception -/
section
open L2 (V RelV RelO)
theorem kv_look : ∀ {l : List (Str × V)} {r : List (Str × Value)}, L2.KV l r → ∀ f, RelO (l.lookup f) (r.lookup f)
  | _, _, .nil, f => True.intro
  | (x, v) :: l, (y, u) :: r, .cons h t, f => by
    obtain ⟨e, rv⟩ := h
    dsimp only at e rv
    subst e
    have ih := kv_look t f
    rw [L2.lookup_put]
    have : List.lookup f ((x, u) :: r) = if f = x then some u else r.lookup f := by
      by_cases hx : f = x
      · subst hx
        simp [List.lookup]
      · rw [if_neg hx]
        simp [List.lookup, beq_eq_false_iff_ne.mpr hx]
    rw [this]
    by_cases hx : f = x
    · rw [if_pos hx, if_pos hx]
      exact rv
    · rw [if_neg hx, if_neg hx]
      exact ih
theorem kv_app : ∀ {l l' : List (Str × V)} {r r' : List (Str × Value)}, L2.KV l r → L2.KV l' r' → L2.KV (l ++ l') (r ++ r')
  | _, _, _, _, .nil, q => q
  | _, _, _, _, .cons h t, q => .cons h (kv_app t q)
theorem kv_rev : ∀ {l : List (Str × V)} {r : List (Str × Value)}, L2.KV l r → L2.KV l.reverse r.reverse
  | _, _, .nil => .nil
  | _, _, .cons h t => by
    rw [List.reverse_cons, List.reverse_cons]
    exact kv_app (kv_rev t) (.cons h .nil)
theorem kv_zip : ∀ {ns : List Str} {vs : List V} {us : List Value}, L2.Vals vs us → L2.KV (ns.zip vs) (ns.zip us)
  | [], _, _, _ => by
    rw [List.zip_nil_left, List.zip_nil_left]
    exact .nil
  | _ :: _, _, _, .nil => .nil
  | _ :: _, _, _, .cons h t => .cons ⟨rfl, h⟩ (kv_zip t)
theorem relO_zip {ns : List Str} {vs : List V} {us : List Value} (r : L2.Vals vs us) (f : Str) : RelO ((ns.zip vs).reverse.lookup f) ((ns.zip us).reverse.lookup f) := kv_look (kv_rev (kv_zip r)) f
end
section
variable {X : L2.Cx} {C fI : Addr} {qual : Str} {params : Arguments} {scope : Scope} {body : List Stmt} {xs : List Str}
open L2 (V Hp upd Inv)
theorem pmkX {nm : Str} {p pos : Pos} {es : List Expr} {ta : L2.TA} {ns : List Str} (T : L2.OexC X.K C) (hin : findIn X.K (.ref C) "__init__" = some (some (.ref fI))) (tI : typeIn X.K (.ref fI) = some (.type "function"))
    (run : ∀ {A : Around} {s : Shared} {a t0 : Addr} {R : Result → Shared → Prop} {mb : Str → Option Value} (us : List Value), us.length = ns.length → X.K.In s.heap → X.K.lookup a = none → s.heap.Ns mainGlobals X.mg → s.heap.Ns builtinsNs mb → mb "super" = some (.type "super") → s.heap.NoLimit → A.depth < recursionLimit → s.heap.get? a = some (exR C t0 none) →
      (∀ h' tk t1 dx (mA : Str → Option Value), (∀ b o, b ≠ a → s.heap.get? b = some o → h'.get? b = some o) → s.heap.objs.size ≤ dx → dx ≠ a → h'.get? a = some (exR C t1 (some dx)) → h'.Ns1 dx mA → (∀ f, mA f = (ns.zip us).reverse.lookup f) → R (.ok (.ret .none)) { s with heap := h', toks := tk }) →
      codeAny (model X.prog X.w) A (.call (.ref fI) ⟨.ref a :: us, []⟩) R s)
    (hr : L2.Room 1 X.A) (hg : L2.Gl X nm) (hm : X.mg nm = some (.ref C)) (ha : L2.PA X es ta) (hz : ns.length ≤ 100) (hdb : (nm == ("__debug__" : Str)) = false) (he : ∃ e r, es = e :: r ∧ starEach es X.env = (false, eval e X.env) :: starEach r X.env ∧ (backTo pos (starEach r X.env)).any (·.1) = false) :
    L2N.PMk X (.Call (.Name nm p) es [] pos) (fun σ H Q => ta σ H fun vs H1 => vs.length = ns.length ∧ ∀ d, H1 d = none → Q (.ref C) (some d) (upd H1 d (.xd ((ns.zip vs).reverse)))) := by
  intro pins s σ H Q I h
  obtain ⟨cnm, q, N, bs, bm, sn, sub, ab, col, dd, k0, k1, k2, k3, k5, hC, hbm⟩ := T.cls
  refine wpAny_Call_Name_kw (L2.ld_glob I hg hm ?_ hdb)
  obtain ⟨e, r, rfl, he1, he2⟩ := he
  refine PySem.W.callWith_K (h₀ := X.base) I.ok.mod.kin T.kC (L2.thn (ha.run pos pins s σ H _ I h) fun us s1 ⟨vs, H1, I1, r1, hvl, q1⟩ => ⟨I1.kIn, ?_⟩) he1 he2
  show wpAny _ _ (call (.ref C) us) _ _ _
  obtain ⟨hp, g, dr, tk, os⟩ := s1
  have hus : us.length = ns.length := by rw [← hvl, r1.length]
  have kk : ∀ b o, hp.get? b = some o → ((hp.push (PySem.W.kdv_tup us)).push (PySem.HandSPX.excO C hp.objs.size)).get? b = some o := fun b o e => Heap.get?_push_of_some _ (Heap.get?_push_of_some _ e)
  have hget : ((hp.push (PySem.W.kdv_tup us)).push (PySem.HandSPX.excO C hp.objs.size)).get? (hp.objs.size + 1) = some (PySem.HandSPX.excO C hp.objs.size) := by heap_get
  have hKa : X.K.lookup (hp.objs.size + 1) = none := by
    cases z : X.K.lookup (hp.objs.size + 1) with
    | none => rfl
    | some o => exact absurd (Heap.lt_size (I1.kIn _ _ z)) (by show ¬ (hp.objs.size + 1 < hp.objs.size); omega)
  obtain ⟨mb, hb, hbb⟩ := I1.mod.blt
  have bk : ∀ b o, X.base.get? b = some o → hp.get? b = some o := I1.bk
  have hul : us.length ≤ sizeLine := by rw [hus, sizeLine_eq]; omega
  refine wpAny_call (PySem.HandSPX.call_own PySem.F.excBase_ValueError (fun Y => PySem.HandSPX.refsVE_contains Y bm hbm) (I1.kIn _ _ hC) (PySem.W.looks_findIn I1.kIn hin) (fun self => PySem.W.bind_fn I1.kIn self tI) hul
    (run us hus (I1.kIn.keeps kk) hKa (I1.mod.glob.keeps fun b o e => kk b o (bk b o e)) (hb.keeps fun b o e => kk b o (bk b o e)) ?_ (I1.nolimit.keeps kk) (hr.make C us []).depth hget fun h' tk' t1 dx mA kp ge ne ha' hd hmA => ?_))
  · rw [hbb _ (by decide)]
    decide +kernel
  have hn : H1 (hp.objs.size + 1) = none := I1.hok.fresh (Nat.le_succ _)
  have gd : hp.objs.size ≤ dx := Nat.le_trans (Nat.le_of_lt (by
    have := Heap.lt_size hget
    exact Nat.lt_of_succ_lt this)) ge
  have hnd : H1 dx = none := I1.hok.fresh gd
  obtain ⟨G, g1', g2'⟩ := L2.restrict h' fun b => decide (b ≠ hp.objs.size + 1)
  have gk : ∀ b, b ≠ hp.objs.size + 1 → G.get? b = h'.get? b := fun b hb => g1' b (decide_eq_true hb)
  have ge0 : G.get? (hp.objs.size + 1) = none := g2' _ (by simp)
  have nha : ∀ {b : Addr} {o : Obj}, hp.get? b = some o → b ≠ hp.objs.size + 1 := fun {b o} z => Nat.ne_of_lt (Nat.lt_succ_of_lt (Heap.lt_size z))
  have kG : ∀ b o, hp.get? b = some o → G.get? b = some o := fun b o z => by
    rw [gk b (nha z)]
    exact kp b o (nha z) (kk b o z)
  have rel : ∀ f, L2.RelO ((ns.zip vs).reverse.lookup f) (mA f) := fun f => by
    rw [hmA f]
    clear hd hmA
    exact relO_zip r1 f
  have J : Inv X pins σ (upd H1 dx (.xd ((ns.zip vs).reverse))) ⟨G, g, dr, tk', os⟩ := I1.laid (t' := tk') (a := dx) (o := .xd ((ns.zip vs).reverse)) (h' := G) kG gd ⟨mA, hd.at fun o y => (gk dx ne).trans y, rel⟩
  refine ⟨rfl, hp.objs.size + 1, exR C t1 (some dx), _, ⟨G, g, dr, tk', os⟩, _, .ref C, some dx, rfl, J, fun b o z => ?_, ge0, ha', ⟨rfl, rfl, fun vs e => by cases e; rfl⟩, rfl, rfl, ?_, rfl, I1.bare, L2.raises_own T.exC T.tyC, q1 dx hnd⟩
  · by_cases hba : b = hp.objs.size + 1
    · rw [hba, ge0] at z
      cases z
    · exact (gk b hba).symm.trans z
  · rw [L2.upd_ne (Ne.symm ne)]
    exact hn
end
/-! ### raise C(e, ..) -/
section
open L2 (V Hp upd Inv PS PSs TS)
theorem look_mem {n : Str} {v : V} : ∀ {l : List (Str × V)}, (l.map (·.1)).Nodup → (n, v) ∈ l → l.lookup n = some v
  | [], _, h => by cases h
  | (y, u) :: l, hd, h => by
    rw [L2.lookup_put]
    simp only [List.map_cons, List.nodup_cons] at hd
    rcases List.mem_cons.mp h with e | e
    · cases e
      rw [if_pos rfl]
    · by_cases q : n = y
      · exact absurd (List.mem_map.mpr ⟨(n, v), e, q⟩) hd.1
      · rw [if_neg q]
        exact look_mem hd.2 e
theorem zip_keys {vs : List V} : ∀ {ns : List Str} {vs : List V}, vs.length = ns.length → (ns.zip vs).map (·.1) = ns
  | [], [], _ => rfl
  | n :: ns, v :: vs, h => by
    rw [List.zip_cons_cons, List.map_cons, zip_keys (vs := vs) (by simpa using h)]
  | [], _ :: _, h => by cases h
  | _ :: _, [], h => by cases h
variable {X : L2.Cx} {F : Fm} {W : Wish} {CT : CTab} {c : Call}
theorem s_rs (tk : Tk CT X F W) (hc : X.calm = true) {k : Nat} {es : MEs} {e : Expr} {pos : Pos} {C : Addr} {ns : List Str} (hT : CT k = some (C, ns)) (hl : es.len = ns.length) (hpl : es.plain = true) (nd : ns.Nodup)
    (pm : L2N.PMk X e (fun σ H Q => tVs X.K F W (evs c es) σ H fun vs H1 => vs.length = ns.length ∧ ∀ d, H1 d = none → Q (.ref C) (some d) (upd H1 d (.xd ((ns.zip vs).reverse))))) :
    PS X (.Raise (some e) none pos) (tS X.K F W (ex c (.rs k es))) := by
  refine PS.imp (L2N.ps_raise hc tk.2.1 pm) fun D σ H ⟨Z, ms, g, R, S⟩ => ?_
  have S : Fin X.K F W D Z ms H ((evs c es g).bind fun vs g1 => .exc ⟨k, vs⟩ g1) := S
  rcases S.split with ⟨x, g1, e1, h1⟩ | ⟨as, g1, e1, S1⟩
  · exact ⟨Z, ms, g, R, Sat.exc e1 (h1 σ)⟩
  refine ⟨Z, ms, g, R, Sat.mk e1 fun Z1 ms1 H1 l1 R1 vs d1 => ?_⟩
  have hv : vs.length = ns.length := by rw [d1.length, evs_length es _ _ _ hpl e1, hl]
  refine ⟨hv, fun d hd => ⟨⟨k, as⟩, Z1, ms1, g1, ?_, R1.laid hd, S1 σ Z1 ms1 _ (l1.trans (Le.upd hd)) (R1.laid hd)⟩⟩
  refine ⟨C, ns, d, _, vs, hT, rfl, rfl, L2.upd_same, R1.freeM hd, R1.freeZ hd, hv, Dens.mono (Le.upd hd) _ _ d1, fun n v hm => ?_⟩
  refine look_mem ?_ (List.mem_reverse.mpr hm)
  rw [List.map_reverse, zip_keys (vs := vs) hv]
  exact List.pairwise_reverse.mpr (nd.imp fun h => Ne.symm h)
end
end Ev
/-! # Ev: said(lambda: e), where errors are told by a def that is called while they are handled. -/
namespace Ev
open PySem PySem.Spec PyProof.Rows
open L2 (V Hp HO upd Cx Inv PE PT PA PS PSs VK TE TS Ends RelV Vals EP SP Room Env0 CE)
/-- what a def promises that is called while an error is handled, with this error -/
structure HotOk (CT : CTab) (P : Program) (w : World) (K : PySem.W.Frag) (mg : Str → Option Value) (base : Heap) (nm : Str) (cf : List PV → List PV → List Cell → Option (Out × List Cell)) : Prop where
  ex : ∃ f : Addr, mg nm = some (.ref f) ∧ PySem.W.keepIn K (.ref f) = true ∧ ∀ (A : Around) (outer : List Env) (s : Shared) (H : Hp) (p : Addr × Obj) (x : EX) (cls : Value) (d : Option Addr) (Z : Addr → Prop) (ms : List Addr) (hp : List Cell) (o : Out) (hp' : List Cell),
    L2H.RoomH 1 A → A.guards = some [] → L2H.PinOk outer H s p → L2N.Zn cls d p.2 → (∃ vs, p.2.data = .fields vs) → ExcDen CT K Z ms H x cls d → Env0 P w K mg base A outer s H → HpOk K w Z ms hp H → cf x.args [.int x.cls] hp = some (o, hp') →
    ∃ r, o = .ret r ∧ codeAny (model P w) A (.call (.ref f) ⟨[.ref p.1], []⟩) (fun res s' => ∃ u, res = .ok (.ret u) ∧ CE outer P w H s (fun v H' => ∃ Z' ms', Pay K w Z ms H Z' ms' hp' H' r v) u s') s
theorem PSs.given {X : Cx} {P : Prop} {st : List Stmt} {t : TS} (h : P → PSs X st t) : PSs X st (fun D σ H => P ∧ t D σ H) := ⟨fun pins s σ H D I q => (h q.1).run pins s σ H D I q.2⟩
/-- the suite: return R(e) -/
theorem hot_ret {CT : CTab} {X : Cx} {cf : List PV → List PV → List Cell → Option (Out × List Cell)} {rn en : Str} {a : Addr} {oe : Obj} {cls : Value} {d : Option Addr} {i : Nat} {q1 q2 q3 q4 : Pos} (HO1 : HotOk CT X.prog X.w X.K X.mg X.base rn cf) (hr : L2H.RoomH 1 X.A) (hgd : X.A.guards = some []) (hp : (a, oe) ∈ X.pn) (hz : L2N.Zn cls d oe) (hf : ∃ vs, oe.data = .fields vs)
    (hi : X.N[i]? = some en) (hv : L2.Vis X.env.scope en) (hd1 : (en == ("__debug__" : Str)) = false) (hd2 : (en == ("__classdict__" : Str)) = false) (hg : L2.Gl X rn) (hd3 : (rn == ("__debug__" : Str)) = false) :
    PS X (.Return (some (.Call (.Name rn q1) [.Name en q2] [] q3)) q4) (fun D σ H => σ[i]? = some (some (.ref a)) ∧ ∃ (x : EX) (Z : Addr → Prop) (ms : List Addr) (hp0 : List Cell) (o : Out) (hp' : List Cell), ExcDen CT X.K Z ms H x cls d ∧ HpOk X.K X.w Z ms hp0 H ∧ cf x.args [.int x.cls] hp0 = some (o, hp') ∧
      ∀ r, o = .ret r → ∀ v H', (∃ Z' ms', Pay X.K X.w Z ms H Z' ms' hp' H' r v) → D.rt v H') := by
  refine PS.imp (t := L2.tRet _) (L2.ps_ret (te := fun σ H Q => σ[i]? = some (some (.ref a)) ∧ ∃ (x : EX) (Z : Addr → Prop) (ms : List Addr) (hp0 : List Cell) (o : Out) (hp' : List Cell), ExcDen CT X.K Z ms H x cls d ∧ HpOk X.K X.w Z ms hp0 H ∧ cf x.args [.int x.cls] hp0 = some (o, hp') ∧
      ∀ r, o = .ret r → ∀ v H', (∃ Z' ms', Pay X.K X.w Z ms H Z' ms' hp' H' r v) → Q v H') ?_) fun D σ H h => h
  refine ⟨fun pins s σ H Q I h => ?_⟩
  obtain ⟨f, hm, hk, C⟩ := HO1.ex
  obtain ⟨hσ, x, Z, ms, hp0, o, hp', xd, ok, hc, hq⟩ := h
  refine wpAny_Call_Name_kw (L2.ld_glob I hg hm ?_ hd3)
  have ha : PA X [.Name en q2] (L2.tCons (L2.tVar i) L2.tNil) := L2.pa_cons (L2.pe_var hi hv hd1 hd2) L2.pa_nil
  refine PySem.W.callWith_K (h₀ := X.base) I.ok.mod.kin hk (L2.thn (ha.run q3 pins s σ H (fun vs H1 => vs = [.ref a] ∧ H1 = H) I ⟨.ref a, hσ, rfl, rfl⟩) fun us s1 ⟨vs, H1, I1, r1, ev, eH⟩ => ⟨I1.kIn, ?_⟩) rfl rfl
  subst ev
  subst eH
  cases r1 with
  | cons ru rn =>
    cases rn
    rename_i u _
    obtain rfl : u = Value.ref a := ru
    have P1 := I1.pin (a, oe) (List.mem_append_left _ hp)
    have hpin : L2H.PinOk X.stack H1 s1 (a, oe) := ⟨P1.1, P1.2.1, fun hm => (List.mem_cons.mp (I1.stkSub a hm)).elim P1.2.2.1 P1.2.2.2.1, P1.2.2.2.2⟩
    obtain ⟨r, rfl, run⟩ := C X.A X.stack s1 H1 (a, oe) x cls d Z ms hp0 o hp' hr hgd hpin hz hf xd I1.env0 ok hc
    refine wpAny_call (codeAny_mono run fun res s' h => ?_)
    obtain ⟨u, rfl, h⟩ := h
    obtain ⟨v, H', I', rv, q⟩ := I1.after h
    exact ⟨v, H', I', rv, hq r rfl v H' q⟩
/-- try: return ("told", a()) / except E as e: return R(e) -/
def sdBody (a e En Rn : Str) (k : Nat) (j : Nat) (pc p1 p2 pt p3 np q1 q2 q3 q4 hp tp : Pos) : List Stmt :=
  [.Try [.Return (some (.Tuple [.Constant (.str "told") j pc, .Call (.Name a p1) [] [] p2] k pt)) p3] [.ExceptHandler (some (.Name En np)) (some e) [.Return (some (.Call (.Name Rn q1) [.Name e q2] [] q3)) q4] hp] [] [] tp]
/-- the def that says, as the written part has it -/
structure SdOk (CT : CTab) (K : PySem.W.Frag) (mg : Str → Option Value) (sn Rn : Str) : Prop where
  ex : ∃ (f : Addr) (a e En : Str) (k : Nat) (j : Nat) (pc p1 p2 pt p3 np q1 q2 q3 q4 hp tp : Pos) (name qual : Str) (params : Arguments) (scope : Scope) (dV kV doc pm cdv ct oc cval : Value) (an od : Option Addr) (osl : Array (Option Value)),
    mg sn = some (.ref f) ∧ PySem.W.keepIn K (.ref f) = true ∧ K.lookup f = some ⟨oc, od, .func (PySem.W.fnOf name qual params (sdBody a e En Rn k j pc p1 p2 pt p3 np q1 q2 q3 q4 hp tp) scope dV kV doc pm an cdv ct), osl⟩ ∧ PySem.W.codeIn K cdv qual = true ∧
    L2.FnScope [a, e] [a] scope ∧ (∀ u : Value, bindArgs (PySem.W.fnOf name qual params (sdBody a e En Rn k j pc p1 p2 pt p3 np q1 q2 q3 q4 hp tp) scope dV kV doc pm an cdv ct) ⟨[u], []⟩ = pure ([a].zip [u])) ∧
    scope.names.lookup a = some .local ∧ scope.names.lookup e = some .local ∧ scope.names.lookup En = some .globalImplicit ∧ scope.names.lookup Rn = some .globalImplicit ∧ mg En = some cval ∧
    [a, e, En, Rn].all (fun x => !(x == ("__debug__" : Str)) && !(x == ("__classdict__" : Str))) = true ∧ ∀ i C ns, CT i = some (C, ns) → PySem.W.exmOne K (.ref C) cval = some true
section
variable {CT : CTab} {X : Cx} {F : Fm} {c : Call} {r : Nat} {m : ME}
/-- the wish of the lambda's body: just this exception, in just this state -/
def ltW (f : R Res) (σ0 : L2.St) (Z0 : Addr → Prop) (ms0 : List Addr) (H0 : Hp) : Wish := fun x Z ms g σ H => f = .exc x g ∧ σ = σ0 ∧ Le Z0 ms0 H0 Z ms H
theorem said_call {pins : List (Addr × Obj)} {σ : L2.St} {H1 : Hp} {s1 : Shared} {Q : VK} {W : Wish} {sn Rn q : Str} {prs : Arguments} {bd : Expr} {scp : Scope} {pm0 ct0 : Value} {fl d : Addr} {k : Nat} {Z : Addr → Prop} {ms : List Addr} {g : G}
    (SD : SdOk CT X.K X.mg sn Rn) (HT : HotOk CT X.prog X.w X.K X.mg X.base Rn (c r)) (hr : Room (k + 2) X.A) (hgd : X.A.guards = some []) (hF : F.w = X.w) (J : Inv X pins σ H1 s1) (L : LamX.LamS X.env.scope scp) (hq : q = X.env.qual ++ "<lambda>")
    (hf : s1.heap.get? fl = some (PySem.W.kla_obj "<lambda>" q prs bd scp (L2.cloFrom X.env.cells scp.names []) pm0 d ct0)) (hfn : H1 fl = none) (hfr : fl ∉ L2.frs X.stack) (hd : H1 d = some (LamX.CodeO d q))
    (hbd : bindArgs (PySem.W.kla_fn "<lambda>" q prs bd scp (L2.cloFrom X.env.cells scp.names []) pm0 (.ref d) ct0) ⟨[], []⟩ = pure [])
    (body : ∀ (W0 : Wish) (E : L2.XK), (∀ cls dd σ1 H1, wxOf CT X.K F W0 cls dd σ1 H1 → E cls dd H1) → ∀ (A : Around) (outer : List Env) (s1 : Shared) (H1 : Hp), A.guards = some [] → L2.Room k (A.deeper (LamX.lamEnv X scp s1.heap.objs.size fl d)) → L2.PE (lamN X A outer s1 H1 E scp fl d) bd (tE X.K F W0 (ev c m)))
    (R : Rel X.K F Z ms g σ H1) (S : Sat X.K F W σ Z ms H1 (caught c r (ev c m g)) fun r Z' ms' g' H' => ∀ x, ResOk X.K F Z' ms' g' σ H' r x → Q x H') :
    ∃ f, X.mg sn = some (.ref f) ∧ PySem.W.keepIn X.K (.ref f) = true ∧ wpAny (model X.prog X.w) X.A (call (.ref f) [.ref fl]) (EP X pins σ Q) X.xe s1 := by
  obtain ⟨f, a, e, En, kk, j, pc, p1, p2, pt, p3, np, q1, q2, q3, q4, hp, tp, name, qual, params, scope, dV, kV, doc, pm, cdv, ct, oc, cval, an, od, osl, hm, hk, lk, hcd, FS, hb, la, le, lE, lR, hE, hall, hex⟩ := SD.ex
  refine ⟨f, hm, hk, ?_⟩
  simp only [List.all_cons, List.all_nil, Bool.and_true, Bool.and_eq_true, Bool.not_eq_true'] at hall
  obtain ⟨⟨a1, a2⟩, ⟨e1, e2⟩, ⟨E1, _⟩, R1, _⟩ := hall
  have e0 := J.env0
  have KX : X.K.In s1.heap := J.kIn
  have hkind : ∀ y ∈ [a].zip [Value.ref fl], scope.names.lookup y.1 = some .local ∨ (scope.names.lookup y.1 = some .cell ∧ ((cellsFrom (s1.heap.objs.size + 1) scope.names []).lookup y.1).isSome = true) := fun y hy => by
    have hy : y ∈ [(a, Value.ref fl)] := hy
    rw [List.mem_singleton] at hy
    subst hy
    exact .inl la
  suffices run : codeAny (model X.prog X.w) X.A (.call (.ref f) ⟨[.ref fl], []⟩) (fun res s' => ∃ u, res = .ok (.ret u) ∧ CE X.stack X.prog X.w H1 s1 Q u s') s1 by
    refine wpAny_call (codeAny_mono run fun res s' h => ?_)
    obtain ⟨u, rfl, h⟩ := h
    exact J.after h
  refine codeAny_call_function hr.depth (KX _ _ lk) rfl FS.co FS.gen rfl (PySem.W.codeRec_of KX hcd) (BindsTo.of_eq (hb (.ref fl)) _ _ _ _ ?_)
  refine wpAny_newFunctionEnv_cells FS.kind hkind fun env he s2 x => ?_
  subst he
  refine ⟨J.nolimit.keeps x.toInCall.keep, codeAny_func ?_⟩
  -- what the lambda lets out
  generalize hW0 : ltW (ev c m g) σ Z ms H1 = W0
  let E : L2.XK := fun cls dd H' => ∃ σ', wxOf CT X.K F W0 cls dd σ' H'
  generalize hX2 : L2.cxOf (L2N.CX X.prog X.w) X.prog X.w X.K X.mg X.base [a, e] qual scope f cdv X.A X.stack s1 H1 (fun _ _ _ => False) = X2
  have I2 : Inv X2 [] (L2.start [a, e] [.ref fl]) H1 s2 := by
    rw [← hX2]
    exact L2.inv_start FS hr.hd e0 rfl (.cons rfl .nil) x
  have tk2 : L2N.Takes X2 (fun _ _ _ _ => False) := by
    subst hX2
    exact L2N.takes_of (E := fun _ _ _ => False) rfl rfl rfl rfl
  have hrd : Room (k + 1) X2.A := by
    subst hX2
    exact Room.deeper hr _
  have hrd2 : L2H.RoomH 1 X2.A := L2H.roomH_of (hrd.mono (by omega))
  let D : Ends := { nx := fun _ _ => False, rt := Q }
  let tb : L2.WX → TS := fun W1 D σ2 H2 => (∀ cls dd σ1 H1, σ1.length = 2 → E cls dd H1 → W1 cls dd σ1 H1) ∧ L2.tRet (tTupF (L2.tCons (L2.tC (.str "told")) (L2.tCons (fun σ1 H1' Q => σ1[0]? = some (some (.ref fl)) ∧ H1' d = some (LamX.CodeO d q) ∧ tE X.K F W0 (ev c m) σ H1' Q) L2.tNil))) D σ2 H2
  let ts : Addr → Value → Option Addr → TS := fun a0 cls d0 D0 σ0 H0 => σ0[1]? = some (some (.ref a0)) ∧ ∃ (x : EX) (Z : Addr → Prop) (ms : List Addr) (hp0 : List Cell) (o : Out) (hp' : List Cell), ExcDen CT X.K Z ms H0 x cls d0 ∧ HpOk X.K X.w Z ms hp0 H0 ∧ c r x.args [.int x.cls] hp0 = some (o, hp') ∧
      ∀ r, o = .ret r → ∀ v H', (∃ Z' ms', Pay X.K X.w Z ms H0 Z' ms' hp' H' r v) → D0.rt v H'
  have htry : PS X2 (.Try [.Return (some (.Tuple [.Constant (.str "told") j pc, .Call (.Name a p1) [] [] p2] kk pt)) p3] [.ExceptHandler (some (.Name En np)) (some e) [.Return (some (.Call (.Name Rn q1) [.Name e q2] [] q3)) q4] hp] [] [] tp) (fun D σ H => tb (L2.wAs X2.K cval 1 ts (fun _ _ _ _ => False) D) D σ H) := by
    refine L2N.ps_try_as (by subst hX2; rfl) (by subst hX2; rfl) (by subst hX2; exact FS.nd) (by subst hX2; rfl) (by subst hX2; exact le) (by subst hX2; exact ⟨lE, E1, .inl hE⟩) tk2 (fun W1 pn xe tk1 pown => ?_) (fun a0 oe cls d0 pn hz hfd => ?_)
    · refine PSs.given fun hW => L2.pss_one (L2.ps_ret (pe_tupF (L2.pa_cons L2.pe_str (L2.pa_cons ?_ L2.pa_nil))))
      subst hX2
      exact act_lam (k := k) (E := E) J L hq hf hfn hfr hbd tk1 hW hrd (fun outer s' H' hA => body W0 E (fun cls dd σ1 H1 z => ⟨σ1, z⟩) _ outer s' H' hgd hA) rfl (.inl la) a1 a2
    · subst hX2
      exact L2.pss_one (hot_ret (i := 1) HT ⟨hrd2.dp, hrd2.un⟩ hgd (List.mem_cons_self ..) hz hfd rfl (.inl le) e1 e2 lR R1)
  have fin := (L2.pss_one htry).run [] s2 (L2.start [a, e] [.ref fl]) H1 D I2 (by
    refine ⟨fun cls dd σ1 H' hl h => ?_, rfl, hd, Z, ms, g, R, ?_⟩
    · obtain ⟨σ', y, Z', ms', g', xd, R', w⟩ := h
      have xd0 := xd
      rw [← hW0] at w
      obtain ⟨hev, rfl, l⟩ := w
      obtain ⟨C, ns, dx, fs, vs, hT, rfl, _⟩ := xd0
      refine ⟨true, ?_, fun _ a0 na => ⟨?_, ?_⟩, fun z => by cases z⟩
      · subst hX2
        exact hex _ _ _ hT
      · rw [List.getElem?_set_self (by rw [hl]; decide)]
      · rw [hev] at S
        replace S : Sat X.K F W σ' Z ms H1 (callC c r y.args [.int y.cls] g') _ := S
        unfold callC at S
        have hok := R'.hpOk
        rw [hF] at hok
        cases hc : c r y.args [.int y.cls] g'.hp with
        | none =>
          rw [hc] at S
          exact S.elim
        | some p =>
          obtain ⟨o, hp'⟩ := p
          rw [hc] at S
          refine ⟨y, Z', ms', g'.hp, o, hp', xd, hok, hc, fun rr e v H'' q => ?_⟩
          subst e
          obtain ⟨Z2, ms2, py⟩ := q
          rw [← hF] at py
          obtain ⟨R2, ok2⟩ := R'.paid py
          exact S Z2 ms2 H'' (l.trans py.le) R2 v ok2
    · cases hev : ev c m g with
      | bad =>
        rw [hev] at S
        exact S.elim
      | exc y g' =>
        exact fun Z' ms' H' l R' => by
          rw [← hW0]
          exact ⟨hev, rfl, l⟩
      | ok v g1 =>
        intro Z' ms' H' l R' x ok
        refine ⟨by rw [sizeLine_eq]; simp, fun p us hp rv => ?_⟩
        obtain ⟨Z2, l2, R2, dv⟩ := R'.force ok
        have T := R2.newT (us := us) hp (Dens.cons (y := PV.str "told") (v := V.str "told") (by simp only [Den]) (.cons dv .nil))
        rw [hev] at S
        exact S Z2 ms' _ (l.trans (l2.trans (Le.upd hp))) (R2.laid hp) (.ref p) T)
  subst hX2
  refine wpAny_mono fin (fun fl s' hs => ?_) fun e s' hs => wpAny_mono hs (fun _ _ z => ?_) fun _ _ z => ?_
  · cases fl with
    | ret u =>
      obtain ⟨v, σ', H', I', rv, q⟩ := hs
      exact ⟨u, rfl, v, H', I'.os, I'.bare, I'.base, I'.hok, rv, q⟩
    | next =>
      obtain ⟨σ', H', I', q⟩ := hs
      exact False.elim q
    | brk =>
      obtain ⟨_, _, _, q⟩ := hs
      exact False.elim q
    | cont =>
      obtain ⟨_, _, _, q⟩ := hs
      exact False.elim q
  · obtain ⟨_, _, _, _, _, _, _, _, _, _, _, _, q⟩ := z
    exact False.elim q
  · obtain ⟨_, _, _, _, _, _, _, _, _, _, _, _, q⟩ := z
    exact False.elim q
theorem tbAt_nx {t : Nat} {q : Str} {g : G} (x : EX) (g' : G) : tbAt t q g ≠ .exc x g' := by
  unfold tbAt
  split
  · split <;> exact nofun
  · exact nofun
theorem tbAt_ok {t : Nat} {q : Str} {g g' : G} {u : Unit} (e : tbAt t q g = .ok u g') : g' = g ∧ g.hp[t]? = some (.tb q) := by
  unfold tbAt at e
  split at e
  · rename_i q' h
    split at e
    · rename_i hq
      cases e
      exact ⟨rfl, by rw [h, hq]⟩
    · cases e
  · cases e
/-- said(lambda: e) -/
theorem e_said {W : Wish} {t : Nat} {q sn Rn : Str} {bd : Expr} {scp : Scope} {k : Nat} {cd : Addr} {p lp cp : Pos} (hw : F.w = X.w) (hc : X.calm = true) (hgd : X.A.guards = some []) (hr : Room (k + 2) X.A) (SD : SdOk CT X.K X.mg sn Rn) (HT : HotOk CT X.prog X.w X.K X.mg X.base Rn (c r))
    (hcd : X.env.code = .ref cd) (hq : q = X.env.qual ++ "<lambda>") (htb : ∀ P, TabK X.K q P → LamX.TabB X.base X.mg cd P) (L : LamX.LamS X.env.scope scp) (hg : L2.Gl X sn) (hd : (sn == ("__debug__" : Str)) = false)
    (body : ∀ (W0 : Wish) (E : L2.XK), (∀ cls dd σ1 H1, wxOf CT X.K F W0 cls dd σ1 H1 → E cls dd H1) → ∀ (A : Around) (outer : List Env) (s1 : Shared) (H1 : Hp) (fl d : Addr), A.guards = some [] → L2.Room k (A.deeper (LamX.lamEnv X scp s1.heap.objs.size fl d)) → L2.PE (lamN X A outer s1 H1 E scp fl d) bd (tE X.K F W0 (ev c m))) :
    PE X (.Call (.Name sn p) [.Lambda ⟨[], [], none, [], [], none, []⟩ bd scp lp] [] cp) (tE X.K F W (ev c (.said t q r m))) := by
  refine ⟨fun pins s σ H Q I ⟨Z, ms, g, R, S⟩ => ?_⟩
  simp only [ev_said] at S
  obtain ⟨u, g0, e0, S1⟩ := S.stepN tbAt_nx
  obtain ⟨rfl, hcell⟩ := tbAt_ok e0
  have hlt : t < ms.length := by
    rw [R.cn]
    exact (List.getElem?_eq_some_iff.mp hcell).1
  obtain ⟨P, hP⟩ : ∃ P, ms[t]? = some P := ⟨_, List.getElem?_eq_some_iff.mpr ⟨hlt, rfl⟩⟩
  obtain ⟨ps, c1, c2, ck, c3⟩ := R.cl t _ P hcell hP
  have TS : LamX.TabS H P q := ⟨ps, c1, c2, fun pos cv h => by
    obtain ⟨c, h1, h2, _⟩ := c3 pos cv h
    exact ⟨c, h1, h2⟩⟩
  have hfree := L.has I.ok
  obtain ⟨f, hm, hk, _⟩ : ∃ f, X.mg sn = some (.ref f) ∧ PySem.W.keepIn X.K (.ref f) = true ∧ True := by
    obtain ⟨f, _, _, _, _, _, _, _, _, _, _, _, _, _, _, _, _, _, _, _, _, _, _, _, _, _, _, _, _, _, _, _, _, hm, hk, _⟩ := SD.ex
    exact ⟨f, hm, hk, trivial⟩
  refine wpAny_Call_Name_kw (L2.ld_glob I hg hm ?_ hd)
  refine PySem.W.callWith_K (h₀ := X.base) I.ok.mod.kin hk (spliced_more (lam_mk I (htb P ck) hcd hq TS rfl hfree fun fl d pm ct H1 s1 J LH T1 hf hfn hfr hd => spliced_none ⟨J.kIn, ?_⟩)) rfl rfl
  obtain ⟨l, R1⟩ := R.lam LH T1 hcell hP
  obtain ⟨f', hm', _, run⟩ := said_call SD HT hr hgd hw J L hq hf hfn hfr hd rfl (fun W0 E hW A outer s1 H1 hA hR => body W0 E hW A outer s1 H1 fl d hA hR) R1 (S1.le l)
  obtain rfl : f' = f := by
    rw [hm] at hm'
    cases hm'
    rfl
  exact run
end
end Ev
/-! # Ev, part 11: the check that an expression of the text is the evaluator's; its soundness. -/
namespace Ev
open PySem PySem.Spec
open L2 (V Hp HO upd SqL SqT Rd Cx Inv PE PT PW PA PS PSs PG PGs PI PK VK TE TT TA TS TG TGs TI Ends RelV Vals It Dp DpAll OpR UnR CallR TruR IxR SlR MtR EP TP AP SP Room Env0 CE)

/-! ### names -/
def seq (a b : Str) : Bool := a.cps.toList == b.cps.toList
theorem seq_eq {a b : Str} (h : seq a b = true) : a = b := by
  unfold seq at h
  rw [beq_iff_eq] at h
  cases a
  cases b
  exact congrArg Str.mk (Array.toList_inj.mp h)
theorem seq_self (a : Str) : seq a a = true := by
  unfold seq
  exact beq_self_eq_true _
theorem seq_ne {a b : Str} (h : seq a b = false) : a ≠ b := fun e => by
  subst e
  rw [seq_self] at h
  cases h
def lk : List (Str × NameKind) → Str → Option NameKind
  | [], _ => none
  | (y, k) :: r, x => if seq y x = true then some k else lk r x
theorem lk_eq : ∀ (l : List (Str × NameKind)) (x : Str), lk l x = l.lookup x
  | [], x => rfl
  | (y, k) :: r, x => by
    unfold lk
    rw [List.lookup_cons]
    by_cases h : x = y
    · subst h
      rw [seq_self]
      simp
    · have h1 : seq y x = false := by
        cases q : seq y x with
        | false => rfl
        | true => exact absurd (seq_eq q).symm h
      rw [h1]
      have h2 : (x == y) = false := by simpa using h
      rw [h2]
      simpa using lk_eq r x
def nth (N : List Str) (i : Nat) (x : Str) : Bool := match N[i]? with
  | some y => seq y x
  | none => false
theorem nth_eq {N : List Str} {i : Nat} {x : Str} (h : nth N i x = true) : N[i]? = some x := by
  unfold nth at h
  split at h
  · rename_i y e
    rw [e, seq_eq h]
  · cases h
def okName (x : Str) : Bool := !seq x "__debug__" && !seq x "__classdict__"
def visC (N : List Str) (sc : Scope) (i : Nat) (x : Str) : Bool := nth N i x && okName x && match lk sc.names x with
  | some .local => true
  | some .cell => true
  | some .free => true
  | _ => false
def locC (N : List Str) (sc : Scope) (fb : Str → Bool) (i : Nat) (x : Str) : Bool := nth N i x && match lk sc.names x with
  | some .local => true
  | some .cell => fb x
  | _ => false
def globC (sc : Scope) (x : Str) : Bool := !seq x "__debug__" && match lk sc.names x with
  | some .globalImplicit => true
  | _ => false
def bltNames : List Str := ["len", "int", "str", "repr", "list", "tuple", "min", "max", "range", "isinstance", "all", "any", "sorted", "sum", "zip", "enumerate", "bool", "dict", "set"]

/-- an error class that may be raised -/
structure MkOk (P : Program) (w : World) (K : PySem.W.Frag) (mg : Str → Option Value) (C : Addr) (ns : List Str) : Prop where
  T : L2.OexC K C
  ini : ∃ fI : Addr, PySem.W.findIn K (.ref C) "__init__" = some (some (.ref fI)) ∧ PySem.W.typeIn K (.ref fI) = some (.type "function") ∧
    ∀ {A : Around} {s : Shared} {a t0 : Addr} {R : Result → Shared → Prop} {mb : Str → Option Value} (us : List Value), us.length = ns.length → K.In s.heap → K.lookup a = none → s.heap.Ns mainGlobals mg → s.heap.Ns builtinsNs mb → mb "super" = some (.type "super") → s.heap.NoLimit → A.depth < recursionLimit → s.heap.get? a = some (exR C t0 none) →
      (∀ h' tk t1 dx (mA : Str → Option Value), (∀ b o, b ≠ a → s.heap.get? b = some o → h'.get? b = some o) → s.heap.objs.size ≤ dx → dx ≠ a → h'.get? a = some (exR C t1 (some dx)) → h'.Ns1 dx mA → (∀ f, mA f = (ns.zip us).reverse.lookup f) → R (.ok (.ret .none)) { s with heap := h', toks := tk }) →
      codeAny (model P w) A (.call (.ref fI) ⟨.ref a :: us, []⟩) R s
  nd : ns.Nodup
  len : ns.length ≤ 100
/-- where said(lambda: ..) and raise may stand -/
structure LsOk (CT : CTab) (T : TTab) (c : Call) (k : Nat) (X : Cx) : Prop where
  room : Room (3 * k + 2) X.A
  xc : ∀ (i : Nat) x ns, T.xs[i]? = some (x, ns) → ∃ C, CT i = some (C, ns) ∧ X.mg x = some (.ref C) ∧ MkOk X.prog X.w X.K X.mg C ns
  lm : T.sn ≠ "" → ∃ cd, X.env.code = .ref cd ∧ T.lq = X.env.qual ++ "<lambda>" ∧ ∀ P, TabK X.K T.lq P → LamX.TabB X.base X.mg cd P
  sd : T.sn ≠ "" → ∃ rn, SdOk CT X.K X.mg T.sn rn ∧ HotOk CT X.prog X.w X.K X.mg X.base rn (c T.sr)
/-- what is asked of the handled error -/
def hotE (T : TTab) (N : List Str) (sc : Scope) (i : Nat) (e : Expr) : Bool := match T.hq[i]?, e with
  | some (.isa C), .Call (.Name f _) [.Name x _, .Name D _] [] _ => seq f "isinstance" && globC sc f && seq x T.hn && visC N sc T.hs x && seq D C && globC sc D
  | some (.fld f), .Attribute (.Name x _) g _ => seq x T.hn && visC N sc T.hs x && seq g f
  | _, _ => false
/-- the place of a run: calls, names, scope -/
structure EC (CT : CTab) (T : TTab) (c : Call) (k : Nat) (N : List Str) (sc : Scope) (fb : Str → Bool) (X : Cx) : Prop where
  calm : T.cm = true → X.calm = true
  hN : X.N = N
  nd : N.Nodup
  hs : X.env.scope = sc
  hf : X.fn = fb
  gd : X.A.guards = some []
  un : X.A.units + 200 < cLine
  room : T.cm = true → Room (3 * k) X.A
  blt : ∀ x ∈ bltNames, X.mg x = none
  glb : ∀ p ∈ T.gl, GlOk X.K X.mg p.1 p.2
  tg : T.cm = true → ∀ (i : Nat) t, T.tg[i]? = some t → CallOk CT X.prog X.w X.K X.mg X.base k t (c i)
  ls : T.ls = true → LsOk CT T c k X
  hot : T.cm = false → ∀ (i : Nat) (e : Expr), hotE T N sc i e = true → ∀ F W, Tk CT X F W → PE X e (tE X.K F W (ev c (.hx T.hs i)))
def fbOf (scope : Scope) : Str → Bool := fun x => scope.names.lookup x == some .cell
section
variable {CT : CTab} {T : TTab} {c : Call} {k : Nat} {N : List Str} {sc : Scope} {fb : Str → Bool} {X : Cx}
theorem EC.blk (E : EC CT T c k N sc fb X) (hc : T.cm = true) (s : Shared) (H : Hp) (scope : Scope) (cl : List (Str × Addr)) (C : Addr) (fp : List Addr) : EC CT T c k N (L2.relS scope sc) (fbOf scope) (X.blk s H scope (compEnvC scope cl C X.env) fp) :=
  ⟨E.calm, E.hN, E.nd, by rw [← E.hs]; rfl, rfl, E.gd, E.un, E.room, E.blt, E.glb, E.tg, fun h => ⟨(E.ls h).room, (E.ls h).xc, (E.ls h).lm, (E.ls h).sd⟩, fun h => by rw [hc] at h; cases h⟩
theorem EC.ndX (E : EC CT T c k N sc fb X) : X.N.Nodup := E.hN ▸ E.nd
theorem EC.u64 (E : EC CT T c k N sc fb X) : X.A.units + 66 < cLine := by have := E.un; omega
theorem EC.u200 (E : EC CT T c k N sc fb X) : X.A.units + 200 < cLine := E.un
theorem EC.vis (E : EC CT T c k N sc fb X) {i : Nat} {x : Str} (h : visC N sc i x = true) : X.N[i]? = some x ∧ L2.Vis X.env.scope x ∧ (x == ("__debug__" : Str)) = false ∧ (x == ("__classdict__" : Str)) = false := by
  unfold visC okName at h
  simp only [Bool.and_eq_true, Bool.not_eq_true'] at h
  obtain ⟨⟨h1, h2, h3⟩, h4⟩ := h
  refine ⟨by rw [E.hN]; exact nth_eq h1, ?_, by simpa using seq_ne h2, by simpa using seq_ne h3⟩
  rw [E.hs]
  unfold L2.Vis
  rw [lk_eq] at h4
  split at h4
  · exact .inl (by assumption)
  · exact .inr (.inl (by assumption))
  · exact .inr (.inr (by assumption))
  · cases h4
theorem EC.loc (E : EC CT T c k N sc fb X) {i : Nat} {x : Str} (h : locC N sc fb i x = true) : X.N[i]? = some x ∧ L2.Loc X.env.scope x ∧ (X.fn x = true ∨ X.env.scope.names.lookup x = some .local) := by
  unfold locC at h
  simp only [Bool.and_eq_true] at h
  obtain ⟨h1, h4⟩ := h
  refine ⟨by rw [E.hN]; exact nth_eq h1, ?_⟩
  rw [E.hs, E.hf]
  unfold L2.Loc
  rw [lk_eq] at h4
  split at h4
  · exact ⟨.inl (by assumption), .inr (by assumption)⟩
  · exact ⟨.inr (by assumption), .inl h4⟩
  · cases h4
theorem EC.glob (E : EC CT T c k N sc fb X) {x : Str} (h : globC sc x = true) : L2.Gl X x ∧ (x == ("__debug__" : Str)) = false := by
  unfold globC at h
  simp only [Bool.and_eq_true, Bool.not_eq_true'] at h
  obtain ⟨h1, h4⟩ := h
  refine ⟨?_, by simpa using seq_ne h1⟩
  show X.env.scope.names.lookup x = _
  rw [E.hs]
  rw [lk_eq] at h4
  split at h4
  · assumption
  · cases h4
end

/-! ### targets -/
def chLs (N : List Str) (sc : Scope) (fb : Str → Bool) : List Nat → List Expr → Bool
  | [], [] => true
  | i :: is, e :: es => (match e with
    | .Name x _ => locC N sc fb i x
    | _ => false) && chLs N sc fb is es
  | _, _ => false
def chT (N : List Str) (sc : Scope) (fb : Str → Bool) : MT → Expr → Bool
  | .nm i => fun e => match e with
    | .Name x _ => locC N sc fb i x
    | _ => false
  | .tp is => fun e => match e with
    | .Tuple es _ _ => chLs N sc fb is es
    | _ => false
def tgNames : Expr → List Str
  | .Name x _ => [x]
  | .Tuple es _ _ => es.filterMap fun e => match e with
    | .Name x _ => some x
    | _ => none
  | _ => []
section
variable {CT : CTab} {T : TTab} {c : Call} {k : Nat} {N : List Str} {sc : Scope} {fb : Str → Bool} {X : Cx}
theorem chLs_ok (E : EC CT T c k N sc fb X) : ∀ {is : List Nat} {es : List Expr}, chLs N sc fb is es = true → PGs X es (gNms is) ∧ (assignEach es X.env).length = is.length ∧ (assignEach es X.env).findIdx? (·.1) = none ∧ (assignEach es X.env).any (·.1) = false
  | [], [], _ => ⟨L2.pgs_nil, rfl, rfl, rfl⟩
  | [], _ :: _, h => by simp [chLs] at h
  | _ :: _, [], h => by simp [chLs] at h
  | i :: is, e :: es, h => by
    simp only [chLs, Bool.and_eq_true] at h
    obtain ⟨h1, h2⟩ := h
    obtain ⟨i1, i2, i3, i4⟩ := chLs_ok E h2
    split at h1
    · obtain ⟨n1, n2, n3⟩ := E.loc h1
      refine ⟨L2.pgs_cons (L2.pg_name E.ndX n1 n2 n3) i1 rfl, ?_, ?_, ?_⟩
      · show (_ :: assignEach es X.env).length = _
        simp [i2]
      · show ((false, _) :: assignEach es X.env).findIdx? (·.1) = none
        rw [List.findIdx?_cons]
        simp [i3]
      · show ((false, _) :: assignEach es X.env).any (·.1) = false
        rw [List.any_cons, i4]
        rfl
    · cases h1
def isNm : MT → Bool
  | .nm _ => true
  | .tp _ => false
theorem chT_ok (E : EC CT T c k N sc fb X) {t : MT} {e : Expr} (hc : (T.cm || isNm t) = true) (h : chT N sc fb t e = true) : PG X e (gT X.K t) := by
  cases t with
  | nm i =>
    simp only [chT] at h
    split at h
    · obtain ⟨n1, n2, n3⟩ := E.loc h
      exact L2.pg_name E.ndX n1 n2 n3
    · cases h
  | tp is =>
    simp only [chT] at h
    split at h
    · obtain ⟨i1, i2, i3, _⟩ := chLs_ok E h
      exact L2.pg_tup (E.calm (by simpa [isNm] using hc)) i1 i2 i3
    · cases h
end

/-! ### expressions -/
def chC : PV → Expr → Bool
  | .int i => fun e => match e with
    | .Constant (.int j) _ _ => decide (i = j)
    | _ => false
  | .bl i => fun e => match e with
    | .Constant (.bool j) _ _ => decide (i = j)
    | _ => false
  | .non => fun e => match e with
    | .Constant .none _ _ => true
    | _ => false
  | .str i => fun e => match e with
    | .Constant (.str j) _ _ => seq i j
    | _ => false
  | _ => fun _ => false
def isSl : Expr → Bool
  | .Slice .. => true
  | _ => false
def isSet : Expr → Bool
  | .Set .. => true
  | _ => false
def isCall : Expr → Bool
  | .Call .. => true
  | _ => false
/-- and, or: what stands behind the first -/
def rest1 (o : BoolOp) (y : Expr) (r : List Expr) (pos : Pos) : Expr := match r with
  | [] => y
  | z :: r => .BoolOp o (y :: z :: r) pos
def kwC : List Keyword → List Str → Bool
  | [], [] => true
  | ⟨n, _, _⟩ :: r, k :: ks => (match n with
    | some n => seq n k
    | none => false) && kwC r ks
  | _, _ => false
theorem kwC_ok : ∀ {kws : List Keyword} {ks : List Str}, kwC kws ks = true → kwNames kws = ks.map some
  | [], [], _ => rfl
  | [], _ :: _, h => by simp [kwC] at h
  | _ :: _, [], h => by simp [kwC] at h
  | ⟨n, v, p⟩ :: r, k :: ks, h => by
    simp only [kwC, Bool.and_eq_true] at h
    obtain ⟨h1, h2⟩ := h
    split at h1
    · simp only [kwNames, List.map_cons, seq_eq h1, kwC_ok h2]
    · cases h1
mutual
/-- equal, of texts, numbers and tuples of such -/
def pvE : PV → PV → Bool
  | .str a, .str b => seq a b
  | .int a, .int b => decide (a = b)
  | .tup xs, .tup ys => pvEs xs ys
  | _, _ => false
def pvEs : List PV → List PV → Bool
  | [], [] => true
  | x :: xs, y :: ys => pvE x y && pvEs xs ys
  | _, _ => false
end
mutual
theorem pvE_eq : ∀ {x y : PV}, pvE x y = true → x = y
  | .str a, .str b, h => by
    have q : seq a b = true := by simpa only [pvE] using h
    rw [seq_eq q]
  | .int a, .int b, h => by
    have q : decide (a = b) = true := by simpa only [pvE] using h
    rw [of_decide_eq_true q]
  | .tup xs, .tup ys, h => by
    have q : pvEs xs ys = true := by simpa only [pvE] using h
    rw [pvEs_eq q]
  | .str _, .int _, h | .str _, .tup _, h | .int _, .str _, h | .int _, .tup _, h | .tup _, .str _, h | .tup _, .int _, h => by simp [pvE] at h
  | .non, y, h | .bl _, y, h | .lst _, y, h | .fz _, y, h | .ref _, y, h | .ty _, y, h => by simp [pvE] at h
  | .str _, .non, h | .str _, .bl _, h | .str _, .lst _, h | .str _, .fz _, h | .str _, .ref _, h | .str _, .ty _, h => by simp [pvE] at h
  | .int _, .non, h | .int _, .bl _, h | .int _, .lst _, h | .int _, .fz _, h | .int _, .ref _, h | .int _, .ty _, h => by simp [pvE] at h
  | .tup _, .non, h | .tup _, .bl _, h | .tup _, .lst _, h | .tup _, .fz _, h | .tup _, .ref _, h | .tup _, .ty _, h => by simp [pvE] at h
theorem pvEs_eq : ∀ {xs ys : List PV}, pvEs xs ys = true → xs = ys
  | [], [], _ => rfl
  | x :: xs, y :: ys, h => by
    simp only [pvEs, Bool.and_eq_true] at h
    rw [pvE_eq h.1, pvEs_eq h.2]
  | [], _ :: _, h => by simp [pvEs] at h
  | _ :: _, [], h => by simp [pvEs] at h
end
/-- an expression that makes a list -/
def isMk : Expr → Bool
  | .Call .. => true
  | .List .. => true
  | _ => false
/-- names unpacked from a tuple -/
def isTp : MT → Expr → Bool
  | .tp _, .Tuple .. => true
  | _, _ => false
/-- no parameters -/
def noPrs : Arguments → Bool
  | ⟨[], [], none, [], [], none, []⟩ => true
  | _ => false
section
mutual
def chE : TTab → List Str → Scope → (Str → Bool) → ME → Expr → Bool
  | T, N, sc, fb, .cst v => fun e => chC v e
  | T, N, sc, fb, .var i => fun e => match e with
    | .Name x _ => visC N sc i x
    | _ => false
  | T, N, sc, fb, .tyn t => fun e => match e with
    | .Name x _ => seq x t.nm && globC sc x
    | _ => false
  | T, N, sc, fb, .tup es => fun e => match e with
    | .Tuple xs _ _ => chEs T N sc fb es xs
    | _ => false
  | T, N, sc, fb, .lst es => fun e => match e with
    | .List xs _ => chEs T N sc fb es xs
    | _ => false
  | T, N, sc, fb, .bin o a b => fun e => match e with
    | .BinOp x p y _ => decide (bop o = p) && chE T N sc fb a x && chE T N sc fb b y
    | _ => false
  | T, N, sc, fb, .cmp o a b => fun e => match e with
    | .Compare x [p] [y] _ => decide (cop o = p) && chE T N sc fb a x && chE T N sc fb b y && !behindInMarks p y
    | _ => false
  | T, N, sc, fb, .chn o q a b d => fun e => match e with
    | .Compare x [p, p2] [y, z] _ => decide (cop o = p) && decide (cop q = p2) && chE T N sc fb a x && chE T N sc fb b y && chE T N sc fb d z && !lastMarks [p, p2] [y, z]
    | _ => false
  | T, N, sc, fb, .neg a => fun e => match e with
    | .UnaryOp .USub x _ => chE T N sc fb a x
    | _ => false
  | T, N, sc, fb, .nt a => fun e => match e with
    | .UnaryOp .Not x _ => chE T N sc fb a x
    | _ => false
  | T, N, sc, fb, .an a b => fun e => match e with
    | .BoolOp .And (x :: y :: r) pos => chE T N sc fb a x && chE T N sc fb b (rest1 .And y r pos)
    | _ => false
  | T, N, sc, fb, .orr a b => fun e => match e with
    | .BoolOp .Or (x :: y :: r) pos => chE T N sc fb a x && chE T N sc fb b (rest1 .Or y r pos)
    | _ => false
  | T, N, sc, fb, .ite t a b => fun e => match e with
    | .IfExp z x y _ => chE T N sc fb t z && chE T N sc fb a x && chE T N sc fb b y
    | _ => false
  | T, N, sc, fb, .idx a b => fun e => match e with
    | .Subscript x y _ => !isSl y && chE T N sc fb a x && chE T N sc fb b y
    | _ => false
  | T, N, sc, fb, .slc a lo hi => fun e => match e with
    | .Subscript x (.Slice l h none _) _ => chE T N sc fb a x && chO T N sc fb lo l && chO T N sc fb hi h
    | _ => false
  | T, N, sc, fb, .rev a => fun e => match e with
    | .Subscript x (.Slice none none (some (.UnaryOp .USub (.Constant (.int 1) _ _) _)) _) _ => chE T N sc fb a x
    | _ => false
  | T, N, sc, fb, .call i es ks => fun e => match e with
    | .Call (.Name x _) as kws _ => (match T.tg[i]? with
      | some t => T.cm && seq x t.name && globC sc x && chEs T N sc fb es as && chKs T N sc fb ks kws && kwC kws t.ks && decide (es.len = t.p) && decide (ks.len = t.ks.length) && es.plain && ks.plain
      | none => false)
    | _ => false
  | T, N, sc, fb, .bi f es => fun e => match e with
    | .Call (.Name x _) as [] _ => T.cm && seq x f.name && globC sc x && !as.isEmpty && chEs T N sc fb es as && es.plain
    | _ => false
  | T, N, sc, fb, .join o a => fun e => match e with
    | .Call (.Attribute x m ap) [y] [] pos => seq m "join" && (ap.endLine == pos.line) && !isCall x && noSt y && chE T N sc fb o x && chE T N sc fb a y
    | _ => false
  | T, N, sc, fb, .app i a => fun e => match e with
    | .Call (.Attribute (.Name x _) m ap) [y] [] pos => seq m "append" && (ap.endLine == pos.line) && visC N sc i x && noSt y && chE T N sc fb a y
    | _ => false
  | T, N, sc, fb, .ext i a => fun e => match e with
    | .Call (.Attribute (.Name x _) m ap) [y] [] pos => seq m "extend" && (ap.endLine == pos.line) && visC N sc i x && noSt y && chE T N sc fb a y
    | _ => false
  | T, N, sc, fb, .pop i k => fun e => match e with
    | .Call (.Attribute (.Name x _) m ap) args [] pos => seq m "pop" && (ap.endLine == pos.line) && visC N sc i x && args.all noSt && chF T N sc fb k args
    | _ => false
  | T, N, sc, fb, .mt m o es => fun e => match e with
    | .Call (.Attribute oe nm ap) args [] pos => seq nm m.name && (ap.endLine == pos.line) && !isCall oe && !args.isEmpty && decide (args.length < 29) && chE T N sc fb o oe && chEs T N sc fb es args && es.plain
    | _ => false
  | T, N, sc, fb, .itl a => fun e => match e with
    | .Call (.Name x _) [.Call (.Attribute oe nm ap) [] [] cp] [] _ => T.cm && seq x "list" && globC sc x && seq nm "items" && (ap.endLine == cp.line) && !isCall oe && chE T N sc fb a oe
    | _ => false
  | T, N, sc, fb, .lrg it => fun e => match it with
    | .rg1 a => (match e with
      | .Call (.Name x _) [.Call (.Name r _) [y] [] _] [] _ => T.cm && seq x "list" && globC sc x && seq r "range" && globC sc r && noSt y && chE T N sc fb a y
      | _ => false)
    | .rg2 a b => (match e with
      | .Call (.Name x _) [.Call (.Name r _) [y, z] [] _] [] _ => T.cm && seq x "list" && globC sc x && seq r "range" && globC sc r && noSt y && noSt z && chE T N sc fb a y && chE T N sc fb b z
      | _ => false)
    | _ => false
  | T, N, sc, fb, .lset i a => fun e => match e with
    | .Call (.Name x _) [.SetComp (.Name y _) [⟨.Name z _, iter, [], 0⟩] scope _] [] _ => T.cm && seq x "len" && globC sc x && seq y z && L2.blkC N sc scope [(z, i)] && visC N (L2.relS scope sc) i y && locC N (L2.relS scope sc) (fbOf scope) i z && !isSet iter && chE T N sc fb a iter
    | _ => false
  | T, N, sc, fb, .dnew => fun e => match e with
    | .Dict [] [] _ => true
    | _ => false
  | T, N, sc, fb, .lnew a => fun e => isMk e && chE T N sc fb a e
  | T, N, sc, fb, .lapp o a => fun e => match e with
    | .Call (.Attribute x m ap) [y] [] pos => seq m "append" && (ap.endLine == pos.line) && !isCall x && noSt y && chE T N sc fb o x && chE T N sc fb a y
    | _ => false
  | T, N, sc, fb, .glb x v => fun e => match e with
    | .Name y _ => seq y x && globC sc x && T.gl.any fun p => seq p.1 x && pvE p.2 v
    | _ => false
  | T, N, sc, fb, .said t q r m => fun e => match e with
    | .Call (.Name x _) [.Lambda prs bd scp _] [] _ => T.cm && T.ls && seq x T.sn && !seq x "" && globC sc x && seq q T.lq && decide (r = T.sr) && noPrs prs && LamX.lamSB sc scp && chE { T with ls := false } N scp (fun _ => false) m bd
    | _ => false
  | T, N, sc, fb, .hx s i => fun e => !T.cm && decide (s = T.hs) && hotE T N sc i e
  | T, N, sc, fb, .lset2 a => fun e => match e with
    | .Call (.Name x _) [.Call (.Name z _) [y] [] _] [] _ => T.cm && seq x "len" && globC sc x && seq z "set" && globC sc z && noSt y && chE T N sc fb a y
    | _ => false
  | T, N, sc, fb, .lc t it k el => fun e => match e with
    | .ListComp elt [⟨tg, iter, ifs, 0⟩] scope _ => T.cm && L2.blkC N sc scope ((tgNames tg).zip t.slots) && decide ((tgNames tg).length = t.slots.length) && chI T N sc fb it t tg iter && chT N (L2.relS scope sc) (fbOf scope) t tg && chF T N (L2.relS scope sc) (fbOf scope) k ifs &&
      chE T N (L2.relS scope sc) (fbOf scope) el elt
    | _ => false
  | T, N, sc, fb, .lc2 t it k t2 it2 k2 el => fun e => match e with
    | .ListComp elt [⟨tg, iter, ifs, 0⟩, ⟨tg2, iter2, ifs2, 0⟩] scope _ => T.cm && L2.blkC N sc scope ((tgNames tg ++ tgNames tg2).zip (t.slots ++ t2.slots)) && decide ((tgNames tg ++ tgNames tg2).length = (t.slots ++ t2.slots).length) && chI T N sc fb it t tg iter && chT N (L2.relS scope sc) (fbOf scope) t tg && chF T N (L2.relS scope sc) (fbOf scope) k ifs &&
      chI T N (L2.relS scope sc) (fbOf scope) it2 t2 tg2 iter2 && chT N (L2.relS scope sc) (fbOf scope) t2 tg2 && chF T N (L2.relS scope sc) (fbOf scope) k2 ifs2 && chE T N (L2.relS scope sc) (fbOf scope) el elt
    | _ => false
  | T, N, sc, fb, .dcn t it k kk el => fun e => match e with
    | .DictComp kx vx [⟨tg, iter, ifs, 0⟩] scope _ => T.cm && L2.blkC N sc scope ((tgNames tg).zip t.slots) && decide ((tgNames tg).length = t.slots.length) && chI T N sc fb it t tg iter && chT N (L2.relS scope sc) (fbOf scope) t tg && chF T N (L2.relS scope sc) (fbOf scope) k ifs &&
      chE T N (L2.relS scope sc) (fbOf scope) kk kx && chE T N (L2.relS scope sc) (fbOf scope) el vx
    | _ => false
  | T, N, sc, fb, .fs es => fun e => match e with
    | .JoinedStr (e1 :: e2 :: r) _ => chP T N sc fb es (e1 :: e2 :: r)
    | _ => false
  | T, N, sc, fb, .dct ks vs => fun e => match e with
    | .Dict keys values _ => T.cm && chD T N sc fb vs ks keys values && !keys.isEmpty && decide (keys.length ≤ 15)
    | _ => false
def chEs : TTab → List Str → Scope → (Str → Bool) → MEs → List Expr → Bool
  | T, N, sc, fb, .nil => fun es => es.isEmpty
  | T, N, sc, fb, .cons m r => fun es => match es with
    | e :: es => noSt e && chE T N sc fb m e && chEs T N sc fb r es
    | [] => false
  | T, N, sc, fb, .star m r => fun es => match es with
    | .Starred e _ :: es => chE T N sc fb m e && chEs T N sc fb r es
    | _ => false
def chKs : TTab → List Str → Scope → (Str → Bool) → MEs → List Keyword → Bool
  | T, N, sc, fb, .nil => fun es => es.isEmpty
  | T, N, sc, fb, .cons m r => fun es => match es with
    | ⟨_, e, _⟩ :: es => chE T N sc fb m e && chKs T N sc fb r es
    | [] => false
  | T, N, sc, fb, .star m r => fun es => false
def chP : TTab → List Str → Scope → (Str → Bool) → MEs → List Expr → Bool
  | T, N, sc, fb, .nil => fun es => es.isEmpty
  | T, N, sc, fb, .cons m r => fun es => match es with
    | e :: es => (match e with
      | .FormattedValue x (-1) none _ => chE T N sc fb m x
      | .Constant (.str s) _ _ => (match m with
        | .cst (.str t) => seq t s
        | _ => false)
      | _ => false) && chP T N sc fb r es
    | [] => false
  | T, N, sc, fb, .star m r => fun es => false
def chD : TTab → List Str → Scope → (Str → Bool) → MEs → List Str → List (Option Expr) → List Expr → Bool
  | T, N, sc, fb, .nil => fun ks keys values => ks.isEmpty && keys.isEmpty && values.isEmpty
  | T, N, sc, fb, .cons m r => fun ks keys values => match ks, keys, values with
    | s :: ks, some (.Constant (.str s') _ _) :: keys, v :: values => seq s s' && chE T N sc fb m v && chD T N sc fb r ks keys values
    | _, _, _ => false
  | T, N, sc, fb, .star m r => fun ks keys values => false
def chO : TTab → List Str → Scope → (Str → Bool) → MO → Option Expr → Bool
  | T, N, sc, fb, .no => fun e => e.isNone
  | T, N, sc, fb, .so m => fun e => match e with
    | some e => chE T N sc fb m e
    | none => false
def chF : TTab → List Str → Scope → (Str → Bool) → MO → List Expr → Bool
  | T, N, sc, fb, .no => fun es => es.isEmpty
  | T, N, sc, fb, .so m => fun es => match es with
    | [e] => chE T N sc fb m e
    | _ => false
def chI : TTab → List Str → Scope → (Str → Bool) → MI → MT → Expr → Expr → Bool
  | T, N, sc, fb, .it m => fun t tg e => !isSet e && chE T N sc fb m e
  | T, N, sc, fb, .enu a => fun t tg e => isTp t tg && match e with
    | .Call (.Name x _) [y] [] _ => seq x "enumerate" && globC sc x && noSt y && chE T N sc fb a y
    | _ => false
  | T, N, sc, fb, .zip a b => fun t tg e => isTp t tg && match e with
    | .Call (.Name x _) [y, z] [] _ => seq x "zip" && globC sc x && noSt y && noSt z && chE T N sc fb a y && chE T N sc fb b z
    | _ => false
  | T, N, sc, fb, .rg1 a => fun t tg e => match e with
    | .Call (.Name x _) [y] [] _ => seq x "range" && globC sc x && noSt y && chE T N sc fb a y
    | _ => false
  | T, N, sc, fb, .rg2 a b => fun t tg e => match e with
    | .Call (.Name x _) [y, z] [] _ => seq x "range" && globC sc x && noSt y && noSt z && chE T N sc fb a y && chE T N sc fb b z
    | _ => false
end
end
end Ev
/-! # Ev, part 12: the check is sound: expressions. -/
namespace Ev
open PySem PySem.Spec
open L2 (V Hp HO upd SqL SqT Rd Cx Inv PE PT PW PA PS PSs PG PGs PI PK VK TE TT TA TS TG TGs TI Ends RelV Vals It Dp DpAll OpR UnR CallR TruR IxR SlR MtR EP TP AP SP Room Env0 CE)
section
variable {CT : CTab} {T : TTab} {c : Call} {k : Nat} {N : List Str}
def Tri (CT : CTab) (c : Call) (X : Cx) (m : ME) (e : Expr) : Prop := (∀ F W, Tk CT X F W → PE X e (tE X.K F W (ev c m))) ∧ (∀ F W, Tk CT X F W → PT X e (tT X.K F W (tst c m))) ∧ ∀ o ys pos, e = .BoolOp o ys pos → ∀ F W, Tk CT X F W → PW X e (tT X.K F W (tst c m))
theorem Tk.no {X : Cx} {F : Fm} (hc : X.calm = true) (hw : F.w = X.w) : Tk CT X F noW := ⟨hw, fun u s' h => by
  obtain ⟨_, _, _, _, _, _, _, _, _, _, _, _, _, _, _, _, w⟩ := h
  obtain ⟨_, _, _, _, _, _, w⟩ := w
  exact w.elim, fun h => by rw [hc] at h; cases h⟩
theorem noTk {X : Cx} {P : Fm → Wish → Prop} (hc : X.calm = true) (h : ∀ F W, Tk CT X F W → P F W) : ∀ F, F.w = X.w → P F noW := fun F hw => h F noW (Tk.no hc hw)
theorem tri_val {X : Cx} {m : ME} {e : Expr} (h : ∀ F W, Tk CT X F W → PE X e (tE X.K F W (ev c m))) (ht : tst c m = fun g => (ev c m g).bind fun r g1 => lift (truV r.pv) g1) (he : ∀ whole, isTrue e X.env whole = (do let v ← whole; standAt e.pos; holding [v] (truthy v))) (nb : ∀ o ys pos, e ≠ .BoolOp o ys pos) : Tri CT c X m e := by
  refine ⟨h, fun F W tk => ?_, fun o ys pos q => absurd q (nb o ys pos)⟩
  rw [ht]
  exact t_val (h F W tk) he
theorem chC_ok {X : Cx} {v : PV} {e : Expr} (h : chC v e = true) : Tri CT c X (.cst v) e := by
  cases v with
  | int i =>
    simp only [chC] at h
    split at h
    · obtain rfl := of_decide_eq_true h
      exact tri_val (fun F W tk => e_int) rfl (fun _ => rfl) (by intros; simp)
    · cases h
  | bl i =>
    simp only [chC] at h
    split at h
    · obtain rfl := of_decide_eq_true h
      exact tri_val (fun F W tk => e_bl) rfl (fun _ => rfl) (by intros; simp)
    · cases h
  | non =>
    simp only [chC] at h
    split at h
    · exact tri_val (fun F W tk => e_non) rfl (fun _ => rfl) (by intros; simp)
    · cases h
  | str i =>
    simp only [chC] at h
    split at h
    · obtain rfl := seq_eq h
      exact tri_val (fun F W tk => e_str) rfl (fun _ => rfl) (by intros; simp)
    · cases h
  | _ => simp [chC] at h
theorem op_ok {sc : Scope} {fb : Str → Bool} {X : Cx} {m : ME} {e : Expr} (E : EC CT T c k N sc fb X) (h : chE T N sc fb m e = true) (hp : Tri CT c X m e) : ∀ F W, Tk CT X F W → PE X e (tO X.K F W (opd c m)) := by
  intro F W tk
  cases m with
  | var i =>
    simp only [chE] at h
    split at h
    · obtain ⟨h1, h2, h3, h4⟩ := E.vis h
      exact o_var h1 h2 h3 h4
    · cases h
  | _ => exact o_of (hp.1 F W tk)
theorem pe_bool1 {X : Cx} {o : BoolOp} {y : Expr} {pos : Pos} {t : TE} (h : PE X y t) : PE X (.BoolOp o [y] pos) t := by
  refine ⟨fun pins s σ H Q I q => ?_⟩
  have e : eval (.BoolOp o [y] pos) X.env = eval y X.env := by
    first | rfl | simp [eval, boolOp, evalEach]
  rw [e]
  exact h.run pins s σ H Q I q
theorem rest_pe {X : Cx} {o : BoolOp} {y : Expr} {r : List Expr} {pos : Pos} {t : TE} (h : PE X (rest1 o y r pos) t) : PE X (.BoolOp o (y :: r) pos) t := by
  cases r with
  | nil => exact pe_bool1 h
  | cons z r => exact h
theorem rest_and {X : Cx} {y : Expr} {r : List Expr} {pos : Pos} {m : ME} (h : Tri CT c X m (rest1 .And y r pos)) (F : Fm) (W : Wish) (tk : Tk CT X F W) : PW X (.BoolOp .And (y :: r) pos) (tT X.K F W (tst c m)) := by
  cases r with
  | nil => exact L2.pw_and1 (h.2.1 F W tk)
  | cons z r => exact h.2.2 _ _ _ rfl F W tk
theorem rest_or {X : Cx} {y : Expr} {r : List Expr} {pos : Pos} {m : ME} (h : Tri CT c X m (rest1 .Or y r pos)) (F : Fm) (W : Wish) (tk : Tk CT X F W) : PW X (.BoolOp .Or (y :: r) pos) (tT X.K F W (tst c m)) := by
  cases r with
  | nil => exact L2.pw_or1 (h.2.1 F W tk)
  | cons z r => exact h.2.2 _ _ _ rfl F W tk
theorem noJoin {x : Expr} {a : Str} {env : Env} {w : Sem Value} (h : isCall x = false) : attributeBase x a env w = w := by
  unfold attributeBase
  cases x <;> first | rfl | cases h
theorem noSl {y : Expr} (h : isSl y = false) : ∀ lo hi st p, y ≠ .Slice lo hi st p := by
  rintro lo hi st p rfl
  cases h
theorem noSet {e : Expr} (h : isSet e = false) (env : Env) (x : Value) : foldedSetIterable e env x = pure x := by
  unfold foldedSetIterable
  cases e <;> first | rfl | cases h
theorem blt_in (f : BI) : f.name ∈ bltNames := by cases f <;> decide +kernel
theorem ty_in (t : Ty) : (t.nm : Str) ∈ bltNames := by cases t <;> decide +kernel
/-- no argument is starred -/
theorem star_all {pos : Pos} {env : Env} {es : List Expr} (h : es.all noSt = true) : (backTo pos (starEach es env)).all (fun x => !x.1) = true := by
  have e := star_any (pos := pos) (env := env) h
  generalize backTo pos (starEach es env) = l at e ⊢
  induction l with
  | nil => rfl
  | cons a r ih =>
    simp only [List.any_cons, Bool.or_eq_false_iff] at e
    simp only [List.all_cons, e.1, ih e.2]
    rfl
theorem chI_set {sc : Scope} {fb : Str → Bool} {m : MI} {t : MT} {tg e : Expr} (h : chI T N sc fb m t tg e = true) : ∀ env x, foldedSetIterable e env x = pure x := by
  cases m with
  | it m =>
    simp only [chI, Bool.and_eq_true, Bool.not_eq_true'] at h
    exact noSet h.1
  | enu a =>
    simp only [chI, Bool.and_eq_true] at h
    obtain ⟨_, h⟩ := h
    split at h
    · exact fun _ _ => rfl
    · cases h
  | zip a b =>
    simp only [chI, Bool.and_eq_true] at h
    obtain ⟨_, h⟩ := h
    split at h
    · exact fun _ _ => rfl
    · cases h
  | rg1 a =>
    simp only [chI] at h
    split at h
    · exact fun _ _ => rfl
    · cases h
  | rg2 a b =>
    simp only [chI] at h
    split at h
    · exact fun _ _ => rfl
    · cases h
mutual
theorem sndE : ∀ (T : TTab) (m : ME) (sc : Scope) (fb : Str → Bool) (X : Cx) (e : Expr), EC CT T c k N sc fb X → chE T N sc fb m e = true → Tri CT c X m e
  | T, .cst v, sc, fb, X, e, E, h => chC_ok (by simpa only [chE] using h)
  | T, .var i, sc, fb, X, e, E, h => by
    simp only [chE] at h
    split at h
    · obtain ⟨h1, h2, h3, h4⟩ := E.vis h
      exact tri_val (fun F W tk => e_var h1 h2 h3 h4) rfl (fun _ => rfl) (by intros; simp)
    · cases h
  | T, .tyn t, sc, fb, X, e, E, h => by
    simp only [chE] at h
    split at h
    · simp only [Bool.and_eq_true] at h
      obtain ⟨h1, h2⟩ := h
      obtain rfl := seq_eq h1
      exact tri_val (fun F W tk => e_tyn (E.glob h2).1 (E.blt _ (ty_in t))) rfl (fun _ => rfl) (by intros; simp)
    · cases h
  | T, .tup es, sc, fb, X, e, E, h => by
    simp only [chE] at h
    split at h
    · exact tri_val (fun F W tk => e_tup ((sndEs _ es sc fb X _ E h).1 F W tk)) rfl (fun _ => rfl) (by intros; simp)
    · cases h
  | T, .lst es, sc, fb, X, e, E, h => by
    simp only [chE] at h
    split at h
    · exact tri_val (fun F W tk => e_lst ((sndEs _ es sc fb X _ E h).1 F W tk)) rfl (fun _ => rfl) (by intros; simp)
    · cases h
  | T, .bin o a b, sc, fb, X, e, E, h => by
    simp only [chE] at h
    split at h
    · simp only [Bool.and_eq_true] at h
      obtain ⟨⟨h0, h1⟩, h2⟩ := h
      obtain rfl := of_decide_eq_true h0
      exact tri_val (fun F W tk => e_bin (op_ok E h1 (sndE _ a sc fb X _ E h1) F W tk) (op_ok E h2 (sndE _ b sc fb X _ E h2) F W tk)) rfl (fun _ => rfl) (by intros; simp)
    · cases h
  | T, .cmp o a b, sc, fb, X, e, E, h => by
    simp only [chE] at h
    split at h
    · simp only [Bool.and_eq_true, Bool.not_eq_true'] at h
      obtain ⟨⟨⟨h0, h1⟩, h2⟩, h3⟩ := h
      obtain rfl := of_decide_eq_true h0
      have p1 := op_ok E h1 (sndE _ a sc fb X _ E h1)
      have p2 := op_ok E h2 (sndE _ b sc fb X _ E h2)
      exact ⟨fun F W tk => e_cmp tk.1 E.u64 (p1 F W tk) (p2 F W tk) h3, fun F W tk => t_cmp tk.1 E.u64 (p1 F W tk) (p2 F W tk) h3, by intros; simp at *⟩
    · cases h
  | T, .chn o q a b d, sc, fb, X, e, E, h => by
    simp only [chE] at h
    split at h
    · simp only [Bool.and_eq_true, Bool.not_eq_true'] at h
      obtain ⟨⟨⟨⟨⟨h0, h1⟩, h2⟩, h3⟩, h4⟩, h5⟩ := h
      obtain rfl := of_decide_eq_true h0
      obtain rfl := of_decide_eq_true h1
      exact ⟨fun F W tk => e_chn tk.1 E.u64 ((sndE _ a sc fb X _ E h2).1 F W tk) ((sndE _ b sc fb X _ E h3).1 F W tk) ((sndE _ d sc fb X _ E h4).1 F W tk) h5, fun F W tk => t_chn tk.1 E.u64 ((sndE _ a sc fb X _ E h2).1 F W tk) ((sndE _ b sc fb X _ E h3).1 F W tk) ((sndE _ d sc fb X _ E h4).1 F W tk) h5, by intros; simp at *⟩
    · cases h
  | T, .neg a, sc, fb, X, e, E, h => by
    simp only [chE] at h
    split at h
    · exact tri_val (fun F W tk => e_neg ((sndE _ a sc fb X _ E h).1 F W tk)) rfl (fun _ => rfl) (by intros; simp)
    · cases h
  | T, .nt a, sc, fb, X, e, E, h => by
    simp only [chE] at h
    split at h
    · exact ⟨fun F W tk => e_nt ((sndE _ a sc fb X _ E h).1 F W tk), fun F W tk => t_nt ((sndE _ a sc fb X _ E h).2.1 F W tk), by intros; simp at *⟩
    · cases h
  | T, .an a b, sc, fb, X, e, E, h => by
    simp only [chE] at h
    split at h
    · simp only [Bool.and_eq_true] at h
      obtain ⟨h1, h2⟩ := h
      have p1 := sndE _ a sc fb X _ E h1
      have p2 := sndE _ b sc fb X _ E h2
      have w : ∀ F W, Tk CT X F W → PW X _ _ := fun F W tk => w_an (p1.2.1 F W tk) (rest_and p2 F W tk)
      refine ⟨fun F W tk => e_an (p1.1 F W tk) (rest_pe (p2.1 F W tk)), fun F W tk => L2.PW.pt (w F W tk), fun o ys pos q F W tk => ?_⟩
      exact w F W tk
    · cases h
  | T, .orr a b, sc, fb, X, e, E, h => by
    simp only [chE] at h
    split at h
    · simp only [Bool.and_eq_true] at h
      obtain ⟨h1, h2⟩ := h
      have p1 := sndE _ a sc fb X _ E h1
      have p2 := sndE _ b sc fb X _ E h2
      have w : ∀ F W, Tk CT X F W → PW X _ _ := fun F W tk => w_or (p1.2.1 F W tk) (rest_or p2 F W tk)
      refine ⟨fun F W tk => e_or (p1.1 F W tk) (rest_pe (p2.1 F W tk)), fun F W tk => L2.PW.pt (w F W tk), fun o ys pos q F W tk => ?_⟩
      exact w F W tk
    · cases h
  | T, .ite t a b, sc, fb, X, e, E, h => by
    simp only [chE] at h
    split at h
    · simp only [Bool.and_eq_true] at h
      obtain ⟨⟨h0, h1⟩, h2⟩ := h
      have p0 := sndE _ t sc fb X _ E h0
      have p1 := sndE _ a sc fb X _ E h1
      have p2 := sndE _ b sc fb X _ E h2
      exact ⟨fun F W tk => e_ite (p0.2.1 F W tk) (p1.1 F W tk) (p2.1 F W tk), fun F W tk => t_ite (p0.2.1 F W tk) (p1.2.1 F W tk) (p2.2.1 F W tk), by intros; simp at *⟩
    · cases h
  | T, .idx a b, sc, fb, X, e, E, h => by
    simp only [chE] at h
    split at h
    · simp only [Bool.and_eq_true, Bool.not_eq_true'] at h
      obtain ⟨⟨h0, h1⟩, h2⟩ := h
      exact tri_val (fun F W tk => e_idx tk.1 E.u64 (op_ok E h1 (sndE _ a sc fb X _ E h1) F W tk) (op_ok E h2 (sndE _ b sc fb X _ E h2) F W tk) (noSl h0)) rfl (fun _ => rfl) (by intros; simp)
    · cases h
  | T, .slc a lo hi, sc, fb, X, e, E, h => by
    simp only [chE] at h
    split at h
    · simp only [Bool.and_eq_true] at h
      obtain ⟨⟨h0, h1⟩, h2⟩ := h
      exact tri_val (fun F W tk => e_slc (op_ok E h0 (sndE _ a sc fb X _ E h0) F W tk) (sndO _ lo sc fb X _ E h1 F W tk) (sndO _ hi sc fb X _ E h2 F W tk)) rfl (fun _ => rfl) (by intros; simp)
    · cases h
  | T, .rev a, sc, fb, X, e, E, h => by
    simp only [chE] at h
    split at h
    · exact tri_val (fun F W tk => e_rev (op_ok E h (sndE _ a sc fb X _ E h) F W tk)) rfl (fun _ => rfl) (by intros; simp)
    · cases h
  | T, .call i es ks, sc, fb, X, e, E, h => by
    simp only [chE] at h
    split at h
    · split at h
      · rename_i t ht
        simp only [Bool.and_eq_true] at h
        obtain ⟨⟨⟨⟨⟨⟨⟨⟨⟨hcm, h0⟩, h1⟩, h2⟩, h3⟩, h4⟩, h5⟩, h6⟩, h7⟩, h8⟩ := h
        obtain ⟨g1, g2⟩ := E.glob h1
        have p := sndEs _ es sc fb X _ E h2
        refine tri_val (fun F W tk => e_call tk (E.tg hcm i t ht) (E.room hcm) E.gd (seq_eq h0) g1 g2 (p.1 F W tk) (sndKs _ ks sc fb X _ E h3 F W tk) (p.2.2 h7) (kwC_ok h4) h7 h8 (of_decide_eq_true h5) (of_decide_eq_true h6) (fun q => ?_) (fun q => ?_)) rfl (fun _ => rfl) (by intros; simp)
        · subst q
          cases es with
          | nil => rfl
          | cons _ _ => simp [chEs] at h2
          | star _ _ => cases h7
        · subst q
          cases ks with
          | nil => rfl
          | cons _ _ => simp [chKs] at h3
          | star _ _ => cases h8
      · cases h
    · cases h
  | T, .bi f es, sc, fb, X, e, E, h => by
    simp only [chE] at h
    split at h
    · simp only [Bool.and_eq_true, Bool.not_eq_true'] at h
      obtain ⟨⟨⟨⟨⟨hcm, h0⟩, h1⟩, h2⟩, h3⟩, h7⟩ := h
      obtain rfl := seq_eq h0
      obtain ⟨g1, g2⟩ := E.glob h1
      have p := sndEs _ es sc fb X _ E h3
      rename_i as _
      cases as with
      | nil => cases h2
      | cons y ys =>
        cases es with
        | nil => simp [chEs] at h3
        | star _ _ => cases h7
        | cons m r =>
          have st := p.2.2 h7
          simp only [List.all_cons, Bool.and_eq_true] at st
          exact tri_val (fun F W tk => e_bi (E.calm hcm) E.gd E.u200 g1 (E.blt _ (blt_in f)) (p.2.1 F W tk) (star_cons st.1) (star_any st.2)) rfl (fun _ => rfl) (by intros; simp)
    · cases h
  | T, .join o a, sc, fb, X, e, E, h => by
    simp only [chE] at h
    split at h
    · simp only [Bool.and_eq_true, Bool.not_eq_true'] at h
      obtain ⟨⟨⟨⟨⟨h0, h1⟩, h2⟩, h3⟩, h4⟩, h5⟩ := h
      obtain rfl := seq_eq h0
      exact tri_val (fun F W tk => e_join ((sndE _ o sc fb X _ E h4).1 F W tk) (op_ok E h5 (sndE _ a sc fb X _ E h5) F W tk) (star_cons h3) (noJoin h2) h1) rfl (fun _ => rfl) (by intros; simp)
    · cases h
  | T, .app i a, sc, fb, X, e, E, h => by
    simp only [chE] at h
    split at h
    · simp only [Bool.and_eq_true] at h
      obtain ⟨⟨⟨⟨h0, h1⟩, h2⟩, h3⟩, h4⟩ := h
      obtain rfl := seq_eq h0
      obtain ⟨v1, v2, v3, v4⟩ := E.vis h2
      exact tri_val (fun F W tk => e_app (L2.pe_var v1 v2 v3 v4) ((sndE _ a sc fb X _ E h4).1 F W tk) h1 (star_cons h3)) rfl (fun _ => rfl) (by intros; simp)
    · cases h
  | T, .ext i a, sc, fb, X, e, E, h => by
    simp only [chE] at h
    split at h
    · simp only [Bool.and_eq_true] at h
      obtain ⟨⟨⟨⟨h0, h1⟩, h2⟩, h3⟩, h4⟩ := h
      obtain rfl := seq_eq h0
      obtain ⟨v1, v2, v3, v4⟩ := E.vis h2
      exact tri_val (fun F W tk => e_ext (L2.pe_var v1 v2 v3 v4) ((sndE _ a sc fb X _ E h4).1 F W tk) h1 (star_cons h3)) rfl (fun _ => rfl) (by intros; simp)
    · cases h
  | T, .pop i k, sc, fb, X, e, E, h => by
    simp only [chE] at h
    split at h
    · simp only [Bool.and_eq_true] at h
      obtain ⟨⟨⟨⟨h0, h1⟩, h2⟩, h3⟩, h4⟩ := h
      obtain rfl := seq_eq h0
      obtain ⟨v1, v2, v3, v4⟩ := E.vis h2
      cases k with
      | no =>
        simp only [chF, List.isEmpty_iff] at h4
        subst h4
        exact tri_val (fun F W tk => e_pop0 (L2.pe_var v1 v2 v3 v4) h1) rfl (fun _ => rfl) (by intros; simp)
      | so a =>
        simp only [chF] at h4
        split at h4
        · simp only [List.all_cons, Bool.and_eq_true] at h3
          exact tri_val (fun F W tk => e_pop (L2.pe_var v1 v2 v3 v4) ((sndE _ a sc fb X _ E h4).1 F W tk) h1 (star_cons h3.1)) rfl (fun _ => rfl) (by intros; simp)
        · cases h4
    · cases h
  | T, .mt m o es, sc, fb, X, e, E, h => by
    simp only [chE] at h
    split at h
    · simp only [Bool.and_eq_true, Bool.not_eq_true'] at h
      obtain ⟨⟨⟨⟨⟨⟨⟨h0, h1⟩, h2⟩, h3⟩, h4⟩, h5⟩, h6⟩, h7⟩ := h
      obtain rfl := seq_eq h0
      have p := sndEs _ es sc fb X _ E h6
      have st := p.2.2 h7
      rename_i as _
      cases as with
      | nil => cases h3
      | cons y ys =>
        simp only [List.all_cons, Bool.and_eq_true] at st
        have hlen := of_decide_eq_true h4
        refine tri_val (fun F W tk => e_mt tk.1 E.u64 ((sndE _ o sc fb X _ E h5).1 F W tk) (p.2.1 F W tk) (noJoin h2) ?_ h1 (star_cons st.1) (star_any st.2)) rfl (fun _ => rfl) (by intros; simp)
        rw [star_all (by rw [List.all_cons, st.1, st.2]; rfl)]
        have : (decide ((y :: ys).length + ([] : List Keyword).length + (if ([] : List Keyword).isEmpty then 0 else 1) < 30)) = true := by
          refine decide_eq_true ?_
          show (y :: ys).length + 0 + 0 < 30
          omega
        rw [this]
        rfl
    · cases h
  | T, .itl a, sc, fb, X, e, E, h => by
    simp only [chE] at h
    split at h
    · simp only [Bool.and_eq_true, Bool.not_eq_true'] at h
      obtain ⟨⟨⟨⟨⟨⟨hcm, h0⟩, h1⟩, h2⟩, h3⟩, h4⟩, h5⟩ := h
      obtain rfl := seq_eq h0
      obtain rfl := seq_eq h2
      exact tri_val (fun F W tk => e_itl tk.1 (E.calm hcm) ((sndE _ a sc fb X _ E h5).1 F W tk) (E.glob h1).1 (E.blt _ (by decide +kernel)) (noJoin h4) h3) rfl (fun _ => rfl) (by intros; simp)
    · cases h
  | T, .lrg (.rg1 a), sc, fb, X, e, E, h => by
    simp only [chE] at h
    split at h
    · simp only [Bool.and_eq_true] at h
      obtain ⟨⟨⟨⟨⟨⟨hcm, h0⟩, h1⟩, h2⟩, h3⟩, h4⟩, h5⟩ := h
      obtain rfl := seq_eq h0
      obtain rfl := seq_eq h2
      exact tri_val (fun F W tk => e_lrg1 (E.calm hcm) (E.glob h1).1 (E.blt _ (by decide +kernel)) (E.glob h3).1 (E.blt _ (by decide +kernel)) ((sndE _ a sc fb X _ E h5).1 F W tk) (star_cons h4)) rfl (fun _ => rfl) (by intros; simp)
    · cases h
  | T, .lrg (.rg2 a b), sc, fb, X, e, E, h => by
    simp only [chE] at h
    split at h
    · simp only [Bool.and_eq_true] at h
      obtain ⟨⟨⟨⟨⟨⟨⟨⟨hcm, h0⟩, h1⟩, h2⟩, h3⟩, h4⟩, h5⟩, h6⟩, h7⟩ := h
      obtain rfl := seq_eq h0
      obtain rfl := seq_eq h2
      exact tri_val (fun F W tk => e_lrg2 (E.calm hcm) (E.glob h1).1 (E.blt _ (by decide +kernel)) (E.glob h3).1 (E.blt _ (by decide +kernel)) ((sndE _ a sc fb X _ E h6).1 F W tk) ((sndE _ b sc fb X _ E h7).1 F W tk) (star_cons h4) (star_cons h5) (by rw [star_cons h5]; rfl)) rfl (fun _ => rfl) (by intros; simp)
    · cases h
  | T, .lrg (.it a), sc, fb, X, e, E, h => by simp [chE] at h
  | T, .lrg (.enu a), sc, fb, X, e, E, h => by simp [chE] at h
  | T, .lrg (.zip a b), sc, fb, X, e, E, h => by simp [chE] at h
  | T, .lset i a, sc, fb, X, e, E, h => by
    simp only [chE] at h
    split at h
    · simp only [Bool.and_eq_true, Bool.not_eq_true'] at h
      obtain ⟨⟨⟨⟨⟨⟨⟨⟨hcm, h0⟩, h1⟩, h2⟩, h3⟩, h4⟩, h5⟩, h6⟩, h7⟩ := h
      obtain rfl := seq_eq h0
      obtain rfl := seq_eq h2
      refine tri_val (fun F W tk => e_lset (E.calm hcm) E.ndX (fun tg => p_it ((sndE _ a sc fb X _ E h7).1 F W tk)) (by rw [E.hN, E.hs]; exact L2.blkOk_by h3) (fun s H C cl fp => ?_) (fun s H C cl fp => ?_) (noSet h6 _) (E.glob h1).1 (E.blt _ (by decide +kernel))) rfl (fun _ => rfl) (by intros; simp)
      · obtain ⟨n1, n2, n3⟩ := (E.blk hcm s H _ cl C fp).loc h5
        exact L2.pg_name (E.blk hcm s H _ cl C fp).ndX n1 n2 n3
      · obtain ⟨v1, v2, v3, v4⟩ := (E.blk hcm s H _ cl C fp).vis h4
        exact L2.pe_var v1 v2 v3 v4
    · cases h
  | T, .dnew, sc, fb, X, e, E, h => by
    simp only [chE] at h
    split at h
    · exact tri_val (fun F W tk => e_dnew) rfl (fun _ => rfl) (by intros; simp)
    · cases h
  | T, .lnew a, sc, fb, X, e, E, h => by
    simp only [chE, Bool.and_eq_true] at h
    obtain ⟨h0, h1⟩ := h
    have q := sndE _ a sc fb X e E h1
    cases e <;> first | (cases h0; done) | exact tri_val (fun F W tk => e_lnew (q.1 F W tk)) rfl (fun _ => rfl) (by intros; simp)
  | T, .lapp o a, sc, fb, X, e, E, h => by
    simp only [chE] at h
    split at h
    · simp only [Bool.and_eq_true, Bool.not_eq_true'] at h
      obtain ⟨⟨⟨⟨⟨h0, h1⟩, h2⟩, h3⟩, h4⟩, h5⟩ := h
      obtain rfl := seq_eq h0
      exact tri_val (fun F W tk => e_lapp ((sndE _ o sc fb X _ E h4).1 F W tk) ((sndE _ a sc fb X _ E h5).1 F W tk) h1 (star_cons h3) (noJoin h2)) rfl (fun _ => rfl) (by intros; simp)
    · cases h
  | T, .glb x v, sc, fb, X, e, E, h => by
    simp only [chE] at h
    split at h
    · simp only [Bool.and_eq_true, List.any_eq_true] at h
      obtain ⟨⟨h0, h1⟩, p, h2, h3, h4⟩ := h
      obtain rfl := seq_eq h0
      have g := E.glb p h2
      rw [seq_eq h3, pvE_eq h4] at g
      exact tri_val (fun F W tk => e_glb g (E.glob h1).1 (E.glob h1).2) rfl (fun _ => rfl) (by intros; simp)
    · cases h
  | T, .hx n i, sc, fb, X, e, E, h => by
    simp only [chE, Bool.and_eq_true, Bool.not_eq_true'] at h
    obtain ⟨⟨h0, h1⟩, h2⟩ := h
    obtain rfl := of_decide_eq_true h1
    have q := fun F W tk => E.hot h0 i e h2 F W tk
    have z : (∀ whole, isTrue e X.env whole = (do let v ← whole; standAt e.pos; holding [v] (truthy v))) ∧ ∀ o ys pos, e ≠ .BoolOp o ys pos := by
      unfold hotE at h2
      split at h2
      · exact ⟨fun _ => rfl, by intros; simp⟩
      · exact ⟨fun _ => rfl, by intros; simp⟩
      · cases h2
    exact tri_val q rfl z.1 z.2
  | T, .said t q r m, sc, fb, X, e, E, h => by
    simp only [chE] at h
    split at h
    · rename_i x p prs bd scp lp cp
      simp only [Bool.and_eq_true, Bool.not_eq_true'] at h
      obtain ⟨⟨⟨⟨⟨⟨⟨⟨⟨hcm, hls⟩, h0⟩, h1⟩, h2⟩, h3⟩, h4⟩, h5⟩, h6⟩, h7⟩ := h
      obtain rfl := seq_eq h0
      obtain rfl := seq_eq h3
      obtain rfl := of_decide_eq_true h4
      have LS := E.ls hls
      have L := LamX.lamS_by h6
      have hsn : T.sn ≠ "" := by simpa using seq_ne h1
      obtain ⟨cd, hcd, hlq, htb⟩ := LS.lm hsn
      obtain ⟨rn, SD, HT⟩ := LS.sd hsn
      obtain ⟨g1, g2⟩ := E.glob h2
      have hprs : prs = ⟨[], [], none, [], [], none, []⟩ := by
        unfold noPrs at h5
        split at h5
        · rfl
        · cases h5
      subst hprs
      refine tri_val (fun F W tk => e_said tk.1 (E.calm hcm) E.gd LS.room SD HT hcd hlq htb (by rw [E.hs]; exact L) g1 g2 fun W0 EE hW A outer s1 H1 fl d hgA hrA => ?_) rfl (fun _ => rfl) (by intros; simp)
      refine (sndE { T with ls := false } m scp _ _ _ ?_ h7).1 F W0 ?_
      · have hu : (A.deeper (LamX.lamEnv X scp s1.heap.objs.size fl d)).units + 200 < cLine := by
          have := hrA.un
          omega
        exact { calm := fun _ => rfl, hN := E.hN, nd := E.nd, hs := rfl, hf := rfl, gd := hgA, un := hu, room := fun _ => hrA, blt := E.blt, glb := E.glb, tg := fun _ i t ht => E.tg hcm i t ht, ls := fun z => (by cases z), hot := fun z => (by rw [hcm] at z; cases z) }
      · exact ⟨tk.1, (lamN_takes (E := EE)).imp fun cls dd σ1 H2 w => hW cls dd σ1 H2 w, fun z => by cases z⟩
    · cases h
  | T, .lset2 a, sc, fb, X, e, E, h => by
    simp only [chE] at h
    split at h
    · simp only [Bool.and_eq_true] at h
      obtain ⟨⟨⟨⟨⟨⟨hcm, h0⟩, h1⟩, h2⟩, h3⟩, h4⟩, h5⟩ := h
      obtain rfl := seq_eq h0
      obtain rfl := seq_eq h2
      exact tri_val (fun F W tk => e_lset2 (E.calm hcm) ((sndE _ a sc fb X _ E h5).1 F W tk) (E.glob h1).1 (E.blt _ (by decide +kernel)) (E.glob h3).1 (E.blt _ (by decide +kernel)) (star_cons h4)) rfl (fun _ => rfl) (by intros; simp)
    · cases h
  | T, .lc t it kk el, sc, fb, X, e, E, h => by
    simp only [chE] at h
    split at h
    · simp only [Bool.and_eq_true] at h
      obtain ⟨⟨⟨⟨⟨⟨hcm, h0⟩, h1⟩, h2⟩, h3⟩, h4⟩, h5⟩ := h
      have hi := sndI _ it t _ sc fb X _ E h2
      refine tri_val (fun F W tk => e_lc tk.1 (E.calm hcm) E.ndX (hi.1 F W tk) (by rw [E.hN, E.hs]; exact L2.blkOk_by h0) (List.map_snd_zip (by rw [of_decide_eq_true h1]; exact Nat.le_refl _)) (fun s H C cl fp => chT_ok (E.blk hcm s H _ cl C fp) (by rw [hcm]; rfl) h3)
        (fun s H C cl fp => sndF _ hcm kk _ _ _ _ (E.blk hcm s H _ cl C fp) h4) (fun s H C cl fp => PE.vx (noTk ((E.blk hcm s H _ cl C fp).calm hcm) (sndE _ el _ _ _ _ (E.blk hcm s H _ cl C fp) h5).1)) (hi.2 _)) rfl (fun _ => rfl) (by intros; simp)
    · cases h
  | T, .lc2 t it kk t2 it2 k2 el, sc, fb, X, e, E, h => by
    simp only [chE] at h
    split at h
    · simp only [Bool.and_eq_true] at h
      obtain ⟨⟨⟨⟨⟨⟨⟨⟨⟨hcm, h0⟩, h1⟩, h2⟩, h3⟩, h4⟩, h6⟩, h7⟩, h8⟩, h5⟩ := h
      have hi := sndI _ it t _ sc fb X _ E h2
      have hi2 := fun s H C cl fp => sndI _ it2 t2 _ _ _ _ _ (E.blk hcm s H _ cl C fp) h6
      refine tri_val (fun F W tk => e_lc2 tk.1 (E.calm hcm) E.ndX (hi.1 F W tk) (by rw [E.hN, E.hs]; exact L2.blkOk_by h0) (List.map_snd_zip (by rw [of_decide_eq_true h1]; exact Nat.le_refl _)) (fun s H C cl fp => chT_ok (E.blk hcm s H _ cl C fp) (by rw [hcm]; rfl) h3)
        (fun s H C cl fp => sndF _ hcm kk _ _ _ _ (E.blk hcm s H _ cl C fp) h4) (fun s H C cl fp => noTk ((E.blk hcm s H _ cl C fp).calm hcm) (hi2 s H C cl fp).1) (fun s H C cl fp => chT_ok (E.blk hcm s H _ cl C fp) (by rw [hcm]; rfl) h7) (fun s H C cl fp => sndF _ hcm k2 _ _ _ _ (E.blk hcm s H _ cl C fp) h8)
        (fun s H C cl fp => PE.vx (noTk ((E.blk hcm s H _ cl C fp).calm hcm) (sndE _ el _ _ _ _ (E.blk hcm s H _ cl C fp) h5).1)) (hi.2 _) (chI_set h6)) rfl (fun _ => rfl) (by intros; simp)
    · cases h
  | T, .dcn t it kk ke el, sc, fb, X, e, E, h => by
    simp only [chE] at h
    split at h
    · simp only [Bool.and_eq_true] at h
      obtain ⟨⟨⟨⟨⟨⟨⟨hcm, h0⟩, h1⟩, h2⟩, h3⟩, h4⟩, h6⟩, h5⟩ := h
      have hi := sndI _ it t _ sc fb X _ E h2
      refine tri_val (fun F W tk => e_dcn tk.1 E.u64 (E.calm hcm) E.ndX (hi.1 F W tk) (by rw [E.hN, E.hs]; exact L2.blkOk_by h0) (List.map_snd_zip (by rw [of_decide_eq_true h1]; exact Nat.le_refl _)) (fun s H C cl fp => chT_ok (E.blk hcm s H _ cl C fp) (by rw [hcm]; rfl) h3)
        (fun s H C cl fp => sndF _ hcm kk _ _ _ _ (E.blk hcm s H _ cl C fp) h4) (fun s H C cl fp => noTk ((E.blk hcm s H _ cl C fp).calm hcm) (sndE _ ke _ _ _ _ (E.blk hcm s H _ cl C fp) h6).1) (fun s H C cl fp => noTk ((E.blk hcm s H _ cl C fp).calm hcm) (sndE _ el _ _ _ _ (E.blk hcm s H _ cl C fp) h5).1) (hi.2 _)) rfl (fun _ => rfl) (by intros; simp)
    · cases h
  | T, .fs es, sc, fb, X, e, E, h => by
    simp only [chE] at h
    split at h
    · exact tri_val (fun F W tk => e_fs (sndP _ es sc fb X _ E h F W tk)) rfl (fun _ => rfl) (by intros; simp)
    · cases h
  | T, .dct ks vs, sc, fb, X, e, E, h => by
    simp only [chE] at h
    split at h
    · simp only [Bool.and_eq_true, Bool.not_eq_true'] at h
      obtain ⟨⟨⟨hcm, h0⟩, h1⟩, h2⟩ := h
      rename_i pos
      have p := sndD _ hcm vs ks sc fb X _ _ pos E h0
      refine tri_val (fun F W tk => e_dct tk.1 p.1 p.2.1 p.2.2.1 (fun q => ?_) (of_decide_eq_true h2) p.2.2.2) rfl (fun _ => rfl) (by intros; simp)
      subst q
      cases h1
    · cases h
theorem sndEs : ∀ (T : TTab) (ms : MEs) (sc : Scope) (fb : Str → Bool) (X : Cx) (es : List Expr), EC CT T c k N sc fb X → chEs T N sc fb ms es = true → (∀ F W, Tk CT X F W → PA X es (tVs X.K F W (evs c ms))) ∧ (∀ F W, Tk CT X F W → PA X es (tOs X.K F W (opds c ms))) ∧ (ms.plain = true → es.all noSt = true)
  | T, .nil, sc, fb, X, es, E, h => by
    simp only [chEs, List.isEmpty_iff] at h
    subst h
    exact ⟨fun F W tk => as_nil, fun F W tk => os_nil, fun _ => rfl⟩
  | T, .cons m r, sc, fb, X, es, E, h => by
    simp only [chEs] at h
    split at h
    · simp only [Bool.and_eq_true] at h
      obtain ⟨⟨h0, h1⟩, h2⟩ := h
      have p1 := sndE _ m sc fb X _ E h1
      have p2 := sndEs _ r sc fb X _ E h2
      refine ⟨fun F W tk => as_cons (p1.1 F W tk) (p2.1 F W tk) (star_cons h0), fun F W tk => os_cons (op_ok E h1 p1 F W tk) (p2.2.1 F W tk) (star_cons h0), fun hp => ?_⟩
      simp only [List.all_cons, h0, p2.2.2 hp, Bool.and_self]
    · cases h
  | T, .star m r, sc, fb, X, es, E, h => by
    simp only [chEs] at h
    split at h
    · simp only [Bool.and_eq_true] at h
      obtain ⟨h1, h2⟩ := h
      have p1 := sndE _ m sc fb X _ E h1
      have p2 := sndEs _ r sc fb X _ E h2
      exact ⟨fun F W tk => as_star (p1.1 F W tk) (p2.1 F W tk), fun F W tk => ⟨fun p pins s σ H Q I ⟨Z, ms, g, R, S⟩ => by
        simp only [opds_star] at S
        exact S.elim⟩, fun hp => by cases hp⟩
    · cases h
theorem sndKs : ∀ (T : TTab) (ms : MEs) (sc : Scope) (fb : Str → Bool) (X : Cx) (es : List Keyword), EC CT T c k N sc fb X → chKs T N sc fb ms es = true → ∀ F W, Tk CT X F W → PK X es (tVs X.K F W (evs c ms))
  | T, .nil, sc, fb, X, es, E, h => by
    simp only [chKs, List.isEmpty_iff] at h
    subst h
    exact fun F W tk => ks_nil
  | T, .cons m r, sc, fb, X, es, E, h => by
    simp only [chKs] at h
    split at h
    · simp only [Bool.and_eq_true] at h
      obtain ⟨h1, h2⟩ := h
      have p1 := sndE _ m sc fb X _ E h1
      have p2 := sndKs _ r sc fb X _ E h2
      exact fun F W tk => ks_cons (p1.1 F W tk) (p2 F W tk)
    · cases h
  | T, .star m r, sc, fb, X, es, E, h => by simp [chKs] at h
theorem sndP : ∀ (T : TTab) (ms : MEs) (sc : Scope) (fb : Str → Bool) (X : Cx) (es : List Expr), EC CT T c k N sc fb X → chP T N sc fb ms es = true → ∀ F W, Tk CT X F W → L2.PJ X es (tParts X.K F W c ms)
  | T, .nil, sc, fb, X, es, E, h => by
    simp only [chP, List.isEmpty_iff] at h
    subst h
    exact fun F W tk => .nil
  | T, .cons m r, sc, fb, X, es, E, h => by
    simp only [chP] at h
    split at h
    · simp only [Bool.and_eq_true] at h
      obtain ⟨h1, h2⟩ := h
      have p2 := sndP _ r sc fb X _ E h2
      split at h1
      · have p1 := sndE _ m sc fb X _ E h1
        exact fun F W tk => .cons (part_fmt (p1.1 F W tk)) (p2 F W tk)
      · split at h1
        · obtain rfl := seq_eq h1
          exact fun F W tk => .cons part_str (p2 F W tk)
        · cases h1
      · cases h1
    · cases h
  | T, .star m r, sc, fb, X, es, E, h => by simp [chP] at h
theorem sndD : ∀ (T : TTab) (hcm : T.cm = true) (ms : MEs) (ks : List Str) (sc : Scope) (fb : Str → Bool) (X : Cx) (keys : List (Option Expr)) (values : List Expr) (pos : Pos), EC CT T c k N sc fb X → chD T N sc fb ms ks keys values = true →
    L2.PPs X pos keys values (dTrs X.K X.w c ks ms) ∧ keys.all (·.isSome) = true ∧ keys.length = values.length ∧ ms.plain = true
  | T, hcm, .nil, ks, sc, fb, X, keys, values, pos, E, h => by
    simp only [chD, Bool.and_eq_true, List.isEmpty_iff] at h
    obtain ⟨⟨rfl, rfl⟩, rfl⟩ := h
    exact ⟨L2.pps_nil, rfl, rfl, rfl⟩
  | T, hcm, .cons m r, ks, sc, fb, X, keys, values, pos, E, h => by
    simp only [chD] at h
    split at h
    · simp only [Bool.and_eq_true] at h
      obtain ⟨⟨h0, h1⟩, h2⟩ := h
      obtain rfl := seq_eq h0
      have p1 := sndE _ m sc fb X _ E h1
      have p2 := sndD _ hcm r _ sc fb X _ _ pos E h2
      refine ⟨L2.pps_cons L2.pe_str (PE.vx (noTk (E.calm hcm) p1.1)) p2.1, ?_, ?_, p2.2.2.2⟩
      · simp only [List.all_cons, p2.2.1, Option.isSome_some, Bool.and_self]
      · simp only [List.length_cons, p2.2.2.1]
    · cases h
  | T, hcm, .star m r, ks, sc, fb, X, keys, values, pos, E, h => by simp [chD] at h
theorem sndO : ∀ (T : TTab) (m : MO) (sc : Scope) (fb : Str → Bool) (X : Cx) (e : Option Expr), EC CT T c k N sc fb X → chO T N sc fb m e = true → ∀ F W, Tk CT X F W → L2.PO X e (tI X.K F W (evo c m))
  | T, .no, sc, fb, X, e, E, h => by
    simp only [chO, Option.isNone_iff_eq_none] at h
    subst h
    exact fun F W tk => i_no
  | T, .so m, sc, fb, X, e, E, h => by
    simp only [chO] at h
    split at h
    · exact fun F W tk => i_so ((sndE _ m sc fb X _ E h).1 F W tk)
    · cases h
theorem sndF : ∀ (T : TTab) (hcm : T.cm = true) (m : MO) (sc : Scope) (fb : Str → Bool) (X : Cx) (es : List Expr), EC CT T c k N sc fb X → chF T N sc fb m es = true → L2.PTs X es (tTx X.K X.w (tsto c m))
  | T, hcm, .no, sc, fb, X, es, E, h => by
    simp only [chF, List.isEmpty_iff] at h
    subst h
    exact s_no
  | T, hcm, .so m, sc, fb, X, es, E, h => by
    simp only [chF] at h
    split at h
    · exact s_so (noTk (E.calm hcm) (sndE _ m sc fb X _ E h).2.1)
    · cases h
theorem sndI : ∀ (T : TTab) (m : MI) (t : MT) (tg : Expr) (sc : Scope) (fb : Str → Bool) (X : Cx) (e : Expr), EC CT T c k N sc fb X → chI T N sc fb m t tg e = true → (∀ F W, Tk CT X F W → PI X tg e (tIt X.K F W t (evi c m))) ∧ ∀ env x, foldedSetIterable e env x = pure x
  | T, .it m, t, tg, sc, fb, X, e, E, h => by
    simp only [chI, Bool.and_eq_true, Bool.not_eq_true'] at h
    exact ⟨fun F W tk => p_it ((sndE _ m sc fb X _ E h.2).1 F W tk), noSet h.1⟩
  | T, .enu a, t, tg, sc, fb, X, e, E, h => by
    simp only [chI, Bool.and_eq_true] at h
    obtain ⟨h0, h⟩ := h
    split at h
    · simp only [Bool.and_eq_true] at h
      obtain ⟨⟨⟨h1, h2⟩, h3⟩, h4⟩ := h
      obtain rfl := seq_eq h1
      unfold isTp at h0
      split at h0
      · exact ⟨fun F W tk => p_enu (E.glob h2).1 (E.blt _ (by decide +kernel)) ((sndE _ a sc fb X _ E h4).1 F W tk) (star_cons h3), fun _ _ => rfl⟩
      · cases h0
    · cases h
  | T, .zip a b, t, tg, sc, fb, X, e, E, h => by
    simp only [chI, Bool.and_eq_true] at h
    obtain ⟨h0, h⟩ := h
    split at h
    · simp only [Bool.and_eq_true] at h
      obtain ⟨⟨⟨⟨⟨h1, h2⟩, h3⟩, h4⟩, h5⟩, h6⟩ := h
      obtain rfl := seq_eq h1
      unfold isTp at h0
      split at h0
      · exact ⟨fun F W tk => p_zip (E.glob h2).1 (E.blt _ (by decide +kernel)) ((sndE _ a sc fb X _ E h5).1 F W tk) ((sndE _ b sc fb X _ E h6).1 F W tk) (by rw [star_cons h3, star_cons h4]; rfl) (by rw [star_cons h4]; rfl), fun _ _ => rfl⟩
      · cases h0
    · cases h
  | T, .rg1 a, t, tg, sc, fb, X, e, E, h => by
    simp only [chI] at h
    split at h
    · simp only [Bool.and_eq_true] at h
      obtain ⟨⟨⟨h0, h1⟩, h2⟩, h3⟩ := h
      obtain rfl := seq_eq h0
      obtain ⟨g1, g2⟩ := E.glob h1
      exact ⟨fun F W tk => p_rg1 g1 (E.blt _ (by decide +kernel)) ((sndE _ a sc fb X _ E h3).1 F W tk) (star_cons h2), fun _ _ => rfl⟩
    · cases h
  | T, .rg2 a b, t, tg, sc, fb, X, e, E, h => by
    simp only [chI] at h
    split at h
    · simp only [Bool.and_eq_true] at h
      obtain ⟨⟨⟨⟨⟨h0, h1⟩, h2⟩, h3⟩, h4⟩, h5⟩ := h
      obtain rfl := seq_eq h0
      obtain ⟨g1, g2⟩ := E.glob h1
      exact ⟨fun F W tk => p_rg2 g1 (E.blt _ (by decide +kernel)) ((sndE _ a sc fb X _ E h4).1 F W tk) ((sndE _ b sc fb X _ E h5).1 F W tk) (by rw [star_cons h2, star_cons h3]; rfl) (by rw [star_cons h3]; rfl), fun _ _ => rfl⟩
    · cases h
end
end
end Ev
/-! # Ev, part 13: the check of statements; its soundness. -/
namespace Ev
open PySem PySem.Spec
open L2 (V Hp HO upd SqL SqT Rd Cx Inv PE PT PW PA PS PSs PG PGs PI PK VK TE TT TA TS TG TGs TI Ends RelV Vals It Dp DpAll OpR UnR CallR TruR IxR SlR MtR EP TP AP SP Room Env0 CE)

/-! ### stores -/
def isComp : Expr → Bool
  | .ListComp .. => true
  | .SetComp .. => true
  | .DictComp .. => true
  | _ => false
theorem swapsWith_no {e : Expr} {t : Option Expr} {l : Nat} {env : Env} (h : isComp e = false) : swapsWith e t l env = pure false := by
  unfold swapsWith
  cases e <;> first | rfl | cases h
def swB (sc : Scope) (y : Str) (py : Pos) (scope : Scope) (pos : Pos) : Bool := (match lk sc.names y with
  | some .local => true
  | _ => false) && py.line == pos.line && !(scope.names.any fun (n, k) => n == y && (k == .local || k == .cell))
def swT (sc : Scope) (ts vs : List Expr) : Option (Option (List Str)) :=
  if !(ts.length == 2 || ts.length == 3) || vs.length != ts.length then some none
  else if (vs.any fun | .Starred .. => true | _ => false) = true then some none
  else
    let line := (ts.head?.map (·.pos.line)).getD 0
    let names := ts.filterMap fun
      | .Name id pos => if lk sc.names id == some .local && pos.line == line then some id else none
      | _ => none
    if names.length != ts.length || names.eraseDups.length != names.length then some none
    else if vs.all (foldedForSure 8) = true then some none
    else if vs.all (constantsAlone 8) = true then none
    else some (some names)
def swS (sc : Scope) (targets : List Expr) (value : Expr) : Option (Option (List Str)) := match targets, value with
  | [.Tuple ts _ _], .Tuple vs _ _ => swT sc ts vs
  | [.List ts _], .Tuple vs _ _ => swT sc ts vs
  | _, _ => some none
theorem swT_ok {sc : Scope} {env : Env} (hk : ∀ y, env.kindOf y = lk sc.names y) (hb : env.blockKind = .function) {ts vs : List Expr} {r : Option (List Str)} (h : swT sc ts vs = some r) :
    (do
      if !(ts.length == 2 || ts.length == 3) || vs.length != ts.length || env.blockKind != .function then return none
      if vs.any fun | .Starred .. => true | _ => false then return none
      let line := (ts.head?.map (·.pos.line)).getD 0
      let names := ts.filterMap fun
        | .Name id pos => if env.kindOf id == some .local && pos.line == line then some id else none
        | _ => none
      if names.length != ts.length || names.eraseDups.length != names.length then return none
      if vs.all (foldedForSure 8) then return none
      if vs.all (constantsAlone 8) then unsupported "assign.tuple-of-constant-expressions:order-of-the-stores"
      return some names : Sem (Option (List Str))) = pure r := by
  unfold swT at h
  have e1 : (env.blockKind != .function) = false := by rw [hb]; rfl
  simp only [hk, e1, Bool.or_false]
  split at h
  · rename_i q
    cases h
    rw [if_pos q]
  · rename_i q
    rw [if_neg q]
    split at h
    · rename_i q
      cases h
      rw [if_pos q]
    · rename_i q
      rw [if_neg q]
      simp only at h
      split at h
      · rename_i q
        cases h
        simp only [q]
        rfl
      · rename_i q
        simp only [q]
        split at h
        · rename_i q
          cases h
          simp only [q]
          rfl
        · rename_i q
          simp only [q]
          split at h
          · cases h
          · rename_i q
            cases h
            simp only [q]
            rfl
theorem swS_ok {sc : Scope} {env : Env} (hk : ∀ y, env.kindOf y = lk sc.names y) (hb : env.blockKind = .function) {targets : List Expr} {value : Expr} {r : Option (List Str)} (h : swS sc targets value = some r) : swappedStores targets value env = pure r := by
  unfold swS at h
  split at h
  · exact swT_ok hk hb h
  · exact swT_ok hk hb h
  · rename_i h1 h2
    cases h
    unfold swappedStores
    split
    · rename_i ts vs q
      split at q
      · exact absurd rfl (h1 _ _ _ _ _ _ rfl)
      · exact absurd rfl (h2 _ _ _ _ _ rfl)
      · cases q
    · rfl
def seqs : List Str → List Str → Bool
  | [], [] => true
  | a :: r, b :: s => seq a b && seqs r s
  | _, _ => false
theorem seqs_eq : ∀ {a b : List Str}, seqs a b = true → a = b
  | [], [], _ => rfl
  | [], _ :: _, h => by simp [seqs] at h
  | _ :: _, [], h => by simp [seqs] at h
  | a :: r, b :: s, h => by
    simp only [seqs, Bool.and_eq_true] at h
    rw [seq_eq h.1, seqs_eq h.2]
def swNone (sc : Scope) (t e : Expr) : Bool := match swS sc [t] e with
  | some none => true
  | _ => false
def swSome (sc : Scope) (t e : Expr) (ns : List Str) : Bool := match swS sc [t] e with
  | some (some ms) => seqs ms ns
  | _ => false
def lclC (N : List Str) (sc : Scope) (i : Nat) (x : Str) : Bool := nth N i x && match lk sc.names x with
  | some .local => true
  | _ => false
/-- name = [..] on one line, the name a local: stored ahead of the block's end -/
def swLc (sc : Scope) (t : Expr) (e : Expr) : Bool := match t, e with
  | .Name y py, .ListComp _ _ scope pos => swB sc y py scope pos
  | .Name y py, .SetComp _ _ scope pos => swB sc y py scope pos
  | .Name y py, .DictComp _ _ _ scope pos => swB sc y py scope pos
  | _, _ => false
def isLc : ME → Bool
  | .lc .. => true
  | _ => false
section
variable (T : TTab) (N : List Str)
def chAsg (sc : Scope) (fb : Str → Bool) (t : MT) (m : ME) (tg e : Expr) : Bool := (T.cm || isNm t) && chT N sc fb t tg && chE T N sc fb m e && (if swLc sc tg e = true then isLc m && (match t with
  | .nm _ => true
  | _ => false) else swNone sc tg e)
def chPar (sc : Scope) (fb : Str → Bool) (is : List Nat) (ms : MEs) (tg e : Expr) : Bool := match is, tg, e with
  | [i, j], .Tuple [.Name x _, .Name y _] _ _, .Tuple [a, b] _ _ => T.cm && decide (i ≠ j) && lclC N sc i x && lclC N sc j y && chEs T N sc fb ms [a, b] && swSome sc tg e [x, y]
  | [i, j, l], .Tuple [.Name x _, .Name y _, .Name z _] _ _, .Tuple [a, b, d] _ _ => T.cm && decide (i ≠ j) && decide (i ≠ l) && decide (j ≠ l) && lclC N sc i x && lclC N sc j y && lclC N sc l z && chEs T N sc fb ms [a, b, d] && swSome sc tg e [x, y, z]
  | _, _, _ => false
mutual
def chS (sc : Scope) (fb : Str → Bool) : MS → Stmt → Bool
  | .asg t m => fun st => match st with
    | .Assign [tg] e _ => chAsg T N sc fb t m tg e
    | _ => false
  | .par is ms => fun st => match st with
    | .Assign [tg] e _ => chPar T N sc fb is ms tg e
    | _ => false
  | .put o k m => fun st => match st with
    | .Assign [.Subscript oe ke _] e _ => !isComp e && chE T N sc fb o oe && chE T N sc fb k ke && chE T N sc fb m e
    | _ => false
  | .star i j m => fun st => match st with
    | .Assign [.Tuple [.Name x _, .Starred (.Name y _) _] _ _] e _ => (match e with
      | .Subscript .. => T.cm && locC N sc fb i x && locC N sc fb j y && chE T N sc fb m e
      | _ => false)
    | _ => false
  | .ex m => fun st => match st with
    | .Expr e _ => !isComp e && chE T N sc fb m e
    | _ => false
  | .iff t a b => fun st => match st with
    | .If e p q _ => chE T N sc fb t e && chSs sc fb a p && chSs sc fb b q
    | _ => false
  | .for_ t it b => fun st => match st with
    | .For tg iter body [] _ => T.cm && chT N sc fb t tg && chI T N sc fb it t tg iter && chSs sc fb b body
    | _ => false
  | .ret m => fun st => match st with
    | .Return (some e) _ => chE T N sc fb m e
    | _ => false
  | .retN => fun st => match st with
    | .Return none _ => true
    | _ => false
  | .pas => fun st => match st with
    | .Pass _ => true
    | .Expr (.Constant (.str _) _ _) _ => true
    | _ => false
  | .brk => fun st => match st with
    | .Break _ => true
    | _ => false
  | .cnt => fun st => match st with
    | .Continue _ => true
    | _ => false
  | .nvr => fun _ => true
  | .rs k es => fun st => match st with
    | .Raise (some (.Call (.Name x _) as [] _)) none _ => (match T.xs[k]? with
      | some (y, ns) => T.cm && T.ls && seq x y && globC sc x && !as.isEmpty && chEs T N sc fb es as && es.plain && decide (es.len = ns.length)
      | none => false)
    | _ => false
def chSs (sc : Scope) (fb : Str → Bool) : MSs → List Stmt → Bool
  | .nil => fun sts => sts.isEmpty
  | .cons s r => fun sts => match sts with
    | st :: sts => chS sc fb s st && chSs sc fb r sts
    | [] => false
end
end
section
variable {CT : CTab} {T : TTab} {c : Call} {k : Nat} {N : List Str} {sc : Scope} {fb : Str → Bool} {X : Cx}
theorem EC.kd (E : EC CT T c k N sc fb X) : ∀ y, X.env.kindOf y = lk sc.names y := fun y => by
  rw [lk_eq]
  show X.env.scope.names.lookup y = _
  rw [E.hs]
theorem EC.bk (E : EC CT T c k N sc fb X) (hk : sc.kind = .function) : X.env.blockKind = .function := by
  unfold Env.blockKind
  rw [E.hs, hk]
  rfl
theorem swNone_ok (E : EC CT T c k N sc fb X) (hk : sc.kind = .function) {t e : Expr} (h : swNone sc t e = true) : swappedStores [t] e X.env = pure none := by
  unfold swNone at h
  split at h
  · exact swS_ok E.kd (E.bk hk) (by assumption)
  · cases h
theorem swSome_ok (E : EC CT T c k N sc fb X) (hk : sc.kind = .function) {t e : Expr} {ns : List Str} (h : swSome sc t e ns = true) : swappedStores [t] e X.env = pure (some ns) := by
  unfold swSome at h
  split at h
  · rw [← seqs_eq h]
    exact swS_ok E.kd (E.bk hk) (by assumption)
  · cases h
theorem EC.lcl (E : EC CT T c k N sc fb X) {i : Nat} {x : Str} (h : lclC N sc i x = true) : X.N[i]? = some x ∧ X.env.scope.names.lookup x = some .local := by
  unfold lclC at h
  simp only [Bool.and_eq_true] at h
  obtain ⟨h1, h4⟩ := h
  refine ⟨by rw [E.hN]; exact nth_eq h1, ?_⟩
  rw [E.hs]
  rw [lk_eq] at h4
  split at h4
  · assumption
  · cases h4
theorem tgOne {t : MT} {tg : Expr} {env : Env} (h : chT N sc fb t tg = true) : (assignEach [tg] env).map (·.2) = [assign tg env] := by
  cases tg <;> first | rfl | (cases t <;> simp [chT] at h)
theorem swLc_no {t : MT} {tg e : Expr} {l : Nat} (E : EC CT T c k N sc fb X) (hk : sc.kind = .function) (h : chT N sc fb t tg = true) (hn : swLc sc tg e = false) : swapsWith e (some tg) l X.env = pure false := by
  by_cases hc : isComp e = false
  · exact swapsWith_no hc
  · have hb := E.bk hk
    cases t with
    | tp is =>
      cases tg with
      | Tuple es kk p =>
        cases e <;> first | rfl | exact absurd rfl hc
      | _ => simp [chT] at h
    | nm i =>
      cases tg with
      | Name y py =>
        have go : ∀ (scope : Scope) (pos : Pos), swB sc y py scope pos = false → (pure (X.env.blockKind == .function && X.env.kindOf y == some .local && py.line == pos.line && !(scope.names.any fun (n, k) => n == y && (k == .local || k == .cell))) : Sem Bool) = pure false := fun scope pos hn => by
          have z : (X.env.blockKind == .function && X.env.kindOf y == some .local && py.line == pos.line && !(scope.names.any fun (n, k) => n == y && (k == .local || k == .cell))) = false := by
            rw [← hn]
            unfold swB
            rw [hb, E.kd y]
            cases lk sc.names y with
            | none => rfl
            | some k => cases k <;> rfl
          rw [z]
        cases e with
        | ListComp elt gs scope pos => exact go scope pos hn
        | SetComp elt gs scope pos => exact go scope pos hn
        | DictComp kk vv gs scope pos => exact go scope pos hn
        | _ => exact absurd rfl hc
      | _ => simp [chT] at h
theorem chAsg_ok (E : EC CT T c k N sc fb X) (hk : sc.kind = .function) {t : MT} {m : ME} {tg e : Expr} {pos : Pos} (h : chAsg T N sc fb t m tg e = true) (F : Fm) (W : Wish) (tk : Tk CT X F W) : PS X (.Assign [tg] e pos) (tS X.K F W (ex c (.asg t m))) := by
  unfold chAsg at h
  simp only [Bool.and_eq_true] at h
  obtain ⟨⟨⟨htn, h1⟩, h2⟩, h3⟩ := h
  by_cases hw : swLc sc tg e = true
  · rw [if_pos hw] at h3
    simp only [Bool.and_eq_true] at h3
    obtain ⟨h4, h5⟩ := h3
    split at h5
    · rename_i i
      unfold isLc at h4
      split at h4
      · rename_i t it kk el
        simp only [chE] at h2
        split at h2
        · rename_i elt tg2 iter ifs scope p2
          simp only [chT] at h1
          split at h1
          · rename_i y py
            have hw : swB sc y py scope p2 = true := hw
            unfold swB at hw
            simp only [Bool.and_eq_true, Bool.not_eq_true'] at hw
            obtain ⟨⟨w1, w2⟩, w3⟩ := hw
            have hyl : X.env.scope.names.lookup y = some .local := by
              have := E.kd y
              have k2 : X.env.scope.names.lookup y = lk sc.names y := this
              rw [k2]
              split at w1
              · assumption
              · cases w1
            simp only [Bool.and_eq_true] at h2
            obtain ⟨⟨⟨⟨⟨⟨hcm, a0⟩, a1⟩, a2⟩, a3⟩, a4⟩, a5⟩ := h2
            have hi := sndI _ it t _ sc fb X _ E a2
            refine s_setLc tk.1 (E.calm hcm) E.ndX (E.loc h1).1 hyl (L2.sw_true (by rw [E.hs]; exact hk) hyl w2 w3) (hi.1 F W tk) (by rw [E.hN, E.hs]; exact L2.blkOk_by a0) (List.map_snd_zip (by rw [of_decide_eq_true a1]; exact Nat.le_refl _)) (fun s H C cl fp => chT_ok (E.blk hcm s H _ cl C fp) (by rw [hcm]; rfl) a3)
              (fun s H C cl fp => sndF _ hcm kk _ _ _ _ (E.blk hcm s H _ cl C fp) a4) (fun s H C cl fp => PE.vx (noTk ((E.blk hcm s H _ cl C fp).calm hcm) (sndE _ el _ _ _ _ (E.blk hcm s H _ cl C fp) a5).1)) (hi.2 _)
          · cases h1
        · cases h2
      · cases h4
    · cases h5
  · rw [if_neg hw] at h3
    have hw' : swLc sc tg e = false := by simpa using hw
    exact s_asg ((sndE _ m sc fb X _ E h2).1 F W tk) (chT_ok E htn h1) (swLc_no E hk h1 hw') (swNone_ok E hk h3) (tgOne h1)
theorem sndRs (E : EC CT T c k N sc fb X) (hcm : T.cm = true) : ∀ (ms : MEs) (es : List Expr), chEs T N sc fb ms es = true → ∀ F W, Tk CT X F W → PA X es (tRs X.K F W (evsR c ms))
  | .nil, es, h, F, W, tk => by
    simp only [chEs, List.isEmpty_iff] at h
    subst h
    exact rs_nil
  | .cons m r, es, h, F, W, tk => by
    simp only [chEs] at h
    split at h
    · simp only [Bool.and_eq_true] at h
      obtain ⟨⟨h0, h1⟩, h2⟩ := h
      have p2 := sndRs E hcm r _ h2
      exact rs_cons tk.1 ((sndE _ m sc fb X _ E h1).1 F W tk) (p2 F W tk) (noTk (E.calm hcm) p2) (star_cons h0)
    · cases h
  | .star m r, es, h, F, W, tk => rs_star
theorem chPar_ok (E : EC CT T c k N sc fb X) (hk : sc.kind = .function) {is : List Nat} {ms : MEs} {tg e : Expr} {pos : Pos} (h : chPar T N sc fb is ms tg e = true) (F : Fm) (W : Wish) (tk : Tk CT X F W) : PS X (.Assign [tg] e pos) (tS X.K F W (ex c (.par is ms))) := by
  unfold chPar at h
  split at h
  · simp only [Bool.and_eq_true] at h
    obtain ⟨⟨⟨⟨⟨hcm, h1⟩, h2⟩, h3⟩, h4⟩, h5⟩ := h
    exact s_par (E.calm hcm) E.ndX (E.lcl h2).1 (E.lcl h3).1 (of_decide_eq_true h1) (E.lcl h2).2 (E.lcl h3).2 (sndRs E hcm ms _ h4 F W tk) (swSome_ok E hk h5) rfl
  · simp only [Bool.and_eq_true] at h
    obtain ⟨⟨⟨⟨⟨⟨⟨⟨hcm, h1⟩, h2⟩, h3⟩, h4⟩, h5⟩, h6⟩, h7⟩, h8⟩ := h
    exact s_par3 (E.calm hcm) E.ndX (E.lcl h4).1 (E.lcl h5).1 (E.lcl h6).1 (of_decide_eq_true h1) (of_decide_eq_true h2) (of_decide_eq_true h3) (E.lcl h4).2 (E.lcl h5).2 (E.lcl h6).2 (sndRs E hcm ms _ h7 F W tk) (swSome_ok E hk h8) rfl
  · cases h
mutual
theorem sndS (hk : sc.kind = .function) (hp : PassesOwn (model X.prog X.w) X.A X.env X.xe) (E : EC CT T c k N sc fb X) (F : Fm) (W : Wish) (tk : Tk CT X F W) : ∀ (s : MS) (st : Stmt), chS T N sc fb s st = true → PS X st (tS X.K F W (ex c s))
  | .asg t m, st, h => by
    simp only [chS] at h
    split at h
    · exact chAsg_ok E hk h F W tk
    · cases h
  | .par is ms, st, h => by
    simp only [chS] at h
    split at h
    · exact chPar_ok E hk h F W tk
    · cases h
  | .put o kk m, st, h => by
    simp only [chS] at h
    split at h
    · simp only [Bool.and_eq_true, Bool.not_eq_true'] at h
      obtain ⟨⟨⟨h0, h1⟩, h2⟩, h3⟩ := h
      exact s_put tk.1 E.u64 (op_ok E h1 (sndE _ o sc fb X _ E h1) F W tk) (op_ok E h2 (sndE _ kk sc fb X _ E h2) F W tk) ((sndE _ m sc fb X _ E h3).1 F W tk) (swapsWith_no h0)
    · cases h
  | .star i j m, st, h => by
    simp only [chS] at h
    split at h
    · split at h
      · simp only [Bool.and_eq_true] at h
        obtain ⟨⟨⟨hcm, h0⟩, h1⟩, h2⟩ := h
        obtain ⟨n1, n2, n3⟩ := E.loc h0
        obtain ⟨k1, k2, k3⟩ := E.loc h1
        exact s_star (E.calm hcm) ((sndE _ m sc fb X _ E h2).1 F W tk) (L2.pg_name E.ndX n1 n2 n3) (L2.pg_name E.ndX k1 k2 k3) rfl rfl rfl rfl
      · cases h
    · cases h
  | .ex m, st, h => by
    simp only [chS] at h
    split at h
    · simp only [Bool.and_eq_true, Bool.not_eq_true'] at h
      exact s_ex ((sndE _ m sc fb X _ E h.2).1 F W tk) (swapsWith_no h.1)
    · cases h
  | .iff t a b, st, h => by
    simp only [chS] at h
    split at h
    · simp only [Bool.and_eq_true] at h
      obtain ⟨⟨h0, h1⟩, h2⟩ := h
      exact s_iff ((sndE _ t sc fb X _ E h0).2.1 F W tk) (sndSs hk hp E F W tk a _ h1) (sndSs hk hp E F W tk b _ h2)
    · cases h
  | .for_ t it b, st, h => by
    simp only [chS] at h
    split at h
    · rename_i tg iter body _
      simp only [Bool.and_eq_true] at h
      obtain ⟨⟨⟨hcm, h0⟩, h1⟩, h2⟩ := h
      have hi := sndI _ it t tg sc fb X _ E h1
      exact s_for hp (E.calm hcm) (hi.1 F W tk) (chT_ok E (by rw [hcm]; rfl) h0) (sndSs hk hp E F W tk b _ h2) (hi.2 _)
    · cases h
  | .ret m, st, h => by
    simp only [chS] at h
    split at h
    · refine s_ret ?_
      by_cases hv : ∃ i, m = .var i
      · obtain ⟨i, rfl⟩ := hv
        simp only [chE] at h
        split at h
        · obtain ⟨h1, h2, h3, h4⟩ := E.vis h
          exact e_retV h1 h2 h3 h4
        · cases h
      · exact e_ret ((sndE _ m sc fb X _ E h).1 F W tk) fun i q => hv ⟨i, q⟩
    · cases h
  | .retN, st, h => by
    simp only [chS] at h
    split at h
    · exact s_retN
    · cases h
  | .pas, st, h => by
    simp only [chS] at h
    split at h
    · exact s_pas
    · exact s_doc
    · cases h
  | .brk, st, h => by
    simp only [chS] at h
    split at h
    · exact s_brk
    · cases h
  | .cnt, st, h => by
    simp only [chS] at h
    split at h
    · exact s_cnt
    · cases h
  | .nvr, st, h => s_nvr
  | .rs kk es, st, h => by
    simp only [chS] at h
    split at h
    · split at h
      · rename_i x p as p1 p2 _ y ns hx
        simp only [Bool.and_eq_true, Bool.not_eq_true'] at h
        obtain ⟨⟨⟨⟨⟨⟨⟨hcm, hls⟩, h0⟩, h1⟩, h2⟩, h3⟩, h4⟩, h5⟩ := h
        obtain rfl := seq_eq h0
        have LS := E.ls hls
        obtain ⟨C, hT, hm, M⟩ := LS.xc _ _ _ hx
        obtain ⟨fI, i1, i2, i3⟩ := M.ini
        obtain ⟨g1, g2⟩ := E.glob h1
        have p := sndEs _ es sc fb X _ E h3
        have st := p.2.2 h4
        cases as with
        | nil => cases h2
        | cons z zs =>
          simp only [List.all_cons, Bool.and_eq_true] at st
          exact s_rs tk (E.calm hcm) hT (of_decide_eq_true h5) h4 M.nd (pmkX M.T i1 i2 i3 (LS.room.mono (by omega)) g1 hm (p.1 F W tk) M.len g2 ⟨z, zs, rfl, star_cons st.1, star_any st.2⟩)
      · cases h
    · cases h
theorem sndSs (hk : sc.kind = .function) (hp : PassesOwn (model X.prog X.w) X.A X.env X.xe) (E : EC CT T c k N sc fb X) (F : Fm) (W : Wish) (tk : Tk CT X F W) : ∀ (s : MSs) (sts : List Stmt), chSs T N sc fb s sts = true → PSs X sts (tS X.K F W (exs c s))
  | .nil, sts, h => by
    simp only [chSs, List.isEmpty_iff] at h
    subst h
    exact ss_nil
  | .cons s r, sts, h => by
    simp only [chSs] at h
    split at h
    · simp only [Bool.and_eq_true] at h
      exact ss_cons (sndS hk hp E F W tk s _ h.1) (sndSs hk hp E F W tk r _ h.2)
    · cases h
end
end
end Ev
/-! # Ev: a def's start. -/
namespace Ev
open PySem PySem.Spec
open L2 (V Hp HO upd SqL SqT Rd Cx Inv PE PT PW PA PS PSs PG PGs PI PK VK TE TT TA TS TG TGs TI Ends RelV Vals It Dp DpAll OpR UnR CallR TruR IxR SlR MtR EP TP AP SP Room Env0 CE)

/-! ### a def's start -/
theorem start_slots {K : PySem.W.Frag} {Z : Addr → Prop} {ms : List Addr} {H : Hp} {as : List PV} {xs : List V} (d : Dens K Z ms H as xs) {n i : Nat} {v : PV} (e : (as.map Slot.val ++ List.replicate n .no)[i]? = some (.val v)) :
    ∀ N : List Str, (L2.start N xs)[i]? = ((xs[i]?).map some).map id ∧ ∃ x, xs[i]? = some x ∧ Den K Z ms H v x := by
  intro N
  by_cases hi : i < as.length
  · rw [List.getElem?_append_left (by simpa using hi), List.getElem?_map] at e
    cases q : as[i]? with
    | none => rw [q] at e; cases e
    | some a =>
      rw [q] at e
      cases e
      obtain ⟨x, e1, e2⟩ := d.get q
      refine ⟨?_, x, e1, e2⟩
      unfold L2.start
      rw [List.getElem?_append_left (by rw [List.length_map, d.length]; exact hi), List.getElem?_map, e1]
      rfl
  · rw [List.getElem?_append_right (by simpa using hi), List.getElem?_replicate] at e
    split at e <;> cases e
theorem start_own {as : List PV} {n i : Nat} {ys : List PV} : (as.map Slot.val ++ List.replicate n .no)[i]? ≠ some (.own ys) := by
  intro e
  by_cases hi : i < as.length
  · rw [List.getElem?_append_left (by simpa using hi), List.getElem?_map] at e
    cases q : as[i]? with
    | none => rw [q] at e; cases e
    | some a => rw [q] at e; cases e
  · rw [List.getElem?_append_right (by simpa using hi), List.getElem?_replicate] at e
    split at e <;> cases e
theorem start_x {as : List PV} {n i : Nat} : (as.map Slot.val ++ List.replicate n .no)[i]? ≠ some .x := by
  intro e
  by_cases hi : i < as.length
  · rw [List.getElem?_append_left (by simpa using hi), List.getElem?_map] at e
    cases q : as[i]? with
    | none => rw [q] at e; cases e
    | some a => rw [q] at e; cases e
  · rw [List.getElem?_append_right (by simpa using hi), List.getElem?_replicate] at e
    split at e <;> cases e
/-- the frame of a def's body: all but the cells -/
noncomputable def fm0 (w : World) (Z : Addr → Prop) (ms : List Addr) (H : Hp) : Fm := ⟨fun a => if a ∈ ms then none else H a, Z, w, none⟩
theorem start_rel {K : PySem.W.Frag} {Z : Addr → Prop} {ms : List Addr} {H : Hp} {hp : List Cell} {as : List PV} {xs : List V} {N : List Str} {w : World} (ok : HpOk K w Z ms hp H) (d : Dens K Z ms H as xs) (hl : as.length ≤ N.length) :
    Rel K (fm0 w Z ms H) Z ms ⟨as.map Slot.val ++ List.replicate (N.length - as.length) .no, hp⟩ (L2.start N xs) H := by
  refine ⟨?_, fun i v e => ?_, fun i ys e => absurd e start_own, fun i j ys zs a e => absurd e start_own, ok.cn, ok.cl, ok.nd, fun a ha => ⟨ok.mz a ha, if_pos ha⟩, fun a z => .inl z, fun a z => z, ok.zs, fun a o e => ?_, fun i e => absurd e start_x⟩
  · unfold L2.start
    simp [d.length]
  · obtain ⟨h1, x, h2, h3⟩ := start_slots d e N
    rw [h2] at h1
    exact ⟨x, h1, h3⟩
  · have e' : (if a ∈ ms then none else H a) = some o := e
    split at e'
    · cases e'
    · exact e'
theorem lft_of {xo : Option Addr} {K : PySem.W.Frag} {Z Z' : Addr → Prop} {ms ms' : List Addr} {H H' : Hp} {g : G} {σ : L2.St} {w : World} (l : Le Z ms H Z' ms' H') (R : Rel K { fm0 w Z ms H with xo := xo } Z' ms' g σ H') : Lft K w Z ms H Z' ms' g.hp H' := by
  have fn : ∀ {a : Addr}, (fm0 w Z ms H).F a = none → a ∈ ms ∨ H a = none := fun {a} e => by
    have e' : (if a ∈ ms then none else H a) = none := e
    split at e'
    · exact .inl (by assumption)
    · exact .inr e'
  have sub : ∀ {a : Addr}, a ∈ ms → a ∈ ms' := fun {a} h => by
    obtain ⟨r, rfl⟩ := l.m
    exact List.mem_append_left _ h
  refine ⟨l, fun a o e n => R.fr a o ?_, fun a z => ?_, fun a h => fn (R.mz a h).2, R.hpOk⟩
  · show (if a ∈ ms then none else H a) = some o
    rw [if_neg n]
    exact e
  · rcases R.zf a z with h | h
    · exact .inl h
    · rcases fn h with q | q
      · exact absurd z (R.mz a (sub q)).1
      · exact .inr q
theorem pay_of {xo : Option Addr} {K : PySem.W.Frag} {Z Z' : Addr → Prop} {ms ms' : List Addr} {H H' : Hp} {g : G} {σ : L2.St} {r : Res} {x : V} {w : World} (l : Le Z ms H Z' ms' H') (R : Rel K { fm0 w Z ms H with xo := xo } Z' ms' g σ H') (ok : ResOk K { fm0 w Z ms H with xo := xo } Z' ms' g σ H' r x) : Pay K w Z ms H Z' ms' g.hp H' r x := by
  have fn : ∀ {a : Addr}, (fm0 w Z ms H).F a = none → a ∈ ms ∨ H a = none := fun {a} e => by
    have e' : (if a ∈ ms then none else H a) = none := e
    split at e'
    · exact .inl (by assumption)
    · exact .inr e'
  have sub : ∀ {a : Addr}, a ∈ ms → a ∈ ms' := fun {a} h => by
    obtain ⟨r, rfl⟩ := l.m
    exact List.mem_append_left _ h
  refine ⟨lft_of l R, ?_⟩
  cases r with
  | val v => exact ok
  | new xs =>
    obtain ⟨a, vs, h1, h2, h3, h4, h5, h6, _⟩ := ok
    refine ⟨a, vs, h1, h2, h3, h4, h5, ?_⟩
    rcases fn h6 with q | q
    · exact absurd (sub q) h5
    · exact q
end Ev
/-! # Ev: a def that is called while an error is handled, and asks of it. -/
namespace Ev
open PySem PySem.Spec PyProof.Rows
open L2 (V Hp HO upd Cx Inv PE PT PA PS PSs VK TE TS Ends RelV Vals EP SP Room Env0 CE)
/-- an answer: a class's truth, an argument -/
inductive HA where | b (v : Bool) | a (j : Nat) | no
/-- what is asked, and the answers by class -/
structure HX where
  hn : Str
  hq : List HQ
  ans : List (List HA)
def hotC (h : HX) (x : EX) : Call := fun i _ _ hp => match (h.ans[x.cls]?).bind (·[i]?) with
  | some (.b v) => some (.ret (.val (.bl v)), hp)
  | some (.a j) => (x.args[j]?).bind fun v => if v.pure = true then some (.ret (.val v), hp) else none
  | _ => none
/-- a handler's run: slot 0 holds the error -/
def runH (c : Call) (d : FD) (hp : List Cell) : Option (Out × List Cell) := match exs c d.body ⟨Slot.x :: List.replicate (d.m - 1) .no, hp⟩ with
  | .ok (.ret r) g => some (.ret r, g.hp)
  | .ok .nx g => some (.ret (.val .non), g.hp)
  | _ => none
/-! ### data that are told of no cell -/
/-- what may change, cells aside -/
structure LeP (Z : Addr → Prop) (H : Hp) (Z' : Addr → Prop) (H' : Hp) : Prop where
  z : ∀ a, Z a → Z' a
  zh : ∀ a xs, Z a → H a = some (.lst xs) → H' a = some (.lst xs)
  f : ∀ a o u, H a = some (.frz o u) → H' a = some (.frz o u)
section
variable {K : PySem.W.Frag} {Z Z' : Addr → Prop} {ms ms' : List Addr} {H H' : Hp}
mutual
theorem Den.monoP (l : LeP Z H Z' H') : ∀ (y : PV) (x : V), y.pure = true → Den K Z ms H y x → Den K Z' ms' H' y x
  | .non, x, _, h => by simp only [Den] at h ⊢; exact h
  | .bl b, x, _, h => by simp only [Den] at h ⊢; exact h
  | .int i, x, _, h => by simp only [Den] at h ⊢; exact h
  | .str s, x, _, h => by simp only [Den] at h ⊢; exact h
  | .tup ys, x, p, h => by
    simp only [PV.pure] at p
    simp only [Den] at h ⊢
    obtain ⟨a, vs, e, h1, h2⟩ := h
    refine ⟨a, vs, e, ?_, Dens.monoP l ys vs p h2⟩
    rcases h1 with ⟨o, h⟩ | h
    · exact .inl ⟨o, l.f a _ _ h⟩
    · exact .inr h
  | .lst ys, x, p, h => by
    simp only [PV.pure] at p
    simp only [Den] at h ⊢
    obtain ⟨a, vs, e, hz, h1, h2⟩ := h
    exact ⟨a, vs, e, l.z a hz, l.zh a vs hz h1, Dens.monoP l ys vs p h2⟩
  | .fz ns, x, p, h => by cases p
  | .ref n, x, p, h => by cases p
  | .ty t, x, p, h => by cases p
theorem Dens.monoP (l : LeP Z H Z' H') : ∀ (ys : List PV) (vs : List V), PV.pures ys = true → Dens K Z ms H ys vs → Dens K Z' ms' H' ys vs
  | [], vs, _, h => by simp only [Dens] at h ⊢; exact h
  | y :: ys, vs, p, h => by
    simp only [PV.pures, Bool.and_eq_true] at p
    simp only [Dens] at h ⊢
    obtain ⟨v, r, e, h1, h2⟩ := h
    exact ⟨v, r, e, Den.monoP l y v p.1 h1, Dens.monoP l ys r p.2 h2⟩
end
end
/-- what the written part says of a class that is asked for -/
def HaOk (K : PySem.W.Frag) (mg : Str → Option Value) (C : Addr) (ns : List Str) : HQ → HA → Prop
  | .isa D, .b v => ∃ (cv : Value) (x : V), (mg D = some cv ∨ (mg D = none ∧ bootBuiltins D = some cv ∧ D ≠ "__name__")) ∧ RelV x cv ∧ (∀ u, RelV x u → u = cv) ∧ PySem.W.kitOne K (.ref C) cv = some v
  | .fld f, .a j => ns[j]? = some f ∧ PySem.W.findIn K (.ref C) f = some none
  | _, .no => True
  | _, _ => False
structure HotDef (CT : CTab) (K : PySem.W.Frag) (mg : Str → Option Value) (T : TTab) (fd : FD) (h : HX) (rn : Str) : Prop where
  ex : ∃ (f : Addr) (name qual : Str) (params : Arguments) (body : List Stmt) (scope : Scope) (dV kV doc pm cdv ct oc : Value) (an od : Option Addr) (osl : Array (Option Value)) (N : List Str),
    K.lookup f = some ⟨oc, od, .func (PySem.W.fnOf name qual params body scope dV kV doc pm an cdv ct), osl⟩ ∧ PySem.W.codeIn K cdv qual = true ∧ mg rn = some (.ref f) ∧ L2.FnScope N [h.hn] scope ∧ fd.m = N.length ∧
    chSs { T with cm := false, ls := false, hn := h.hn, hs := 0, hq := h.hq } N scope (fun _ => true) fd.body body = true ∧
    ∀ u : Value, bindArgs (PySem.W.fnOf name qual params body scope dV kV doc pm an cdv ct) ⟨[u], []⟩ = pure ([h.hn].zip [u])
  ha : ∀ i C ns, CT i = some (C, ns) → L2.ExcC K C ∧ L2.XfC K C ∧ ∀ (l : List HA), h.ans[i]? = some l → ∀ (j : Nat) a q, l[j]? = some a → h.hq[j]? = some q → HaOk K mg C ns q a
theorem pe_named {X : Cx} {D : Str} {p : Pos} {cv : Value} {x : V} (hg : L2.Gl X D) (hd : (D == ("__debug__" : Str)) = false) (hm : X.mg D = some cv ∨ (X.mg D = none ∧ bootBuiltins D = some cv ∧ D ≠ "__name__")) (r : RelV x cv) : PE X (.Name D p) (L2.tC x) := by
  refine ⟨fun pins s σ H Q I h => ?_⟩
  rcases hm with hm | ⟨hm, hb, hn⟩
  · exact L2.ld_glob I hg hm ⟨x, H, I, r, h⟩ hd
  · exact L2.ld_blt I hg hm hb ⟨x, H, I, r, h⟩ hn hd
theorem hot_start {K : PySem.W.Frag} {Z : Addr → Prop} {ms : List Addr} {H : Hp} {hp : List Cell} {N : List Str} {w : World} {a : Addr} (ok : HpOk K w Z ms hp H) (hl : 1 ≤ N.length) :
    Rel K { fm0 w Z ms H with xo := some a } Z ms ⟨Slot.x :: List.replicate (N.length - 1) .no, hp⟩ (L2.start N [.ref a]) H := by
  have out : ∀ {i : Nat} {s : Slot}, (Slot.x :: List.replicate (N.length - 1) Slot.no)[i]? = some s → s = .no ∨ (s = .x ∧ i = 0) := fun {i s} e => by
    cases i with
    | zero => exact .inr ⟨(Option.some.inj e).symm, rfl⟩
    | succ i =>
      rw [List.getElem?_cons_succ, List.getElem?_replicate] at e
      split at e
      · exact .inl (Option.some.inj e).symm
      · cases e
  refine ⟨?_, fun i v e => ?_, fun i ys e => ?_, fun i j ys zs a e => ?_, ok.cn, ok.cl, ok.nd, fun a ha => ⟨ok.mz a ha, if_pos ha⟩, fun a z => .inl z, fun a z => z, ok.zs, fun a o e => ?_, fun i e => ?_⟩
  · unfold L2.start
    simp
  · rcases out e with z | ⟨z, _⟩ <;> cases z
  · rcases out e with z | ⟨z, _⟩ <;> cases z
  · rcases out e with z | ⟨z, _⟩ <;> cases z
  · have e' : (if a ∈ ms then none else H a) = some o := e
    split at e'
    · cases e'
    · exact e'
  · rcases out e with z | ⟨_, rfl⟩
    · cases z
    · exact ⟨a, rfl, rfl⟩
/-- the answer is the error's -/
theorem hot_ask {CT : CTab} {X : Cx} {N : List Str} {sc : Scope} {T : TTab} {h : HX} {x : EX} {p : Addr × Obj} {C dx : Addr} {ns : List Str} {fs : List (Str × V)} {vs : List V} {Z0 : Addr → Prop} {ms0 : List Addr} {H0 : Hp} {w : World} {hp0 : List Cell} {e : Expr} {i : Nat} {F : Fm} {W : Wish}
    (hC : CT.ct x.cls = some (C, ns)) (ha : ∀ i C ns, CT i = some (C, ns) → L2.ExcC X.K C ∧ L2.XfC X.K C ∧ ∀ (l : List HA), h.ans[i]? = some l → ∀ (j : Nat) a q, l[j]? = some a → h.hq[j]? = some q → HaOk X.K X.mg C ns q a)
    (hpn : p ∈ X.pn) (hz : L2N.Zn (.ref C) (some dx) p.2) (hf : ∃ vs, p.2.data = .fields vs) (hdx : H0 dx = some (.xd fs)) (hdm : dx ∉ ms0) (hlen : vs.length = ns.length) (dA : Dens X.K Z0 ms0 H0 x.args vs) (hfs : ∀ n v, (n, v) ∈ ns.zip vs → fs.lookup n = some v)
    (ok : HpOk X.K w Z0 ms0 hp0 H0) (hF : F = { fm0 w Z0 ms0 H0 with xo := some p.1 }) (hq : T.hq = h.hq) (hblt : X.mg "isinstance" = none)
    (hvis : ∀ {i y}, visC N sc i y = true → X.N[i]? = some y ∧ L2.Vis X.env.scope y ∧ (y == ("__debug__" : Str)) = false ∧ (y == ("__classdict__" : Str)) = false) (hglob : ∀ {y}, globC sc y = true → L2.Gl X y ∧ (y == ("__debug__" : Str)) = false)
    (he : hotE T N sc i e = true) : PE X e (tE X.K F W (ev (hotC h x) (.hx T.hs i))) := by
  obtain ⟨hX, hXf, hA⟩ := ha _ _ _ hC
  have key : ∀ {σ : L2.St} {H : Hp} {Q : VK}, tE X.K F W (ev (hotC h x) (.hx T.hs i)) σ H Q → σ[T.hs]? = some (some (.ref p.1)) ∧ H dx = some (.xd fs) ∧ ∃ l a, h.ans[x.cls]? = some l ∧ l[i]? = some a ∧
      match a with
      | .b v => Q (.bl v) H
      | .a j => ∃ v, vs[j]? = some v ∧ Q v H
      | .no => False := by
    intro σ H Q ⟨Z, ms, g, R, S⟩
    rw [ev_hx] at S
    unfold hxV at S
    split at S
    case h_2 => exact S.elim
    rename_i hsl
    obtain ⟨a0, e1, e2⟩ := R.xs _ hsl
    rw [hF] at e1
    cases e1
    have fr : ∀ {b : Addr} {o : HO}, H0 b = some o → b ∉ ms0 → H b = some o := fun {b o} z n => R.fr b o (by
      rw [hF]
      exact (if_neg n).trans z)
    refine ⟨e2, fr hdx hdm, ?_⟩
    unfold callC hotC at S
    cases hl : h.ans[x.cls]? with
    | none => simp only [hl, Option.bind_none] at S; exact S.elim
    | some l =>
      simp only [hl, Option.bind_some] at S
      cases hi : l[i]? with
      | none => simp only [hi] at S; exact S.elim
      | some a =>
        refine ⟨l, a, rfl, hi, ?_⟩
        simp only [hi] at S
        cases a with
        | no => exact S.elim
        | b v => exact S Z ms H .refl R (.bl v) (by simp only [ResOk, Den])
        | a j =>
          cases hj : x.args[j]? with
          | none => simp only [hj, Option.bind_none] at S; exact S.elim
          | some y =>
            simp only [hj, Option.bind_some] at S
            by_cases hp : y.pure = true
            · simp only [hp, if_true] at S
              obtain ⟨v, v1, v2⟩ := dA.get hj
              have nm : ∀ {b : Addr} {o : HO}, H0 b = some o → (∀ q : Prop, (∃ xs, o = .lst xs) ∨ (∃ u xs, o = .frz u xs) → True) → True := fun _ _ => trivial
              refine ⟨v, v1, S Z ms H .refl R v ?_⟩
              refine Den.monoP (ms := ms0) ⟨fun b z => R.zz b (by rw [hF]; exact z), fun b xs z e => fr e fun m => ok.mz b m z, fun b o u e => ?_⟩ y v hp v2
              refine fr e fun m => ?_
              obtain ⟨n, hn, q⟩ := List.getElem_of_mem m
              have hn' : n < hp0.length := by rw [← ok.cn]; exact hn
              have ce := ok.cl n hp0[n] b (List.getElem?_eq_some_iff.mpr ⟨hn', rfl⟩) (List.getElem?_eq_some_iff.mpr ⟨hn, q⟩)
              obtain ⟨o', ho'⟩ := ce.at
              rw [e] at ho'
              exact (ce.obj e).2 _ _ rfl
            · simp only [hp] at S
              exact S.elim
  unfold hotE at he
  rw [hq] at he
  split at he
  · rename_i D f pf y py D' pD pe hqi
    simp only [Bool.and_eq_true] at he
    obtain ⟨⟨⟨⟨⟨h0, h1⟩, h2⟩, h3⟩, h4⟩, h5⟩ := he
    obtain rfl := seq_eq h0
    obtain rfl := seq_eq h4
    obtain ⟨v1, v2, v3, v4⟩ := hvis h3
    obtain ⟨g1, g2⟩ := hglob h5
    refine ⟨fun pins s σ H Q I q => ?_⟩
    obtain ⟨k1, k2, l, a, k3, k4, k5⟩ := key q
    have ho := hA l k3 i a _ k4 hqi
    cases a with
    | a j => exact ho.elim
    | no => exact k5.elim
    | b v =>
      obtain ⟨cv, x0, n1, n2, n3, n4⟩ := ho
      exact (L2.pe_callB (is_x (a := p.1) (oe := p.2) hpn hX hz.zc hf) (hglob h1).1 hblt (by decide +kernel) (L2.pa_cons (L2.pe_var v1 v2 v3 v4) (L2.pa_cons (pe_named g1 g2 n1 n2) L2.pa_nil)) (by decide +kernel) (by decide +kernel) rfl rfl).run pins s σ H Q I
        ⟨.ref p.1, k1, x0, cv, v, fs, rfl, n3, n4, k2, k5⟩
  · rename_i f y py g pe hqi
    simp only [Bool.and_eq_true] at he
    obtain ⟨⟨h2, h3⟩, h4⟩ := he
    obtain rfl := seq_eq h4
    obtain ⟨v1, v2, v3, v4⟩ := hvis h3
    refine ⟨fun pins s σ H Q I q => ?_⟩
    obtain ⟨k1, k2, l, a, k3, k4, k5⟩ := key q
    have ho := hA l k3 i a _ k4 hqi
    cases a with
    | b v => exact ho.elim
    | no => exact k5.elim
    | a j =>
      obtain ⟨v, k5, k6⟩ := k5
      obtain ⟨n1, n2⟩ := ho
      refine (fld_x (a := p.1) (oe := p.2) hpn hXf n2 hz.zc hf (L2.pe_var v1 v2 v3 v4) rfl).run pins s σ H Q I ⟨.ref p.1, k1, rfl, fs, v, k2, hfs _ _ ?_, k6⟩
      exact List.mem_of_getElem? (i := j) (by rw [List.getElem?_zip_eq_some]; exact ⟨n1, k5⟩)
  · cases he
/-- the handler's contract -/
theorem hot_ok {CT : CTab} {P : Program} {w : World} {K : PySem.W.Frag} {mg : Str → Option Value} {base : Heap} {T : TTab} {fd : FD} {h : HX} {rn : Str} (HD : HotDef CT K mg T fd h rn) (hmb : ∀ x ∈ bltNames, mg x = none) (hgl : ∀ p ∈ T.gl, GlOk K mg p.1 p.2) :
    HotOk CT P w K mg base rn (fun as bs hp => match bs with
      | [.int (.ofNat n)] => runH (hotC h ⟨n, as⟩) fd hp
      | _ => none) := by
  obtain ⟨f, name, qual, params, body, scope, dV, kV, doc, pm, cdv, ct, oc, an, od, osl, N, lk, hcd, hm, FS, hM, hch, hb⟩ := HD.ex
  refine ⟨f, hm, ?_, fun A outer s H p x cls d Z ms hp o hp' hr hgd hpin hz hfd xd e0 ok hrun => ?_⟩
  · unfold PySem.W.keepIn
    simp only [lk]
  have hrun : runH (hotC h x) fd hp = some (o, hp') := hrun
  obtain ⟨C, ns, dx, fs, vs, hT, rfl, rfl, hdx, hdm, hdz, hlen, dA, hfs⟩ := xd
  have KX : K.In s.heap := e0.mod.kin.keeps fun b o e => (e0.bs b o e).1
  have lim : s.heap.NoLimit := e0.mod.nolimit.keeps fun b o e => (e0.bs b o e).1
  have hN1 : 1 ≤ N.length := by
    have := congrArg List.length FS.pre
    rw [List.length_take] at this
    simp at this
    omega
  -- the run in the evaluator
  obtain ⟨r, rfl, hex⟩ : ∃ r, o = .ret r ∧ ∃ fl g, exs (hotC h x) fd.body ⟨Slot.x :: List.replicate (N.length - 1) .no, hp⟩ = .ok fl g ∧ g.hp = hp' ∧ (fl = .ret r ∨ (fl = .nx ∧ r = .val .non)) := by
    unfold runH at hrun
    rw [hM] at hrun
    cases q : exs (hotC h x) fd.body ⟨Slot.x :: List.replicate (N.length - 1) .no, hp⟩ with
    | bad => rw [q] at hrun; cases hrun
    | exc y g => rw [q] at hrun; cases hrun
    | ok fl g =>
      rw [q] at hrun
      cases fl with
      | ret r =>
        cases hrun
        exact ⟨r, rfl, _, g, rfl, rfl, .inl rfl⟩
      | nx =>
        cases hrun
        exact ⟨_, rfl, _, g, rfl, rfl, .inr ⟨rfl, rfl⟩⟩
      | brk => cases hrun
      | cnt => cases hrun
  refine ⟨r, rfl, ?_⟩
  obtain ⟨fl, g, hex, rfl, hfl⟩ := hex
  have hkind : ∀ y ∈ [h.hn].zip [Value.ref p.1], scope.names.lookup y.1 = some .local ∨ (scope.names.lookup y.1 = some .cell ∧ ((cellsFrom (s.heap.objs.size + 1) scope.names []).lookup y.1).isSome = true) := fun ⟨n, v⟩ hy => by
    rcases FS.par n (List.of_mem_zip hy).1 with q | q
    · exact .inl q
    · exact .inr ⟨q, PySem.W.cellsFrom_some _ _ _ (.inl q)⟩
  refine codeAny_call_function hr.depth (KX _ _ lk) rfl FS.co FS.gen rfl (PySem.W.codeRec_of KX hcd) (BindsTo.of_eq (hb (.ref p.1)) _ _ _ _ ?_)
  refine wpAny_newFunctionEnv_cells FS.kind hkind fun env he s1 y => ?_
  subst he
  refine ⟨lim.keeps y.toInCall.keep, codeAny_func ?_⟩
  generalize hX : L2H.cxH (L2N.CX P w) P w K mg base N qual scope f cdv A outer s H (fun _ _ _ => False) p = X
  have I : Inv X [] (L2.start N [.ref p.1]) H s1 := by
    rw [← hX]
    exact L2H.inv_startH FS hpin e0 rfl (.cons rfl .nil) y
  generalize hT' : ({ T with cm := false, ls := false, hn := h.hn, hs := 0, hq := h.hq } : TTab) = T'
  rw [hT'] at hch
  let F0 : Fm := { fm0 w Z ms H with xo := some p.1 }
  let CT' : CTab := { CT with fo := fun F => F = F0 }
  have E : EC CT' T' (hotC h x) 0 N scope (fun _ => true) X := by
    subst hX
    subst hT'
    refine { calm := fun z => (by cases z), hN := rfl, nd := FS.nd, hs := rfl, hf := rfl, gd := hgd, un := ?_, room := fun z => (by cases z), blt := hmb, glb := hgl, tg := fun z => (by cases z), ls := fun z => (by cases z), hot := fun _ i e he F W tk => ?_ }
    · have := (hr.deeper (envOfC qual scope s.heap.objs.size f cdv)).un
      show (A.deeper (envOfC qual scope s.heap.objs.size f cdv)).units + 200 < cLine
      omega
    · refine hot_ask (CT := CT) (N := N) (sc := scope) (ms0 := ms) (H0 := H) (hp0 := hp) hT HD.ha (List.mem_cons_self ..) hz hfd hdx hdm hlen dA hfs ok (tk.2.2 rfl) rfl (hmb _ (by decide +kernel)) (fun {i y} hv => ?_) (fun {y} hg => ?_) he
      · unfold visC okName at hv
        simp only [Bool.and_eq_true, Bool.not_eq_true'] at hv
        obtain ⟨⟨h1, h2, h3⟩, h4⟩ := hv
        refine ⟨nth_eq h1, ?_, by simpa using seq_ne h2, by simpa using seq_ne h3⟩
        show L2.Vis scope y
        unfold L2.Vis
        rw [lk_eq] at h4
        split at h4
        · exact .inl (by assumption)
        · exact .inr (.inl (by assumption))
        · exact .inr (.inr (by assumption))
        · cases h4
      · unfold globC at hg
        simp only [Bool.and_eq_true, Bool.not_eq_true'] at hg
        obtain ⟨h1, h4⟩ := hg
        refine ⟨?_, by simpa using seq_ne h1⟩
        show scope.names.lookup y = _
        rw [lk_eq] at h4
        split at h4
        · assumption
        · cases h4
  have pown : PassesOwn (model X.prog X.w) X.A X.env X.xe := by
    subst hX
    exact L2.passes_of rfl
  have tk : Tk CT' X F0 noW := by
    subst hX
    refine ⟨rfl, fun u s' q => ?_, fun _ => rfl⟩
    obtain ⟨_, _, _, _, _, _, _, _, _, _, _, _, _, _, _, _, q⟩ := q
    obtain ⟨_, _, _, _, _, _, q⟩ := q
    exact q.elim
  have run := (sndSs FS.kind pown E F0 noW tk fd.body body hch).run [] s1 (L2.start N [.ref p.1]) H { nx := fun _ H' => ∃ Z' ms', r = .val .non ∧ Pay X.K w Z ms H Z' ms' g.hp H' (.val .non) .non, rt := fun v H' => ∃ Z' ms', Pay X.K w Z ms H Z' ms' g.hp H' r v } I (by
    subst hX
    refine ⟨Z, ms, _, hot_start ok hN1, ?_⟩
    rw [hex]
    intro σ' Z' ms' H' l R
    rcases hfl with rfl | ⟨rfl, rfl⟩
    · exact fun v okv => ⟨Z', ms', pay_of (xo := some p.1) l R okv⟩
    · exact ⟨Z', ms', rfl, pay_of (xo := some p.1) (r := .val .non) l R (by simp only [ResOk, Den])⟩)
  subst hX
  refine wpAny_mono run (fun fl s' hs => ?_) fun e s' hs => wpAny_mono hs (fun _ _ z => ?_) fun _ _ z => ?_
  · cases fl with
    | ret u =>
      obtain ⟨v, σ', H', J, rv, q⟩ := hs
      exact ⟨u, rfl, v, H', J.os, J.bare, J.base, J.hok, rv, q⟩
    | next =>
      obtain ⟨σ', H', J, Z', ms', rfl, py⟩ := hs
      exact ⟨.none, rfl, V.non, H', J.os, J.bare, J.base, J.hok, rfl, Z', ms', py⟩
    | brk =>
      obtain ⟨_, _, _, q⟩ := hs
      exact False.elim q
    | cont =>
      obtain ⟨_, _, _, q⟩ := hs
      exact False.elim q
  · obtain ⟨_, _, _, _, _, _, _, _, _, _, _, _, q⟩ := z
    exact False.elim q
  · obtain ⟨_, _, _, _, _, _, _, _, _, _, _, _, q⟩ := z
    exact False.elim q
end Ev
/-! # Ev, part 14: defs by their bodies; the table of the defs. -/
namespace Ev
open PySem PySem.Spec PyProof.Rows
open L2 (V Hp HO upd SqL SqT Rd Cx Inv PE PT PW PA PS PSs PG PGs PI PK VK TE TT TA TS TG TGs TI Ends RelV Vals It Dp DpAll OpR UnR CallR TruR IxR SlR MtR EP TP AP SP Room Env0 CE)

/-- what a def lets out, as the layer's contract has it -/
def outX (CT : CTab) (K : PySem.W.Frag) (w : World) (Z : Addr → Prop) (ms : List Addr) (H : Hp) (hp' : List Cell) (r : Out) : L2.XK := fun cls d H' => ∃ x Z' ms', r = .exc x ∧ Lft K w Z ms H Z' ms' hp' H' ∧ ExcDen CT K Z' ms' H' x cls d
/-- the same, as the evaluator's wish -/
def outW (K : PySem.W.Frag) (w : World) (Z : Addr → Prop) (ms : List Addr) (H : Hp) (hp' : List Cell) (r : Out) : Wish := fun x Z' ms' _ _ H' => r = .exc x ∧ Lft K w Z ms H Z' ms' hp' H'
theorem back_of {CT : CTab} {K : PySem.W.Frag} {P : Program} {w : World} {outer : List Env} {Z : Addr → Prop} {ms : List Addr} {H : Hp} {s s' : Shared} {hp' : List Cell} {r : Out} {e : Value} (c : L2N.CX P w outer H s (outX CT K w Z ms H hp' r) e s') : Back CT K P w outer Z ms H s hp' r (.error e) s' := by
  obtain ⟨a, B, H', cls, d, h1, h2, h3, h4, h5, h6, h7, x, Z', ms', rfl, lf, xd⟩ := c
  exact ⟨e, rfl, a, B, H', cls, d, h1, h2, h3, h4, h5, h6, h7, Z', ms', lf, xd⟩

/-! ### the rule -/
/-- where a parameter's value comes from -/
inductive As where
  | pos (i : Nat) | kw (i : Nat) | df (j : Nat) (v : PV)
def asm (ord : List As) (as bs : List PV) : List PV := ord.map fun
  | .pos i => as.getD i .non
  | .kw i => bs.getD i .non
  | .df _ v => v
/-- an entry of the table: the form of the call, the def, where its parameters' values come from; hot: called while an error is handled -/
structure En where
  tg : Tg
  fd : FD
  ord : List As
  hot : Option HX := none
def calls (D : List En) : Nat → Call
  | 0 => fun _ _ _ _ => none
  | k + 1 => fun i as bs hp => match D[i]? with
    | some e => match e.hot with
      | none => run (calls D k) e.fd (asm e.ord as bs) hp
      | some h => match bs with
        | [.int (.ofNat n)] => runH (hotC h ⟨n, as⟩) e.fd hp
        | _ => none
    | none => none
/-- the table, as a def's check has it -/
def TTab.at (T : TTab) (qual name : Str) : TTab := { T with lq := qual ++ ".<locals>." ++ "<lambda>", sn := if T.ln.any (seq name) = true then T.sn else "" }
theorem TTab.at_tg {T : TTab} {q n : Str} : (T.at q n).tg = T.tg := by unfold TTab.at; rfl
theorem TTab.at_gl {T : TTab} {q n : Str} : (T.at q n).gl = T.gl := by unfold TTab.at; rfl
theorem TTab.at_cm {T : TTab} {q n : Str} : (T.at q n).cm = T.cm := by unfold TTab.at; rfl
theorem TTab.at_ls {T : TTab} {q n : Str} : (T.at q n).ls = T.ls := by unfold TTab.at; rfl
theorem TTab.at_xs {T : TTab} {q n : Str} : (T.at q n).xs = T.xs := by unfold TTab.at; rfl
theorem TTab.at_sr {T : TTab} {q n : Str} : (T.at q n).sr = T.sr := by unfold TTab.at; rfl
theorem TTab.at_lq {T : TTab} {q n : Str} : (T.at q n).lq = q ++ ".<locals>." ++ "<lambda>" := by unfold TTab.at; rfl
theorem TTab.at_sn {T : TTab} {q n : Str} : (T.at q n).sn = if T.ln.any (seq n) = true then T.sn else "" := by unfold TTab.at; rfl
/-- what is known of the module where errors are raised, said -/
structure LsTop (CT : CTab) (P : Program) (w : World) (K : PySem.W.Frag) (mg : Str → Option Value) (base : Heap) (T : TTab) (D : List En) : Prop where
  xc : ∀ (i : Nat) x ns, T.xs[i]? = some (x, ns) → ∃ C, CT i = some (C, ns) ∧ mg x = some (.ref C) ∧ MkOk P w K mg C ns
  tb : ∀ x c Pl, T.ln.any (seq x) = true → PySem.W.tabIn K x = some (c, Pl) → LamX.TabB base mg c Pl
  sd : T.sn ≠ "" → ∃ e h, D[T.sr]? = some e ∧ e.hot = some h ∧ SdOk CT K mg T.sn e.tg.name ∧ HotDef CT K mg T e.fd h e.tg.name
theorem app_cancel {x y z : Str} (h : x ++ z = y ++ z) : x = y := by
  have h1 : x.cps ++ z.cps = y.cps ++ z.cps := congrArg Str.cps h
  have h2 : x.cps.toList ++ z.cps.toList = y.cps.toList ++ z.cps.toList := by
    rw [← Array.toList_append, ← Array.toList_append, h1]
  have h3 : x.cps = y.cps := Array.toList_inj.mp (List.append_cancel_right h2)
  cases x
  cases y
  exact congrArg Str.mk h3
/-- what a def must be, to stand in the table -/
structure DefOk (K : PySem.W.Frag) (mg : Str → Option Value) (T : TTab) (e : En) : Prop where
  nh : e.hot = none
  ex : ∃ (f : Addr) (name qual : Str) (params : Arguments) (body : List Stmt) (scope : Scope) (dV kV doc pm cdv ct oc : Value) (an od : Option Addr) (osl : Array (Option Value)) (N ps : List Str),
    K.lookup f = some ⟨oc, od, .func (PySem.W.fnOf name qual params body scope dV kV doc pm an cdv ct), osl⟩ ∧ PySem.W.codeIn K cdv qual = true ∧ mg e.tg.name = some (.ref f) ∧ L2.FnScope N ps scope ∧ e.fd.n = ps.length ∧ e.fd.m = N.length ∧
    chSs (T.at qual e.tg.name) N scope (fun _ => true) e.fd.body body = true ∧ (T.ln.any (seq e.tg.name) = true → PySem.W.nsIn K mainGlobals e.tg.name = some (some (.ref f)) ∧ qual = e.tg.name ∧ ∃ cd, cdv = .ref cd) ∧
    ∀ (s : Shared) (us ws : List Value) (vs zs : List V) (as bs : List PV) (Z : Addr → Prop) (ms : List Addr) (H : Hp), K.In s.heap → us.length = e.tg.p → ws.length = e.tg.ks.length → Vals vs us → Vals zs ws → Dens K Z ms H as vs → Dens K Z ms H bs zs →
      ∃ (ys : List Value) (xs : List V), BindsTo s (PySem.W.fnOf name qual params body scope dV kV doc pm an cdv ct) ⟨us, e.tg.ks.zip ws⟩ (ps.zip ys) ∧ Vals xs ys ∧ Dens K Z ms H (asm e.ord as bs) xs
theorem def_ok {CT : CTab} {P : Program} {w : World} {K : PySem.W.Frag} {mg : Str → Option Value} {base : Heap} {k : Nat} {T : TTab} {c : Call} {e : En} (D : DefOk K mg T e) (hcm : T.cm = true) (hmb : ∀ x ∈ bltNames, mg x = none) (hgl : ∀ p ∈ T.gl, GlOk K mg p.1 p.2)
    (hls : T.ls = true → ∃ DD, LsTop CT P w K mg base T DD ∧ (T.sn ≠ "" → ∀ e h, DD[T.sr]? = some e → e.hot = some h → HotOk CT P w K mg base e.tg.name (c T.sr)))
    (C : ∀ (i : Nat) t, T.tg[i]? = some t → CallOk CT P w K mg base k t (c i)) : CallOk CT P w K mg base (k + 1) e.tg (fun as bs hp => run c e.fd (asm e.ord as bs) hp) := by
  obtain ⟨f, name, qual, params, body, scope, dV, kV, doc, pm, cdv, ct, oc, an, od, osl, N, ps, lk, hcd, hm, S, hn, hM, hch, hln, hb⟩ := D.ex
  refine ⟨f, hm, ?_, fun A outer s H us ws vs zs as bs Z ms hp r hp' hr hgd e0 hu hw r1 r2 d1 d2 ok hrun => ?_⟩
  · unfold PySem.W.keepIn
    simp only [lk]
  have KX : K.In s.heap := e0.mod.kin.keeps fun b o e => (e0.bs b o e).1
  have lim : s.heap.NoLimit := e0.mod.nolimit.keeps fun b o e => (e0.bs b o e).1
  obtain ⟨ys, xs, hbd, rv, dx⟩ := hb s us ws vs zs as bs Z ms H KX hu hw r1 r2 d1 d2
  generalize ha : asm e.ord as bs = as' at *
  unfold run at hrun
  split at hrun
  case isFalse => cases hrun
  rename_i hlen
  have hl : xs.length = ps.length := by rw [dx.length, hlen, hn]
  have hpl : ps.length ≤ N.length := by have := congrArg List.length S.pre; rw [List.length_take] at this; omega
  have hkind : ∀ y ∈ ps.zip ys, scope.names.lookup y.1 = some .local ∨ (scope.names.lookup y.1 = some .cell ∧ ((cellsFrom (s.heap.objs.size + 1) scope.names []).lookup y.1).isSome = true) := fun ⟨n, v⟩ hy => by
    rcases S.par n (List.of_mem_zip hy).1 with q | q
    · exact .inl q
    · exact .inr ⟨q, PySem.W.cellsFrom_some _ _ _ (.inl q)⟩
  refine codeAny_call_function hr.depth (KX _ _ lk) rfl S.co S.gen rfl (PySem.W.codeRec_of KX hcd) (hbd _ _ _ _ ?_)
  refine wpAny_newFunctionEnv_cells S.kind hkind fun env he s1 x => ?_
  subst he
  refine ⟨lim.keeps x.toInCall.keep, codeAny_func ?_⟩
  generalize hX : L2.cxOf (L2N.CX P w) P w K mg base N qual scope f cdv A outer s H (outX CT K w Z ms H hp' r) = X
  have I : Inv X [] (L2.start N xs) H s1 := by
    rw [← hX]
    exact L2.inv_start S hr.hd e0 hl rv x
  have E : EC CT (T.at qual e.tg.name) c k N scope (fun _ => true) X := by
    subst hX
    have hru := ((Room.mono hr (j := 3 * k + 1) (by omega)).deeper (envOfC qual scope s.heap.objs.size f cdv)).un
    refine { calm := fun _ => rfl, hN := rfl, nd := S.nd, hs := rfl, hf := rfl, gd := hgd, un := (by
        show (A.deeper (envOfC qual scope s.heap.objs.size f cdv)).units + 200 < cLine
        omega), room := fun _ => (Room.mono hr (j := 3 * k + 1) (by omega)).deeper _, blt := hmb, glb := fun p hp => hgl p (by rw [TTab.at_gl] at hp; exact hp), tg := fun _ i t ht => C i t (by rw [TTab.at_tg] at ht; exact ht), ls := fun z => ?_, hot := fun z => ?_ }
    · rw [TTab.at_ls] at z
      obtain ⟨DD, LT, hHot⟩ := hls z
      have hin : (T.at qual e.tg.name).sn ≠ "" → T.ln.any (seq e.tg.name) = true := fun hsn => by
        by_cases q : T.ln.any (seq e.tg.name) = true
        · exact q
        · rw [TTab.at_sn, if_neg q] at hsn
          exact absurd rfl hsn
      refine ⟨(Room.mono hr (j := 3 * k + 3) (by omega)).deeper _, fun i x ns hx => LT.xc i x ns (by rw [TTab.at_xs] at hx; exact hx), fun hsn => ?_, fun hsn => ?_⟩
      · obtain ⟨h1, h2, cd, h3⟩ := hln (hin hsn)
        refine ⟨cd, h3, TTab.at_lq, fun Pl tk => ?_⟩
        obtain ⟨x, c', e1, e2⟩ := tk
        rw [TTab.at_lq] at e1
        have e3 : qual = x := app_cancel (app_cancel e1)
        rw [← e3, h2] at e2
        have e2 : PySem.W.tabIn K e.tg.name = some (c', Pl) := e2
        have e4 := LT.tb _ _ _ (hin hsn) e2
        unfold PySem.W.tabIn at e2
        rw [h1] at e2
        simp only [lk, h3] at e2
        split at e2
        · split at e2
          · cases e2
            exact e4
          · cases e2
        · cases e2
      · have hi := hin hsn
        rw [TTab.at_sn, if_pos hi] at hsn ⊢
        rw [TTab.at_sr]
        obtain ⟨e', h, h1, h2, h3, h4⟩ := LT.sd hsn
        exact ⟨_, h3, hHot hsn e' h h1 h2⟩
    · rw [TTab.at_cm, hcm] at z
      cases z
  have pown : PassesOwn (model X.prog X.w) X.A X.env X.xe := by
    subst hX
    exact L2.passes_of rfl
  have tk : Tk CT X (fm0 w Z ms H) (outW K w Z ms H hp' r) := by
    subst hX
    refine ⟨rfl, (L2N.takes_of (E := outX CT K w Z ms H hp' r) rfl rfl rfl rfl).imp fun cls d σ H' q => ?_, fun z => by cases z⟩
    obtain ⟨x, Z', ms', g, xd, _, e, lf⟩ := q
    exact ⟨x, Z', ms', e, lf, xd⟩
  have run := (sndSs S.kind pown E (fm0 w Z ms H) _ tk e.fd.body body hch).run [] s1 (L2.start N xs) H { nx := fun _ H' => ∃ Z' ms', r = .ret (.val .non) ∧ Pay X.K w Z ms H Z' ms' hp' H' (.val .non) .non, rt := fun v H' => ∃ q Z' ms', r = .ret q ∧ Pay X.K w Z ms H Z' ms' hp' H' q v } I (by
    subst hX
    refine ⟨Z, ms, _, start_rel ok dx (by rw [hlen, hn]; exact hpl), ?_⟩
    rw [hM] at hrun
    revert hrun
    cases hx : exs c e.fd.body ⟨as'.map Slot.val ++ List.replicate (N.length - as'.length) .no, hp⟩ with
    | bad => intro q; cases q
    | exc x g =>
      intro hrun
      cases hrun
      exact fun σ' Z' ms' H' l R => ⟨rfl, lft_of (xo := none) l R⟩
    | ok fl g =>
      intro hrun σ' Z' ms' H' l R
      cases fl with
      | ret r' =>
        cases hrun
        exact fun x ok => ⟨r', Z', ms', rfl, pay_of (xo := none) l R ok⟩
      | nx =>
        cases hrun
        exact ⟨Z', ms', rfl, pay_of (xo := none) (r := .val .non) l R (by simp only [ResOk, Den])⟩
      | brk => cases hrun
      | cnt => cases hrun)
  subst hX
  refine wpAny_mono run (fun fl s' hs => ?_) fun e s' hs => wpAny_mono hs (fun _ _ z => back_of z) fun _ _ z => back_of z
  cases fl with
  | ret u =>
    obtain ⟨v, σ', H', J, rv, q, Z', ms', rfl, py⟩ := hs
    exact ⟨u, rfl, v, H', J.os, J.bare, J.base, J.hok, rv, Z', ms', py⟩
  | next =>
    obtain ⟨σ', H', J, Z', ms', rfl, py⟩ := hs
    exact ⟨.none, rfl, V.non, H', J.os, J.bare, J.base, J.hok, rfl, Z', ms', py⟩
  | brk =>
    obtain ⟨_, _, _, q⟩ := hs
    exact False.elim q
  | cont =>
    obtain ⟨_, _, _, q⟩ := hs
    exact False.elim q
/-- an entry stands rightly -/
def EnOk (CT : CTab) (K : PySem.W.Frag) (mg : Str → Option Value) (T : TTab) (e : En) : Prop :=
  DefOk K mg T e ∨ ∃ h, e.hot = some h ∧ HotDef CT K mg T e.fd h e.tg.name ∧ e.tg.ks = []
theorem hot_all {CT : CTab} {P : Program} {w : World} {K : PySem.W.Frag} {mg : Str → Option Value} {base : Heap} {T : TTab} {D : List En} {e : En} {h : HX} {i : Nat} (hi : D[i]? = some e) (hh : e.hot = some h) (HD : HotDef CT K mg T e.fd h e.tg.name) (hmb : ∀ x ∈ bltNames, mg x = none) (hgl : ∀ p ∈ T.gl, GlOk K mg p.1 p.2) :
    ∀ k, HotOk CT P w K mg base e.tg.name (calls D k i)
  | 0 => by
    obtain ⟨f, hm, hk, _⟩ := (hot_ok (P := P) (w := w) (base := base) HD hmb hgl).ex
    exact ⟨f, hm, hk, fun _ _ _ _ _ _ _ _ _ _ _ _ _ _ _ _ _ _ _ _ _ z => by cases z⟩
  | k + 1 => by
    have q : calls D (k + 1) i = fun as bs hp => match bs with
      | [.int (.ofNat n)] => runH (hotC h ⟨n, as⟩) e.fd hp
      | _ => none := by
      funext as bs hp
      show (match D[i]? with
        | some e => match e.hot with
          | none => run (calls D k) e.fd (asm e.ord as bs) hp
          | some h => match bs with
            | [.int (.ofNat n)] => runH (hotC h ⟨n, as⟩) e.fd hp
            | _ => none
        | none => none) = _
      rw [hi]
      simp only [hh]
    rw [q]
    exact hot_ok HD hmb hgl
theorem hot_call {CT : CTab} {P : Program} {w : World} {K : PySem.W.Frag} {mg : Str → Option Value} {base : Heap} {T : TTab} {D : List En} {e : En} {h : HX} {i k : Nat} (hi : D[i]? = some e) (hh : e.hot = some h) (HD : HotDef CT K mg T e.fd h e.tg.name) (hk : e.tg.ks = []) : CallOk CT P w K mg base k e.tg (calls D k i) := by
  obtain ⟨f, name, qual, params, body, scope, dV, kV, doc, pm, cdv, ct, oc, an, od, osl, N, lk, hcd, hm, _⟩ := HD.ex
  refine ⟨f, hm, ?_, fun A outer s H us ws vs zs as bs Z ms hp r hp' hr hgd e0 hu hw r1 r2 d1 d2 ok hrun => ?_⟩
  · unfold PySem.W.keepIn
    simp only [lk]
  · have hb : bs = [] := by
      have h1 : zs.length = bs.length := d2.length
      have h2 := r2.length
      rw [hk] at hw
      rw [hw] at h2
      rw [h2] at h1
      exact List.eq_nil_of_length_eq_zero h1.symm
    subst hb
    cases k with
    | zero => cases hrun
    | succ k =>
      have q : (match D[i]? with
        | some e => match e.hot with
          | none => run (calls D k) e.fd (asm e.ord as []) hp
          | some h => match ([] : List PV) with
            | [.int (.ofNat n)] => runH (hotC h ⟨n, as⟩) e.fd hp
            | _ => none
        | none => none) = some (r, hp') := hrun
      rw [hi] at q
      simp only [hh] at q
      cases q
theorem table_ok {CT : CTab} {P : Program} {w : World} {K : PySem.W.Frag} {mg : Str → Option Value} {base : Heap} {D : List En} {T : TTab} (hT : T.tg = D.map (·.tg)) (hcm : T.cm = true) (hD : ∀ e ∈ D, EnOk CT K mg T e) (hmb : ∀ x ∈ bltNames, mg x = none) (hgl : ∀ p ∈ T.gl, GlOk K mg p.1 p.2) (hls : T.ls = true → LsTop CT P w K mg base T D) :
    ∀ (k i : Nat) t, T.tg[i]? = some t → CallOk CT P w K mg base k t (calls D k i)
  | 0, i, t, h => by
    rw [hT, List.getElem?_map] at h
    obtain ⟨e, he, rfl⟩ := Option.map_eq_some_iff.mp h
    rcases hD e (List.mem_of_getElem? he) with q | ⟨h, h1, h2, h3⟩
    · obtain ⟨f, name, qual, params, body, scope, dV, kV, doc, pm, cdv, ct, oc, an, od, osl, N, ps, lk, hcd, hm, _⟩ := q.ex
      refine ⟨f, hm, ?_, fun A outer s H us ws vs zs as bs Z ms hp r hp' hr hgd e0 hu hw r1 r2 d1 d2 ok hrun => ?_⟩
      · unfold PySem.W.keepIn
        simp only [lk]
      · cases hrun
    · exact hot_call he h1 h2 h3
  | k + 1, i, t, h => by
    rw [hT, List.getElem?_map] at h
    obtain ⟨e, he, rfl⟩ := Option.map_eq_some_iff.mp h
    rcases hD e (List.mem_of_getElem? he) with q | ⟨h, h1, h2, h3⟩
    · have := def_ok (CT := CT) (P := P) (w := w) (base := base) (c := calls D k) (k := k) q hcm hmb hgl (fun z => ⟨D, hls z, fun hsn e' h' h1 h2 => by
        obtain ⟨e2, h3, i1, i2, i3, i4⟩ := (hls z).sd hsn
        rw [h1] at i1
        cases i1
        rw [h2] at i2
        cases i2
        exact hot_all h1 h2 i4 hmb hgl k⟩) (table_ok hT hcm hD hmb hgl hls k)
      have z : calls D (k + 1) i = fun as bs hp => run (calls D k) e.fd (asm e.ord as bs) hp := by
        funext as bs hp
        show (match D[i]? with
          | some e => match e.hot with
            | none => run (calls D k) e.fd (asm e.ord as bs) hp
            | some h => match bs with
              | [.int (.ofNat n)] => runH (hotC h ⟨n, as⟩) e.fd hp
              | _ => none
          | none => none) = _
        rw [he]
        simp only [q.nh]
      rw [z]
      exact this
    · exact hot_call he h1 h2 h3
end Ev
/-! # Ev, part 15: a law's end. -/
namespace Ev
open PySem PySem.Spec PyProof.Rows
open L2 (V Hp HO upd SqL SqT Rd Cx Inv PE PT PW PA PS PSs PG PGs PI PK VK TE TT TA TS TG TGs TI Ends RelV Vals It Dp DpAll OpR UnR CallR TruR IxR SlR MtR EP TP AP SP Room Env0 CE Mod HOk hidT hidT_get hidT_size of_hidT Un defArgs defBody defScope)

/-- the heap that a law's call starts from: the script alone is told of, and that only where the text has not written it -/
noncomputable def scriptH (K : PySem.W.Frag) (a : Addr) (vs : List Value) (ns : List Int) : Hp := fun b =>
  if b = a ∧ K.lookup a = none then some (.frz { cls := .type "list", data := .seq vs.toArray } (.lst (ns.map V.int))) else none
section
variable {P : Program} {w : World} {K : PySem.W.Frag} {mg mb : Str → Option Value} {a : Addr} {s : Shared} {vs : List Value} {ns : List Int}
theorem scriptH_some {b : Addr} {u : HO} (h : scriptH K a vs ns b = some u) : b = a ∧ K.lookup a = none ∧ u = .frz { cls := .type "list", data := .seq vs.toArray } (.lst (ns.map V.int)) := by
  unfold scriptH at h
  split at h
  · rename_i q
    exact ⟨q.1, q.2, (Option.some.inj h).symm⟩
  · cases h
theorem scriptH_dict (ha : s.heap.get? a = some { cls := .type "list", data := .seq vs.toArray }) {b : Addr} {o : Obj} {es : Array DictEntry} {n : Nat} (e : s.heap.get? b = some o) (d : o.data = .dict es n) : scriptH K a vs ns b = none := by
  cases h : scriptH K a vs ns b with
  | none => rfl
  | some u =>
    obtain ⟨rfl, _, _⟩ := scriptH_some h
    have e2 := congrArg (Option.map Obj.data) (e.symm.trans ha)
    simp only [Option.map_some, Option.some.injEq] at e2
    rw [d] at e2
    cases e2
theorem script_ok (ha : s.heap.get? a = some { cls := .type "list", data := .seq vs.toArray }) (hi : IntsAre vs ns) (hl : ns.length ≤ sizeLine) : HOk P w (scriptH K a vs ns) s.heap := by
  intro b u h
  obtain ⟨rfl, _, rfl⟩ := scriptH_some h
  exact ⟨ha, by simpa using hl, vs, _, L2.vals_ints hi, ha⟩
theorem script_fz (KX : K.In s.heap) (ha : s.heap.get? a = some { cls := .type "list", data := .seq vs.toArray }) (hi : IntsAre vs ns) (hl : ns.length ≤ sizeLine) : FzL K (scriptH K a vs ns) a (ns.map V.int) := by
  cases hk : K.lookup a with
  | none => exact .inl ⟨_, if_pos ⟨rfl, hk⟩⟩
  | some o =>
    right
    obtain rfl : _ = o := Option.some.inj (ha.symm.trans (KX a o hk))
    refine ⟨_, vs.toArray, _, hk, rfl, rfl, rfl, ?_, by simpa using L2.vals_ints hi⟩
    rw [List.size_toArray, hi.length]
    exact hl
theorem script_env (KX : K.In s.heap) (hns : s.heap.Ns mainGlobals mg) (hb : s.heap.Ns builtinsNs mb) (hbb : ∀ x : Str, x ≠ "__name__" → mb x = bootBuiltins x) (hlim : s.heap.NoLimit) (hg : s.gens = #[])
    (ha : s.heap.get? a = some { cls := .type "list", data := .seq vs.toArray }) (hi : IntsAre vs ns) (hl : ns.length ≤ sizeLine) : Env0 P w K mg (hidT s.heap (scriptH K a vs ns)) callerA [] s (scriptH K a vs ns) := by
  have keep : ∀ {b : Addr} {m : Str → Option Value}, s.heap.Ns b m → (hidT s.heap (scriptH K a vs ns)).Ns b m := by
    rintro b m ⟨o, es, n, e, d, r⟩
    exact ⟨o, es, n, hidT_get e (scriptH_dict ha e d), d, r⟩
  obtain ⟨mc, c1, c2⟩ := hlim
  have inK : K.In (hidT s.heap (scriptH K a vs ns)) := by
    intro b o e
    refine hidT_get (KX b o e) ?_
    cases h : scriptH K a vs ns b with
    | none => rfl
    | some u =>
      obtain ⟨rfl, h0, _⟩ := scriptH_some h
      rw [h0] at e
      cases e
  exact { frames := rfl, mod := ⟨inK, keep hns, ⟨mb, keep hb, hbb⟩, mc, keep c1, c2⟩, bs := fun _ _ => of_hidT, bsz := Nat.le_of_eq (hidT_size _ _), funs := trivial, frf := nofun, hok := script_ok ha hi hl, bare := .of_eq hg }
end
/-- the law's promise, at the heap behind the top -/
theorem law_end {CT : CTab} {P : Program} {w : World} {K : PySem.W.Frag} {mg mb : Str → Option Value} {k : Nat} {t : Tg} {cf : List PV → List PV → List Cell → Option (Out × List Cell)} {fa a : Addr} {s : Shared} {vs : List Value} {ns : List Int} {hp' : List Cell}
    (KX : K.In s.heap) (hns : s.heap.Ns mainGlobals mg) (hb : s.heap.Ns builtinsNs mb) (hbb : ∀ x : Str, x ≠ "__name__" → mb x = bootBuiltins x) (hlim : s.heap.NoLimit) (hg : s.gens = #[])
    (ha : s.heap.get? a = some { cls := .type "list", data := .seq vs.toArray }) (hi : IntsAre vs ns) (hl : ns.length ≤ sizeLine) (hr : Room (3 * k) callerA) (hf : mg t.name = some (.ref fa)) (hp : t.p = 1) (hk : t.ks = [])
    (F : ∀ base : Heap, CallOk CT P w K mg base k t cf) (hc : cf [.fz ns] [] [] = some (.ret (.val (.bl true)), hp')) :
    codeAny (model P w) callerA (.call (.ref fa) ⟨[.ref a], []⟩) (fun r s' => r = .ok (.ret (.bool true)) ∧ OldK s.heap s'.heap ∧ s'.os = s.os ∧ AllBare s'.gens) s := by
  obtain ⟨f, hm, _, C⟩ := (F (hidT s.heap (scriptH K a vs ns))).ex
  obtain rfl : fa = f := by
    rw [hf] at hm
    cases hm
    rfl
  have go := C callerA [] s (scriptH K a vs ns) [.ref a] [] [.ref a] [] [.fz ns] [] (fun _ => False) [] [] _ _ hr rfl (script_env KX hns hb hbb hlim hg ha hi hl) (by rw [hp]; rfl) (by rw [hk]; rfl) (.cons rfl .nil) .nil
    (.cons (by simp only [Den]; exact ⟨a, rfl, script_fz KX ha hi hl⟩) .nil) .nil ⟨rfl, fun n c b e => by simp at e, List.nodup_nil, fun b h => by simp at h, fun b h => h.elim⟩ hc
  rw [hk] at go
  refine codeAny_mono go ?_
  rintro _ s' ⟨u, rfl, v, H', os, bare, un, ok', rv, Z', ms', py⟩
  obtain rfl : v = .bl true := by simpa only [Den] using py.rs
  obtain rfl : u = Value.bool true := rv
  refine ⟨rfl, OldK.of_keep fun b o e => ?_, os, bare⟩
  cases q : scriptH K a vs ns b with
  | none => exact un.keep b o e q nofun nofun
  | some u =>
    obtain ⟨rfl, _, rfl⟩ := scriptH_some q
    obtain rfl : _ = o := Option.some.inj (ha.symm.trans e)
    exact (ok' b _ (un.frzs b _ _ q)).1
/-- what a def's lambdas are called -/
def lamQ (x : Str) : Str := x ++ ".<locals>." ++ "<lambda>"
/-- the cells at the start: the tables of the defs that make lambdas -/
def tabCells (xs : List Str) : List Cell := xs.map fun x => .tb (lamQ x)
/-- the law's promise, with tables of code objects -/
theorem law_endT {CT : CTab} {P : Program} {w : World} {K : PySem.W.Frag} {mg mb : Str → Option Value} {k : Nat} {t : Tg} {cf : List PV → List PV → List Cell → Option (Out × List Cell)} {fa a : Addr} {s : Shared} {vs : List Value} {ns : List Int} {hp' : List Cell} {cs : List (Str × Addr × Addr)}
    (KX : K.In s.heap) (hns : s.heap.Ns mainGlobals mg) (hb : s.heap.Ns builtinsNs mb) (hbb : ∀ x : Str, x ≠ "__name__" → mb x = bootBuiltins x) (hlim : s.heap.NoLimit) (hg : s.gens = #[])
    (hT : ∀ p ∈ cs, s.heap.get? p.2.2 = some { cls := .none, data := .fields #[] }) (nT : ∀ p ∈ cs, K.lookup p.2.2 = none) (hTab : ∀ p ∈ cs, PySem.W.tabIn K p.1 = some p.2) (C : ∀ p ∈ cs, PySem.W.CodeHd s.heap p.2.1 p.2.2) (nd : (cs.map (·.2.2)).Nodup)
    (hbm : ∃ (bm : Addr) (ob : Obj), mg "__builtins__" = some (.ref bm) ∧ bm ≠ builtinsNs ∧ s.heap.get? bm = some ob ∧ ob.cls = .type "module" ∧ ob.dict = some builtinsNs ∧ ob.data = .plain)
    (ha : s.heap.get? a = some { cls := .type "list", data := .seq vs.toArray }) (hi : IntsAre vs ns) (hl : ns.length ≤ sizeLine) (hr : Room (3 * k) callerA) (hf : mg t.name = some (.ref fa)) (hp : t.p = 1) (hk : t.ks = [])
    (F : ∀ base : Heap, (∀ p ∈ cs, LamX.TabB base mg p.2.1 p.2.2) → CallOk CT P w K mg base k t cf) (hc : cf [.fz ns] [] (tabCells (cs.map (·.1))) = some (.ret (.val (.bl true)), hp')) :
    codeAny (model P w) callerA (.call (.ref fa) ⟨[.ref a], []⟩) (fun r s' => r = .ok (.ret (.bool true)) ∧ OldK s.heap s'.heap ∧ s'.os = s.os ∧ AllBare s'.gens) s := by
  have isT : ∀ b : Addr, b ∈ cs.map (·.2.2) → s.heap.get? b = some { cls := .none, data := .fields #[] } := fun b hb => by
    obtain ⟨p, hp, e⟩ := List.mem_map.mp hb
    rw [← e]
    exact hT p hp
  have aT : a ∉ cs.map (·.2.2) := fun z => by
    have q := isT a z
    rw [ha] at q
    have z' : Data.seq vs.toArray _ = Data.fields #[] := congrArg Obj.data (Option.some.inj q)
    cases z'
  have memT : ∀ p ∈ cs, p.2.2 ∈ cs.map (·.2.2) := fun p hp => List.mem_map.mpr ⟨p, hp, rfl⟩
  generalize hH : (fun b => if b ∈ cs.map (·.2.2) then some (.tbl #[]) else scriptH K a vs ns b : Hp) = H
  have Hin : ∀ {b}, b ∈ cs.map (·.2.2) → H b = some (.tbl #[]) := fun {b} h => by
    rw [← hH]
    exact if_pos h
  have Hout : ∀ {b}, b ∉ cs.map (·.2.2) → H b = scriptH K a vs ns b := fun {b} h => by
    rw [← hH]
    exact if_neg h
  have hA : ∀ b, H b ≠ none → b = a ∨ b ∈ cs.map (·.2.2) := fun b h => by
    by_cases q : b ∈ cs.map (·.2.2)
    · exact .inr q
    · rw [Hout q] at h
      cases z : scriptH K a vs ns b with
      | none => exact absurd z h
      | some u => exact .inl (scriptH_some z).1
  have hok : HOk P w H s.heap := fun b u h => by
    by_cases q : b ∈ cs.map (·.2.2)
    · rw [Hin q] at h
      cases h
      exact isT b q
    · rw [Hout q] at h
      have z := script_ok (P := P) (w := w) (K := K) ha hi hl b u h
      obtain ⟨rfl, _, rfl⟩ := scriptH_some h
      exact z
  have base_of : ∀ {b : Addr} {o : Obj}, s.heap.get? b = some o → H b = none → (hidT s.heap H).get? b = some o := fun e n => hidT_get e n
  have noD : ∀ {b : Addr} {o : Obj}, s.heap.get? b = some o → (∀ vs n, o.data ≠ .seq vs n) → o.data ≠ .fields #[] → H b = none := fun {b o} e h1 h2 => by
    cases q : H b with
    | none => rfl
    | some u =>
      rcases hA b (by rw [q]; simp) with e' | e'
      · rw [e', ha] at e
        cases e
        exact (h1 _ _ rfl).elim
      · rw [isT b e'] at e
        cases e
        exact (h2 rfl).elim
  have noA : ∀ {b : Addr} {o : Obj} {es : Array DictEntry} {ep : Nat}, s.heap.get? b = some o → o.data = .dict es ep → H b = none := fun {b o es ep} e d => by
    refine noD e (fun vs n z => ?_) fun z => ?_
    · rw [d] at z
      cases z
    · rw [d] at z
      cases z
  have nsK : ∀ {b : Addr} {m : Str → Option Value}, s.heap.Ns b m → (hidT s.heap H).Ns b m := fun {b m} ⟨o, es, ep, e, d, r⟩ => ⟨o, es, ep, base_of e (noA e d), d, r⟩
  have hKb : K.In (hidT s.heap H) := fun b o e => base_of (KX b o e) (by
    cases q : H b with
    | none => rfl
    | some u =>
      by_cases e' : b ∈ cs.map (·.2.2)
      · obtain ⟨p, hp, ep⟩ := List.mem_map.mp e'
        rw [← ep, nT p hp] at e
        cases e
      · rw [Hout e'] at q
        obtain ⟨rfl, h0, _⟩ := scriptH_some q
        rw [h0] at e
        cases e)
  have hM : L2.Mod K mg (hidT s.heap H) := ⟨hKb, nsK hns, ⟨mb, nsK hb, hbb⟩, let ⟨mc, h1, h2⟩ := hlim; ⟨mc, nsK h1, h2⟩⟩
  have TB : ∀ p ∈ cs, LamX.TabB (hidT s.heap H) mg p.2.1 p.2.2 := fun p hp => by
    have hTp := hT p hp
    refine ⟨?_, ?_, fun z => ?_⟩
    · obtain ⟨o, us, file, tf, flags, tg, inF, text, tt, e1, r1, r2, r3, r4, r5, r6, r7, r8, hne⟩ := C p hp
      refine ⟨o, us, file, tf, flags, tg, inF, text, tt, base_of e1 (noD e1 (fun vs n z => ?_) fun z => ?_), r1, r2, r3, r4, r5, r6, r7, r8, hne⟩
      · rw [r2] at z
        cases z
      · rw [r2] at z
        cases z
        simp at r3
    · obtain ⟨bm, ob, b1, b2, b3, b4, b5, b6⟩ := hbm
      have nG : bm ≠ mainGlobals := fun q => by
        obtain ⟨o, es, ep, e, hd, _⟩ := hns
        rw [q, e] at b3
        cases b3
        rw [hd] at b6
        cases b6
      have nP : bm ≠ p.2.2 := fun q => by
        rw [q, hTp] at b3
        cases b3
        cases b6
      refine ⟨bm, ob, b1, b2, nG, nP, base_of b3 (noD b3 (fun vs n z => ?_) fun z => ?_), b4, b5, b6⟩
      · rw [b6] at z
        cases z
      · rw [b6] at z
        cases z
    · obtain ⟨o, es, ep, e, hd, _⟩ := hns
      rw [z, hTp] at e
      cases e
      cases hd
  have e0 : Env0 P w K mg (hidT s.heap H) callerA [] s H := ⟨rfl, hM, fun b o e => of_hidT e, Nat.le_of_eq (hidT_size _ _), trivial, fun b hb => absurd (show b ∈ ([] : List Addr) from hb) (by simp), hok, .of_eq hg⟩
  obtain ⟨f, hm, _, CC⟩ := (F (hidT s.heap H) TB).ex
  obtain rfl : fa = f := by
    rw [hf] at hm
    cases hm
    rfl
  have fz : FzL K H a (ns.map V.int) := by
    rcases script_fz KX ha hi hl with ⟨o, h⟩ | h
    · exact .inl ⟨o, by rw [Hout aT]; exact h⟩
    · exact .inr h
  have hcell : ∀ (n : Nat) c b, (tabCells (cs.map (·.1)))[n]? = some c → (cs.map (·.2.2))[n]? = some b → CellOk K (fun _ => False) (cs.map (·.2.2)) H w c b := fun n c b e1 e2 => by
    unfold tabCells at e1
    rw [List.map_map, List.getElem?_map] at e1
    rw [List.getElem?_map] at e2
    obtain ⟨p, hp, rfl⟩ := Option.map_eq_some_iff.mp e1
    rw [hp] at e2
    cases e2
    have hpm := List.mem_of_getElem? hp
    refine ⟨#[], Hin (memT p hpm), True.intro, ⟨p.1, p.2.1, rfl, hTab p hpm⟩, fun pos cv h => ?_⟩
    have z : codeAmong pos [] = some cv := h
    simp [codeAmong] at z
  have go := CC callerA [] s H [.ref a] [] [.ref a] [] [.fz ns] [] (fun _ => False) (cs.map (·.2.2)) (tabCells (cs.map (·.1))) _ _ hr rfl e0 (by rw [hp]; rfl) (by rw [hk]; rfl) (.cons rfl .nil) .nil
    (.cons (by simp only [Den]; exact ⟨a, rfl, fz⟩) .nil) .nil ⟨by simp [tabCells], hcell, nd, fun b _ h => h, fun b h => h.elim⟩ hc
  rw [hk] at go
  refine codeAny_mono go ?_
  rintro _ s' ⟨u, rfl, v, H', os, bare, un, ok', rv, Z', ms', py⟩
  obtain rfl : v = .bl true := by simpa only [Den] using py.rs
  obtain rfl : u = Value.bool true := rv
  have key : ∀ b o, b ∉ cs.map (·.2.2) → s.heap.get? b = some o → s'.heap.get? b = some o := fun b o nb e => by
    cases q : H b with
    | none => exact un.keep b o e q nofun nofun
    | some u =>
      have q' := q
      rw [Hout nb] at q'
      obtain ⟨rfl, _, rfl⟩ := scriptH_some q'
      obtain rfl : _ = o := Option.some.inj (ha.symm.trans e)
      exact (ok' b _ (un.frzs b _ _ q)).1
  have grown : ∀ p ∈ cs, ∃ more : Array Value, s'.heap.get? p.2.2 = some { cls := .none, data := .fields more } := fun p hp => by
    obtain ⟨more, z⟩ := un.tbls p.2.2 #[] (Hin (memT p hp))
    exact ⟨_, ok' p.2.2 _ z⟩
  refine ⟨rfl, ⟨fun b o e => ?_, fun b o e => ?_⟩, os, bare⟩
  · by_cases hb : b ∈ cs.map (·.2.2)
    · obtain ⟨p, hp, ep⟩ := List.mem_map.mp hb
      obtain ⟨more, hm⟩ := grown p hp
      rw [← ep] at e ⊢
      rw [hT p hp] at e
      cases e
      exact .inr (.inl ⟨((C p hp).tab (hT p hp)).isCodeTable, rfl, #[], more, rfl, by rw [Array.empty_append]; exact hm⟩)
    · exact .inl (key b o hb e)
  · by_cases hb : b ∈ cs.map (·.2.2)
    · obtain ⟨p, hp, ep⟩ := List.mem_map.mp hb
      obtain ⟨more, hm⟩ := grown p hp
      rw [← ep]
      exact ⟨_, hm⟩
    · exact ⟨o, key b o hb e⟩
/-- the goal that the head leaves -/
theorem walk_ev {l : PySem.W.OpenLaw} {n k : Nat} {q : Program} {loose : List Str} {XP : (Str → Option Value) → Heap → Prop} {YP : World → Heap → Prop} {d : DefRec} {K : Params → PySem.W.Frag} {D : List En} {T : TTab} {i : Nat} {e : En} (hTg : T.tg = D.map (·.tg)) (hcm : T.cm = true)
    (hn : l.most = some n) (hn2 : n ≤ sizeLine) (hdf : d.params.defaults = []) (hr : Room (3 * k) callerA) (hY : ∀ (w : World) (h : Heap), YP w h → (K w.params).In h) (hi : D[i]? = some e) (hx : e.tg.name = d.name) (hp : e.tg.p = 1) (hk : e.tg.ks = [])
    (F : ∀ (w : World) (mg : Str → Option Value) (h : Heap), YP w h → (K w.params).In h → h.Ns mainGlobals mg → ∃ (CT : CTab) (cs : List (Str × Addr × Addr)), cs.map (·.1) = T.ln ∧ (∀ p ∈ cs, h.get? p.2.2 = some { cls := .none, data := .fields #[] }) ∧ (∀ p ∈ cs, (K w.params).lookup p.2.2 = none) ∧ (∀ p ∈ cs, PySem.W.tabIn (K w.params) p.1 = some p.2) ∧ (∀ p ∈ cs, PySem.W.codeHdIn (K w.params) p.2.1 p.2.2 = true) ∧ (cs.map (·.2.2)).Nodup ∧
      (∀ e ∈ D, EnOk CT (K w.params) mg T e) ∧ (∀ x ∈ bltNames, mg x = none) ∧ (∀ p ∈ T.gl, GlOk (K w.params) mg p.1 p.2) ∧ (T.ls = true → ∀ base : Heap, (∀ x c Pl, T.ln.any (seq x) = true → PySem.W.tabIn (K w.params) x = some (c, Pl) → LamX.TabB base mg c Pl) → LsTop CT l.prog w (K w.params) mg base T D))
    (hc : ∀ ns : List Int, ns.length ≤ n → ∃ hp', calls D k i [.fz ns] [] (tabCells T.ln) = some (.ret (.val (.bl true)), hp')) : PySem.W.WalkO q loose XP YP l.row.toRowW d [] (fun f vs => PySem.call f vs) := by
  refine Att.attach_call hn hdf fun w s₀ s₁ mg mb fa o pm cd doc a vs ns G Y ho hd hcd hmg hobj hints hlen hg => ?_
  have KX := hY w _ Y
  obtain ⟨CT, cs, h1, h2, h3, h4, h5, h6, hD, hb, hgl, hls⟩ := F w mg _ Y KX G.T.g
  obtain ⟨hp', hc⟩ := hc ns hlen
  have ht : T.tg[i]? = some e.tg := by
    rw [hTg, List.getElem?_map, hi]
    rfl
  refine law_endT (CT := CT) (t := e.tg) (cs := cs) KX G.T.g G.T.b G.T.builtins G.T.nolimit hg h2 h3 h4 (fun p hp => PySem.W.codeHd_of_K KX (h5 p hp)) h6 G.T.bmain hobj hints (Nat.le_trans hlen hn2) hr (by rw [hx]; exact hmg) hp hk (fun base TB => table_ok hTg hcm hD hb hgl (fun z => hls z base fun x c Pl hx hxt => ?_) k i e.tg ht) (by rw [h1]; exact hc)
  rw [← h1] at hx
  obtain ⟨y, hy, hxy⟩ := List.any_eq_true.mp hx
  obtain ⟨p, hp, rfl⟩ := List.mem_map.mp hy
  rw [seq_eq hxy, h4 p hp] at hxt
  have z := TB p hp
  rw [Option.some.inj hxt] at z
  exact z

/-- a text of pieces -/
def sj (l : List String) : Str := l.foldl (fun (a : Str) (s : String) => a ++ Str.ofString s) Str.empty
/-! ### entries -/
def asmU (ord : List As) (us ws : List Value) : List Value := ord.map fun
  | .pos i => us.getD i .none
  | .kw i => ws.getD i .none
  | .df _ _ => .none
def asmV (ord : List As) (vs zs : List V) : List V := ord.map fun
  | .pos i => vs.getD i .non
  | .kw i => zs.getD i .non
  | .df _ _ => .non
def ordC (p q : Nat) (ord : List As) : Bool := ord.all fun
  | .pos i => decide (i < p)
  | .kw i => decide (i < q)
  | .df _ _ => false
theorem vals_get {vs : List V} {us : List Value} (r : Vals vs us) : ∀ i : Nat, RelV (vs.getD i .non) (us.getD i .none) := by
  induction r with
  | nil => exact fun _ => rfl
  | cons h _ ih =>
    intro i
    cases i with
    | zero => exact h
    | succ i => exact ih i
theorem dens_get {K : PySem.W.Frag} {Z : Addr → Prop} {ms : List Addr} {H : Hp} : ∀ {as : List PV} {vs : List V}, Dens K Z ms H as vs → ∀ i : Nat, Den K Z ms H (as.getD i .non) (vs.getD i .non)
  | [], vs, d, i => by
    simp only [Dens] at d
    subst d
    simp only [List.getD_nil, Den]
  | a :: as, vs, d, i => by
    simp only [Dens] at d
    obtain ⟨v, r, rfl, h1, h2⟩ := d
    cases i with
    | zero => exact h1
    | succ i => exact dens_get h2 i
theorem asm_vals {ord : List As} {vs zs : List V} {us ws : List Value} (r1 : Vals vs us) (r2 : Vals zs ws) : Vals (asmV ord vs zs) (asmU ord us ws) := by
  induction ord with
  | nil => exact .nil
  | cons a r ih =>
    refine .cons ?_ ih
    cases a with
    | pos i => exact vals_get r1 i
    | kw i => exact vals_get r2 i
    | df j v => rfl
theorem asm_dens {K : PySem.W.Frag} {Z : Addr → Prop} {ms : List Addr} {H : Hp} {p q : Nat} {ord : List As} {as bs : List PV} {vs zs : List V} (ho : ordC p q ord = true) (d1 : Dens K Z ms H as vs) (d2 : Dens K Z ms H bs zs) : Dens K Z ms H (asm ord as bs) (asmV ord vs zs) := by
  induction ord with
  | nil => exact .nil
  | cons a r ih =>
    unfold ordC at ho ih
    simp only [List.all_cons, Bool.and_eq_true] at ho
    refine .cons ?_ (ih ho.2)
    cases a with
    | pos i => exact dens_get d1 i
    | kw i => exact dens_get d2 i
    | df j v => simp at ho
/-- a def without defaults, in the table -/
theorem DefOk.mk0 {K : PySem.W.Frag} {mg : Str → Option Value} {T : TTab} {e : En} {st : Stmt} {x : Str} {N ps : List Str} {f : Addr} {oc : Value} {od an : Option Addr} {osl : Array (Option Value)} {kV doc pm cdv ct : Value}
    (l : K.lookup f = some ⟨oc, od, .func (PySem.W.fnOf x x (defArgs st) (defBody st) (defScope st) .none kV doc pm an cdv ct), osl⟩) (hcd : PySem.W.codeIn K cdv x = true) (hm : mg x = some (.ref f)) (hx : e.tg.name = x) (S : L2.FnScope N ps (defScope st)) (hn : e.fd.n = ps.length) (hM : e.fd.m = N.length)
    (hch : chSs (T.at x x) N (defScope st) (fun _ => true) e.fd.body (defBody st) = true) (hnh : e.hot = none) (hlt : T.ln.any (seq x) = true → PySem.W.nsIn K mainGlobals x = some (some (.ref f)) ∧ ∃ c, cdv = .ref c) (ho : ordC e.tg.p e.tg.ks.length e.ord = true)
    (hb : ∀ (us ws : List Value), us.length = e.tg.p → ws.length = e.tg.ks.length → bindArgs (PySem.W.fnOf x x (defArgs st) (defBody st) (defScope st) .none kV doc pm an cdv ct) ⟨us, e.tg.ks.zip ws⟩ = pure (ps.zip (asmU e.ord us ws))) : DefOk K mg T e := by
  refine ⟨hnh, f, x, x, _, _, _, _, _, _, _, _, _, _, _, _, _, N, ps, l, hcd, by rw [hx]; exact hm, S, hn, hM, by rw [hx]; exact hch, fun z => by rw [hx] at z ⊢; exact ⟨(hlt z).1, rfl, (hlt z).2⟩, fun s us ws vs zs as bs Z ms H _ hu hw r1 r2 d1 d2 => ?_⟩
  exact ⟨asmU e.ord us ws, asmV e.ord vs zs, .of_eq (hb us ws hu hw), asm_vals r1 r2, asm_dens ho d1 d2⟩
/-! ### .. with defaults -/
/-- a default's value, at the layer -/
def dV : PV → Option V
  | .non => some .non
  | .bl b => some (.bl b)
  | .int i => some (.int i)
  | .str x => some (.str x)
  | _ => none
def asmUD (ord : List As) (us ws its : List Value) : List Value := ord.map fun
  | .pos i => us.getD i .none
  | .kw i => ws.getD i .none
  | .df j _ => its.getD j .none
def asmVD (ord : List As) (vs zs : List V) : List V := ord.map fun
  | .pos i => vs.getD i .non
  | .kw i => zs.getD i .non
  | .df _ v => (dV v).getD .non
def ordD (p q : Nat) (ord : List As) : Bool := ord.all fun
  | .pos i => decide (i < p)
  | .kw i => decide (i < q)
  | .df _ v => (dV v).isSome
/-- the defaults are those -/
def DfOk (its : List Value) : List As → Prop
  | [] => True
  | .df j v :: r => RelV ((dV v).getD .non) (its.getD j .none) ∧ DfOk its r
  | _ :: r => DfOk its r
theorem asmD_vals {ord : List As} {vs zs : List V} {us ws its : List Value} (hd : DfOk its ord) (r1 : Vals vs us) (r2 : Vals zs ws) : Vals (asmVD ord vs zs) (asmUD ord us ws its) := by
  induction ord with
  | nil => exact .nil
  | cons a r ih =>
    cases a with
    | pos i => exact .cons (vals_get r1 i) (ih hd)
    | kw i => exact .cons (vals_get r2 i) (ih hd)
    | df j v => exact .cons hd.1 (ih hd.2)
theorem dV_den {K : PySem.W.Frag} {Z : Addr → Prop} {ms : List Addr} {H : Hp} {v : PV} (h : (dV v).isSome = true) : Den K Z ms H v ((dV v).getD .non) := by
  cases v <;> first | (simp only [dV, Option.getD_some, Den]; done) | cases h
theorem asmD_dens {K : PySem.W.Frag} {Z : Addr → Prop} {ms : List Addr} {H : Hp} {p q : Nat} {ord : List As} {as bs : List PV} {vs zs : List V} (ho : ordD p q ord = true) (d1 : Dens K Z ms H as vs) (d2 : Dens K Z ms H bs zs) : Dens K Z ms H (asm ord as bs) (asmVD ord vs zs) := by
  induction ord with
  | nil => exact .nil
  | cons a r ih =>
    unfold ordD at ho ih
    simp only [List.all_cons, Bool.and_eq_true] at ho
    refine .cons ?_ (ih ho.2)
    cases a with
    | pos i => exact dens_get d1 i
    | kw i => exact dens_get d2 i
    | df j v => exact dV_den ho.1
theorem DefOk.mkD {K : PySem.W.Frag} {mg : Str → Option Value} {T : TTab} {e : En} {st : Stmt} {x : Str} {N ps : List Str} {f t : Addr} {oc tc : Value} {od an td : Option Addr} {osl ts : Array (Option Value)} {kV doc pm cdv ct : Value} {its : List Value} {n : Nat}
    (l : K.lookup f = some ⟨oc, od, .func (PySem.W.fnOf x x (defArgs st) (defBody st) (defScope st) (.ref t) kV doc pm an cdv ct), osl⟩) (lt : K.lookup t = some ⟨tc, td, .seq its.toArray n, ts⟩) (hcd : PySem.W.codeIn K cdv x = true) (hm : mg x = some (.ref f)) (hx : e.tg.name = x) (S : L2.FnScope N ps (defScope st)) (hn : e.fd.n = ps.length) (hM : e.fd.m = N.length)
    (hch : chSs (T.at x x) N (defScope st) (fun _ => true) e.fd.body (defBody st) = true) (hnh : e.hot = none) (hlt : T.ln.any (seq x) = true → PySem.W.nsIn K mainGlobals x = some (some (.ref f)) ∧ ∃ c, cdv = .ref c) (ho : ordD e.tg.p e.tg.ks.length e.ord = true) (hd : DfOk its e.ord)
    (hb : ∀ (us ws : List Value), us.length = e.tg.p → ws.length = e.tg.ks.length → ∃ k, bindArgs (PySem.W.fnOf x x (defArgs st) (defBody st) (defScope st) (.ref t) kV doc pm an cdv ct) ⟨us, e.tg.ks.zip ws⟩ = seqItems? (.ref t) >>= k ∧ k (some its.toArray) = pure (ps.zip (asmUD e.ord us ws its))) : DefOk K mg T e := by
  refine ⟨hnh, f, x, x, _, _, _, _, _, _, _, _, _, _, _, _, _, N, ps, l, hcd, by rw [hx]; exact hm, S, hn, hM, by rw [hx]; exact hch, fun z => by rw [hx] at z ⊢; exact ⟨(hlt z).1, rfl, (hlt z).2⟩, fun s us ws vs zs as bs Z ms H hK hu hw r1 r2 d1 d2 => ?_⟩
  refine ⟨asmUD e.ord us ws its, asmVD e.ord vs zs, ?_, asmD_vals hd r1 r2, asmD_dens ho d1 d2⟩
  obtain ⟨k, e1, e2⟩ := hb us ws hu hw
  refine L2.BindsTo.of_looks fun M => ?_
  rw [e1]
  exact L2.looks_items hK lt rfl (.of_pure e2)
end Ev
/-! # Ev: what the written part says of errors, of the def that says, of the handler: for a law's end. -/
namespace Ev
open PySem PySem.Spec PyProof.Rows
open L2 (V defArgs defBody defScope)
/-- the first statement of a class -/
def clsFst : Stmt → Stmt
  | .ClassDef _ _ _ (s :: _) _ _ _ _ _ _ _ => s
  | s => s
/-- an error class with two fields -/
theorem MkOk.mk2 {P : Program} {w : World} {K : PySem.W.Frag} {mg : Str → Option Value} {C fI : Addr} {qual : Str} {params : Arguments} {scope : Scope} {body : List Stmt} {x y : Str} {p0 p1 p2 p3 p4 p5 p6 q0 q1 q2 q3 r0 r1 r2 r3 : Pos}
    (X : XIn K P C fI qual params body scope ["self", x, y]) (hb : body = ix2 x y p0 p1 p2 p3 p4 p5 p6 q0 q1 q2 q3 r0 r1 r2 r3) (HE : HeadEq qual scope [.Name x p3, .Name y p4] p0 p1 p2 p5) (hs : mg "super" = none) (nd : [x, y].Nodup) : MkOk P w K mg C [x, y] := by
  subst hb
  refine ⟨X.T, ⟨fI, X.init, X.tI, fun us hl KX hKa hg hbn hsb lim hr ha h => ?_⟩, nd, by simp⟩
  match us, hl with
  | [u1, u2], _ =>
    refine xi_run2 X HE KX hKa hg hbn hs hsb lim hr ha fun h' tk t1 dx k1 k2 k3 k4 k5 => h h' tk t1 dx _ k1 k2 k3 k4 k5 fun f => ?_
    simp only [List.zip_cons_cons, List.zip_nil_right, List.reverse_cons, List.reverse_nil, List.nil_append, List.cons_append]
    by_cases h1 : f = y
    · subst h1
      simp [List.lookup]
    · by_cases h2 : f = x
      · subst h2
        simp [List.lookup, h1, beq_eq_false_iff_ne.mpr h1]
      · simp [List.lookup, h1, h2, beq_eq_false_iff_ne.mpr h1, beq_eq_false_iff_ne.mpr h2]
/-- .. with one -/
theorem MkOk.mk1 {P : Program} {w : World} {K : PySem.W.Frag} {mg : Str → Option Value} {C fI : Addr} {qual : Str} {params : Arguments} {scope : Scope} {body : List Stmt} {x : Str} {p0 p1 p2 p3 p5 p6 q0 q1 q2 q3 : Pos}
    (X : XIn K P C fI qual params body scope ["self", x]) (hb : body = ix1 x p0 p1 p2 p3 p5 p6 q0 q1 q2 q3) (HE : HeadEq qual scope [.Name x p3] p0 p1 p2 p5) (hs : mg "super" = none) : MkOk P w K mg C [x] := by
  subst hb
  refine ⟨X.T, ⟨fI, X.init, X.tI, fun us hl KX hKa hg hbn hsb lim hr ha h => ?_⟩, by simp, by simp⟩
  match us, hl with
  | [u1], _ =>
    refine xi_run1 X HE KX hKa hg hbn hs hsb lim hr ha fun h' tk t1 dx k1 k2 k3 k4 k5 => h h' tk t1 dx _ k1 k2 k3 k4 k5 fun f => ?_
    simp only [List.zip_cons_cons, List.zip_nil_right, List.reverse_cons, List.reverse_nil, List.nil_append]
    by_cases h2 : f = x
    · subst h2
      simp [List.lookup]
    · simp [List.lookup, h2, beq_eq_false_iff_ne.mpr h2]
/-- the written part's words, gathered -/
theorem XIn.mk' {K : PySem.W.Frag} {prog : Program} {C fI cc cda Nn : Addr} {qual nm cq : Str} {st : Stmt} {xs : List Str} {dV kV doc pm ct oc : Value} {an od : Option Addr} {osl : Array (Option Value)} {ccl cl : Value} {cdd cld : Option Addr} {ccs csl : Array (Option Value)} {vs : Array Value} {file : Str} {tf : Tok}
    {bs bm : List Value} {sn : List Str} {sub : List Value} {ab : Bool} {col : Option Bool} {dd : Option Addr} {k0 k1 k2 k3 k5 : Option Value}
    (h1 : K.lookup C = some (excClassObj nm cq C Nn bs bm true sn sub ab col dd k0 k1 k2 k3 k5 "ValueError.__new__")) (h2 : PySem.HandSPX.refsVE bm = true) (h3 : PySem.W.findIn K (.ref C) "__setattr__" = some (some (.builtin "object.__setattr__"))) (h4 : PySem.W.subIn K (.ref C) (.type "BaseException") = some true)
    (h5 : PySem.W.typeIn K (.ref C) = some (.type "type")) (h6 : PySem.W.keepIn K (.ref C) = true) (h7 : PySem.W.findIn K (.ref C) "__init__" = some (some (.ref fI))) (h8 : PySem.W.typeIn K (.ref fI) = some (.type "function"))
    (h9 : K.lookup fI = some ⟨oc, od, .func (PySem.W.ksFn "__init__" qual (defArgs st) (defBody st) (defScope st) dV kV doc pm an (.ref cda) ct cc), osl⟩) (h10 : PySem.W.codeIn K (.ref cda) qual = true) (h11 : K.lookup cda = some ⟨ccl, cdd, .fields vs, ccs⟩) (h12 : vs[2]? = some (.str file tf)) (h13 : ((prog.main.file : Str) == file) = true)
    (h14 : K.lookup cc = some ⟨cl, cld, .cell (some (.ref C)), csl⟩) (h15 : ∀ (us : List Value), us.length = xs.length → bindArgs (PySem.W.ksFn "__init__" qual (defArgs st) (defBody st) (defScope st) dV kV doc pm an (.ref cda) ct cc) ⟨us, []⟩ = pure (xs.zip us))
    (h16 : ∃ ar, ((defArgs st).posonlyargs ++ (defArgs st).args).head? = some ar ∧ ar.arg = "self") (h17 : PySem.W.ks_superIn K C C "__init__" = some (some (.builtin "ValueError.__init__"))) (h18 : PySem.W.nsIn K cStatics "thirdparty.any" = some none) (h19 : PySem.W.subIn K (.ref C) (.type "ValueError") = some true) (h20 : PySem.W.mroIn K C (.ref C) = some true)
    (h21 : (prog.main.scope.names.lookup ("super" : Str)).isSome = false) (h22 : (defScope st).names.lookup ("super" : Str) = some .globalImplicit) (h23 : (defScope st).names.lookup ("__class__" : Str) = some .free) (h24 : (defScope st).kind = .function) (h25 : (defScope st).isCoroutine = false) (h26 : (defScope st).isGenerator = false)
    (h27 : ∀ x ∈ (defScope st).names, x.2 ≠ .cell) (h28 : ∀ x ∈ xs, (defScope st).names.lookup x = some .local) (h29 : xs.head? = some "self") (h30 : xs.Nodup) (h31 : ∀ x ∈ xs.tail, PySem.W.findIn K (.ref C) x = some none ∧ (x == ("__debug__" : Str)) = false) :
    XIn K prog C fI qual (defArgs st) (defBody st) (defScope st) xs where
  T := ⟨⟨_, _, _, _, _, _, _, _, _, _, _, _, _, _, _, h1, h2⟩, h3, h4, h5, h6⟩
  init := h7
  tI := h8
  fn := ⟨_, _, _, _, _, _, _, _, _, _, _, _, _, _, _, _, _, _, _, _, h9, h10, h11, h12, h13, h14, h15⟩
  ar := h16
  sup := h17
  ho := h18
  hB := h19
  hC := h20
  htop := h21
  hks := h22
  hkc := h23
  hk := h24
  hco := h25
  hge := h26
  hcell := h27
  hloc := h28
  self := h29
  nd := h30
  fld := h31
theorem SdOk.mk' {CT : CTab} {K : PySem.W.Frag} {mg : Str → Option Value} {sn Rn a e En : Str} {st : Stmt} {f : Addr} {k : Nat} {j : Nat} {pc p1 p2 pt p3 np q1 q2 q3 q4 hp tp : Pos} {kV doc pm cdv ct oc cval : Value} {an od : Option Addr} {osl : Array (Option Value)}
    (hb : defBody st = sdBody a e En Rn k j pc p1 p2 pt p3 np q1 q2 q3 q4 hp tp) (hm : mg sn = some (.ref f)) (l : K.lookup f = some ⟨oc, od, .func (PySem.W.fnOf sn sn (defArgs st) (defBody st) (defScope st) .none kV doc pm an cdv ct), osl⟩) (hcd : PySem.W.codeIn K cdv sn = true)
    (S : L2.FnScope [a, e] [a] (defScope st)) (hbind : ∀ u : Value, bindArgs (PySem.W.fnOf sn sn (defArgs st) (defBody st) (defScope st) .none kV doc pm an cdv ct) ⟨[u], []⟩ = pure ([a].zip [u])) (h1 : (defScope st).names.lookup a = some .local) (h2 : (defScope st).names.lookup e = some .local) (h3 : (defScope st).names.lookup En = some .globalImplicit) (h4 : (defScope st).names.lookup Rn = some .globalImplicit)
    (hE : mg En = some cval) (h5 : [a, e, En, Rn].all (fun x => !(x == ("__debug__" : Str)) && !(x == ("__classdict__" : Str))) = true) (h6 : ∀ i C ns, CT i = some (C, ns) → PySem.W.exmOne K (.ref C) cval = some true) : SdOk CT K mg sn Rn := by
  have hk : PySem.W.keepIn K (.ref f) = true := by
    unfold PySem.W.keepIn
    simp only [l]
  rw [hb] at l hbind
  exact ⟨f, a, e, En, k, j, pc, p1, p2, pt, p3, np, q1, q2, q3, q4, hp, tp, sn, sn, _, _, .none, kV, doc, pm, cdv, ct, oc, cval, an, od, osl, hm, hk, l, hcd, S, hbind, h1, h2, h3, h4, hE, h5, h6⟩
theorem HotDef.mk' {CT : CTab} {K : PySem.W.Frag} {mg : Str → Option Value} {T : TTab} {fd : FD} {h : HX} {rn : Str} {st : Stmt} {N : List Str} {f : Addr} {kV doc pm cdv ct oc : Value} {an od : Option Addr} {osl : Array (Option Value)}
    (l : K.lookup f = some ⟨oc, od, .func (PySem.W.fnOf rn rn (defArgs st) (defBody st) (defScope st) .none kV doc pm an cdv ct), osl⟩) (hcd : PySem.W.codeIn K cdv rn = true) (hm : mg rn = some (.ref f)) (S : L2.FnScope N [h.hn] (defScope st)) (hM : fd.m = N.length)
    (hch : chSs { T with cm := false, ls := false, hn := h.hn, hs := 0, hq := h.hq } N (defScope st) (fun _ => true) fd.body (defBody st) = true) (hbind : ∀ u : Value, bindArgs (PySem.W.fnOf rn rn (defArgs st) (defBody st) (defScope st) .none kV doc pm an cdv ct) ⟨[u], []⟩ = pure ([h.hn].zip [u]))
    (ha : ∀ i C ns, CT i = some (C, ns) → L2.ExcC K C ∧ L2.XfC K C ∧ ∀ (l : List HA), h.ans[i]? = some l → ∀ (j : Nat) a q, l[j]? = some a → h.hq[j]? = some q → HaOk K mg C ns q a) : HotDef CT K mg T fd h rn :=
  ⟨⟨f, rn, rn, _, _, _, _, _, _, _, _, _, _, _, _, _, N, l, hcd, hm, S, hM, hch, hbind⟩, ha⟩
/-- the classes, by number -/
def ctOf (l : List (Addr × List Str)) : CTab := ⟨fun i => l[i]?, fun _ => True⟩
/-- the answers for one class -/
def HasOk (K : PySem.W.Frag) (mg : Str → Option Value) (C : Addr) (ns : List Str) : List HQ → List HA → Prop
  | q :: qs, a :: as => HaOk K mg C ns q a ∧ HasOk K mg C ns qs as
  | _, _ => True
theorem HasOk.get {K : PySem.W.Frag} {mg : Str → Option Value} {C : Addr} {ns : List Str} : ∀ {qs : List HQ} {as : List HA}, HasOk K mg C ns qs as → ∀ (j : Nat) a q, as[j]? = some a → qs[j]? = some q → HaOk K mg C ns q a
  | q :: qs, a :: as, h, 0, b, r, e1, e2 => by
    simp only [List.getElem?_cons_zero, Option.some.injEq] at e1 e2
    subst e1
    subst e2
    exact h.1
  | q :: qs, a :: as, h, j + 1, b, r, e1, e2 => HasOk.get (qs := qs) (as := as) h.2 j b r (by simpa using e1) (by simpa using e2)
  | [], _, _, j, b, r, e1, e2 => by simp at e2
  | _ :: _, [], _, j, b, r, e1, e2 => by simp at e1
/-- class by class -/
def HxsOk (K : PySem.W.Frag) (mg : Str → Option Value) (qs : List HQ) : List (Addr × List Str) → List (List HA) → Prop
  | c :: cs, l :: ls => (L2.ExcC K c.1 ∧ L2.XfC K c.1 ∧ HasOk K mg c.1 c.2 qs l) ∧ HxsOk K mg qs cs ls
  | [], _ => True
  | _ :: _, [] => False
theorem HxsOk.get {K : PySem.W.Frag} {mg : Str → Option Value} {qs : List HQ} : ∀ {cs : List (Addr × List Str)} {ls : List (List HA)}, HxsOk K mg qs cs ls → ∀ (i : Nat) (C : Addr) (ns : List Str), cs[i]? = some (C, ns) → L2.ExcC K C ∧ L2.XfC K C ∧ ∀ (l : List HA), ls[i]? = some l → ∀ (j : Nat) a q, l[j]? = some a → qs[j]? = some q → HaOk K mg C ns q a
  | c :: cs, l :: ls, h, 0, C, ns, e => by
    simp only [List.getElem?_cons_zero, Option.some.injEq] at e
    subst e
    refine ⟨h.1.1, h.1.2.1, fun l' e1 j a q e2 e3 => ?_⟩
    simp only [List.getElem?_cons_zero, Option.some.injEq] at e1
    subst e1
    exact h.1.2.2.get j a q e2 e3
  | c :: cs, l :: ls, h, i + 1, C, ns, e => by
    obtain ⟨h1, h2, h3⟩ := HxsOk.get (cs := cs) (ls := ls) h.2 i C ns (by simpa using e)
    exact ⟨h1, h2, fun l' e1 => h3 l' (by simpa using e1)⟩
  | [], _, _, i, C, ns, e => by simp at e
  | _ :: _, [], h, _, _, _, _ => h.elim
theorem haB {K : PySem.W.Frag} {mg : Str → Option Value} {C D : Addr} {ns : List Str} {x : Str} {v : Bool} (hm : mg x = some (.ref D)) (hk : PySem.W.kitOne K (.ref C) (.ref D) = some v) : HaOk K mg C ns (.isa x) (.b v) := ⟨.ref D, .ref D, .inl hm, rfl, fun _ h => h, hk⟩
theorem haV {K : PySem.W.Frag} {mg : Str → Option Value} {C : Addr} {ns : List Str} {v : Bool} (hm : mg "ValueError" = none) (hk : PySem.W.kitOne K (.ref C) (.type "ValueError") = some v) : HaOk K mg C ns (.isa "ValueError") (.b v) := ⟨.type "ValueError", .ty "ValueError", .inr ⟨hm, by decide +kernel, by decide⟩, rfl, fun _ h => h, hk⟩
theorem haF {K : PySem.W.Frag} {mg : Str → Option Value} {C : Addr} {ns : List Str} {f : Str} {j : Nat} (h1 : ns[j]? = some f) (h2 : PySem.W.findIn K (.ref C) f = some none) : HaOk K mg C ns (.fld f) (.a j) := ⟨h1, h2⟩
theorem haN {K : PySem.W.Frag} {mg : Str → Option Value} {C : Addr} {ns : List Str} {q : HQ} : HaOk K mg C ns q .no := by
  cases q <;> exact trivial
end Ev
/-! # Ev, part 16: what a run of the evaluator answers: plain Lean. -/
namespace Ev
open PySem

/-- the run ends well, with Q -/
def Ok {α : Type} (W : EX → G → Prop) (r : R α) (Q : α → G → Prop) : Prop := match r with
  | .ok a g => Q a g
  | .exc x g => W x g
  | .bad => False
/-- nothing is raised -/
def NX : EX → G → Prop := fun _ _ => False
/-- .. behind a list that is nobody else's -/
def wR (W : EX → G → Prop) : Res → EX → G → Prop
  | .val _ => W
  | .new _ => NX
section
variable {α β : Type} {W : EX → G → Prop}
theorem wR_val {v : PV} : wR W (.val v) = W := rfl
theorem wR_new {v : List PV} : wR W (.new v) = NX := rfl
theorem Ok_congr {r r' : R α} {Q : α → G → Prop} (h : r = r') : Ok W r Q = Ok W r' Q := by rw [h]
theorem bind_congr' {r r' : R β} {f : β → M α} (h : r = r') : r.bind f = r'.bind f := by rw [h]
theorem Ok_ok {a : α} {g : G} {Q : α → G → Prop} : Ok W (.ok a g) Q = Q a g := rfl
theorem Ok_bad {Q : α → G → Prop} : Ok W (.bad : R α) Q = False := rfl
theorem Ok_bind {r : R β} {f : β → M α} {Q : α → G → Prop} : Ok W (r.bind f) Q = Ok W r fun a g => Ok W (f a g) Q := by
  cases r <;> rfl
theorem Ok_ck {c : Prop} [Decidable c] {x : α} {g : G} {Q : α → G → Prop} : Ok W (lift (ck c x) g) Q = (c ∧ Q x g) := by
  unfold ck
  by_cases h : c
  · rw [if_pos h]
    simp [Ok, lift, h]
  · rw [if_neg h]
    simp [Ok, lift, h]
theorem Ok_if {c : Prop} [Decidable c] {x : R α} {Q : α → G → Prop} : Ok W (if c then x else .bad) Q = (c ∧ Ok W x Q) := by
  by_cases h : c
  · rw [if_pos h]
    simp [h]
  · rw [if_neg h]
    simp [Ok, h]
theorem Ok_ite {c : Prop} [Decidable c] {x y : R α} {Q : α → G → Prop} (h1 : c → Ok W x Q) (h2 : ¬ c → Ok W y Q) : Ok W (if c then x else y) Q := by
  by_cases h : c
  · rw [if_pos h]
    exact h1 h
  · rw [if_neg h]
    exact h2 h
theorem Ok.imp {r : R α} {Q Q' : α → G → Prop} (h : Ok W r Q) (k : ∀ a g, Q a g → Q' a g) : Ok W r Q' := by
  cases r with
  | ok a g => exact k a g h
  | exc x g => exact h
  | bad => exact h
theorem Ok_noX {r : R α} {Q : α → G → Prop} : Ok W (noX r) Q = Ok NX r Q := by
  cases r <;> rfl
end

/-- some value, with P -/
def optP {α : Type} (o : Option α) (P : α → Prop) : Prop := match o with
  | some a => P a
  | none => False
section
variable {α β : Type} {W : EX → G → Prop}
theorem optP_some {a : α} {P : α → Prop} : optP (some a) P = P a := rfl
theorem optP_none {P : α → Prop} : optP none P = False := rfl
theorem optP_bind {o : Option β} {f : β → Option α} {P : α → Prop} : optP (o.bind f) P = optP o fun b => optP (f b) P := by
  cases o <;> rfl
theorem optP_map {o : Option β} {f : β → α} {P : α → Prop} : optP (o.map f) P = optP o fun b => P (f b) := by
  cases o <;> rfl
theorem optP_ck {c : Prop} [Decidable c] {x : α} {P : α → Prop} : optP (ck c x) P = (c ∧ P x) := by
  unfold ck
  by_cases h : c
  · rw [if_pos h]
    simp [optP, h]
  · rw [if_neg h]
    simp [optP, h]
theorem optP_of {o : Option α} {P : α → Prop} {a : α} (h : o = some a) (k : P a) : optP o P := by
  rw [h]
  exact k
theorem Ok_opt {o : Option α} {g : G} {Q : α → G → Prop} : Ok W (lift o g) Q = optP o fun a => Q a g := by
  cases o <;> rfl
end
/-! ### calls -/
/-- a call's answer -/
structure Gives (o : Option (Out × List Cell)) (P : Res → List Cell → Prop) : Prop where
  ex : ∃ r hp, o = some (.ret r, hp) ∧ P r hp
theorem Gives.imp {o : Option (Out × List Cell)} {P P' : Res → List Cell → Prop} (h : Gives o P) (k : ∀ r hp, P r hp → P' r hp) : Gives o P' := by
  obtain ⟨r, hp, e, p⟩ := h.ex
  exact ⟨r, hp, e, k r hp p⟩
theorem Ok_call {c : Call} {f : Nat} {as ks : List PV} {g : G} {Q : Res → G → Prop} (h : Gives (c f as ks g.hp) fun r hp => Q r { g with hp := hp }) : Ok W (callC c f as ks g) Q := by
  obtain ⟨r, hp, e, p⟩ := h.ex
  unfold callC
  rw [e]
  exact p
/-- a call of a known def -/
theorem Ok_callW {c : Call} {f : Nat} {as ks : List PV} {sl : List Slot} {hp : List Cell} {P : Res → List Cell → Prop} {Q : Res → G → Prop} (h : Gives (c f as ks hp) P) (k : ∀ r hp', P r hp' → Q r ⟨sl, hp'⟩) : Ok W (callC c f as ks ⟨sl, hp⟩) Q := Ok_call (h.imp k)
theorem gives_eq {o : Option (Out × List Cell)} {r : Res} {hp : List Cell} (e : o = some (.ret r, hp)) : Gives o fun x hp' => x = r ∧ hp' = hp := ⟨r, hp, e, rfl, rfl⟩
theorem gives_call {D : List En} {k i : Nat} {e : En} {as bs : List PV} {hp : List Cell} {P : Res → List Cell → Prop} (h : D[i]? = some e) (hn : e.hot = none) (hr : Gives (run (calls D k) e.fd (asm e.ord as bs) hp) P) : Gives (calls D (k + 1) i as bs hp) P := by
  unfold calls
  rw [h]
  simp only [hn]
  exact hr
/-- a def's body -/
def Fin' (P : Res → List Cell → Prop) : Fl → G → Prop
  | .ret r, g => P r g.hp
  | .nx, g => P (.val .non) g.hp
  | _, _ => False
theorem Fin'_ret {P : Res → List Cell → Prop} {r : Res} {g : G} : Fin' P (.ret r) g = P r g.hp := rfl
theorem Fin'_nx {P : Res → List Cell → Prop} {g : G} : Fin' P .nx g = P (.val .non) g.hp := rfl
theorem gives_run {c : Call} {d : FD} {as : List PV} {hp : List Cell} {P : Res → List Cell → Prop} (hl : as.length = d.n) (h : Ok NX (exs c d.body ⟨as.map Slot.val ++ List.replicate (d.m - as.length) .no, hp⟩) (Fin' P)) : Gives (run c d as hp) P := by
  unfold run
  rw [if_pos hl]
  revert h
  cases exs c d.body ⟨as.map Slot.val ++ List.replicate (d.m - as.length) .no, hp⟩ with
  | bad => exact fun h => h.elim
  | exc x g => exact fun h => h.elim
  | ok f g => cases f with
    | nx => exact fun h => ⟨_, _, rfl, h⟩
    | ret r => exact fun h => ⟨_, _, rfl, h⟩
    | brk => exact fun h => h.elim
    | cnt => exact fun h => h.elim

/-- a call's answer, or its error -/
structure GivesX (o : Option (Out × List Cell)) (P : Res → List Cell → Prop) (W : EX → List Cell → Prop) : Prop where
  ex : (∃ r hp, o = some (.ret r, hp) ∧ P r hp) ∨ ∃ x hp, o = some (.exc x, hp) ∧ W x hp
theorem Gives.x {o : Option (Out × List Cell)} {P : Res → List Cell → Prop} {W : EX → List Cell → Prop} (h : Gives o P) : GivesX o P W := ⟨.inl h.ex⟩
theorem Ok_callX {W : EX → G → Prop} {c : Call} {f : Nat} {as ks : List PV} {sl : List Slot} {hp : List Cell} {P : Res → List Cell → Prop} {W' : EX → List Cell → Prop} {Q : Res → G → Prop} (h : GivesX (c f as ks hp) P W') (k : ∀ r hp', P r hp' → Q r ⟨sl, hp'⟩) (kx : ∀ x hp', W' x hp' → W x ⟨sl, hp'⟩) : Ok W (callC c f as ks ⟨sl, hp⟩) Q := by
  unfold callC
  rcases h.ex with ⟨r, hp', e, p⟩ | ⟨x, hp', e, p⟩
  · rw [e]
    exact k r hp' p
  · rw [e]
    exact kx x hp' p
theorem givesX_call {D : List En} {k i : Nat} {e : En} {as bs : List PV} {hp : List Cell} {P : Res → List Cell → Prop} {W : EX → List Cell → Prop} (h : D[i]? = some e) (hn : e.hot = none) (hr : GivesX (run (calls D k) e.fd (asm e.ord as bs) hp) P W) : GivesX (calls D (k + 1) i as bs hp) P W := by
  unfold calls
  rw [h]
  simp only [hn]
  exact hr
theorem givesX_run {c : Call} {d : FD} {as : List PV} {hp : List Cell} {P : Res → List Cell → Prop} {W : EX → List Cell → Prop} (hl : as.length = d.n) (h : Ok (fun x g => W x g.hp) (exs c d.body ⟨as.map Slot.val ++ List.replicate (d.m - as.length) .no, hp⟩) (Fin' P)) : GivesX (run c d as hp) P W := by
  unfold run
  rw [if_pos hl]
  revert h
  cases exs c d.body ⟨as.map Slot.val ++ List.replicate (d.m - as.length) .no, hp⟩ with
  | bad => exact fun h => h.elim
  | exc x g => exact fun h => ⟨.inr ⟨_, _, rfl, h⟩⟩
  | ok f g => cases f with
    | nx => exact fun h => ⟨.inl ⟨_, _, rfl, h⟩⟩
    | ret r => exact fun h => ⟨.inl ⟨_, _, rfl, h⟩⟩
    | brk => exact fun h => h.elim
    | cnt => exact fun h => h.elim
/-- a handler's answer -/
theorem gives_hot {D : List En} {k i n : Nat} {e : En} {h : HX} {as : List PV} {hp : List Cell} {P : Res → List Cell → Prop} (hi : D[i]? = some e) (hh : e.hot = some h) (hr : Ok NX (exs (hotC h ⟨n, as⟩) e.fd.body ⟨Slot.x :: List.replicate (e.fd.m - 1) .no, hp⟩) (Fin' P)) : Gives (calls D (k + 1) i as [.int (n : Nat)] hp) P := by
  have q : calls D (k + 1) i as [.int (n : Nat)] hp = runH (hotC h ⟨n, as⟩) e.fd hp := by
    show (match D[i]? with
      | some e => match e.hot with
        | none => run (calls D k) e.fd (asm e.ord as [.int (n : Nat)]) hp
        | some h => match ([.int (Int.ofNat n)] : List PV) with
          | [.int (.ofNat n)] => runH (hotC h ⟨n, as⟩) e.fd hp
          | _ => none
      | none => none) = _
    rw [hi]
    simp only [hh]
  rw [q]
  unfold runH
  revert hr
  cases exs (hotC h ⟨n, as⟩) e.fd.body ⟨Slot.x :: List.replicate (e.fd.m - 1) .no, hp⟩ with
  | bad => exact fun h => h.elim
  | exc x g => exact fun h => h.elim
  | ok f g => cases f with
    | nx => exact fun h => ⟨_, _, rfl, h⟩
    | ret r => exact fun h => ⟨_, _, rfl, h⟩
    | brk => exact fun h => h.elim
    | cnt => exact fun h => h.elim

/-! ### loops -/
/-- what one turn is to reach -/
def Turn (P : G → Prop) (Q : Fl → G → Prop) : Fl → G → Prop
  | .nx, g => P g
  | .cnt, g => P g
  | .brk, g => Q .nx g
  | .ret r, g => Q (.ret r) g
theorem Turn_nx {P : G → Prop} {Q : Fl → G → Prop} {g : G} : Turn P Q .nx g = P g := rfl
theorem Turn_cnt {P : G → Prop} {Q : Fl → G → Prop} {g : G} : Turn P Q .cnt g = P g := rfl
theorem Turn_brk {P : G → Prop} {Q : Fl → G → Prop} {g : G} : Turn P Q .brk g = Q .nx g := rfl
theorem Turn_ret {P : G → Prop} {Q : Fl → G → Prop} {g : G} {r : Res} : Turn P Q (.ret r) g = Q (.ret r) g := rfl
theorem Ok_for {bd : Res → M Unit} {body : M Fl} {Q : Fl → G → Prop} (I : List PV → G → Prop) (step : ∀ x xs g, I (x :: xs) g → Ok W ((bd (.val x) g).bind fun _ g1 => body g1) (Turn (I xs) Q)) (fin : ∀ g, I [] g → Q .nx g) :
    ∀ (xs : List PV) (g : G), I xs g → Ok W (forGo bd body xs g) Q
  | [], g, h => by
    unfold forGo
    exact fin g h
  | x :: xs, g, h => by
    unfold forGo
    have s := step x xs g h
    rw [Ok_bind] at s ⊢
    refine s.imp fun u g1 s => ?_
    rw [Ok_bind]
    refine s.imp fun f g2 s => ?_
    cases f with
    | nx => exact Ok_for I step fin xs g2 s
    | cnt => exact Ok_for I step fin xs g2 s
    | brk => exact s
    | ret r => exact s
theorem Ok_lc {own : List Nat} {bd : Res → M Unit} {ts : M Bool} {el : M Res} {Q : List PV → G → Prop} (I : List PV → List PV → G → Prop)
    (step : ∀ x xs acc g, I (x :: xs) acc g → Ok W ((bd (.val x) g).bind fun _ g1 => ts g1) fun b g2 => if b = true then acc.length < sizeLine ∧ Ok W (el g2) fun y g3 => I xs (acc ++ [y.pv]) { g3 with sl := wipe g3.sl own } else I xs acc { g2 with sl := wipe g2.sl own })
    (fin : ∀ acc g, I [] acc g → Q acc g) : ∀ (xs acc : List PV) (g : G), I xs acc g → Ok W (lcGo own bd ts el xs acc g) Q
  | [], acc, g, h => by
    unfold lcGo
    exact fin acc g h
  | x :: xs, acc, g, h => by
    unfold lcGo
    have s := step x xs acc g h
    rw [Ok_bind] at s ⊢
    refine s.imp fun u g1 s => ?_
    rw [Ok_bind]
    refine s.imp fun b g2 s => ?_
    cases b with
    | true =>
      rw [if_pos rfl] at s ⊢
      rw [Ok_bind]
      refine s.2.imp fun y g3 t => ?_
      rw [if_pos s.1]
      exact Ok_lc I step fin xs _ _ t
    | false =>
      rw [if_neg Bool.false_ne_true] at s ⊢
      exact Ok_lc I step fin xs _ _ s

theorem Ok_lc2 {own : List Nat} {bd : Res → M Unit} {ts : M Bool} {inner : List PV → M (List PV)} {Q : List PV → G → Prop} (I : List PV → List PV → G → Prop)
    (step : ∀ x xs acc g, I (x :: xs) acc g → Ok W ((bd (.val x) g).bind fun _ g1 => ts g1) fun b g2 => if b = true then Ok W (inner acc g2) fun acc' g3 => I xs acc' { g3 with sl := wipe g3.sl own } else I xs acc { g2 with sl := wipe g2.sl own })
    (fin : ∀ acc g, I [] acc g → Q acc g) : ∀ (xs acc : List PV) (g : G), I xs acc g → Ok W (lc2Go own bd ts inner xs acc g) Q
  | [], acc, g, h => by
    unfold lc2Go
    exact fin acc g h
  | x :: xs, acc, g, h => by
    unfold lc2Go
    have s := step x xs acc g h
    rw [Ok_bind] at s ⊢
    refine s.imp fun u g1 s => ?_
    rw [Ok_bind]
    refine s.imp fun b g2 s => ?_
    cases b with
    | true =>
      rw [if_pos rfl] at s ⊢
      rw [Ok_bind]
      refine s.imp fun y g3 t => ?_
      exact Ok_lc2 I step fin xs _ _ t
    | false =>
      rw [if_neg Bool.false_ne_true] at s ⊢
      exact Ok_lc2 I step fin xs _ _ s
theorem Ok_dc {own : List Nat} {bd : Res → M Unit} {ts : M Bool} {kk el : M Res} {Q : Cell → G → Prop} (I : List PV → Cell → G → Prop)
    (step : ∀ x xs acc g, I (x :: xs) acc g → Ok W ((bd (.val x) g).bind fun _ g1 => ts g1) fun b g2 => if b = true then Ok W (kk g2) fun y g3 => Ok W (el g3) fun z g4 => optP (putC acc y.pv z.pv) fun acc' => I xs acc' { g4 with sl := wipe g4.sl own } else I xs acc { g2 with sl := wipe g2.sl own })
    (fin : ∀ acc g, I [] acc g → Q acc g) : ∀ (xs : List PV) (acc : Cell) (g : G), I xs acc g → Ok W (dcGo own bd ts kk el xs acc g) Q
  | [], acc, g, h => by
    unfold dcGo
    exact fin acc g h
  | x :: xs, acc, g, h => by
    unfold dcGo
    have s := step x xs acc g h
    rw [Ok_bind] at s ⊢
    refine s.imp fun u g1 s => ?_
    rw [Ok_bind]
    refine s.imp fun b g2 s => ?_
    cases b with
    | true =>
      rw [if_pos rfl] at s ⊢
      rw [Ok_bind]
      refine s.imp fun y g3 t => ?_
      rw [Ok_bind]
      refine t.imp fun z g4 t => ?_
      rw [Ok_bind, Ok_opt]
      cases h2 : putC acc y.pv z.pv with
      | none => rw [h2] at t; exact t.elim
      | some acc' =>
        rw [h2] at t
        exact Ok_dc I step fin xs _ _ t
    | false =>
      rw [if_neg Bool.false_ne_true] at s ⊢
      exact Ok_dc I step fin xs _ _ s
/-! ### equations that a run is reckoned by -/
theorem q_ok {α : Type} {a : α} {g : G} {Q : α → G → Prop} : Ok W (.ok a g) Q = Q a g := rfl
theorem q_some {α : Type} {a : α} {g : G} {Q : α → G → Prop} : Ok W (lift (some a) g) Q = Q a g := rfl
/-- behind a comprehension; a cell more -/
def backG (g1 : G) (is : List Nat) (g2 : G) : G := { g2 with sl := back g1.sl g2.sl is }
def pushG (g : G) (c : Cell) : G := { g with hp := g.hp ++ [c] }
section
variable {W : EX → G → Prop} {c : Call} {sl : List Slot} {hp : List Cell} {Q : Res → G → Prop} {QO : Opd → G → Prop} {QB : Bool → G → Prop} {QF : Fl → G → Prop} {QV : PV → G → Prop} {QU : Unit → G → Prop}
theorem q_cst {v} : Ok W (ev c (.cst v) ⟨sl, hp⟩) Q = Q (.val v) ⟨sl, hp⟩ := rfl
theorem q_var {i} : Ok W (ev c (.var i) ⟨sl, hp⟩) Q = (match sl[i]? with
  | some (.val v) => Q (.val v) ⟨sl, hp⟩
  | some (.own xs) => Q (.val (.lst xs)) ⟨sl.set i (.val (.lst xs)), hp⟩
  | _ => False) := by
  show Ok W (rdVar i ⟨sl, hp⟩) Q = _
  unfold rdVar
  simp only
  cases sl[i]? with
  | none => rfl
  | some s => cases s <;> rfl
theorem q_tup {es} : Ok W (ev c (.tup es) ⟨sl, hp⟩) Q = Ok W (evs c es ⟨sl, hp⟩) fun vs g => vs.length ≤ sizeLine ∧ Q (.val (.tup vs)) g := by
  rw [ev_tup]
  simp only [Ok_bind, Ok_if, Ok_ok]
theorem q_lst {es} : Ok W (ev c (.lst es) ⟨sl, hp⟩) Q = Ok W (evs c es ⟨sl, hp⟩) fun vs g => vs.length ≤ sizeLine ∧ Q (.new vs) g := by
  rw [ev_lst]
  simp only [Ok_bind, Ok_if, Ok_ok]
theorem q_bin {o a b} : Ok W (ev c (.bin o a b) ⟨sl, hp⟩) Q = Ok W (opd c a ⟨sl, hp⟩) fun x g1 => Ok W (opd c b g1) fun y g2 => Ok W (look x g2) fun xv g3 => Ok W (look y g3) fun yv g4 => Ok W (lift (binV o xv yv) g4) Q := by
  rw [ev_bin]
  simp only [Ok_bind]
theorem q_cmp {o a b} : Ok W (ev c (.cmp o a b) ⟨sl, hp⟩) Q = Ok W (opd c a ⟨sl, hp⟩) fun x g1 => Ok W (opd c b g1) fun y g2 => Ok W (look x g2) fun xv g3 => Ok W (look y g3) fun yv g4 => Ok W (lift (cmpG o xv yv g4.hp) g4) fun t g5 => Q (.val (.bl t)) g5 := by
  rw [ev_cmp]
  simp only [Ok_bind, Ok_ok]
theorem q_neg {a} : Ok W (ev c (.neg a) ⟨sl, hp⟩) Q = Ok W (ev c a ⟨sl, hp⟩) fun r g1 => Ok W (lift (asInt r.pv) g1) fun i g2 => Q (.val (.int (-i))) g2 := by
  rw [ev_neg]
  simp only [Ok_bind, Ok_ok]
theorem q_nt {a} : Ok W (ev c (.nt a) ⟨sl, hp⟩) Q = Ok W (ev c a ⟨sl, hp⟩) fun r g1 => Ok W (lift (truV r.pv) g1) fun b g2 => Q (.val (.bl (!b))) g2 := by
  rw [ev_nt]
  simp only [Ok_bind, Ok_ok]
theorem Ok_iteT {k : Bool} {x y : R Res} : Ok W (if k = true then x else y) Q = (if k = true then Ok W x Q else Ok W y Q) := by
  cases k <;> rfl
theorem q_chn {o p a b d} : Ok W (ev c (.chn o p a b d) ⟨sl, hp⟩) Q = Ok W (ev c a ⟨sl, hp⟩) fun r g1 => Ok W (ev c b g1) fun s g2 => Ok W (lift (cmpG o r.pv s.pv g2.hp) g2) fun t g3 => if t = true then Ok W (ev c d g3) fun u g4 => Ok W (lift (cmpG p s.pv u.pv g4.hp) g4) fun k g5 => Q (.val (.bl k)) g5 else Q (.val (.bl false)) g3 := by
  rw [ev_chn]
  simp only [Ok_bind, Ok_ok, Ok_iteT]
theorem q_an {a b} : Ok W (ev c (.an a b) ⟨sl, hp⟩) Q = Ok W (ev c a ⟨sl, hp⟩) fun r g1 => Ok W (lift (truV r.pv) g1) fun t g2 => if t = true then Ok W (ev c b g2) fun s g3 => Q (.val s.pv) g3 else Q (.val r.pv) g2 := by
  rw [ev_an]
  simp only [Ok_bind, Ok_ok, Ok_iteT]
theorem q_orr {a b} : Ok W (ev c (.orr a b) ⟨sl, hp⟩) Q = Ok W (ev c a ⟨sl, hp⟩) fun r g1 => Ok W (lift (truV r.pv) g1) fun t g2 => if t = true then Q (.val r.pv) g2 else Ok W (ev c b g2) fun s g3 => Q (.val s.pv) g3 := by
  rw [ev_orr]
  simp only [Ok_bind, Ok_ok, Ok_iteT]
theorem q_ite {t a b} : Ok W (ev c (.ite t a b) ⟨sl, hp⟩) Q = Ok W (tst c t ⟨sl, hp⟩) fun k g1 => if k = true then Ok W (ev c a g1) Q else Ok W (ev c b g1) Q := by
  rw [ev_ite]
  simp only [Ok_bind, Ok_iteT]
theorem q_idx {a b} : Ok W (ev c (.idx a b) ⟨sl, hp⟩) Q = Ok W (opd c a ⟨sl, hp⟩) fun x g1 => Ok W (opd c b g1) fun y g2 => Ok W (look x g2) fun xv g3 => Ok W (look y g3) fun yv g4 => Ok W (idxG xv yv g4) fun z g5 => Q (.val z) g5 := by
  rw [ev_idx]
  simp only [Ok_bind, Ok_ok]
theorem q_slc {a lo hi} : Ok W (ev c (.slc a lo hi) ⟨sl, hp⟩) Q = Ok W (opd c a ⟨sl, hp⟩) fun x g1 => Ok W (evo c lo g1) fun l g2 => Ok W (evo c hi g2) fun h g3 => Ok W (look x g3) fun xv g4 => Ok W (lift (slcV xv l h) g4) Q := by
  rw [ev_slc]
  simp only [Ok_bind]
theorem q_rev {a} : Ok W (ev c (.rev a) ⟨sl, hp⟩) Q = Ok W (opd c a ⟨sl, hp⟩) fun x g1 => Ok W (look x g1) fun xv g2 => Ok W (lift (revV xv) g2) Q := by
  rw [ev_rev]
  simp only [Ok_bind]
theorem q_call {f es ks} : Ok W (ev c (.call f es ks) ⟨sl, hp⟩) Q = Ok W (evs c es ⟨sl, hp⟩) fun vs g1 => Ok W (evs c ks g1) fun ws g2 => Ok W (callC c f vs ws g2) Q := by
  rw [ev_call]
  simp only [Ok_bind]
theorem q_bi {f es} : Ok W (ev c (.bi f es) ⟨sl, hp⟩) Q = Ok W (opds c es ⟨sl, hp⟩) fun xs g1 => Ok W (lookAll xs g1) fun vs g2 => Ok W (lift (biV f vs) g2) Q := by
  rw [ev_bi]
  simp only [Ok_bind]
theorem q_join {o a} : Ok W (ev c (.join o a) ⟨sl, hp⟩) Q = Ok W (ev c o ⟨sl, hp⟩) fun r g0 => Ok W (lift (asStr r.pv) g0) fun t g1 => Ok W (opd c a g1) fun y g2 => Ok W (look y g2) fun yv g3 => Ok W (lift (joinV (.str t) yv) g3) fun z g4 => Q (.val z) g4 := by
  rw [ev_join]
  simp only [Ok_bind, Ok_ok]
theorem q_app {i a} : Ok W (ev c (.app i a) ⟨sl, hp⟩) Q = Ok W (ownAt i ⟨sl, hp⟩) fun _ g0 => Ok W (ev c a g0) fun r g1 => Ok W (appV i [r.pv] g1) Q := by
  rw [ev_app]
  simp only [Ok_bind]
theorem q_ext {i a} : Ok W (ev c (.ext i a) ⟨sl, hp⟩) Q = Ok W (ownAt i ⟨sl, hp⟩) fun _ g0 => Ok W (ev c a g0) fun r g1 => Ok W (extV i r g1) Q := by
  rw [ev_ext]
  simp only [Ok_bind]
theorem q_lc {t it k el} : Ok W (ev c (.lc t it k el) ⟨sl, hp⟩) Q = Ok W (evi c it ⟨sl, hp⟩) fun xs g1 => noOwn g1.sl t.slots = true ∧ Ok NX (lcGo t.slots (bindT t) (tsto c k) (ev c el) xs [] { g1 with sl := wipe g1.sl t.slots }) fun ys g2 => Q (.new ys) (backG g1 t.slots g2) := by
  rw [ev_lc]
  simp only [Ok_bind, Ok_noX, Ok_if, Ok_ok]
  rfl
theorem q_fs {es} : Ok W (ev c (.fs es) ⟨sl, hp⟩) Q = Ok W (evf c es Str.empty ⟨sl, hp⟩) fun x g1 => Q (.val (.str x)) g1 := by
  rw [ev_fs]
  simp only [Ok_bind, Ok_ok]
theorem q_dct {ks vs} : Ok W (ev c (.dct ks vs) ⟨sl, hp⟩) Q = Ok NX (evs c vs ⟨sl, hp⟩) fun ws g1 => (ks.length = ws.length ∧ ks.length ≤ 15) ∧ Q (.val (.ref g1.hp.length)) (pushG g1 (.dk (dictGo ks ws []))) := by
  rw [ev_dct]
  simp only [Ok_bind, Ok_noX, Ok_if, Ok_ok]
  rfl
theorem q_tyn {t} : Ok W (ev c (.tyn t) ⟨sl, hp⟩) Q = Q (.val (.ty t)) ⟨sl, hp⟩ := rfl
theorem q_pop {i k} : Ok W (ev c (.pop i k) ⟨sl, hp⟩) Q = Ok W (ownAt i ⟨sl, hp⟩) fun _ g0 => Ok W (evo c k g0) fun j g1 => Ok W (popV i j g1) Q := by
  rw [ev_pop]
  simp only [Ok_bind]
theorem q_mt {m o es} : Ok W (ev c (.mt m o es) ⟨sl, hp⟩) Q = Ok W (ev c o ⟨sl, hp⟩) fun r g1 => optP (mtOk m r.pv g1.hp) fun _ => Ok W (opds c es g1) fun ys g2 => Ok W (lookAll ys g2) fun yv g3 => Ok W (lift (mtV m r.pv yv g3.hp) g3) Q := by
  rw [ev_mt]
  simp only [Ok_bind]
  congr 1
  funext r g1
  rw [Ok_opt]
theorem q_itl {a} : Ok W (ev c (.itl a) ⟨sl, hp⟩) Q = Ok W (ev c a ⟨sl, hp⟩) fun r g1 => Ok W (lift (itlV r.pv g1.hp) g1) Q := by
  rw [ev_itl]
  simp only [Ok_bind]
theorem q_lrg {it} : Ok W (ev c (.lrg it) ⟨sl, hp⟩) Q = Ok W (evi c it ⟨sl, hp⟩) fun xs g1 => xs.length ≤ 16777216 ∧ Q (.new xs) g1 := by
  rw [ev_lrg]
  simp only [Ok_bind, Ok_if, Ok_ok]
theorem q_lset {i a} : Ok W (ev c (.lset i a) ⟨sl, hp⟩) Q = Ok W (ev c a ⟨sl, hp⟩) fun r g1 => i < g1.sl.length ∧ Ok W (lift ((itemsOf r.pv).bind lsetV) g1) Q := by
  rw [ev_lset]
  simp only [Ok_bind, Ok_if]
theorem q_dnew : Ok W (ev c .dnew ⟨sl, hp⟩) Q = Q (.val (.ref hp.length)) ⟨sl, hp ++ [.dk []]⟩ := rfl
theorem q_lc2 {t it k t2 it2 k2 el} : Ok W (ev c (.lc2 t it k t2 it2 k2 el) ⟨sl, hp⟩) Q = Ok W (evi c it ⟨sl, hp⟩) fun xs g1 => noOwn g1.sl (t.slots ++ t2.slots) = true ∧ Ok NX (lc2Go (t.slots ++ t2.slots) (bindT t) (tsto c k) (fun acc h => (evi c it2 h).bind fun ys h1 => lcGo t2.slots (bindT t2) (tsto c k2) (ev c el) ys acc { h1 with sl := wipe h1.sl t2.slots }) xs [] { g1 with sl := wipe g1.sl (t.slots ++ t2.slots) }) fun ys g2 => Q (.new ys) (backG g1 (t.slots ++ t2.slots) g2) := by
  rw [ev_lc2]
  simp only [Ok_bind, Ok_noX, Ok_if, Ok_ok]
  rfl
theorem q_dcn {t it k kk el} : Ok W (ev c (.dcn t it k kk el) ⟨sl, hp⟩) Q = Ok W (evi c it ⟨sl, hp⟩) fun xs g1 => noOwn g1.sl t.slots = true ∧ Ok NX (dcGo t.slots (bindT t) (tsto c k) (ev c kk) (ev c el) xs (.dk []) { g1 with sl := wipe g1.sl t.slots }) fun cl g2 => Q (.val (.ref g2.hp.length)) (pushG (backG g1 t.slots g2) cl) := by
  rw [ev_dcn]
  simp only [Ok_bind, Ok_noX, Ok_if, Ok_ok]
  rfl
theorem q_evs2 {e es} {QL : List PV → G → Prop} : Ok W (evs c (.star e es) ⟨sl, hp⟩) QL = Ok W (ev c e ⟨sl, hp⟩) fun r g1 => Ok W (lift (itemsOf r.pv) g1) fun xs g2 => Ok W (evs c es g2) fun vs g3 => QL (xs ++ vs) g3 := by
  rw [evs_star]
  simp only [Ok_bind, Ok_ok]
theorem q_evsR0 {QL : List Res → G → Prop} : Ok W (evsR c .nil ⟨sl, hp⟩) QL = QL [] ⟨sl, hp⟩ := rfl
theorem q_evsR1 {e es} {QL : List Res → G → Prop} : Ok W (evsR c (.cons e es) ⟨sl, hp⟩) QL = Ok W (ev c e ⟨sl, hp⟩) fun r g1 => Ok (wR W r) (evsR c es g1) fun vs g2 => QL (r :: vs) g2 := by
  rw [evsR_cons]
  simp only [Ok_bind]
  congr 1
  funext r g1
  cases r with
  | val v => simp only [Ok_bind, Ok_ok, wR_val]
  | new xs => simp only [Ok_bind, Ok_noX, Ok_ok, wR_new]
theorem q_enu {a} {QL : List PV → G → Prop} : Ok W (evi c (.enu a) ⟨sl, hp⟩) QL = Ok W (ev c a ⟨sl, hp⟩) fun r g1 => Ok W (lift (itemsOf r.pv) g1) fun xs g2 => QL (enuL 0 xs) g2 := by
  rw [evi_enu]
  simp only [Ok_bind, Ok_ok]
theorem q_zip {a b} {QL : List PV → G → Prop} : Ok W (evi c (.zip a b) ⟨sl, hp⟩) QL = Ok W (ev c a ⟨sl, hp⟩) fun r g1 => Ok W (ev c b g1) fun s g2 => Ok W (lift (zipV r.pv s.pv) g2) QL := by
  rw [evi_zip]
  simp only [Ok_bind]
theorem q_otyn {t} : Ok W (opd c (.tyn t) ⟨sl, hp⟩) QO = Ok W (ev c (.tyn t) ⟨sl, hp⟩) fun r g1 => QO (.v r.pv) g1 := by
  show Ok W ((ev c (.tyn t) ⟨sl, hp⟩).bind fun r g1 => .ok (.v r.pv) g1) QO = _
  simp only [Ok_bind, Ok_ok]
theorem q_rtyn {t} : Ok W (ex c (.ret (.tyn t)) ⟨sl, hp⟩) QF = Ok W (ev c (.tyn t) ⟨sl, hp⟩) fun r g1 => QF (.ret r) g1 := by
  show Ok W ((ev c (.tyn t) ⟨sl, hp⟩).bind fun r g1 => .ok (.ret r) g1) QF = _
  simp only [Ok_bind, Ok_ok]
theorem q_ochn {o p a b d} : Ok W (opd c (.chn o p a b d) ⟨sl, hp⟩) QO = Ok W (ev c (.chn o p a b d) ⟨sl, hp⟩) fun r g1 => QO (.v r.pv) g1 := by
  show Ok W ((ev c (.chn o p a b d) ⟨sl, hp⟩).bind fun r g1 => .ok (.v r.pv) g1) QO = _
  simp only [Ok_bind, Ok_ok]
theorem q_tpop {i k} : Ok W (tst c (.pop i k) ⟨sl, hp⟩) QB = Ok W (ev c (.pop i k) ⟨sl, hp⟩) fun r g1 => Ok W (lift (truV r.pv) g1) QB := by
  show Ok W ((ev c (.pop i k) ⟨sl, hp⟩).bind fun r g1 => lift (truV r.pv) g1) QB = _
  rw [Ok_bind]
theorem q_opop {i k} : Ok W (opd c (.pop i k) ⟨sl, hp⟩) QO = Ok W (ev c (.pop i k) ⟨sl, hp⟩) fun r g1 => QO (.v r.pv) g1 := by
  show Ok W ((ev c (.pop i k) ⟨sl, hp⟩).bind fun r g1 => .ok (.v r.pv) g1) QO = _
  simp only [Ok_bind, Ok_ok]
theorem q_rpop {i k} : Ok W (ex c (.ret (.pop i k)) ⟨sl, hp⟩) QF = Ok W (ev c (.pop i k) ⟨sl, hp⟩) fun r g1 => QF (.ret r) g1 := by
  show Ok W ((ev c (.pop i k) ⟨sl, hp⟩).bind fun r g1 => .ok (.ret r) g1) QF = _
  simp only [Ok_bind, Ok_ok]
theorem q_tmt {m o es} : Ok W (tst c (.mt m o es) ⟨sl, hp⟩) QB = Ok W (ev c (.mt m o es) ⟨sl, hp⟩) fun r g1 => Ok W (lift (truV r.pv) g1) QB := by
  show Ok W ((ev c (.mt m o es) ⟨sl, hp⟩).bind fun r g1 => lift (truV r.pv) g1) QB = _
  rw [Ok_bind]
theorem q_omt {m o es} : Ok W (opd c (.mt m o es) ⟨sl, hp⟩) QO = Ok W (ev c (.mt m o es) ⟨sl, hp⟩) fun r g1 => QO (.v r.pv) g1 := by
  show Ok W ((ev c (.mt m o es) ⟨sl, hp⟩).bind fun r g1 => .ok (.v r.pv) g1) QO = _
  simp only [Ok_bind, Ok_ok]
theorem q_rmt {m o es} : Ok W (ex c (.ret (.mt m o es)) ⟨sl, hp⟩) QF = Ok W (ev c (.mt m o es) ⟨sl, hp⟩) fun r g1 => QF (.ret r) g1 := by
  show Ok W ((ev c (.mt m o es) ⟨sl, hp⟩).bind fun r g1 => .ok (.ret r) g1) QF = _
  simp only [Ok_bind, Ok_ok]
theorem q_oitl {a} : Ok W (opd c (.itl a) ⟨sl, hp⟩) QO = Ok W (ev c (.itl a) ⟨sl, hp⟩) fun r g1 => QO (.v r.pv) g1 := by
  show Ok W ((ev c (.itl a) ⟨sl, hp⟩).bind fun r g1 => .ok (.v r.pv) g1) QO = _
  simp only [Ok_bind, Ok_ok]
theorem q_ritl {a} : Ok W (ex c (.ret (.itl a)) ⟨sl, hp⟩) QF = Ok W (ev c (.itl a) ⟨sl, hp⟩) fun r g1 => QF (.ret r) g1 := by
  show Ok W ((ev c (.itl a) ⟨sl, hp⟩).bind fun r g1 => .ok (.ret r) g1) QF = _
  simp only [Ok_bind, Ok_ok]
theorem q_olrg {i} : Ok W (opd c (.lrg i) ⟨sl, hp⟩) QO = Ok W (ev c (.lrg i) ⟨sl, hp⟩) fun r g1 => QO (.v r.pv) g1 := by
  show Ok W ((ev c (.lrg i) ⟨sl, hp⟩).bind fun r g1 => .ok (.v r.pv) g1) QO = _
  simp only [Ok_bind, Ok_ok]
theorem q_rlrg {i} : Ok W (ex c (.ret (.lrg i)) ⟨sl, hp⟩) QF = Ok W (ev c (.lrg i) ⟨sl, hp⟩) fun r g1 => QF (.ret r) g1 := by
  show Ok W ((ev c (.lrg i) ⟨sl, hp⟩).bind fun r g1 => .ok (.ret r) g1) QF = _
  simp only [Ok_bind, Ok_ok]
theorem q_tlset {i a} : Ok W (tst c (.lset i a) ⟨sl, hp⟩) QB = Ok W (ev c (.lset i a) ⟨sl, hp⟩) fun r g1 => Ok W (lift (truV r.pv) g1) QB := by
  show Ok W ((ev c (.lset i a) ⟨sl, hp⟩).bind fun r g1 => lift (truV r.pv) g1) QB = _
  rw [Ok_bind]
theorem q_olset {i a} : Ok W (opd c (.lset i a) ⟨sl, hp⟩) QO = Ok W (ev c (.lset i a) ⟨sl, hp⟩) fun r g1 => QO (.v r.pv) g1 := by
  show Ok W ((ev c (.lset i a) ⟨sl, hp⟩).bind fun r g1 => .ok (.v r.pv) g1) QO = _
  simp only [Ok_bind, Ok_ok]
theorem q_rlset {i a} : Ok W (ex c (.ret (.lset i a)) ⟨sl, hp⟩) QF = Ok W (ev c (.lset i a) ⟨sl, hp⟩) fun r g1 => QF (.ret r) g1 := by
  show Ok W ((ev c (.lset i a) ⟨sl, hp⟩).bind fun r g1 => .ok (.ret r) g1) QF = _
  simp only [Ok_bind, Ok_ok]
theorem q_olc2 {t i k u j l e} : Ok W (opd c (.lc2 t i k u j l e) ⟨sl, hp⟩) QO = Ok W (ev c (.lc2 t i k u j l e) ⟨sl, hp⟩) fun r g1 => QO (.v r.pv) g1 := by
  show Ok W ((ev c (.lc2 t i k u j l e) ⟨sl, hp⟩).bind fun r g1 => .ok (.v r.pv) g1) QO = _
  simp only [Ok_bind, Ok_ok]
theorem q_rlc2 {t i k u j l e} : Ok W (ex c (.ret (.lc2 t i k u j l e)) ⟨sl, hp⟩) QF = Ok W (ev c (.lc2 t i k u j l e) ⟨sl, hp⟩) fun r g1 => QF (.ret r) g1 := by
  show Ok W ((ev c (.lc2 t i k u j l e) ⟨sl, hp⟩).bind fun r g1 => .ok (.ret r) g1) QF = _
  simp only [Ok_bind, Ok_ok]
theorem q_odcn {t i k q e} : Ok W (opd c (.dcn t i k q e) ⟨sl, hp⟩) QO = Ok W (ev c (.dcn t i k q e) ⟨sl, hp⟩) fun r g1 => QO (.v r.pv) g1 := by
  show Ok W ((ev c (.dcn t i k q e) ⟨sl, hp⟩).bind fun r g1 => .ok (.v r.pv) g1) QO = _
  simp only [Ok_bind, Ok_ok]
theorem q_rdcn {t i k q e} : Ok W (ex c (.ret (.dcn t i k q e)) ⟨sl, hp⟩) QF = Ok W (ev c (.dcn t i k q e) ⟨sl, hp⟩) fun r g1 => QF (.ret r) g1 := by
  show Ok W ((ev c (.dcn t i k q e) ⟨sl, hp⟩).bind fun r g1 => .ok (.ret r) g1) QF = _
  simp only [Ok_bind, Ok_ok]
theorem q_said {t q r e} : Ok W (ev c (.said t q r e) ⟨sl, hp⟩) Q = (hp[t]? = some (.tb q) ∧ Ok (fun x g1 => Ok W (callC c r x.args [.int x.cls] g1) Q) (ev c e ⟨sl, hp⟩) fun v g1 => Q (.val (.tup [.str "told", v.pv])) g1) := by
  rw [ev_said]
  show Ok W ((tbAt t q ⟨sl, hp⟩).bind fun _ g0 => caught c r (ev c e g0)) Q = _
  rw [Ok_bind]
  unfold tbAt
  simp only
  cases h : hp[t]? with
  | none => simp [Ok]
  | some cl =>
    cases cl with
    | tb q' =>
      by_cases z : q' = q
      · subst z
        simp only [if_true, Ok_ok, true_and]
        cases ev c e ⟨sl, hp⟩ <;> rfl
      · simp [z, Ok]
    | _ => simp [Ok]
theorem q_hx {s i} : Ok W (ev c (.hx s i) ⟨sl, hp⟩) Q = (match sl[s]? with
    | some .x => Ok W (callC c i [] [] ⟨sl, hp⟩) Q
    | _ => False) := by
  rw [ev_hx]
  unfold hxV
  simp only
  split <;> first | rfl | simp_all [Ok]
theorem q_osaid {t q r e} : Ok W (opd c (.said t q r e) ⟨sl, hp⟩) QO = Ok W (ev c (.said t q r e) ⟨sl, hp⟩) fun r g1 => QO (.v r.pv) g1 := by
  show Ok W ((ev c (.said t q r e) ⟨sl, hp⟩).bind fun r g1 => .ok (.v r.pv) g1) QO = _
  simp only [Ok_bind, Ok_ok]
theorem q_ohx {s i} : Ok W (opd c (.hx s i) ⟨sl, hp⟩) QO = Ok W (ev c (.hx s i) ⟨sl, hp⟩) fun r g1 => QO (.v r.pv) g1 := by
  show Ok W ((ev c (.hx s i) ⟨sl, hp⟩).bind fun r g1 => .ok (.v r.pv) g1) QO = _
  simp only [Ok_bind, Ok_ok]
theorem q_thx {s i} : Ok W (tst c (.hx s i) ⟨sl, hp⟩) QB = Ok W (ev c (.hx s i) ⟨sl, hp⟩) fun r g1 => Ok W (lift (truV r.pv) g1) QB := by
  show Ok W ((ev c (.hx s i) ⟨sl, hp⟩).bind fun r g1 => lift (truV r.pv) g1) QB = _
  simp only [Ok_bind]
theorem q_rsaid {t q r e} : Ok W (ex c (.ret (.said t q r e)) ⟨sl, hp⟩) QF = Ok W (ev c (.said t q r e) ⟨sl, hp⟩) fun r g1 => QF (.ret r) g1 := by
  show Ok W ((ev c (.said t q r e) ⟨sl, hp⟩).bind fun r g1 => .ok (.ret r) g1) QF = _
  simp only [Ok_bind, Ok_ok]
theorem q_rs {k es} : Ok W (ex c (.rs k es) ⟨sl, hp⟩) QF = Ok W (evs c es ⟨sl, hp⟩) fun vs g1 => W ⟨k, vs⟩ g1 := by
  show Ok W ((evs c es ⟨sl, hp⟩).bind fun vs g1 => .exc ⟨k, vs⟩ g1) QF = _
  rw [Ok_bind]
  rfl
theorem q_glb {x v} : Ok W (ev c (.glb x v) ⟨sl, hp⟩) Q = Q (.val v) ⟨sl, hp⟩ := rfl
theorem q_oglb {x v} : Ok W (opd c (.glb x v) ⟨sl, hp⟩) QO = QO (.v v) ⟨sl, hp⟩ := rfl
theorem q_lnew {e} : Ok W (ev c (.lnew e) ⟨sl, hp⟩) Q = Ok W (ev c e ⟨sl, hp⟩) fun r g1 => Ok W (lnewV r g1) Q := by
  rw [ev_lnew]
  simp only [Ok_bind]
theorem q_lnewn {xs : List PV} : Ok W (lnewV (.new xs) ⟨sl, hp⟩) Q = Q (.val (.ref hp.length)) ⟨sl, hp ++ [.ls xs]⟩ := rfl
theorem q_lapp {o a} : Ok W (ev c (.lapp o a) ⟨sl, hp⟩) Q = Ok W (ev c o ⟨sl, hp⟩) fun r g1 => Ok W (lsAt r.pv g1) fun _ g1 => Ok W (ev c a g1) fun s g2 => Ok W (lappV r.pv s.pv g2) Q := by
  rw [ev_lapp]
  simp only [Ok_bind]
theorem q_lsAt {n : Nat} : Ok W (lsAt (.ref n) ⟨sl, hp⟩) QU = (match hp[n]? with
  | some (.ls _) => QU () ⟨sl, hp⟩
  | _ => False) := by
  unfold lsAt
  simp only
  cases hp[n]? with
  | none => rfl
  | some s => cases s <;> rfl
theorem q_lappV {n : Nat} {v : PV} : Ok W (lappV (.ref n) v ⟨sl, hp⟩) Q = (match hp[n]? with
  | some (.ls xs) => xs.length + 1 ≤ sizeLine ∧ Q (.val .non) ⟨sl, hp.set n (.ls (xs ++ [v]))⟩
  | _ => False) := by
  unfold lappV
  simp only
  cases hp[n]? with
  | none => rfl
  | some s =>
    cases s with
    | ls xs =>
      simp only [Ok_if]
      rfl
    | _ => rfl
theorem q_lset2 {a} : Ok W (ev c (.lset2 a) ⟨sl, hp⟩) Q = Ok W (ev c a ⟨sl, hp⟩) fun r g1 => Ok W (lift ((tupsOf r.pv).bind lsetV) g1) Q := by
  rw [ev_lset2]
  simp only [Ok_bind]
theorem q_olset2 {a} : Ok W (opd c (.lset2 a) ⟨sl, hp⟩) QO = Ok W (ev c (.lset2 a) ⟨sl, hp⟩) fun r g1 => QO (.v r.pv) g1 := by
  show Ok W ((ev c (.lset2 a) ⟨sl, hp⟩).bind fun r g1 => .ok (.v r.pv) g1) QO = _
  simp only [Ok_bind, Ok_ok]
theorem q_odnew : Ok W (opd c .dnew ⟨sl, hp⟩) QO = Ok W (ev c .dnew ⟨sl, hp⟩) fun r g1 => QO (.v r.pv) g1 := by
  show Ok W ((ev c .dnew ⟨sl, hp⟩).bind fun r g1 => .ok (.v r.pv) g1) QO = _
  simp only [Ok_bind, Ok_ok]
theorem q_rdnew : Ok W (ex c (.ret .dnew) ⟨sl, hp⟩) QF = Ok W (ev c .dnew ⟨sl, hp⟩) fun r g1 => QF (.ret r) g1 := by
  show Ok W ((ev c .dnew ⟨sl, hp⟩).bind fun r g1 => .ok (.ret r) g1) QF = _
  simp only [Ok_bind, Ok_ok]
theorem q_evs0 {QL : List PV → G → Prop} : Ok W (evs c .nil ⟨sl, hp⟩) QL = QL [] ⟨sl, hp⟩ := rfl
theorem q_evs1 {e es} {QL : List PV → G → Prop} : Ok W (evs c (.cons e es) ⟨sl, hp⟩) QL = Ok W (ev c e ⟨sl, hp⟩) fun r g1 => Ok W (evs c es g1) fun vs g2 => QL (r.pv :: vs) g2 := by
  rw [evs_cons]
  simp only [Ok_bind, Ok_ok]
theorem q_opds0 {QL : List Opd → G → Prop} : Ok W (opds c .nil ⟨sl, hp⟩) QL = QL [] ⟨sl, hp⟩ := rfl
theorem q_opds1 {e es} {QL : List Opd → G → Prop} : Ok W (opds c (.cons e es) ⟨sl, hp⟩) QL = Ok W (opd c e ⟨sl, hp⟩) fun r g1 => Ok W (opds c es g1) fun vs g2 => QL (r :: vs) g2 := by
  rw [opds_cons]
  simp only [Ok_bind, Ok_ok]
theorem q_no {QI : Option Int → G → Prop} : Ok W (evo c .no ⟨sl, hp⟩) QI = QI none ⟨sl, hp⟩ := rfl
theorem q_so {e} {QI : Option Int → G → Prop} : Ok W (evo c (.so e) ⟨sl, hp⟩) QI = Ok W (ev c e ⟨sl, hp⟩) fun r g1 => Ok W (lift (asInt r.pv) g1) fun i g2 => QI (some i) g2 := by
  rw [evo_so]
  simp only [Ok_bind, Ok_ok]
theorem q_it {a} {QL : List PV → G → Prop} : Ok W (evi c (.it a) ⟨sl, hp⟩) QL = Ok W (ev c a ⟨sl, hp⟩) fun r g1 => Ok W (lift (itemsI r.pv) g1) QL := by
  rw [evi_it]
  simp only [Ok_bind]
theorem q_rg1 {a} {QL : List PV → G → Prop} : Ok W (evi c (.rg1 a) ⟨sl, hp⟩) QL = Ok W (ev c a ⟨sl, hp⟩) fun r g1 => Ok W (lift (asInt r.pv) g1) fun j g2 => rgOk j ∧ QL (rgItems 0 j) g2 := by
  rw [evi_rg1]
  simp only [Ok_bind, Ok_if, Ok_ok]
theorem q_rg2 {a b} {QL : List PV → G → Prop} : Ok W (evi c (.rg2 a b) ⟨sl, hp⟩) QL = Ok W (ev c a ⟨sl, hp⟩) fun r g1 => Ok W (ev c b g1) fun s g2 => Ok W (lift (asInt r.pv) g2) fun i g3 => Ok W (lift (asInt s.pv) g3) fun j g4 => (rgOk i ∧ rgOk j) ∧ QL (rgItems i j) g4 := by
  rw [evi_rg2]
  simp only [Ok_bind, Ok_if, Ok_ok]
theorem q_tno : Ok W (tsto c .no ⟨sl, hp⟩) QB = QB true ⟨sl, hp⟩ := rfl
theorem q_tso {e} : Ok W (tsto c (.so e) ⟨sl, hp⟩) QB = Ok W (tst c e ⟨sl, hp⟩) QB := rfl
theorem q_evf0 {acc : Str} {QS : Str → G → Prop} : Ok W (evf c .nil acc ⟨sl, hp⟩) QS = QS acc ⟨sl, hp⟩ := rfl
theorem q_evf1 {e es} {acc : Str} {QS : Str → G → Prop} : Ok W (evf c (.cons e es) acc ⟨sl, hp⟩) QS = Ok W (ev c e ⟨sl, hp⟩) fun r g1 => Ok W (lift (fmtV r.pv) g1) fun x g2 => (acc ++ x).length ≤ sizeLine ∧ Ok W (evf c es (acc ++ x) g2) QS := by
  rw [evf_cons]
  simp only [Ok_bind, Ok_if]
-- tests
theorem q_tnt {a} : Ok W (tst c (.nt a) ⟨sl, hp⟩) QB = Ok W (tst c a ⟨sl, hp⟩) fun b g1 => QB (!b) g1 := by
  rw [tst_nt]
  simp only [Ok_bind, Ok_ok]
theorem Ok_iteB {k : Bool} {x y : R Bool} : Ok W (if k = true then x else y) QB = (if k = true then Ok W x QB else Ok W y QB) := by
  cases k <;> rfl
theorem q_tan {a b} : Ok W (tst c (.an a b) ⟨sl, hp⟩) QB = Ok W (tst c a ⟨sl, hp⟩) fun t g1 => if t = true then Ok W (tst c b g1) QB else QB false g1 := by
  rw [tst_an]
  simp only [Ok_bind, Ok_ok, Ok_iteB]
theorem q_tor {a b} : Ok W (tst c (.orr a b) ⟨sl, hp⟩) QB = Ok W (tst c a ⟨sl, hp⟩) fun t g1 => if t = true then QB true g1 else Ok W (tst c b g1) QB := by
  rw [tst_orr]
  simp only [Ok_bind, Ok_ok, Ok_iteB]
theorem q_tite {t a b} : Ok W (tst c (.ite t a b) ⟨sl, hp⟩) QB = Ok W (tst c t ⟨sl, hp⟩) fun k g1 => if k = true then Ok W (tst c a g1) QB else Ok W (tst c b g1) QB := by
  rw [tst_ite]
  simp only [Ok_bind, Ok_iteB]
theorem q_tvar {i} : Ok W (tst c (.var i) ⟨sl, hp⟩) QB = Ok W (ev c (.var i) ⟨sl, hp⟩) fun r g1 => Ok W (lift (truV r.pv) g1) QB := by
  show Ok W ((ev c (.var i) ⟨sl, hp⟩).bind fun r g1 => lift (truV r.pv) g1) QB = _
  rw [Ok_bind]
theorem q_tcst {v} : Ok W (tst c (.cst v) ⟨sl, hp⟩) QB = Ok W (ev c (.cst v) ⟨sl, hp⟩) fun r g1 => Ok W (lift (truV r.pv) g1) QB := by
  show Ok W ((ev c (.cst v) ⟨sl, hp⟩).bind fun r g1 => lift (truV r.pv) g1) QB = _
  rw [Ok_bind]
theorem q_tchn {o p a b d} : Ok W (tst c (.chn o p a b d) ⟨sl, hp⟩) QB = Ok W (ev c (.chn o p a b d) ⟨sl, hp⟩) fun r g1 => Ok W (lift (truV r.pv) g1) QB := by
  show Ok W ((ev c (.chn o p a b d) ⟨sl, hp⟩).bind fun r g1 => lift (truV r.pv) g1) QB = _
  simp only [Ok_bind]
theorem q_tcmp {o a b} : Ok W (tst c (.cmp o a b) ⟨sl, hp⟩) QB = Ok W (ev c (.cmp o a b) ⟨sl, hp⟩) fun r g1 => Ok W (lift (truV r.pv) g1) QB := by
  show Ok W ((ev c (.cmp o a b) ⟨sl, hp⟩).bind fun r g1 => lift (truV r.pv) g1) QB = _
  rw [Ok_bind]
theorem q_tidx {a b} : Ok W (tst c (.idx a b) ⟨sl, hp⟩) QB = Ok W (ev c (.idx a b) ⟨sl, hp⟩) fun r g1 => Ok W (lift (truV r.pv) g1) QB := by
  show Ok W ((ev c (.idx a b) ⟨sl, hp⟩).bind fun r g1 => lift (truV r.pv) g1) QB = _
  rw [Ok_bind]
theorem q_tcall {f es ks} : Ok W (tst c (.call f es ks) ⟨sl, hp⟩) QB = Ok W (ev c (.call f es ks) ⟨sl, hp⟩) fun r g1 => Ok W (lift (truV r.pv) g1) QB := by
  show Ok W ((ev c (.call f es ks) ⟨sl, hp⟩).bind fun r g1 => lift (truV r.pv) g1) QB = _
  rw [Ok_bind]
theorem q_tbi {f es} : Ok W (tst c (.bi f es) ⟨sl, hp⟩) QB = Ok W (ev c (.bi f es) ⟨sl, hp⟩) fun r g1 => Ok W (lift (truV r.pv) g1) QB := by
  show Ok W ((ev c (.bi f es) ⟨sl, hp⟩).bind fun r g1 => lift (truV r.pv) g1) QB = _
  rw [Ok_bind]
theorem q_tslc {a lo hi} : Ok W (tst c (.slc a lo hi) ⟨sl, hp⟩) QB = Ok W (ev c (.slc a lo hi) ⟨sl, hp⟩) fun r g1 => Ok W (lift (truV r.pv) g1) QB := by
  show Ok W ((ev c (.slc a lo hi) ⟨sl, hp⟩).bind fun r g1 => lift (truV r.pv) g1) QB = _
  rw [Ok_bind]
-- operands
theorem q_ovar {i} : Ok W (opd c (.var i) ⟨sl, hp⟩) QO = Ok W (peek i ⟨sl, hp⟩) fun _ g => QO (.s i) g := by
  rw [opd_var]
  simp only [Ok_bind, Ok_ok]
theorem q_ocst {v} : Ok W (opd c (.cst v) ⟨sl, hp⟩) QO = QO (.v v) ⟨sl, hp⟩ := rfl
theorem q_otup {es} : Ok W (opd c (.tup es) ⟨sl, hp⟩) QO = Ok W (ev c (.tup es) ⟨sl, hp⟩) fun r g1 => QO (.v r.pv) g1 := by
  show Ok W ((ev c (.tup es) ⟨sl, hp⟩).bind fun r g1 => .ok (.v r.pv) g1) QO = _
  simp only [Ok_bind, Ok_ok]
theorem q_olst {es} : Ok W (opd c (.lst es) ⟨sl, hp⟩) QO = Ok W (ev c (.lst es) ⟨sl, hp⟩) fun r g1 => QO (.v r.pv) g1 := by
  show Ok W ((ev c (.lst es) ⟨sl, hp⟩).bind fun r g1 => .ok (.v r.pv) g1) QO = _
  simp only [Ok_bind, Ok_ok]
theorem q_obin {o a b} : Ok W (opd c (.bin o a b) ⟨sl, hp⟩) QO = Ok W (ev c (.bin o a b) ⟨sl, hp⟩) fun r g1 => QO (.v r.pv) g1 := by
  show Ok W ((ev c (.bin o a b) ⟨sl, hp⟩).bind fun r g1 => .ok (.v r.pv) g1) QO = _
  simp only [Ok_bind, Ok_ok]
theorem q_ocmp {o a b} : Ok W (opd c (.cmp o a b) ⟨sl, hp⟩) QO = Ok W (ev c (.cmp o a b) ⟨sl, hp⟩) fun r g1 => QO (.v r.pv) g1 := by
  show Ok W ((ev c (.cmp o a b) ⟨sl, hp⟩).bind fun r g1 => .ok (.v r.pv) g1) QO = _
  simp only [Ok_bind, Ok_ok]
theorem q_oneg {a} : Ok W (opd c (.neg a) ⟨sl, hp⟩) QO = Ok W (ev c (.neg a) ⟨sl, hp⟩) fun r g1 => QO (.v r.pv) g1 := by
  show Ok W ((ev c (.neg a) ⟨sl, hp⟩).bind fun r g1 => .ok (.v r.pv) g1) QO = _
  simp only [Ok_bind, Ok_ok]
theorem q_ont {a} : Ok W (opd c (.nt a) ⟨sl, hp⟩) QO = Ok W (ev c (.nt a) ⟨sl, hp⟩) fun r g1 => QO (.v r.pv) g1 := by
  show Ok W ((ev c (.nt a) ⟨sl, hp⟩).bind fun r g1 => .ok (.v r.pv) g1) QO = _
  simp only [Ok_bind, Ok_ok]
theorem q_oan {a b} : Ok W (opd c (.an a b) ⟨sl, hp⟩) QO = Ok W (ev c (.an a b) ⟨sl, hp⟩) fun r g1 => QO (.v r.pv) g1 := by
  show Ok W ((ev c (.an a b) ⟨sl, hp⟩).bind fun r g1 => .ok (.v r.pv) g1) QO = _
  simp only [Ok_bind, Ok_ok]
theorem q_oorr {a b} : Ok W (opd c (.orr a b) ⟨sl, hp⟩) QO = Ok W (ev c (.orr a b) ⟨sl, hp⟩) fun r g1 => QO (.v r.pv) g1 := by
  show Ok W ((ev c (.orr a b) ⟨sl, hp⟩).bind fun r g1 => .ok (.v r.pv) g1) QO = _
  simp only [Ok_bind, Ok_ok]
theorem q_oite {t a b} : Ok W (opd c (.ite t a b) ⟨sl, hp⟩) QO = Ok W (ev c (.ite t a b) ⟨sl, hp⟩) fun r g1 => QO (.v r.pv) g1 := by
  show Ok W ((ev c (.ite t a b) ⟨sl, hp⟩).bind fun r g1 => .ok (.v r.pv) g1) QO = _
  simp only [Ok_bind, Ok_ok]
theorem q_oidx {a b} : Ok W (opd c (.idx a b) ⟨sl, hp⟩) QO = Ok W (ev c (.idx a b) ⟨sl, hp⟩) fun r g1 => QO (.v r.pv) g1 := by
  show Ok W ((ev c (.idx a b) ⟨sl, hp⟩).bind fun r g1 => .ok (.v r.pv) g1) QO = _
  simp only [Ok_bind, Ok_ok]
theorem q_oslc {a lo hi} : Ok W (opd c (.slc a lo hi) ⟨sl, hp⟩) QO = Ok W (ev c (.slc a lo hi) ⟨sl, hp⟩) fun r g1 => QO (.v r.pv) g1 := by
  show Ok W ((ev c (.slc a lo hi) ⟨sl, hp⟩).bind fun r g1 => .ok (.v r.pv) g1) QO = _
  simp only [Ok_bind, Ok_ok]
theorem q_orev {a} : Ok W (opd c (.rev a) ⟨sl, hp⟩) QO = Ok W (ev c (.rev a) ⟨sl, hp⟩) fun r g1 => QO (.v r.pv) g1 := by
  show Ok W ((ev c (.rev a) ⟨sl, hp⟩).bind fun r g1 => .ok (.v r.pv) g1) QO = _
  simp only [Ok_bind, Ok_ok]
theorem q_ocall {f es ks} : Ok W (opd c (.call f es ks) ⟨sl, hp⟩) QO = Ok W (ev c (.call f es ks) ⟨sl, hp⟩) fun r g1 => QO (.v r.pv) g1 := by
  show Ok W ((ev c (.call f es ks) ⟨sl, hp⟩).bind fun r g1 => .ok (.v r.pv) g1) QO = _
  simp only [Ok_bind, Ok_ok]
theorem q_obi {f es} : Ok W (opd c (.bi f es) ⟨sl, hp⟩) QO = Ok W (ev c (.bi f es) ⟨sl, hp⟩) fun r g1 => QO (.v r.pv) g1 := by
  show Ok W ((ev c (.bi f es) ⟨sl, hp⟩).bind fun r g1 => .ok (.v r.pv) g1) QO = _
  simp only [Ok_bind, Ok_ok]
theorem q_ojoin {a b} : Ok W (opd c (.join a b) ⟨sl, hp⟩) QO = Ok W (ev c (.join a b) ⟨sl, hp⟩) fun r g1 => QO (.v r.pv) g1 := by
  show Ok W ((ev c (.join a b) ⟨sl, hp⟩).bind fun r g1 => .ok (.v r.pv) g1) QO = _
  simp only [Ok_bind, Ok_ok]
theorem q_olc {t i k e} : Ok W (opd c (.lc t i k e) ⟨sl, hp⟩) QO = Ok W (ev c (.lc t i k e) ⟨sl, hp⟩) fun r g1 => QO (.v r.pv) g1 := by
  show Ok W ((ev c (.lc t i k e) ⟨sl, hp⟩).bind fun r g1 => .ok (.v r.pv) g1) QO = _
  simp only [Ok_bind, Ok_ok]
theorem q_ofs {es} : Ok W (opd c (.fs es) ⟨sl, hp⟩) QO = Ok W (ev c (.fs es) ⟨sl, hp⟩) fun r g1 => QO (.v r.pv) g1 := by
  show Ok W ((ev c (.fs es) ⟨sl, hp⟩).bind fun r g1 => .ok (.v r.pv) g1) QO = _
  simp only [Ok_bind, Ok_ok]
theorem q_odct {ks vs} : Ok W (opd c (.dct ks vs) ⟨sl, hp⟩) QO = Ok W (ev c (.dct ks vs) ⟨sl, hp⟩) fun r g1 => QO (.v r.pv) g1 := by
  show Ok W ((ev c (.dct ks vs) ⟨sl, hp⟩).bind fun r g1 => .ok (.v r.pv) g1) QO = _
  simp only [Ok_bind, Ok_ok]
theorem q_lookv {x : PV} {g : G} : Ok W (look (.v x) g) QV = QV x g := rfl
theorem q_looks {i : Nat} {g : G} : Ok W (look (.s i) g) QV = Ok W (peek i g) QV := rfl
theorem q_peek {i : Nat} : Ok W (peek i ⟨sl, hp⟩) QV = (match sl[i]? with
  | some (.val v) => QV v ⟨sl, hp⟩
  | some (.own xs) => QV (.lst xs) ⟨sl, hp⟩
  | _ => False) := by
  unfold peek
  simp only
  cases sl[i]? with
  | none => rfl
  | some s => cases s <;> rfl
theorem q_look0 {QL : List PV → G → Prop} {g : G} : Ok W (lookAll [] g) QL = QL [] g := rfl
theorem q_look1 {x : Opd} {xs : List Opd} {g : G} {QL : List PV → G → Prop} : Ok W (lookAll (x :: xs) g) QL = Ok W (look x g) fun v g1 => Ok W (lookAll xs g1) fun vs g2 => QL (v :: vs) g2 := by
  show Ok W ((look x g).bind fun v g1 => (lookAll xs g1).bind fun vs g2 => .ok (v :: vs) g2) QL = _
  simp only [Ok_bind, Ok_ok]
theorem q_set {i : Nat} {r : Res} : Ok W (setVar i r ⟨sl, hp⟩) QU = (i < sl.length ∧ QU () ⟨sl.set i r.slot, hp⟩) := by
  show Ok W (if i < sl.length then _ else _) QU = _
  rw [Ok_if]
  rfl
theorem q_bnm {i : Nat} {r : Res} {g : G} : Ok W (bindT (.nm i) r g) QU = Ok W (setVar i r g) QU := rfl
theorem q_btp {is : List Nat} {xs : List PV} {g : G} : Ok W (bindT (.tp is) (.val (.tup xs)) g) QU = Ok W (setVars is xs g) QU := rfl
theorem q_sets0 {g : G} : Ok W (setVars [] [] g) QU = QU () g := rfl
theorem q_sets1 {i : Nat} {is : List Nat} {v : PV} {vs : List PV} {g : G} : Ok W (setVars (i :: is) (v :: vs) g) QU = Ok W (setVar i (.val v) g) fun _ g1 => Ok W (setVars is vs g1) QU := by
  show Ok W ((setVar i (.val v) g).bind fun _ => setVars is vs) QU = _
  rw [Ok_bind]
theorem q_par0 {g : G} : Ok W (setPar [] [] g) QU = QU () g := rfl
theorem q_par1 {i : Nat} {is : List Nat} {v : Res} {vs : List Res} {g : G} : Ok W (setPar (i :: is) (v :: vs) g) QU = Ok W (setPar is vs g) fun _ g1 => Ok W (setVar i v g1) QU := by
  show Ok W ((setPar is vs g).bind fun _ g1 => setVar i v g1) QU = _
  rw [Ok_bind]
theorem q_own {i : Nat} : Ok W (ownAt i ⟨sl, hp⟩) QU = (match sl[i]? with
  | some (.own _) => QU () ⟨sl, hp⟩
  | _ => False) := by
  unfold ownAt
  simp only
  cases sl[i]? with
  | none => rfl
  | some s => cases s <;> rfl
theorem q_appV {i : Nat} {more : List PV} : Ok W (appV i more ⟨sl, hp⟩) Q = (match sl[i]? with
  | some (.own xs) => xs.length + more.length ≤ sizeLine ∧ Q (.val .non) ⟨sl.set i (.own (xs ++ more)), hp⟩
  | _ => False) := by
  unfold appV
  simp only
  cases sl[i]? with
  | none => rfl
  | some s =>
    cases s with
    | own xs =>
      simp only [Ok_if]
      rfl
    | _ => rfl
theorem q_extn {i : Nat} {xs : List PV} {g : G} : Ok W (extV i (.new xs) g) Q = Ok W (appV i xs g) Q := rfl
theorem q_extl {i : Nat} {xs : List PV} {g : G} : Ok W (extV i (.val (.lst xs)) g) Q = Ok W (appV i xs g) Q := rfl
theorem q_ixr {n : Nat} {k : PV} : Ok W (idxG (.ref n) k ⟨sl, hp⟩) QV = optP (hp[n]?) fun cl => optP (getC cl k) fun o => optP o fun v => QV v ⟨sl, hp⟩ := by
  unfold idxG
  simp only [Ok_opt, optP_bind]
  rfl
theorem q_ixt {xs : List PV} {k : PV} {g : G} : Ok W (idxG (.tup xs) k g) QV = Ok W (lift (idxV (.tup xs) k) g) QV := rfl
theorem q_ixl {xs : List PV} {k : PV} {g : G} : Ok W (idxG (.lst xs) k g) QV = Ok W (lift (idxV (.lst xs) k) g) QV := rfl
theorem q_ixs {xs : Str} {k : PV} {g : G} : Ok W (idxG (.str xs) k g) QV = Ok W (lift (idxV (.str xs) k) g) QV := rfl
theorem q_putG {n : Nat} {k v : PV} : Ok W (putG (.ref n) k v ⟨sl, hp⟩) QU = optP (hp[n]?) fun cl => optP (putC cl k v) fun c' => QU () ⟨sl, hp.set n c'⟩ := by
  unfold putG
  rw [← optP_bind]
  simp only
  cases (hp[n]?).bind fun cl => putC cl k v <;> rfl
theorem q_popV {i : Nat} {k : Option Int} : Ok W (popV i k ⟨sl, hp⟩) Q = (match sl[i]? with
  | some (.own xs) => optP (popAt xs k) fun p => Q (.val p.1) ⟨sl.set i (.own p.2), hp⟩
  | _ => False) := by
  unfold popV
  simp only
  cases sl[i]? with
  | none => rfl
  | some s =>
    cases s with
    | own xs =>
      simp only
      cases popAt xs k <;> rfl
    | _ => rfl
-- operators
theorem q_add_int {i j : Int} {g : G} : Ok W (lift (binV .add (.int i) (.int j)) g) Q = Q (.val (.int (i + j))) g := rfl
theorem q_add_str {x y : Str} {g : G} : Ok W (lift (binV .add (.str x) (.str y)) g) Q = ((x.length + y.length ≤ sizeLine) ∧ Q (.val (.str (x ++ y))) g) := Ok_ck
theorem q_add_lst {x y : List PV} {g : G} : Ok W (lift (binV .add (.lst x) (.lst y)) g) Q = ((x.length + y.length ≤ sizeLine) ∧ Q (.new (x ++ y)) g) := Ok_ck
theorem q_add_tup {x y : List PV} {g : G} : Ok W (lift (binV .add (.tup x) (.tup y)) g) Q = ((x.length + y.length ≤ sizeLine) ∧ Q (.val (.tup (x ++ y))) g) := Ok_ck
theorem q_sub_int {i j : Int} {g : G} : Ok W (lift (binV .sub (.int i) (.int j)) g) Q = Q (.val (.int (i - j))) g := rfl
theorem q_mul_int {i j : Int} {g : G} : Ok W (lift (binV .mul (.int i) (.int j)) g) Q = (((-(2 ^ 64) < i ∧ i < 2 ^ 64) ∨ (-(2 ^ 64) < j ∧ j < 2 ^ 64)) ∧ Q (.val (.int (i * j))) g) := Ok_ck
theorem q_mul_lst {x : List PV} {k : Int} {g : G} : Ok W (lift (binV .mul (.lst x) (.int k)) g) Q = ((-(2 ^ 63) ≤ k ∧ k < 2 ^ 63 ∧ x.length * k.toNat ≤ sizeLine) ∧ Q (.new (List.replicate k.toNat x).flatten) g) := Ok_ck
theorem q_fdiv_int {i j : Int} {g : G} : Ok W (lift (binV .fdiv (.int i) (.int j)) g) Q = ((0 < j ∧ j.natAbs.log2 < 9000) ∧ Q (.val (.int (i / j))) g) := Ok_ck
theorem q_mod_int {i j : Int} {g : G} : Ok W (lift (binV .mod (.int i) (.int j)) g) Q = ((0 < j) ∧ Q (.val (.int (i % j))) g) := Ok_ck
theorem q_pow_int {i j : Int} {g : G} : Ok W (lift (binV .pow (.int i) (.int j)) g) Q = ((0 ≤ j ∧ j ≤ 1000000 ∧ i.natAbs < 2 ^ 64) ∧ Q (.val (.int (i ^ j.toNat))) g) := Ok_ck
theorem q_bisi {x : PV} {t : Ty} {g : G} : Ok W (lift (biV .isi [x, .ty t]) g) Q = optP (isiV x t) fun b => Q (.val (.bl b)) g := by
  rw [Ok_opt]
  show optP ((isiV x t).map _) _ = _
  rw [optP_map]
theorem q_ball {xs : List PV} {g : G} : Ok W (lift (biV .all [.lst xs]) g) Q = optP (bls xs) fun bs => Q (.val (.bl (bs.all id))) g := by
  rw [Ok_opt]
  show optP ((bls xs).map _) _ = _
  rw [optP_map]
theorem q_bany {xs : List PV} {g : G} : Ok W (lift (biV .any [.lst xs]) g) Q = optP (bls xs) fun bs => Q (.val (.bl (bs.any id))) g := by
  rw [Ok_opt]
  show optP ((bls xs).map _) _ = _
  rw [optP_map]
theorem q_bsrtl {xs : List PV} {g : G} : Ok W (lift (biV .sorted [.lst xs]) g) Q = optP (nts xs) fun ns => Q (.new ((sortI ns).map PV.int)) g := by
  rw [Ok_opt]
  show optP ((nts xs).map _) _ = _
  rw [optP_map]
theorem q_bsrtt {xs : List PV} {g : G} : Ok W (lift (biV .sorted [.tup xs]) g) Q = optP (nts xs) fun ns => Q (.new ((sortI ns).map PV.int)) g := by
  rw [Ok_opt]
  show optP ((nts xs).map _) _ = _
  rw [optP_map]
theorem q_bsum {xs : List PV} {g : G} : Ok W (lift (biV .sum [.lst xs]) g) Q = optP (nts xs) fun ns => Q (.val (.int ns.sum)) g := by
  rw [Ok_opt]
  show optP ((nts xs).map _) _ = _
  rw [optP_map]
theorem q_mtget1 {n : Nat} {k : PV} {hp : List Cell} {g : G} : Ok W (lift (mtV .get (.ref n) [k] hp) g) Q = optP (hp[n]?) fun cl => optP (getC cl k) fun o => Q (.val (o.getD .non)) g := by
  rw [Ok_opt]
  show optP ((hp[n]?).bind _) _ = _
  simp only [optP_bind, optP_map]
theorem q_mtidxt {xs : List PV} {y : PV} {hp : List Cell} {g : G} : Ok W (lift (mtV .index (.tup xs) [y] hp) g) Q = ((flat y = true ∧ xs.all flat = true) ∧ optP (idxOf y xs) fun i => Q (.val (.int (i : Nat))) g) := by
  rw [Ok_opt]
  show optP ((ck _ ()).bind _) _ = _
  simp only [optP_bind, optP_map, optP_ck]
theorem q_mtidxl {xs : List PV} {y : PV} {hp : List Cell} {g : G} : Ok W (lift (mtV .index (.lst xs) [y] hp) g) Q = ((flat y = true ∧ xs.all flat = true) ∧ optP (idxOf y xs) fun i => Q (.val (.int (i : Nat))) g) := by
  rw [Ok_opt]
  show optP ((ck _ ()).bind _) _ = _
  simp only [optP_bind, optP_map, optP_ck]
theorem q_itlr {n : Nat} {hp : List Cell} {g : G} : Ok W (lift (itlV (.ref n) hp) g) Q = optP (hp[n]?) fun cl => isD cl = true ∧ Q (.new (pairsC cl)) g := by
  rw [Ok_opt]
  show optP ((hp[n]?).bind _) _ = _
  rw [optP_bind]
  congr 1
  funext cl
  cases isD cl <;> simp [optP]
theorem q_lsetV {xs : List PV} {g : G} : Ok W (lift ((some xs).bind lsetV) g) Q = optP (lsetV xs) fun r => Q r g := Ok_opt
theorem q_bint {i : Int} {g : G} : Ok W (lift (biV .int [.int i]) g) Q = Q (.val (.int i)) g := rfl
theorem q_bintb {i : Bool} {g : G} : Ok W (lift (biV .int [.bl i]) g) Q = Q (.val (.int (if i then 1 else 0))) g := rfl
theorem q_blenl {x : List PV} {g : G} : Ok W (lift (biV .len [.lst x]) g) Q = Q (.val (.int x.length)) g := rfl
theorem q_blent {x : List PV} {g : G} : Ok W (lift (biV .len [.tup x]) g) Q = Q (.val (.int x.length)) g := rfl
theorem q_blens {x : Str} {g : G} : Ok W (lift (biV .len [.str x]) g) Q = (x.length ≤ sizeLine ∧ Q (.val (.int x.length)) g) := Ok_ck
theorem q_bstri {i : Int} {g : G} : Ok W (lift (biV .str [.int i]) g) Q = (i.natAbs.log2 < 1920 ∧ Q (.val (.str (toString i : String))) g) := Ok_ck
theorem q_bstrs {x : Str} {g : G} : Ok W (lift (biV .str [.str x]) g) Q = Q (.val (.str x)) g := rfl
theorem q_blistl {x : List PV} {g : G} : Ok W (lift (biV .list [.lst x]) g) Q = Q (.new x) g := rfl
theorem q_blistt {x : List PV} {g : G} : Ok W (lift (biV .list [.tup x]) g) Q = Q (.new x) g := rfl
theorem q_btupl {x : List PV} {g : G} : Ok W (lift (biV .tuple [.lst x]) g) Q = Q (.val (.tup x)) g := rfl
theorem q_btupt {x : List PV} {g : G} : Ok W (lift (biV .tuple [.tup x]) g) Q = Q (.val (.tup x)) g := rfl
theorem q_bmin {i j : Int} {g : G} : Ok W (lift (biV .min2 [.int i, .int j]) g) Q = Q (.val (.int (if j < i then j else i))) g := rfl
theorem q_bmax {i j : Int} {g : G} : Ok W (lift (biV .max2 [.int i, .int j]) g) Q = Q (.val (.int (if j > i then j else i))) g := rfl
theorem q_fmts {x : Str} {g : G} {QS : Str → G → Prop} : Ok W (lift (fmtV (.str x)) g) QS = (x.length ≤ sizeLine ∧ QS x g) := Ok_ck
theorem q_fmti {i : Int} {g : G} {QS : Str → G → Prop} : Ok W (lift (fmtV (.int i)) g) QS = (i.natAbs.log2 < 1920 ∧ QS ((toString i : String) : Str) g) := Ok_ck
-- statements
theorem q_asg {t e} : Ok W (ex c (.asg t e) ⟨sl, hp⟩) QF = Ok W (ev c e ⟨sl, hp⟩) fun r g1 => Ok W (bindT t r g1) fun _ g2 => QF .nx g2 := by
  rw [ex_asg]
  simp only [Ok_bind, Ok_ok]
theorem q_parS {is es} : Ok W (ex c (.par is es) ⟨sl, hp⟩) QF = Ok W (evsR c es ⟨sl, hp⟩) fun vs g1 => Ok W (setPar is vs g1) fun _ g2 => QF .nx g2 := by
  rw [ex_par]
  simp only [Ok_bind, Ok_ok]
theorem q_put {o k e} : Ok W (ex c (.put o k e) ⟨sl, hp⟩) QF = Ok W (ev c e ⟨sl, hp⟩) fun r g1 => Ok W (opd c o g1) fun x g2 => Ok W (opd c k g2) fun y g3 => Ok W (look x g3) fun xv g4 => Ok W (look y g4) fun yv g5 => Ok W (putG xv yv r.pv g5) fun _ g6 => QF .nx g6 := by
  rw [ex_put]
  simp only [Ok_bind, Ok_ok]
theorem q_star {i j e} : Ok W (ex c (.star i j e) ⟨sl, hp⟩) QF = Ok W (ev c e ⟨sl, hp⟩) fun r g1 => Ok W (starV i j r g1) QF := by
  rw [ex_star]
  simp only [Ok_bind]
theorem q_starV {i j : Nat} {x : PV} {xs : List PV} : Ok W (starV i j (.val (.tup (x :: xs))) ⟨sl, hp⟩) QF = (i < sl.length ∧ j < sl.length ∧ QF .nx ⟨(sl.set i (.val x)).set j (.own xs), hp⟩) := by
  unfold starV
  simp only [Ok_bind, q_set, List.length_set]
  rfl
theorem q_ex {e} : Ok W (ex c (.ex e) ⟨sl, hp⟩) QF = Ok W (ev c e ⟨sl, hp⟩) fun _ g1 => QF .nx g1 := by
  rw [ex_ex]
  simp only [Ok_bind, Ok_ok]
theorem Ok_iteF {k : Bool} {x y : R Fl} : Ok W (if k = true then x else y) QF = (if k = true then Ok W x QF else Ok W y QF) := by
  cases k <;> rfl
theorem q_iff {t a b} : Ok W (ex c (.iff t a b) ⟨sl, hp⟩) QF = Ok W (tst c t ⟨sl, hp⟩) fun k g1 => if k = true then Ok W (exs c a g1) QF else Ok W (exs c b g1) QF := by
  rw [ex_iff]
  simp only [Ok_bind, Ok_iteF]
theorem q_for {t it b} : Ok W (ex c (.for_ t it b) ⟨sl, hp⟩) QF = Ok W (evi c it ⟨sl, hp⟩) fun xs g1 => Ok W (forGo (bindT t) (exs c b) xs g1) QF := by
  rw [ex_for]
  simp only [Ok_bind]
theorem q_retV {i} : Ok W (ex c (.ret (.var i)) ⟨sl, hp⟩) QF = (match sl[i]? with
  | some (.val v) => QF (.ret (.val v)) ⟨sl, hp⟩
  | some (.own xs) => QF (.ret (.new xs)) ⟨sl.set i .no, hp⟩
  | _ => False) := by
  rw [ex_ret]
  simp only [Ok_bind, Ok_ok]
  show Ok W (match sl[i]? with
    | some (.own xs) => R.ok (Res.new xs) ⟨sl.set i .no, hp⟩
    | _ => rdVar i ⟨sl, hp⟩) _ = _
  unfold rdVar
  simp only
  cases sl[i]? with
  | none => rfl
  | some s => cases s <;> rfl
theorem q_rcst {v} : Ok W (ex c (.ret (.cst v)) ⟨sl, hp⟩) QF = Ok W (ev c (.cst v) ⟨sl, hp⟩) fun r g1 => QF (.ret r) g1 := by
  show Ok W ((ev c (.cst v) ⟨sl, hp⟩).bind fun r g1 => .ok (.ret r) g1) QF = _
  simp only [Ok_bind, Ok_ok]
theorem q_rtup {es} : Ok W (ex c (.ret (.tup es)) ⟨sl, hp⟩) QF = Ok W (ev c (.tup es) ⟨sl, hp⟩) fun r g1 => QF (.ret r) g1 := by
  show Ok W ((ev c (.tup es) ⟨sl, hp⟩).bind fun r g1 => .ok (.ret r) g1) QF = _
  simp only [Ok_bind, Ok_ok]
theorem q_rlst {es} : Ok W (ex c (.ret (.lst es)) ⟨sl, hp⟩) QF = Ok W (ev c (.lst es) ⟨sl, hp⟩) fun r g1 => QF (.ret r) g1 := by
  show Ok W ((ev c (.lst es) ⟨sl, hp⟩).bind fun r g1 => .ok (.ret r) g1) QF = _
  simp only [Ok_bind, Ok_ok]
theorem q_rbin {o a b} : Ok W (ex c (.ret (.bin o a b)) ⟨sl, hp⟩) QF = Ok W (ev c (.bin o a b) ⟨sl, hp⟩) fun r g1 => QF (.ret r) g1 := by
  show Ok W ((ev c (.bin o a b) ⟨sl, hp⟩).bind fun r g1 => .ok (.ret r) g1) QF = _
  simp only [Ok_bind, Ok_ok]
theorem q_rchn {o p a b d} : Ok W (ex c (.ret (.chn o p a b d)) ⟨sl, hp⟩) QF = Ok W (ev c (.chn o p a b d) ⟨sl, hp⟩) fun r g1 => QF (.ret r) g1 := by
  show Ok W ((ev c (.chn o p a b d) ⟨sl, hp⟩).bind fun r g1 => .ok (.ret r) g1) QF = _
  simp only [Ok_bind, Ok_ok]
theorem q_rcmp {o a b} : Ok W (ex c (.ret (.cmp o a b)) ⟨sl, hp⟩) QF = Ok W (ev c (.cmp o a b) ⟨sl, hp⟩) fun r g1 => QF (.ret r) g1 := by
  show Ok W ((ev c (.cmp o a b) ⟨sl, hp⟩).bind fun r g1 => .ok (.ret r) g1) QF = _
  simp only [Ok_bind, Ok_ok]
theorem q_rneg {a} : Ok W (ex c (.ret (.neg a)) ⟨sl, hp⟩) QF = Ok W (ev c (.neg a) ⟨sl, hp⟩) fun r g1 => QF (.ret r) g1 := by
  show Ok W ((ev c (.neg a) ⟨sl, hp⟩).bind fun r g1 => .ok (.ret r) g1) QF = _
  simp only [Ok_bind, Ok_ok]
theorem q_rnt {a} : Ok W (ex c (.ret (.nt a)) ⟨sl, hp⟩) QF = Ok W (ev c (.nt a) ⟨sl, hp⟩) fun r g1 => QF (.ret r) g1 := by
  show Ok W ((ev c (.nt a) ⟨sl, hp⟩).bind fun r g1 => .ok (.ret r) g1) QF = _
  simp only [Ok_bind, Ok_ok]
theorem q_ran {a b} : Ok W (ex c (.ret (.an a b)) ⟨sl, hp⟩) QF = Ok W (ev c (.an a b) ⟨sl, hp⟩) fun r g1 => QF (.ret r) g1 := by
  show Ok W ((ev c (.an a b) ⟨sl, hp⟩).bind fun r g1 => .ok (.ret r) g1) QF = _
  simp only [Ok_bind, Ok_ok]
theorem q_rorr {a b} : Ok W (ex c (.ret (.orr a b)) ⟨sl, hp⟩) QF = Ok W (ev c (.orr a b) ⟨sl, hp⟩) fun r g1 => QF (.ret r) g1 := by
  show Ok W ((ev c (.orr a b) ⟨sl, hp⟩).bind fun r g1 => .ok (.ret r) g1) QF = _
  simp only [Ok_bind, Ok_ok]
theorem q_rite {t a b} : Ok W (ex c (.ret (.ite t a b)) ⟨sl, hp⟩) QF = Ok W (ev c (.ite t a b) ⟨sl, hp⟩) fun r g1 => QF (.ret r) g1 := by
  show Ok W ((ev c (.ite t a b) ⟨sl, hp⟩).bind fun r g1 => .ok (.ret r) g1) QF = _
  simp only [Ok_bind, Ok_ok]
theorem q_ridx {a b} : Ok W (ex c (.ret (.idx a b)) ⟨sl, hp⟩) QF = Ok W (ev c (.idx a b) ⟨sl, hp⟩) fun r g1 => QF (.ret r) g1 := by
  show Ok W ((ev c (.idx a b) ⟨sl, hp⟩).bind fun r g1 => .ok (.ret r) g1) QF = _
  simp only [Ok_bind, Ok_ok]
theorem q_rslc {a lo hi} : Ok W (ex c (.ret (.slc a lo hi)) ⟨sl, hp⟩) QF = Ok W (ev c (.slc a lo hi) ⟨sl, hp⟩) fun r g1 => QF (.ret r) g1 := by
  show Ok W ((ev c (.slc a lo hi) ⟨sl, hp⟩).bind fun r g1 => .ok (.ret r) g1) QF = _
  simp only [Ok_bind, Ok_ok]
theorem q_rrev {a} : Ok W (ex c (.ret (.rev a)) ⟨sl, hp⟩) QF = Ok W (ev c (.rev a) ⟨sl, hp⟩) fun r g1 => QF (.ret r) g1 := by
  show Ok W ((ev c (.rev a) ⟨sl, hp⟩).bind fun r g1 => .ok (.ret r) g1) QF = _
  simp only [Ok_bind, Ok_ok]
theorem q_rcall {f es ks} : Ok W (ex c (.ret (.call f es ks)) ⟨sl, hp⟩) QF = Ok W (ev c (.call f es ks) ⟨sl, hp⟩) fun r g1 => QF (.ret r) g1 := by
  show Ok W ((ev c (.call f es ks) ⟨sl, hp⟩).bind fun r g1 => .ok (.ret r) g1) QF = _
  simp only [Ok_bind, Ok_ok]
theorem q_rbi {f es} : Ok W (ex c (.ret (.bi f es)) ⟨sl, hp⟩) QF = Ok W (ev c (.bi f es) ⟨sl, hp⟩) fun r g1 => QF (.ret r) g1 := by
  show Ok W ((ev c (.bi f es) ⟨sl, hp⟩).bind fun r g1 => .ok (.ret r) g1) QF = _
  simp only [Ok_bind, Ok_ok]
theorem q_rjoin {a b} : Ok W (ex c (.ret (.join a b)) ⟨sl, hp⟩) QF = Ok W (ev c (.join a b) ⟨sl, hp⟩) fun r g1 => QF (.ret r) g1 := by
  show Ok W ((ev c (.join a b) ⟨sl, hp⟩).bind fun r g1 => .ok (.ret r) g1) QF = _
  simp only [Ok_bind, Ok_ok]
theorem q_rlc {t i k e} : Ok W (ex c (.ret (.lc t i k e)) ⟨sl, hp⟩) QF = Ok W (ev c (.lc t i k e) ⟨sl, hp⟩) fun r g1 => QF (.ret r) g1 := by
  show Ok W ((ev c (.lc t i k e) ⟨sl, hp⟩).bind fun r g1 => .ok (.ret r) g1) QF = _
  simp only [Ok_bind, Ok_ok]
theorem q_rfs {es} : Ok W (ex c (.ret (.fs es)) ⟨sl, hp⟩) QF = Ok W (ev c (.fs es) ⟨sl, hp⟩) fun r g1 => QF (.ret r) g1 := by
  show Ok W ((ev c (.fs es) ⟨sl, hp⟩).bind fun r g1 => .ok (.ret r) g1) QF = _
  simp only [Ok_bind, Ok_ok]
theorem q_rdct {ks vs} : Ok W (ex c (.ret (.dct ks vs)) ⟨sl, hp⟩) QF = Ok W (ev c (.dct ks vs) ⟨sl, hp⟩) fun r g1 => QF (.ret r) g1 := by
  show Ok W ((ev c (.dct ks vs) ⟨sl, hp⟩).bind fun r g1 => .ok (.ret r) g1) QF = _
  simp only [Ok_bind, Ok_ok]
theorem q_retN : Ok W (ex c .retN ⟨sl, hp⟩) QF = QF (.ret (.val .non)) ⟨sl, hp⟩ := rfl
theorem q_pas : Ok W (ex c .pas ⟨sl, hp⟩) QF = QF .nx ⟨sl, hp⟩ := rfl
theorem q_brk : Ok W (ex c .brk ⟨sl, hp⟩) QF = QF .brk ⟨sl, hp⟩ := rfl
theorem q_cnt : Ok W (ex c .cnt ⟨sl, hp⟩) QF = QF .cnt ⟨sl, hp⟩ := rfl
theorem q_exs0 : Ok W (exs c .nil ⟨sl, hp⟩) QF = QF .nx ⟨sl, hp⟩ := rfl
/-- behind a statement -/
def Nxt (W : EX → G → Prop) (c : Call) (r : MSs) (QF : Fl → G → Prop) : Fl → G → Prop
  | .nx, g => Ok W (exs c r g) QF
  | f, g => QF f g
theorem Nxt_nx {r : MSs} {g : G} : Nxt W c r QF .nx g = Ok W (exs c r g) QF := rfl
theorem Nxt_ret {r : MSs} {x : Res} {g : G} : Nxt W c r QF (.ret x) g = QF (.ret x) g := rfl
theorem Nxt_brk {r : MSs} {g : G} : Nxt W c r QF .brk g = QF .brk g := rfl
theorem Nxt_cnt {r : MSs} {g : G} : Nxt W c r QF .cnt g = QF .cnt g := rfl
theorem q_exs1 {s r} : Ok W (exs c (.cons s r) ⟨sl, hp⟩) QF = Ok W (ex c s ⟨sl, hp⟩) (Nxt W c r QF) := by
  rw [exs_cons]
  simp only
  cases ex c s ⟨sl, hp⟩ with
  | bad => rfl
  | exc x g => rfl
  | ok f g => cases f <;> rfl
end
theorem sizeLine_eq : sizeLine = 16777216 := rfl
theorem backG_mk {sl1 sl2 : List Slot} {hp1 hp2 : List Cell} {is : List Nat} : backG ⟨sl1, hp1⟩ is ⟨sl2, hp2⟩ = ⟨back sl1 sl2 is, hp2⟩ := rfl
theorem pushG_mk {sl : List Slot} {hp : List Cell} {c : Cell} : pushG ⟨sl, hp⟩ c = ⟨sl, hp ++ [c]⟩ := rfl
theorem wipe_nil {sl : List Slot} : wipe sl [] = sl := rfl
theorem wipe_cons {sl : List Slot} {i : Nat} {is : List Nat} : wipe sl (i :: is) = (wipe sl is).set i .no := rfl
theorem back_nil {old sl : List Slot} : back old sl [] = sl := rfl
theorem back_cons {old sl : List Slot} {i : Nat} {is : List Nat} : back old sl (i :: is) = (back old sl is).set i (old.getD i .no) := rfl
theorem noOwn_nil {sl : List Slot} : noOwn sl [] = true := rfl
theorem noOwn_cons {sl : List Slot} {i : Nat} {is : List Nat} : noOwn sl (i :: is) = ((match sl[i]? with
    | some (.own _) => false
    | _ => true) && noOwn sl is) := rfl
theorem slots_nm {i : Nat} : (MT.nm i).slots = [i] := rfl
theorem slots_tp {is : List Nat} : (MT.tp is).slots = is := rfl
theorem pv_val {v : PV} : (Res.val v).pv = v := rfl
theorem pv_new {v : List PV} : (Res.new v).pv = .lst v := rfl
theorem slot_val {v : PV} : (Res.val v).slot = .val v := rfl
theorem slot_new {v : List PV} : (Res.new v).slot = .own v := rfl
theorem asStr_str {x : Str} : asStr (.str x) = some x := rfl
theorem asInt_int {i : Int} : asInt (.int i) = some i := rfl
theorem truV_bl {b : Bool} : truV (.bl b) = some b := rfl
theorem truV_int {i : Int} : truV (.int i) = some (i != 0) := rfl
theorem cmpG_eq {x y : PV} {hp : List Cell} : cmpG .eq x y hp = cmpV .eq x y := rfl
theorem cmpG_ne {x y : PV} {hp : List Cell} : cmpG .ne x y hp = cmpV .ne x y := rfl
theorem cmpG_lt {x y : PV} {hp : List Cell} : cmpG .lt x y hp = cmpV .lt x y := rfl
theorem cmpG_le {x y : PV} {hp : List Cell} : cmpG .le x y hp = cmpV .le x y := rfl
theorem cmpG_gt {x y : PV} {hp : List Cell} : cmpG .gt x y hp = cmpV .gt x y := rfl
theorem cmpG_ge {x y : PV} {hp : List Cell} : cmpG .ge x y hp = cmpV .ge x y := rfl
theorem cmpG_isN {x y : PV} {hp : List Cell} : cmpG .isN x y hp = cmpV .isN x y := rfl
theorem cmpG_notN {x y : PV} {hp : List Cell} : cmpG .notN x y hp = cmpV .notN x y := rfl
theorem cmpG_int {x : PV} {ys : List PV} {hp : List Cell} : cmpG .inn x (.tup ys) hp = inV x (.tup ys) := rfl
theorem cmpG_inl {x : PV} {ys : List PV} {hp : List Cell} : cmpG .inn x (.lst ys) hp = inV x (.lst ys) := rfl
theorem cmpG_nint {x : PV} {ys : List PV} {hp : List Cell} : cmpG .nin x (.tup ys) hp = (inV x (.tup ys)).map (!·) := rfl
theorem cmpG_ninl {x : PV} {ys : List PV} {hp : List Cell} : cmpG .nin x (.lst ys) hp = (inV x (.lst ys)).map (!·) := rfl
theorem getC_s {kvs : List (Key × PV)} {x : Str} : getC (.dk kvs) (.str x) = some (getK kvs (.inr x)) := rfl
theorem getC_i {kvs : List (Key × PV)} {x : Int} : getC (.dk kvs) (.int x) = some (getK kvs (.inl x)) := rfl
theorem getC_t {kvs : List (PV × PV)} {k : PV} : getC (.dn kvs) k = (nkT k).map (getN kvs) := rfl
theorem putC_s {kvs : List (Key × PV)} {x : Str} {v : PV} : putC (.dk kvs) (.str x) v = ck (kvs.length < sizeLine) (.dk (putK kvs (.inr x) v)) := rfl
theorem putC_i {kvs : List (Key × PV)} {x : Int} {v : PV} : putC (.dk kvs) (.int x) v = ck (kvs.length < sizeLine) (.dk (putK kvs (.inl x) v)) := rfl
theorem putC_t {kvs : List (PV × PV)} {k v : PV} : putC (.dn kvs) k v = (nkT k).bind fun n => ck (kvs.length < sizeLine) (.dn (putN kvs n k v)) := rfl
theorem mtOk_it {xs : List PV} {hp : List Cell} : mtOk .index (.tup xs) hp = some () := rfl
theorem mtOk_il {xs : List PV} {hp : List Cell} : mtOk .index (.lst xs) hp = some () := rfl
theorem mtOk_g {n : Nat} {hp : List Cell} : mtOk .get (.ref n) hp = (hp[n]?).bind fun c => if isD c = true then some () else none := rfl
theorem isD_dk {kvs : List (Key × PV)} : isD (.dk kvs) = true := rfl
theorem isD_dn {kvs : List (PV × PV)} : isD (.dn kvs) = true := rfl
theorem isi_bl {b : Bool} {t : Ty} : isiV (.bl b) t = some (decide (t = .bool) || decide (t = .int)) := rfl
theorem isi_int {b : Int} {t : Ty} : isiV (.int b) t = some (decide (t = .int)) := rfl
theorem isi_str {b : Str} {t : Ty} : isiV (.str b) t = some (decide (t = .str)) := rfl
theorem isi_tup {b : List PV} {t : Ty} : isiV (.tup b) t = some (decide (t = .tuple)) := rfl
theorem isi_lst {b : List PV} {t : Ty} : isiV (.lst b) t = some (decide (t = .list)) := rfl
theorem isi_non {t : Ty} : isiV .non t = some false := rfl
theorem zipV_l {x y : List PV} : zipV (.lst x) (.lst y) = some (zipL x y) := rfl
theorem zipV_t {x y : List PV} : zipV (.tup x) (.tup y) = some (zipL x y) := rfl
theorem cmpV_eq : cmpV .eq = eqV := rfl
theorem cmpV_ne : cmpV .ne = fun x y => (eqV x y).map (!·) := rfl
theorem cmpV_lt {i j : Int} : cmpV .lt (.int i) (.int j) = some (decide (i < j)) := rfl
theorem cmpV_le {i j : Int} : cmpV .le (.int i) (.int j) = some (decide (i ≤ j)) := rfl
theorem cmpV_gt {i j : Int} : cmpV .gt (.int i) (.int j) = some (decide (j < i)) := rfl
theorem cmpV_ge {i j : Int} : cmpV .ge (.int i) (.int j) = some (decide (j ≤ i)) := rfl
theorem eqV_int {i j : Int} : eqV (.int i) (.int j) = some (decide (i = j)) := rfl
theorem eqV_str {i j : Str} : eqV (.str i) (.str j) = some (decide (i = j)) := rfl
theorem eqV_is {i : Int} {j : Str} : eqV (.int i) (.str j) = some false := rfl
theorem eqV_si {i : Int} {j : Str} : eqV (.str j) (.int i) = some false := rfl
theorem eqV_bl {i j : Bool} : eqV (.bl i) (.bl j) = some (decide (i = j)) := rfl
theorem items_l {x : List PV} : itemsOf (.lst x) = some x := rfl
theorem items_t {x : List PV} : itemsOf (.tup x) = some x := rfl
theorem items_f {x : List Int} : itemsOf (.fz x) = some (x.map PV.int) := rfl
theorem itemsI_l {x : List PV} : itemsI (.lst x) = some x := rfl
theorem itemsI_t {x : List PV} : itemsI (.tup x) = some x := rfl
theorem itemsI_f {x : List Int} : itemsI (.fz x) = some (x.map PV.int) := rfl
theorem itemsI_s {x : Str} : itemsI (.str x) = some (x.cps.toList.map fun c => .str ⟨#[c]⟩) := rfl
theorem tupsOf_t {x : List PV} : tupsOf (.tup x) = some x := rfl
theorem slcV_lst {x : List PV} {l h} : slcV (.lst x) l h = some (.new (cut x l h)) := rfl
theorem slcV_tup {x : List PV} {l h} : slcV (.tup x) l h = some (.val (.tup (cut x l h))) := rfl
theorem slcV_fz {x : List Int} {l h} : slcV (.fz x) l h = some (.new ((cut x l h).map PV.int)) := rfl
theorem revV_tup {x : List PV} : revV (.tup x) = some (.val (.tup x.reverse)) := rfl
theorem revV_lst {x : List PV} : revV (.lst x) = some (.new x.reverse) := rfl
theorem rgOk_eq {i : Int} : rgOk i = (-(2 ^ 62) ≤ i ∧ i < 2 ^ 62) := propext rgOk_iff
theorem idxV_lst {xs : List PV} {i : Int} : idxV (.lst xs) (.int i) = atI xs i := rfl
theorem idxV_tup {xs : List PV} {i : Int} : idxV (.tup xs) (.int i) = atI xs i := rfl
/-- xs[i] within -/
theorem atI_in {xs : List PV} {i : Int} (h0 : 0 ≤ i) (h : i < xs.length) : atI xs i = xs[i.toNat]? := by
  unfold atI ixN
  rw [if_pos h0, if_pos h]
  rfl
theorem Ok_at {xs : List PV} {i : Int} {g : G} {Q : PV → G → Prop} (h0 : 0 ≤ i) (h : i < xs.length) (k : ∀ y, xs[i.toNat]? = some y → Q y g) : Ok W (lift (atI xs i) g) Q := by
  rw [atI_in h0 h, List.getElem?_eq_getElem (by omega)]
  exact k _ (List.getElem?_eq_getElem (by omega))
end Ev
/-! # Ev, part 17: texts and shown data within bounds. -/
namespace Ev
open PySem

/-! ### texts -/
def Asc (x : Str) : Prop := ∀ c ∈ x.cps.toList, c < 256
/-- a text of at most n signs, all below 256 -/
structure Tx (n : Nat) (x : Str) : Prop where
  asc : Asc x
  len : x.length ≤ n
def ascB (x : Str) : Bool := x.cps.toList.all fun c => decide (c < 256)
def txB (n : Nat) (x : Str) : Bool := ascB x && decide (x.cps.toList.length ≤ n)
theorem Tx.by {n : Nat} {x : Str} (h : txB n x = true) : Tx n x := by
  unfold txB ascB at h
  simp only [Bool.and_eq_true, List.all_eq_true, decide_eq_true_eq] at h
  exact ⟨h.1, by simpa [Str.length] using h.2⟩
theorem Tx.mono {n m : Nat} {x : Str} (h : Tx n x) (l : n ≤ m) : Tx m x := ⟨h.asc, Nat.le_trans h.len l⟩
theorem Tx.app {n m : Nat} {x y : Str} (h : Tx n x) (k : Tx m y) : Tx (n + m) (x ++ y) := by
  refine ⟨fun c hc => ?_, by rw [strLen_append]; exact Nat.add_le_add h.len k.len⟩
  have hc : c ∈ (x.cps ++ y.cps).toList := hc
  rw [Array.toList_append, List.mem_append] at hc
  rcases hc with q | q
  · exact h.asc c q
  · exact k.asc c q
theorem Tx.empty {n : Nat} : Tx n Str.empty := by
  refine ⟨fun c h => ?_, Nat.zero_le _⟩
  have h' : c ∈ ([] : List Nat) := h
  cases h'
theorem Tx.joinS {n m : Nat} {s : Str} (hs : Tx m s) : ∀ {ts : List Str}, (∀ t ∈ ts, Tx n t) → Tx (ts.length * (n + m)) (Str.join s ts)
  | [], _ => Tx.empty
  | [x], h => (h x (by simp)).mono (by simp)
  | x :: y :: r, h => by
    have ih := Tx.joinS (ts := y :: r) hs fun t ht => h t (List.mem_cons_of_mem _ ht)
    have := ((h x (by simp)).app hs).app ih
    refine this.mono ?_
    simp only [List.length_cons, Nat.succ_mul]
    omega
theorem join_eq {s : Str} {ts : List Str} : Txt.join s ts = Str.join s ts := StrLaws.glued_eq_join ..
theorem Tx.join {n m : Nat} {s : Str} (hs : Tx m s) {ts : List Str} (h : ∀ t ∈ ts, Tx n t) {k : Nat} (hk : ts.length ≤ k) : Tx (k * (n + m)) (Txt.join s ts) := by
  rw [join_eq]
  exact (Tx.joinS hs h).mono (Nat.mul_le_mul_right _ hk)
theorem sum_len {n : Nat} : ∀ {ts : List Str}, (∀ t ∈ ts, Tx n t) → (ts.map (·.length)).sum ≤ ts.length * n
  | [], _ => Nat.zero_le _
  | x :: r, h => by
    have := sum_len (ts := r) fun t ht => h t (List.mem_cons_of_mem _ ht)
    have h1 := (h x (by simp)).len
    simp only [List.map_cons, List.sum_cons, List.length_cons, Nat.succ_mul]
    omega
theorem txts_map (ts : List Str) : txts (ts.map PV.str) = some ts := by
  induction ts with
  | nil => rfl
  | cons x r ih =>
    show (txts (r.map PV.str)).map (x :: ·) = _
    rw [ih]
    rfl
/-- sep.join of texts -/
theorem join_l {n m k : Nat} {s : Str} (hs : Tx m s) {ts : List Str} (h : ∀ t ∈ ts, Tx n t) (hk : ts.length ≤ k) (hb : k * n + k * m ≤ 16777216) : joinV (.str s) (.lst (ts.map PV.str)) = some (.str (Txt.join s ts)) := by
  show (txts (ts.map PV.str)).bind _ = _
  rw [txts_map]
  show ck _ _ = _
  unfold ck
  rw [if_pos]
  have h1 := sum_len h
  have h2 := Nat.mul_le_mul_right n hk
  have h3 := Nat.mul_le_mul hk hs.len
  omega
theorem join_t {n m k : Nat} {s : Str} (hs : Tx m s) {ts : List Str} (h : ∀ t ∈ ts, Tx n t) (hk : ts.length ≤ k) (hb : k * n + k * m ≤ 16777216) : joinV (.str s) (.tup (ts.map PV.str)) = some (.str (Txt.join s ts)) := join_l hs h hk hb
theorem digit_lt (n : Nat) : ∀ c ∈ Nat.toDigits 10 n, c.toNat < 256 := by
  intro c hc
  have h := Nat.isDigit_of_mem_toDigits (by omega) (by omega) hc
  unfold Char.isDigit at h
  simp only [Bool.and_eq_true, decide_eq_true_eq] at h
  have := h.2
  have h2 : c.toNat ≤ 57 := this
  omega

/-! ### shown data -/
theorem digits16 : ∀ c : Nat, c < 256 → (Nat.toDigits 16 c).length ≤ 2 := by
  have h : ∀ c : _root_.Fin 256, (Nat.toDigits 16 c.val).length ≤ 2 := by decide +kernel
  exact fun c hc => h ⟨c, hc⟩
theorem reprChar_le (q c : Nat) (h : c < 256) : (Builtin.Str.reprChar q c).length ≤ 4 := by
  unfold Builtin.Str.reprChar
  have := digits16 c h
  split
  · simp
  · split
    · simp
    · split
      · simp
      · split
        · simp
        · split
          · simp
          · simp only [h, if_true]
            simp only [List.length_append, List.length_cons, List.length_nil, List.length_replicate, List.length_map]
            omega
theorem foldl_le (q : Nat) : ∀ (l : List Nat) (n : Nat), (∀ c ∈ l, c < 256) → l.foldl (fun n c => n + (Builtin.Str.reprChar q c).length) n ≤ n + 4 * l.length
  | [], n, _ => by simp
  | c :: r, n, h => by
    rw [List.foldl_cons]
    have h1 := foldl_le q r (n + (Builtin.Str.reprChar q c).length) fun c hc => h c (List.mem_cons_of_mem _ hc)
    have h2 := reprChar_le q c (h c List.mem_cons_self)
    simp only [List.length_cons]
    omega
theorem reprText_le {n : Nat} {x : Str} (h : Tx n x) : (reprText x).length ≤ 4 * n + 2 := by
  rw [← reprLen_eq, ← Array.foldl_toList]
  have h1 := foldl_le (reprQuote x) x.cps.toList 2 h.asc
  have h2 := h.len
  have h3 : x.cps.toList.length = x.length := by simp [Str.length]
  omega
/-- plain data whose shown text has at most b signs, no deeper than d -/
structure Fit (d b : Nat) (v : PV) : Prop where
  pure : v.pure = true
  can : v.d.canLay0 = true
  sh : v.d.showable = true
  dp : v.d.depth ≤ d
  sz : v.d.shown.length ≤ b
structure Fits (d b : Nat) (vs : List PV) : Prop where
  pure : PV.pures vs = true
  can : PyData.canLayAll0 (PV.ds vs) = true
  sh : PyData.showableAll (PV.ds vs) = true
  dp : PyData.depthAll (PV.ds vs) ≤ d
  len : (PyData.shownAll (PV.ds vs)).length = vs.length
  sz : ∀ t ∈ PyData.shownAll (PV.ds vs), t.length ≤ b
theorem Fit.mono {d b d' b' : Nat} {v : PV} (h : Fit d b v) (hd : d ≤ d') (hb : b ≤ b') : Fit d' b' v := ⟨h.pure, h.can, h.sh, Nat.le_trans h.dp hd, Nat.le_trans h.sz hb⟩
theorem Fits.nil {d b : Nat} : Fits d b [] := ⟨rfl, by simp [PV.ds, PyData.canLayAll0], by simp [PV.ds, PyData.showableAll], by simp [PV.ds, PyData.depthAll], by simp [PV.ds, PyData.shownAll], by simp [PV.ds, PyData.shownAll]⟩
theorem Fits.cons {d b : Nat} {v : PV} {vs : List PV} (h : Fit d b v) (t : Fits d b vs) : Fits d b (v :: vs) := by
  refine ⟨?_, ?_, ?_, ?_, ?_, ?_⟩
  · simp only [PV.pures, h.pure, t.pure, Bool.and_self]
  · simp only [PV.ds, PyData.canLayAll0, h.can, t.can, Bool.and_self]
  · simp only [PV.ds, PyData.showableAll, h.sh, t.sh, Bool.and_self]
  · simp only [PV.ds, PyData.depthAll]
    exact Nat.max_le.mpr ⟨h.dp, t.dp⟩
  · simp only [PV.ds, PyData.shownAll, List.length_cons, t.len]
  · intro x hx
    simp only [PV.ds, PyData.shownAll, List.mem_cons] at hx
    rcases hx with rfl | hx
    · exact h.sz
    · exact t.sz x hx
theorem Fits.of {d b : Nat} : ∀ {vs : List PV}, (∀ v ∈ vs, Fit d b v) → Fits d b vs
  | [], _ => .nil
  | v :: vs, h => .cons (h v List.mem_cons_self) (Fits.of fun w hw => h w (List.mem_cons_of_mem _ hw))
theorem textFrom_le {b : Nat} : ∀ (ts : List Str) (k : Nat) (acc : Str), (∀ t ∈ ts, t.length ≤ b) → (textFrom k acc ts).length ≤ acc.length + ts.length * (b + 2)
  | [], k, acc, _ => by simp [textFrom]
  | t :: r, k, acc, h => by
    show (textFrom (k + 1) (acc ++ (if k > 0 then ", " else "" : String) ++ t) r).length ≤ _
    have h1 := textFrom_le r (k + 1) (acc ++ (if k > 0 then ", " else "" : String) ++ t) fun t ht => h t (List.mem_cons_of_mem _ ht)
    have h2 := h t List.mem_cons_self
    rw [strLen_append, strLen_append] at h1
    have h3 : (((if k > 0 then ", " else "" : String) : Str)).length ≤ 2 := by split <;> decide +kernel
    simp only [List.length_cons, Nat.succ_mul]
    omega
theorem piled_le {b : Nat} : ∀ {ts : List Str}, (∀ t ∈ ts, t.length ≤ b) → (Str.join ", " ts).length ≤ ts.length * (b + 2)
  | [], _ => by
    show Str.empty.length ≤ _
    exact Nat.zero_le _
  | [x], h => by
    show x.length ≤ _
    have := h x (by simp)
    simp
    omega
  | x :: y :: r, h => by
    show (x ++ ", " ++ Str.join ", " (y :: r)).length ≤ _
    have ih := piled_le (ts := y :: r) fun t ht => h t (List.mem_cons_of_mem _ ht)
    have h1 := h x (by simp)
    rw [strLen_append, strLen_append]
    have e2 : ((", " : String) : Str).length = 2 := rfl
    simp only [List.length_cons, Nat.succ_mul] at ih ⊢
    omega
theorem Fit.lst {d b n : Nat} {vs : List PV} (h : Fits d b vs) (hn : vs.length ≤ n) : Fit (d + 1) (n * (b + 2) + 2) (.lst vs) := by
  refine ⟨by simp only [PV.pure, h.pure], by simp only [PV.d, PyData.canLay0, h.can], by simp only [PV.d, PyData.showable, h.sh], by simp only [PV.d, PyData.depth]; exact Nat.succ_le_succ h.dp, ?_⟩
  simp only [PV.d, PyData.shown]
  unfold listText
  have h1 := textFrom_le (PyData.shownAll (PV.ds vs)) 0 "[" h.sz
  rw [strLen_append]
  have e1 : (("[" : String) : Str).length = 1 := rfl
  have e2 : (("]" : String) : Str).length = 1 := rfl
  rw [h.len] at h1
  have h2 := Nat.mul_le_mul_right (b + 2) hn
  omega
theorem Fit.tup {d b n : Nat} {vs : List PV} (h : Fits d b vs) (hn : vs.length ≤ n) : Fit (d + 1) (n * (b + 2) + 3) (.tup vs) := by
  refine ⟨by simp only [PV.pure, h.pure], by simp only [PV.d, PyData.canLay0, h.can], by simp only [PV.d, PyData.showable, h.sh], by simp only [PV.d, PyData.depth]; exact Nat.succ_le_succ h.dp, ?_⟩
  simp only [PV.d, PyData.shown]
  unfold tupleText
  have h1 := piled_le h.sz
  rw [strLen_append, strLen_append]
  have e1 : (("(" : String) : Str).length = 1 := rfl
  have e2 : (((if (PyData.shownAll (PV.ds vs)).length == 1 then ",)" else ")" : String) : Str)).length ≤ 2 := by split <;> decide +kernel
  rw [h.len] at h1
  have h2 := Nat.mul_le_mul_right (b + 2) hn
  omega
theorem Fit.str {d n : Nat} {x : Str} (h : Tx n x) : Fit d (4 * n + 2) (.str x) := by
  refine ⟨rfl, ?_, by simp only [PV.d, PyData.showable], by simp only [PV.d, PyData.depth]; exact Nat.zero_le _, by simp only [PV.d, PyData.shown]; exact reprText_le h⟩
  simp only [PV.d, PyData.canLay0]
  unfold PyData.strOk
  rw [← Array.all_toList, List.all_eq_true]
  intro c hc
  have := h.asc c hc
  exact decide_eq_true (by omega)
theorem Fit.bl {d : Nat} {b : Bool} : Fit d 5 (.bl b) := ⟨rfl, by simp only [PV.d, PyData.canLay0], by simp only [PV.d, PyData.showable], by simp only [PV.d, PyData.depth]; exact Nat.zero_le _, by simp only [PV.d, PyData.shown]; cases b <;> decide +kernel⟩
theorem Fit.non {d : Nat} : Fit d 4 .non := ⟨rfl, by simp only [PV.d, PyData.canLay0], by simp only [PV.d, PyData.showable], by simp only [PV.d, PyData.depth]; exact Nat.zero_le _, by simp only [PV.d, PyData.shown]; decide +kernel⟩
/-- a number whose text is bounded -/
theorem Fit.int {d n : Nat} {i : Int} (h1 : i.natAbs.log2 < 1920) (h2 : ((toString i : String) : Str).length ≤ n) : Fit d n (.int i) := ⟨rfl, by simp only [PV.d, PyData.canLay0], by simp only [PV.d, PyData.showable]; exact decide_eq_true h1, by simp only [PV.d, PyData.depth]; exact Nat.zero_le _, by simp only [PV.d, PyData.shown]; exact h2⟩
theorem Fit.shaped {d b : Nat} {v : PV} (h : Fit d b v) (hd : d ≤ 64) : SeqAt.shaped v.d = true := by
  unfold SeqAt.shaped
  rw [h.can, decide_eq_true (Nat.le_trans h.dp hd)]
  rfl
/-- what repr asks -/
theorem Fit.repr {d b : Nat} {v : PV} (h : Fit d b v) (hv : isDisp v = true) (hd : d ≤ 100) (hb : b ≤ 16777216) : biV .repr [v] = some (.val (.str v.d.shown)) := by
  show ck _ _ = _
  unfold ck
  rw [if_pos ⟨h.pure, h.sh, Nat.le_trans h.dp hd, Nat.le_trans h.sz hb⟩]
/-- xs == (), xs == [] -/
theorem eq_nil_t {xs : List PV} (hp : PV.pures xs = true) (hs : SeqAt.shaped (PV.tup xs).d = true) : eqV (.tup xs) (.tup []) = some xs.isEmpty := by
  show ck _ _ = _
  unfold ck
  rw [if_pos ⟨by simpa only [PV.pure] using hp, rfl, hs, by decide +kernel⟩]
  cases xs with
  | nil => simp [PV.d, PV.ds, PyData.eqv, PyData.eqvAll]
  | cons x r => simp [PV.d, PV.ds, PyData.eqv, PyData.eqvAll]
theorem eq_nil_l {xs : List PV} (hp : PV.pures xs = true) (hs : SeqAt.shaped (PV.lst xs).d = true) : eqV (.lst xs) (.lst []) = some xs.isEmpty := by
  show ck _ _ = _
  unfold ck
  rw [if_pos ⟨by simpa only [PV.pure] using hp, rfl, hs, by decide +kernel⟩]
  cases xs with
  | nil => simp [PV.d, PV.ds, PyData.eqv, PyData.eqvAll]
  | cons x r => simp [PV.d, PV.ds, PyData.eqv, PyData.eqvAll]
theorem Fit.eq_t {d b : Nat} {xs : List PV} (h : Fit d b (.tup xs)) (hd : d ≤ 64) : eqV (.tup xs) (.tup []) = some xs.isEmpty := eq_nil_t (by simpa only [PV.pure] using h.pure) (h.shaped hd)
theorem Fit.eq_l {d b : Nat} {xs : List PV} (h : Fit d b (.lst xs)) (hd : d ≤ 64) : eqV (.lst xs) (.lst []) = some xs.isEmpty := eq_nil_l (by simpa only [PV.pure] using h.pure) (h.shaped hd)
theorem ints_pure : ∀ ns : List Int, PV.pures (ns.map PV.int) = true ∧ PyData.canLayAll0 (PV.ds (ns.map PV.int)) = true ∧ PyData.depthAll (PV.ds (ns.map PV.int)) = 0
  | [] => ⟨rfl, by simp [PV.ds, PyData.canLayAll0], by simp [PV.ds, PyData.depthAll]⟩
  | n :: r => by
    obtain ⟨h1, h2, h3⟩ := ints_pure r
    refine ⟨?_, ?_, ?_⟩
    · simp only [List.map_cons, PV.pures, PV.pure, h1, Bool.and_self]
    · simp only [List.map_cons, PV.ds, PV.d, PyData.canLayAll0, PyData.canLay0, h2, Bool.and_self]
    · simp only [List.map_cons, PV.ds, PV.d, PyData.depthAll, PyData.depth, h3]
      rfl
theorem eq_ints (ns : List Int) : eqV (.lst (ns.map PV.int)) (.lst []) = some ns.isEmpty := by
  obtain ⟨h1, h2, h3⟩ := ints_pure ns
  rw [eq_nil_l h1]
  · cases ns <;> rfl
  · unfold SeqAt.shaped
    simp only [PV.d, PyData.canLay0, h2, PyData.depth, h3]
    decide
end Ev
/-! # Ev, part 18: comprehensions and loops by what stays. -/
namespace Ev
open PySem

/-- one by one -/
inductive Each {α β : Type} (P : α → β → Prop) : List α → List β → Prop
  | nil : Each P [] []
  | cons {x : α} {y : β} {xs : List α} {ys : List β} : P x y → Each P xs ys → Each P (x :: xs) (y :: ys)
section
variable {α β γ : Type}
theorem Each.length {P : α → β → Prop} {xs : List α} {ys : List β} (h : Each P xs ys) : ys.length = xs.length := by
  induction h with
  | nil => rfl
  | cons _ _ ih => simp [ih]
theorem Each.all {P : α → β → Prop} {xs : List α} {ys : List β} (h : Each P xs ys) : ∀ y ∈ ys, ∃ x ∈ xs, P x y := by
  induction h with
  | nil => exact nofun
  | cons p _ ih =>
    intro y hy
    rcases List.mem_cons.mp hy with rfl | hy
    · exact ⟨_, List.mem_cons_self, p⟩
    · obtain ⟨x, h1, h2⟩ := ih y hy
      exact ⟨x, List.mem_cons_of_mem _ h1, h2⟩
theorem Each.append {P : α → β → Prop} {xs xs' : List α} {ys ys' : List β} (h : Each P xs ys) (t : Each P xs' ys') : Each P (xs ++ xs') (ys ++ ys') := by
  induction h with
  | nil => exact t
  | cons p _ ih => exact .cons p ih
theorem Each.imp {P P' : α → β → Prop} {xs : List α} {ys : List β} (h : Each P xs ys) (k : ∀ x y, P x y → P' x y) : Each P' xs ys := by
  induction h with
  | nil => exact .nil
  | cons p _ ih => exact .cons (k _ _ p) ih
/-- each of the form f -/
theorem Each.map {P : α → β → Prop} {f : γ → β} {Q : γ → Prop} {xs : List α} {ys : List β} (h : Each P xs ys) (k : ∀ x y, P x y → ∃ z, y = f z ∧ Q z) : ∃ zs : List γ, ys = zs.map f ∧ zs.length = xs.length ∧ ∀ z ∈ zs, Q z := by
  induction h with
  | nil => exact ⟨[], rfl, rfl, nofun⟩
  | cons p _ ih =>
    obtain ⟨z, rfl, hz⟩ := k _ _ p
    obtain ⟨zs, rfl, hl, hq⟩ := ih
    refine ⟨z :: zs, rfl, by simp [hl], fun w hw => ?_⟩
    rcases List.mem_cons.mp hw with rfl | hw
    · exact hz
    · exact hq w hw
theorem Each.eq {f : α → β} {xs : List α} {ys : List β} (h : Each (fun x y => y = f x) xs ys) : ys = xs.map f := by
  induction h with
  | nil => rfl
  | cons p _ ih => rw [p, ih]; rfl
end
/-- a comprehension without a condition: J stays of the cells -/
theorem lc_each {own : List Nat} {bd : Res → M Unit} {ts : M Bool} {el : M Res} {sl : List Slot} {Q : List PV → G → Prop} (J : List Cell → Prop) (P : PV → PV → Prop) :
    ∀ (xs acc : List PV) (hp : List Cell) (zs : List PV), Each P zs acc → J hp → zs.length + xs.length ≤ 16777216 →
    (∀ x ∈ xs, ∀ hp, J hp → Ok W (bd (.val x) ⟨sl, hp⟩) fun _ g1 => Ok W (ts g1) fun b g2 => b = true ∧ Ok W (el g2) fun y g3 => P x y.pv ∧ wipe g3.sl own = sl ∧ J g3.hp) →
    (∀ ys hp', J hp' → Each P (zs ++ xs) ys → Q ys ⟨sl, hp'⟩) → Ok W (lcGo own bd ts el xs acc ⟨sl, hp⟩) Q
  | [], acc, hp, zs, e, j, hl, step, fin => by
    unfold lcGo
    exact fin acc hp j (by simpa using e)
  | x :: xs, acc, hp, zs, e, j, hl, step, fin => by
    unfold lcGo
    rw [Ok_bind]
    refine (step x List.mem_cons_self hp j).imp fun u g1 s => ?_
    rw [Ok_bind]
    refine s.imp fun b g2 ⟨hb, s⟩ => ?_
    subst hb
    rw [if_pos rfl, Ok_bind]
    refine s.imp fun y g3 ⟨hp3, hw, j3⟩ => ?_
    have hlen := e.length
    rw [Ok_if]
    refine ⟨by simp only [List.length_cons] at hl; rw [hlen, sizeLine_eq]; omega, ?_⟩
    obtain ⟨sl3, hq⟩ := g3
    subst hw
    refine lc_each J P xs (acc ++ [y.pv]) hq (zs ++ [x]) (e.append (.cons hp3 .nil)) j3 (by simp only [List.length_append, List.length_cons, List.length_nil] at hl ⊢; omega) (fun x hx => step x (List.mem_cons_of_mem _ hx)) fun ys hp' j' e' => fin ys hp' j' ?_
    simpa using e'
theorem lc_all {own : List Nat} {bd : Res → M Unit} {ts : M Bool} {el : M Res} {sl : List Slot} {Q : List PV → G → Prop} {xs : List PV} {hp : List Cell} (J : List Cell → Prop) (P : PV → PV → Prop) (j : J hp) (hl : xs.length ≤ 16777216)
    (step : ∀ x ∈ xs, ∀ hp, J hp → Ok W (bd (.val x) ⟨sl, hp⟩) fun _ g1 => Ok W (ts g1) fun b g2 => b = true ∧ Ok W (el g2) fun y g3 => P x y.pv ∧ wipe g3.sl own = sl ∧ J g3.hp)
    (fin : ∀ ys hp', J hp' → Each P xs ys → Q ys ⟨sl, hp'⟩) : Ok W (lcGo own bd ts el xs [] ⟨sl, hp⟩) Q := lc_each J P xs [] hp [] .nil j (by simpa using hl) step fin
/-- over items of a form, each to an item of a form -/
theorem lc_map {α : Type} {own : List Nat} {bd : Res → M Unit} {ts : M Bool} {el : M Res} {sl : List Slot} {Q : List PV → G → Prop} {f h : α → PV} (J : List Cell → Prop) :
    ∀ (as : List α) (acc : List PV) (hp : List Cell), J hp → acc.length + as.length ≤ 16777216 →
    (∀ a ∈ as, ∀ hp, J hp → Ok W (bd (.val (f a)) ⟨sl, hp⟩) fun _ g1 => Ok W (ts g1) fun b g2 => b = true ∧ Ok W (el g2) fun y g3 => y.pv = h a ∧ wipe g3.sl own = sl ∧ J g3.hp) →
    (∀ hp', J hp' → Q (acc ++ as.map h) ⟨sl, hp'⟩) → Ok W (lcGo own bd ts el (as.map f) acc ⟨sl, hp⟩) Q
  | [], acc, hp, j, hl, step, fin => by
    unfold lcGo
    have := fin hp j
    rw [List.map_nil, List.append_nil] at this
    exact this
  | a :: as, acc, hp, j, hl, step, fin => by
    rw [List.map_cons]
    unfold lcGo
    rw [Ok_bind]
    refine (step a List.mem_cons_self hp j).imp fun u g1 s => ?_
    rw [Ok_bind]
    refine s.imp fun b g2 ⟨hb, s⟩ => ?_
    subst hb
    rw [if_pos rfl, Ok_bind]
    refine s.imp fun y g3 ⟨hy, hw, j3⟩ => ?_
    rw [Ok_if]
    refine ⟨by simp only [List.length_cons] at hl; rw [sizeLine_eq]; omega, ?_⟩
    obtain ⟨sl3, hq⟩ := g3
    subst hw
    rw [hy]
    exact lc_map J as (acc ++ [h a]) hq j3 (by simp only [List.length_append, List.length_cons, List.length_nil] at hl ⊢; omega) (fun x hx => step x (List.mem_cons_of_mem _ hx)) (by simpa using fin)
theorem map_get {α : Type} {f : α → PV} {as : List α} {i : Nat} {x : PV} (h : (as.map f)[i]? = some x) : ∃ a, as[i]? = some a ∧ x = f a := by
  rw [List.getElem?_map] at h
  cases q : as[i]? with
  | none => rw [q] at h; cases h
  | some a =>
    rw [q] at h
    cases h
    exact ⟨a, rfl, rfl⟩
theorem take_succ' {α : Type} {as : List α} {i : Nat} {a : α} (h : as[i]? = some a) : as.take (i + 1) = as.take i ++ [a] := by
  rw [List.take_add_one, h]
  rfl
theorem empty_app (x : Str) : Str.empty ++ x = x := by
  show Str.append Str.empty x = x
  unfold Str.append Str.empty
  cases x
  simp
/-- the same where slots change: b tells of them -/
theorem lc_go {β : Type} {own : List Nat} {bd : Res → M Unit} {ts : M Bool} {el : M Res} {sl : List Slot} {Q : List PV → G → Prop} (upd : β → List Slot → List Slot) (I : Nat → β → List Cell → Prop) (P : PV → PV → Prop) :
    ∀ (xs acc : List PV) (b : β) (hp : List Cell) (zs : List PV), Each P zs acc → I zs.length b hp → zs.length + xs.length ≤ 16777216 →
    (∀ (i : Nat) x b hp, (zs ++ xs)[i]? = some x → I i b hp → Ok W (bd (.val x) ⟨upd b sl, hp⟩) fun _ g1 => Ok W (ts g1) fun t g2 => t = true ∧ Ok W (el g2) fun y g3 => P x y.pv ∧ ∃ b', wipe g3.sl own = upd b' sl ∧ I (i + 1) b' g3.hp) →
    (∀ ys b hp', I (zs ++ xs).length b hp' → Each P (zs ++ xs) ys → Q ys ⟨upd b sl, hp'⟩) → Ok W (lcGo own bd ts el xs acc ⟨upd b sl, hp⟩) Q
  | [], acc, b, hp, zs, e, j, hl, step, fin => by
    unfold lcGo
    exact fin acc b hp (by simpa using j) (by simpa using e)
  | x :: xs, acc, b, hp, zs, e, j, hl, step, fin => by
    unfold lcGo
    rw [Ok_bind]
    refine (step zs.length x b hp (by simp) j).imp fun u g1 s => ?_
    rw [Ok_bind]
    refine s.imp fun t g2 ⟨hb, s⟩ => ?_
    subst hb
    rw [if_pos rfl, Ok_bind]
    refine s.imp fun y g3 ⟨hp3, b', hw, j3⟩ => ?_
    have hlen := e.length
    rw [Ok_if]
    refine ⟨by simp only [List.length_cons] at hl; rw [hlen, sizeLine_eq]; omega, ?_⟩
    obtain ⟨sl3, hq⟩ := g3
    have hw' : wipe sl3 own = upd b' sl := hw
    rw [show ({ ({ sl := sl3, hp := hq } : G) with sl := wipe sl3 own } : G) = ⟨upd b' sl, hq⟩ by rw [hw']]
    have ea : zs ++ [x] ++ xs = zs ++ x :: xs := by simp
    refine lc_go upd I P xs (acc ++ [y.pv]) b' hq (zs ++ [x]) (e.append (.cons hp3 .nil)) (by simpa using j3) (by simp only [List.length_append, List.length_cons, List.length_nil] at hl ⊢; omega) (by rw [ea]; exact step) (by rw [ea]; exact fin)
theorem lc_up {β : Type} {own : List Nat} {bd : Res → M Unit} {ts : M Bool} {el : M Res} {sl : List Slot} {Q : List PV → G → Prop} {xs : List PV} {hp : List Cell} (upd : β → List Slot → List Slot) (I : Nat → β → List Cell → Prop) (P : PV → PV → Prop) (b0 : β) (h0 : upd b0 sl = sl) (j : I 0 b0 hp) (hl : xs.length ≤ 16777216)
    (step : ∀ (i : Nat) x b hp, xs[i]? = some x → I i b hp → Ok W (bd (.val x) ⟨upd b sl, hp⟩) fun _ g1 => Ok W (ts g1) fun t g2 => t = true ∧ Ok W (el g2) fun y g3 => P x y.pv ∧ ∃ b', wipe g3.sl own = upd b' sl ∧ I (i + 1) b' g3.hp)
    (fin : ∀ ys b hp', I xs.length b hp' → Each P xs ys → Q ys ⟨upd b sl, hp'⟩) : Ok W (lcGo own bd ts el xs [] ⟨sl, hp⟩) Q := by
  have := lc_go upd I P xs [] b0 hp [] .nil j (by simpa using hl) step fin
  rw [h0] at this
  exact this
/-- a loop: b tells of the slots that change; I by the turn -/
theorem for_go {β : Type} {bd : Res → M Unit} {body : M Fl} {sl : List Slot} {Q : Fl → G → Prop} {xs : List PV} (upd : β → List Slot → List Slot) (I : Nat → β → List Cell → Prop)
    (step : ∀ (i : Nat) x b hp, xs[i]? = some x → I i b hp → Ok W (bd (.val x) ⟨upd b sl, hp⟩) fun _ g1 => Ok W (body g1) (Turn (fun g => ∃ b', g.sl = upd b' sl ∧ I (i + 1) b' g.hp) Q))
    (fin : ∀ b hp, I xs.length b hp → Q .nx ⟨upd b sl, hp⟩) : ∀ (n i : Nat) (b : β) (hp : List Cell), i + n = xs.length → I i b hp → Ok W (forGo bd body (xs.drop i) ⟨upd b sl, hp⟩) Q
  | 0, i, b, hp, e, h => by
    rw [List.drop_eq_nil_of_le (by omega)]
    unfold forGo
    have : i = xs.length := by omega
    subst this
    exact fin b hp h
  | n + 1, i, b, hp, e, h => by
    have hi : i < xs.length := by omega
    rw [List.drop_eq_getElem_cons hi]
    unfold forGo
    rw [Ok_bind]
    refine (step i _ b hp (List.getElem?_eq_getElem hi) h).imp fun u g1 s => ?_
    rw [Ok_bind]
    refine s.imp fun f g2 t => ?_
    have again : (∃ b', g2.sl = upd b' sl ∧ I (i + 1) b' g2.hp) → Ok W (forGo bd body (xs.drop (i + 1)) g2) Q := by
      rintro ⟨b', e1, h'⟩
      obtain ⟨sl2, hp2⟩ := g2
      subst e1
      exact for_go upd I step fin n (i + 1) b' hp2 (by omega) h'
    cases f with
    | nx => exact again t
    | cnt => exact again t
    | brk => exact t
    | ret r => exact t
theorem for_sl {β : Type} {bd : Res → M Unit} {body : M Fl} {sl : List Slot} {hp : List Cell} {Q : Fl → G → Prop} {xs : List PV} (upd : β → List Slot → List Slot) (I : Nat → β → List Cell → Prop) (b0 : β) (h0 : upd b0 sl = sl) (hI : I 0 b0 hp)
    (step : ∀ (i : Nat) x b hp, xs[i]? = some x → I i b hp → Ok W (bd (.val x) ⟨upd b sl, hp⟩) fun _ g1 => Ok W (body g1) (Turn (fun g => ∃ b', g.sl = upd b' sl ∧ I (i + 1) b' g.hp) Q))
    (fin : ∀ b hp, I xs.length b hp → Q .nx ⟨upd b sl, hp⟩) : Ok W (forGo bd body xs ⟨sl, hp⟩) Q := by
  have := for_go upd I step fin xs.length 0 b0 hp (by omega) hI
  rw [h0] at this
  exact this
/-- none is taken -/
theorem lc_none {own : List Nat} {bd : Res → M Unit} {ts : M Bool} {el : M Res} {sl : List Slot} {Q : List PV → G → Prop} (J : List Cell → Prop) :
    ∀ (xs acc : List PV) (hp : List Cell), J hp →
    (∀ x ∈ xs, ∀ hp, J hp → Ok W (bd (.val x) ⟨sl, hp⟩) fun _ g1 => Ok W (ts g1) fun b g2 => b = false ∧ wipe g2.sl own = sl ∧ J g2.hp) →
    (∀ hp', J hp' → Q acc ⟨sl, hp'⟩) → Ok W (lcGo own bd ts el xs acc ⟨sl, hp⟩) Q
  | [], acc, hp, j, step, fin => by
    unfold lcGo
    exact fin hp j
  | x :: xs, acc, hp, j, step, fin => by
    unfold lcGo
    rw [Ok_bind]
    refine (step x List.mem_cons_self hp j).imp fun u g1 s => ?_
    rw [Ok_bind]
    refine s.imp fun b g2 ⟨hb, hw, j2⟩ => ?_
    subst hb
    rw [if_neg Bool.false_ne_true]
    obtain ⟨sl2, hq⟩ := g2
    subst hw
    exact lc_none J xs acc hq j2 (fun x hx => step x (List.mem_cons_of_mem _ hx)) fin
/-- items of a range -/
theorem rg_len (j : Int) : (rgItems 0 j).length = j.toNat := by simp [rgItems]
theorem rg_len2 (i j : Int) : (rgItems i j).length = (j - i).toNat := by simp [rgItems]
theorem rg_mem {i j : Int} {x : PV} (h : x ∈ rgItems i j) : ∃ n : Int, x = .int n ∧ i ≤ n ∧ n < j := by
  unfold rgItems at h
  obtain ⟨k, hk, rfl⟩ := List.mem_map.mp h
  rw [List.mem_range] at hk
  exact ⟨_, rfl, by omega, by omega⟩
theorem rg_get {lo hi : Int} {i : Nat} {x : PV} (h : (rgItems lo hi)[i]? = some x) : x = .int (lo + i) ∧ i < (hi - lo).toNat := by
  unfold rgItems at h
  rw [List.getElem?_map] at h
  cases q : (List.range (hi - lo).toNat)[i]? with
  | none => rw [q] at h; cases h
  | some k =>
    rw [q] at h
    obtain ⟨h1, h2⟩ := List.getElem?_eq_some_iff.mp q
    rw [List.getElem_range] at h2
    subst h2
    cases h
    exact ⟨rfl, by simpa using h1⟩
/-- x[i] of a text -/
theorem Ok_ats {x : Str} {i : Int} {g : G} {Q : PV → G → Prop} (h0 : 0 ≤ i) (h : i < x.length) (hx : x.length ≤ 16777216) (k : ∀ c ∈ x.cps.toList, Q (.str ⟨#[c]⟩) g) : Ok W (lift (idxV (.str x) (.int i)) g) Q := by
  have e : idxV (.str x) (.int i) = (atI x.cps.toList i).map fun c => .str ⟨#[c]⟩ := by
    show (if x.length ≤ sizeLine then _ else _) = _
    rw [if_pos (by rw [sizeLine_eq]; exact hx)]
  have hl : x.cps.toList.length = x.length := by simp [Str.length]
  rw [e]
  unfold atI ixN
  rw [if_pos h0, if_pos (by omega)]
  show Ok W (lift ((x.cps.toList[i.toNat]?).map _) g) Q
  rw [List.getElem?_eq_getElem (by omega)]
  exact k _ (List.getElem_mem _)
theorem Tx.one {x : Str} (h : Asc x) {c : Nat} (hc : c ∈ x.cps.toList) : Tx 1 ⟨#[c]⟩ := by
  refine ⟨fun d hd => ?_, Nat.le_refl _⟩
  have hd : d ∈ [c] := hd
  rw [List.mem_singleton] at hd
  subst hd
  exact h _ hc
/-- a text among some -/
def txP (n : Nat) : PV → Bool
  | .str w => txB n w
  | _ => false
theorem txP_of {n : Nat} {v : PV} (h : txP n v = true) : ∃ w, v = .str w ∧ Tx n w := by
  unfold txP at h
  split at h
  · exact ⟨_, rfl, Tx.by h⟩
  · cases h
theorem at_txP {n : Nat} {L : List PV} {v : PV} {i : Nat} (h : L.all (txP n) = true) (e : L[i]? = some v) : ∃ w, v = .str w ∧ Tx n w := txP_of (List.all_eq_true.mp h v (List.mem_of_getElem? e))
/-! ### places and slices -/
section
variable {α : Type} {x y z u : α} {xs : List α}
theorem at0 : atI (x :: xs) 0 = some x := by
  unfold atI ixN
  rw [if_pos (by omega), if_pos (by simp only [List.length_cons]; omega)]
  rfl
theorem at1 : atI (x :: y :: xs) 1 = some y := by
  unfold atI ixN
  rw [if_pos (by omega), if_pos (by simp only [List.length_cons]; omega)]
  rfl
theorem at2 : atI (x :: y :: z :: xs) 2 = some z := by
  unfold atI ixN
  rw [if_pos (by omega), if_pos (by simp only [List.length_cons]; omega)]
  rfl
theorem at3 : atI (x :: y :: z :: u :: xs) 3 = some u := by
  unfold atI ixN
  rw [if_pos (by omega), if_pos (by simp only [List.length_cons]; omega)]
  rfl
theorem cut_to {k : Int} (h : 0 ≤ k) : cut xs none (some k) = xs.take k.toNat := by
  obtain ⟨n, rfl⟩ := Int.eq_ofNat_of_zero_le h
  unfold cut
  rw [HT.sIx_none, HT.sIx_nat]
  simp only [Nat.zero_min, List.drop_zero, Nat.sub_zero, Int.toNat_natCast, Nat.min_zero]
  by_cases h : n ≤ xs.length
  · rw [Nat.min_eq_left h]
  · rw [Nat.min_eq_right (by omega), List.take_of_length_le (by omega), List.take_of_length_le (by omega)]
end
/-- texts all -/
def AllTx (n : Nat) (L : List PV) : Prop := ∀ y ∈ L, ∃ w, y = PV.str w ∧ Tx n w
theorem AllTx.app {n : Nat} {L M : List PV} (h : AllTx n L) (k : AllTx n M) : AllTx n (L ++ M) := fun y hy => (List.mem_append.mp hy).elim (h y) (k y)
theorem AllTx.map {n : Nat} {ws : List Str} (h : ∀ w ∈ ws, Tx n w) : AllTx n (ws.map PV.str) := fun y hy => by
  obtain ⟨w, h1, rfl⟩ := List.mem_map.mp hy
  exact ⟨w, rfl, h w h1⟩
theorem AllTx.lit {n : Nat} {L : List PV} (h : L.all (txP n) = true) : AllTx n L := fun y hy => txP_of (List.all_eq_true.mp h y hy)
theorem AllTx.take {n : Nat} {L : List PV} (h : AllTx n L) (k : Nat) : AllTx n (L.take k) := fun y hy => h y (List.mem_of_mem_take hy)
theorem AllTx.ex {n : Nat} : ∀ {L : List PV}, AllTx n L → ∃ ws : List Str, L = ws.map PV.str ∧ ∀ w ∈ ws, Tx n w
  | [], _ => ⟨[], rfl, nofun⟩
  | y :: L, h => by
    obtain ⟨w, rfl, hw⟩ := h y List.mem_cons_self
    obtain ⟨ws, rfl, hws⟩ := AllTx.ex fun z hz => h z (List.mem_cons_of_mem _ hz)
    refine ⟨w :: ws, rfl, fun v hv => ?_⟩
    rcases List.mem_cons.mp hv with rfl | hv
    · exact hw
    · exact hws v hv
end Ev
/-! # Ev, part 19: calls whose answer is known; comprehensions that map. -/
namespace Ev
open PySem

theorem call_q {D : List En} {k i : Nat} {as bs : List PV} {sl : List Slot} {hp hp' : List Cell} {r : Res} {Q : Res → G → Prop} (h : Gives (calls D k i as bs hp) fun x y => x = r ∧ y = hp') : Ok W (callC (calls D k) i as bs ⟨sl, hp⟩) Q = Q r ⟨sl, hp'⟩ := by
  obtain ⟨x, y, e, rfl, rfl⟩ := h.ex
  unfold callC
  simp only [e]
  rfl
theorem nc1 : ((1 : Nat) : Int) = 1 := rfl
theorem nc2 : ((2 : Nat) : Int) = 2 := rfl
theorem nc3 : ((3 : Nat) : Int) = 3 := rfl
theorem nc4 : ((4 : Nat) : Int) = 4 := rfl
theorem flat_i {i : Int} : flat (.int i) = true := rfl
theorem flat_s {i : Str} : flat (.str i) = true := rfl
/-- a comprehension that maps, without a condition: nothing else changes -/
theorem lc_maps {α : Type} {own : List Nat} {bd : Res → M Unit} {ts : M Bool} {el : M Res} {sl : List Slot} {hp : List Cell} {Q : List PV → G → Prop} {f h : α → PV} {as : List α} (hl : as.length ≤ 16777216)
    (step : ∀ a ∈ as, Ok W (bd (.val (f a)) ⟨sl, hp⟩) fun _ g1 => Ok W (ts g1) fun b g2 => b = true ∧ Ok W (el g2) fun y g3 => y.pv = h a ∧ wipe g3.sl own = sl ∧ g3.hp = hp) (fin : Q (as.map h) ⟨sl, hp⟩) : Ok W (lcGo own bd ts el (as.map f) [] ⟨sl, hp⟩) Q := by
  refine lc_map (f := f) (h := h) (fun x => x = hp) as [] hp rfl (by simpa using hl) (fun a ha hp' e => ?_) fun hp' e => ?_
  · subst e
    exact step a ha
  · subst e
    simpa using fin
/-- .. behind acc, a condition may leave some out -/
theorem lc_filt {α : Type} {own : List Nat} {bd : Res → M Unit} {ts : M Bool} {el : M Res} {sl : List Slot} {hp : List Cell} {Q : List PV → G → Prop} {f h : α → PV} (p : α → Bool) : ∀ (as : List α) (acc : List PV), acc.length + as.length ≤ 16777216 →
    (∀ a ∈ as, Ok W (bd (.val (f a)) ⟨sl, hp⟩) fun _ g1 => Ok W (ts g1) fun b g2 => b = p a ∧ if b = true then Ok W (el g2) fun y g3 => y.pv = h a ∧ wipe g3.sl own = sl ∧ g3.hp = hp else wipe g2.sl own = sl ∧ g2.hp = hp) → Q (acc ++ (as.filter p).map h) ⟨sl, hp⟩ → Ok W (lcGo own bd ts el (as.map f) acc ⟨sl, hp⟩) Q
  | [], acc, hl, step, fin => by
    unfold lcGo
    simpa [Ok] using fin
  | a :: as, acc, hl, step, fin => by
    rw [List.map_cons]
    unfold lcGo
    rw [Ok_bind]
    refine (step a List.mem_cons_self).imp fun u g1 s => ?_
    rw [Ok_bind]
    refine s.imp fun b g2 ⟨hb, s⟩ => ?_
    simp only [List.length_cons] at hl
    cases b with
    | true =>
      rw [if_pos rfl] at s ⊢
      rw [Ok_bind]
      refine s.imp fun y g3 ⟨hy, hw, j3⟩ => ?_
      rw [Ok_if]
      refine ⟨by rw [sizeLine_eq]; omega, ?_⟩
      obtain ⟨sl3, hq⟩ := g3
      subst hw
      have j3' : hq = hp := j3
      subst j3'
      rw [hy]
      refine lc_filt p as (acc ++ [h a]) (by simp only [List.length_append, List.length_cons, List.length_nil]; omega) (fun x hx => step x (List.mem_cons_of_mem _ hx)) ?_
      simpa [List.filter_cons, ← hb] using fin
    | false =>
      rw [if_neg Bool.false_ne_true] at s ⊢
      obtain ⟨sl3, hq⟩ := g2
      obtain ⟨hw, j3⟩ := s
      subst hw
      have j3' : hq = hp := j3
      subst j3'
      refine lc_filt p as acc (by omega) (fun x hx => step x (List.mem_cons_of_mem _ hx)) ?_
      simpa [List.filter_cons, ← hb] using fin
/-- two for, no conditions: each item of the first gives a row -/
theorem lc2_maps {α : Type} {own : List Nat} {bd : Res → M Unit} {ts : M Bool} {inner : List PV → M (List PV)} {sl : List Slot} {hp : List Cell} {Q : List PV → G → Prop} {f : α → PV} {h : α → List PV} : ∀ (as : List α) (acc : List PV),
    (∀ a ∈ as, ∀ acc, Ok W (bd (.val (f a)) ⟨sl, hp⟩) fun _ g1 => Ok W (ts g1) fun b g2 => b = true ∧ Ok W (inner acc g2) fun ys g3 => ys = acc ++ h a ∧ wipe g3.sl own = sl ∧ g3.hp = hp) → Q (acc ++ as.flatMap h) ⟨sl, hp⟩ → Ok W (lc2Go own bd ts inner (as.map f) acc ⟨sl, hp⟩) Q
  | [], acc, step, fin => by
    unfold lc2Go
    simpa [Ok] using fin
  | a :: as, acc, step, fin => by
    rw [List.map_cons]
    unfold lc2Go
    rw [Ok_bind]
    refine (step a List.mem_cons_self acc).imp fun u g1 s => ?_
    rw [Ok_bind]
    refine s.imp fun b g2 ⟨hb, s⟩ => ?_
    subst hb
    rw [if_pos rfl, Ok_bind]
    refine s.imp fun ys g3 ⟨hy, hw, j3⟩ => ?_
    obtain ⟨sl3, hq⟩ := g3
    subst hw
    have j3' : hq = hp := j3
    subst j3'
    subst hy
    refine lc2_maps as (acc ++ h a) (fun x hx => step x (List.mem_cons_of_mem _ hx)) ?_
    simpa using fin
/-- the inner comprehension behind what is there -/
theorem lc_more {α : Type} {own : List Nat} {bd : Res → M Unit} {ts : M Bool} {el : M Res} {sl : List Slot} {hp : List Cell} {Q : List PV → G → Prop} {f h : α → PV} : ∀ (as : List α) (acc : List PV), acc.length + as.length ≤ 16777216 →
    (∀ a ∈ as, Ok W (bd (.val (f a)) ⟨sl, hp⟩) fun _ g1 => Ok W (ts g1) fun b g2 => b = true ∧ Ok W (el g2) fun y g3 => y.pv = h a ∧ wipe g3.sl own = sl ∧ g3.hp = hp) → Q (acc ++ as.map h) ⟨sl, hp⟩ → Ok W (lcGo own bd ts el (as.map f) acc ⟨sl, hp⟩) Q := fun as acc hl step fin => by
  refine lc_map (f := f) (h := h) (fun x => x = hp) as acc hp rfl hl (fun a ha hp' e => ?_) fun hp' e => ?_
  · subst e
    exact step a ha
  · subst e
    exact fin
/-! ### dicts with tuples for keys -/
/-- one entry more, its key not there yet -/
theorem put_new {kvs : List (PV × PV)} {k v : PV} {n : NestedKey} (hk : nkT k = some n) (hn : ∀ kv ∈ kvs, nkT kv.1 ≠ some n) (hl : kvs.length < sizeLine) : putC (.dn kvs) k v = some (.dn (kvs ++ [(k, v)])) := by
  rw [putC_t, hk]
  show ck _ _ = _
  unfold ck
  rw [if_pos hl]
  unfold putN
  have : (kvs.any fun kv => decide (nkT kv.1 = some n)) = false := by
    rw [List.any_eq_false]
    intro kv hkv
    simpa using hn kv hkv
  rw [this]
  rfl
/-- the cell that holds these entries -/
def cellN : List (PV × PV) → Cell
  | [] => .dk []
  | kvs => .dn kvs
theorem put_cell {kvs : List (PV × PV)} {k v : PV} {n : NestedKey} (hk : nkT k = some n) (hf : keyOf k = none) (hn : ∀ kv ∈ kvs, nkT kv.1 ≠ some n) (hl : kvs.length < sizeLine) : putC (cellN kvs) k v = some (cellN (kvs ++ [(k, v)])) := by
  cases kvs with
  | nil =>
    show (match keyOf k with
      | some key => ck (0 < sizeLine) (Cell.dk (putK [] key v))
      | none => (nkT k).map fun _ => Cell.dn [(k, v)]) = _
    rw [hf, hk]
    rfl
  | cons a r => exact put_new hk hn hl
theorem keyOf_tup {xs : List PV} : keyOf (.tup xs) = none := rfl
theorem nkT_tup {k : PV} {n : NestedKey} (h : nkT k = some n) : keyOf k = none := by
  cases k <;> first | rfl | (simp [nkT] at h)
/-- {k: v for .. in ..}, all keys unlike -/
theorem dc_maps {α : Type} {own : List Nat} {bd : Res → M Unit} {ts : M Bool} {kk el : M Res} {sl : List Slot} {hp : List Cell} {Q : Cell → G → Prop} {f key val : α → PV} : ∀ (as : List α) (kvs : List (PV × PV)), kvs.length + as.length ≤ 16777216 → (∀ a ∈ as, (nkT (key a)).isSome = true) → (kvs.map (fun kv => nkT kv.1) ++ as.map fun a => nkT (key a)).Nodup →
    (∀ a ∈ as, Ok W (bd (.val (f a)) ⟨sl, hp⟩) fun _ g1 => Ok W (ts g1) fun b g2 => b = true ∧ Ok W (kk g2) fun y g3 => y.pv = key a ∧ Ok W (el g3) fun z g4 => z.pv = val a ∧ wipe g4.sl own = sl ∧ g4.hp = hp) → Q (cellN (kvs ++ as.map fun a => (key a, val a))) ⟨sl, hp⟩ → Ok W (dcGo own bd ts kk el (as.map f) (cellN kvs) ⟨sl, hp⟩) Q
  | [], kvs, hl, hs, hn, step, fin => by
    unfold dcGo
    simpa [Ok] using fin
  | a :: as, kvs, hl, hs, hn, step, fin => by
    rw [List.map_cons]
    unfold dcGo
    rw [Ok_bind]
    refine (step a List.mem_cons_self).imp fun u g1 s => ?_
    rw [Ok_bind]
    refine s.imp fun b g2 ⟨hb, s⟩ => ?_
    subst hb
    rw [if_pos rfl, Ok_bind]
    refine s.imp fun y g3 ⟨hy, s⟩ => ?_
    rw [Ok_bind]
    refine s.imp fun z g4 ⟨hz, hw, j⟩ => ?_
    obtain ⟨sl3, hq⟩ := g4
    subst hw
    have j' : hq = hp := j
    subst j'
    obtain ⟨n, hk⟩ := Option.isSome_iff_exists.mp (hs a List.mem_cons_self)
    have hnd := hn
    rw [List.map_cons, List.nodup_append] at hnd
    simp only [List.length_cons] at hl
    rw [hy, hz, put_cell hk (nkT_tup hk) (fun kv hkv e => hnd.2.2 _ (List.mem_map.mpr ⟨kv, hkv, rfl⟩) (nkT (key a)) List.mem_cons_self (by rw [e, hk])) (by rw [sizeLine_eq]; omega), lift_some, Ev.R.bind_ok]
    refine dc_maps as (kvs ++ [(key a, val a)]) (by simp only [List.length_append, List.length_cons, List.length_nil]; omega) (fun x hx => hs x (List.mem_cons_of_mem _ hx)) (by simpa using hn) (fun x hx => step x (List.mem_cons_of_mem _ hx)) ?_
    simpa using fin
theorem lc_mapsX {α : Type} {own : List Nat} {bd : Res → M Unit} {ts : M Bool} {el : M Res} {sl : List Slot} {hp : List Cell} {Q : List PV → G → Prop} {items : List PV} (as : List α) (f h : α → PV) (hx : items = as.map f) (hl : as.length ≤ 16777216)
    (step : ∀ a ∈ as, Ok W (bd (.val (f a)) ⟨sl, hp⟩) fun _ g1 => Ok W (ts g1) fun b g2 => b = true ∧ Ok W (el g2) fun y g3 => y.pv = h a ∧ wipe g3.sl own = sl ∧ g3.hp = hp) (fin : Q (as.map h) ⟨sl, hp⟩) : Ok W (lcGo own bd ts el items [] ⟨sl, hp⟩) Q := by
  subst hx
  exact lc_maps hl step fin
theorem lc_moreX {α : Type} {own : List Nat} {bd : Res → M Unit} {ts : M Bool} {el : M Res} {sl : List Slot} {hp : List Cell} {Q : List PV → G → Prop} {items : List PV} (as : List α) (f h : α → PV) (acc : List PV) (hx : items = as.map f) (hl : acc.length + as.length ≤ 16777216)
    (step : ∀ a ∈ as, Ok W (bd (.val (f a)) ⟨sl, hp⟩) fun _ g1 => Ok W (ts g1) fun b g2 => b = true ∧ Ok W (el g2) fun y g3 => y.pv = h a ∧ wipe g3.sl own = sl ∧ g3.hp = hp) (fin : Q (acc ++ as.map h) ⟨sl, hp⟩) : Ok W (lcGo own bd ts el items acc ⟨sl, hp⟩) Q := by
  subst hx
  exact lc_more as acc hl step fin
theorem lc2_mapsX {α : Type} {own : List Nat} {bd : Res → M Unit} {ts : M Bool} {inner : List PV → M (List PV)} {sl : List Slot} {hp : List Cell} {Q : List PV → G → Prop} {items : List PV} (as : List α) (f : α → PV) (h : α → List PV) (hx : items = as.map f) (n : Nat) (hn : ∀ a ∈ as, (h a).length ≤ n)
    (step : ∀ a ∈ as, ∀ acc, acc.length ≤ n * as.length → Ok W (bd (.val (f a)) ⟨sl, hp⟩) fun _ g1 => Ok W (ts g1) fun b g2 => b = true ∧ Ok W (inner acc g2) fun ys g3 => ys = acc ++ h a ∧ wipe g3.sl own = sl ∧ g3.hp = hp) (fin : Q (as.flatMap h) ⟨sl, hp⟩) : Ok W (lc2Go own bd ts inner items [] ⟨sl, hp⟩) Q := by
  subst hx
  have go : ∀ (bs cs : List α) (acc : List PV), as = cs ++ bs → acc = cs.flatMap h → acc.length ≤ n * cs.length → Ok W (lc2Go own bd ts inner (bs.map f) acc ⟨sl, hp⟩) Q := by
    intro bs
    induction bs with
    | nil =>
      intro cs acc e1 e2 e3
      rw [List.append_nil] at e1
      subst e1 e2
      unfold lc2Go
      exact fin
    | cons a bs ih =>
      intro cs acc e1 e2 e3
      have ha : a ∈ as := by rw [e1]; simp
      rw [List.map_cons]
      unfold lc2Go
      rw [Ok_bind]
      refine (step a ha acc (Nat.le_trans e3 (Nat.mul_le_mul_left n (by rw [e1]; simp)))).imp fun u g1 s => ?_
      rw [Ok_bind]
      refine s.imp fun b g2 ⟨hb, s⟩ => ?_
      subst hb
      rw [if_pos rfl, Ok_bind]
      refine s.imp fun ys g3 ⟨hy, hw, j3⟩ => ?_
      obtain ⟨sl3, hq⟩ := g3
      subst hw
      have j3' : hq = hp := j3
      subst j3'
      subst hy
      refine ih (cs ++ [a]) _ (by simp [e1]) (by simp [e2]) ?_
      have := hn a ha
      simp only [List.length_append, List.length_cons, List.length_nil, Nat.mul_add, Nat.zero_add, Nat.mul_one]
      omega
  exact go as [] [] rfl rfl (by simp)
theorem dc_mapsX {α : Type} {own : List Nat} {bd : Res → M Unit} {ts : M Bool} {kk el : M Res} {sl : List Slot} {hp : List Cell} {Q : Cell → G → Prop} {items : List PV} (as : List α) (f key val : α → PV) (hx : items = as.map f) (hl : as.length ≤ 16777216) (hs : ∀ a ∈ as, (nkT (key a)).isSome = true) (hn : (as.map fun a => nkT (key a)).Nodup)
    (step : ∀ a ∈ as, Ok W (bd (.val (f a)) ⟨sl, hp⟩) fun _ g1 => Ok W (ts g1) fun b g2 => b = true ∧ Ok W (kk g2) fun y g3 => y.pv = key a ∧ Ok W (el g3) fun z g4 => z.pv = val a ∧ wipe g4.sl own = sl ∧ g4.hp = hp) (fin : Q (cellN (as.map fun a => (key a, val a))) ⟨sl, hp⟩) : Ok W (dcGo own bd ts kk el items (.dk []) ⟨sl, hp⟩) Q := by
  subst hx
  exact dc_maps (f := f) (key := key) (val := val) as [] (by simpa using hl) hs (by simpa using hn) step (by simpa using fin)
theorem bls_map {α : Type} (p : α → Bool) : ∀ as : List α, bls (as.map fun a => .bl (p a)) = some (as.map p)
  | [] => rfl
  | a :: as => by
    rw [List.map_cons, bls, bls_map p as]
    rfl
theorem nts_map : ∀ as : List Int, nts (as.map PV.int) = some as
  | [] => rfl
  | a :: as => by
    rw [List.map_cons, nts, nts_map as]
    rfl
theorem kys_ints : ∀ as : List Int, kys (as.map PV.int) = some (as.map Sum.inl)
  | [] => rfl
  | a :: as => by
    rw [List.map_cons, kys, kys_ints as]
    rfl
theorem distK_nodup : ∀ {ks : List Key}, ks.Nodup → distK ks = ks.length
  | [], _ => rfl
  | k :: ks, h => by
    rw [List.nodup_cons] at h
    unfold distK
    have : (ks.any fun y => decide (y = k)) = false := by
      rw [List.any_eq_false]
      intro y hy
      have : y ≠ k := fun e => h.1 (e ▸ hy)
      simpa using this
    rw [this, distK_nodup h.2]
    rfl
theorem lset_ints {xs : List Int} (hn : xs.Nodup) (hl : xs.length < 4000) : lsetV (xs.map PV.int) = some (.val (.int xs.length)) := by
  unfold lsetV
  rw [kys_ints]
  show ck _ _ = _
  unfold ck
  rw [if_pos (by simpa using hl), distK_nodup]
  · simp
  · exact List.Pairwise.map _ (fun a b h q => h (by cases q; rfl)) hn
theorem cut_from {α : Type} {xs : List α} {n : Nat} : cut xs (some (n : Int)) none = xs.drop n := by
  unfold cut
  rw [HT.sIx_none, HT.sIx_nat]
  by_cases h : n ≤ xs.length
  · rw [Nat.min_eq_left h]
    exact List.take_of_length_le (by simp)
  · rw [Nat.min_eq_right (by omega), List.drop_eq_nil_of_le (Nat.le_refl _), List.drop_eq_nil_of_le (by omega)]
    simp
theorem zipL_map {α : Type} {f : α → PV} : ∀ (xs ys : List α), zipL (xs.map f) (ys.map f) = (xs.zip ys).map fun p => .tup [f p.1, f p.2]
  | [], ys => by simp [zipL]
  | x :: xs, [] => by simp [zipL]
  | x :: xs, y :: ys => by
    simp only [List.map_cons, zipL, List.zip_cons_cons]
    rw [zipL_map xs ys]
/-! ### places -/
/-- the last but one of a row with an end on each side -/
theorem at_m2 {x y : PV} : ∀ (xs : List PV), atI (x :: xs ++ [y]) (-2) = some ((x :: xs).getLast (by simp)) := by
  intro xs
  unfold atI ixN
  have hl : (x :: xs ++ [y]).length = xs.length + 2 := by simp
  rw [if_neg (by omega), if_pos (by rw [hl]; omega), hl]
  have e : ((-2 : Int) + ((xs.length + 2 : Nat) : Int)).toNat = xs.length := by omega
  show (x :: xs ++ [y])[((-2 : Int) + ((xs.length + 2 : Nat) : Int)).toNat]? = _
  rw [e, List.getElem?_append_left (by simp)]
  rw [List.getLast_eq_getElem]
  simp
theorem at_nat {α : Type} {xs : List α} {n : Nat} {y : α} (h : xs[n]? = some y) : atI xs (n : Int) = some y := by
  have hl : n < xs.length := (List.getElem?_eq_some_iff.mp h).1
  unfold atI ixN
  rw [if_pos (by omega), if_pos (by omega)]
  exact h
end Ev
/-! # Ev, part 20: plain values by weight. -/
namespace Ev
open PySem
mutual
/-- at least as many signs as repr shows -/
def wt : PV → Nat
  | .non => 4
  | .bl _ => 5
  | .int i => ((toString i : String) : Str).length
  | .str s => (reprText s).length
  | .tup xs => 3 + wts xs
  | .lst xs => 2 + wts xs
  | .fz _ => 0
  | .ref _ => 0
  | .ty _ => 0
def wts : List PV → Nat
  | [] => 0
  | x :: xs => wt x + 2 + wts xs
end
mutual
/-- plain; texts and rows of at most n -/
def Nd (n : Nat) : PV → Prop
  | .non => True
  | .bl _ => True
  | .int i => i.natAbs.log2 < 1920
  | .str s => Tx n s
  | .tup xs => xs.length ≤ n ∧ Nds n xs
  | .lst xs => xs.length ≤ n ∧ Nds n xs
  | .fz _ => False
  | .ref _ => False
  | .ty _ => False
def Nds (n : Nat) : List PV → Prop
  | [] => True
  | x :: xs => Nd n x ∧ Nds n xs
end
mutual
def dep : PV → Nat
  | .tup xs => deps xs + 1
  | .lst xs => deps xs + 1
  | .non => 0
  | .bl _ => 0
  | .int _ => 0
  | .str _ => 0
  | .fz _ => 0
  | .ref _ => 0
  | .ty _ => 0
def deps : List PV → Nat
  | [] => 0
  | x :: xs => max (dep x) (deps xs)
end
structure Gd (d w n : Nat) (v : PV) : Prop where
  nd : Nd n v
  dp : dep v ≤ d
  wt : wt v ≤ w
theorem Nds.mem {n : Nat} : ∀ {xs : List PV}, Nds n xs → ∀ x ∈ xs, Nd n x
  | [], _, x, hx => by cases hx
  | y :: ys, h, x, hx => by
    simp only [Nds] at h
    rcases List.mem_cons.mp hx with rfl | hx
    · exact h.1
    · exact Nds.mem h.2 x hx
theorem Nds.of {n : Nat} : ∀ {xs : List PV}, (∀ x ∈ xs, Nd n x) → Nds n xs
  | [], _ => by simp only [Nds]
  | y :: ys, h => by
    simp only [Nds]
    exact ⟨h y List.mem_cons_self, Nds.of fun x hx => h x (List.mem_cons_of_mem _ hx)⟩
theorem wts_mem : ∀ {xs : List PV} {x : PV}, x ∈ xs → wt x ≤ wts xs
  | y :: ys, x, hx => by
    simp only [wts]
    rcases List.mem_cons.mp hx with rfl | hx
    · omega
    · have := wts_mem hx
      omega
theorem deps_mem : ∀ {xs : List PV} {x : PV}, x ∈ xs → dep x ≤ deps xs
  | y :: ys, x, hx => by
    simp only [deps]
    rcases List.mem_cons.mp hx with rfl | hx
    · exact Nat.le_max_left ..
    · exact Nat.le_trans (deps_mem hx) (Nat.le_max_right ..)
theorem deps_le {d : Nat} : ∀ {xs : List PV}, (∀ x ∈ xs, dep x ≤ d) → deps xs ≤ d
  | [], _ => Nat.zero_le _
  | y :: ys, h => by
    simp only [deps]
    exact Nat.max_le.mpr ⟨h y List.mem_cons_self, deps_le fun x hx => h x (List.mem_cons_of_mem _ hx)⟩
theorem wts_app (ys : List PV) : ∀ xs : List PV, wts (xs ++ ys) = wts xs + wts ys
  | [] => by simp [wts]
  | x :: xs => by
    simp only [List.cons_append, wts, wts_app ys xs]
    omega
theorem wts_rev : ∀ xs : List PV, wts xs.reverse = wts xs
  | [] => rfl
  | x :: xs => by
    rw [List.reverse_cons, wts_app, wts_rev xs]
    simp only [wts]
    omega
theorem wts_take (xs : List PV) (n : Nat) : wts (xs.take n) ≤ wts xs := by
  have := wts_app (xs.drop n) (xs.take n)
  rw [List.take_append_drop] at this
  omega
theorem wts_drop (xs : List PV) (n : Nat) : wts (xs.drop n) ≤ wts xs := by
  have := wts_app (xs.drop n) (xs.take n)
  rw [List.take_append_drop] at this
  omega
mutual
theorem dep_d : ∀ v : PV, v.d.depth = dep v
  | .non => by simp only [PV.d, PyData.depth, dep]
  | .bl _ => by simp only [PV.d, PyData.depth, dep]
  | .int _ => by simp only [PV.d, PyData.depth, dep]
  | .str _ => by simp only [PV.d, PyData.depth, dep]
  | .fz _ => by simp only [PV.d, PyData.depth, dep]
  | .ref _ => by simp only [PV.d, PyData.depth, dep]
  | .ty _ => by simp only [PV.d, PyData.depth, dep]
  | .tup xs => by simp only [PV.d, PyData.depth, dep, deps_d xs]
  | .lst xs => by simp only [PV.d, PyData.depth, dep, deps_d xs]
theorem deps_d : ∀ xs : List PV, PyData.depthAll (PV.ds xs) = deps xs
  | [] => by simp only [PV.ds, PyData.depthAll, deps]
  | x :: xs => by simp only [PV.ds, PyData.depthAll, deps, dep_d x, deps_d xs]
end
def slen (ts : List Str) : Nat := (ts.map fun t => t.length + 2).sum
theorem slen_cons (t : Str) (ts : List Str) : slen (t :: ts) = t.length + 2 + slen ts := rfl
theorem textFrom_sum : ∀ (ts : List Str) (k : Nat) (acc : Str), (textFrom k acc ts).length ≤ acc.length + slen ts
  | [], k, acc => by simp [textFrom, slen]
  | t :: r, k, acc => by
    show (textFrom (k + 1) (acc ++ (if k > 0 then ", " else "" : String) ++ t) r).length ≤ _
    have h1 := textFrom_sum r (k + 1) (acc ++ (if k > 0 then ", " else "" : String) ++ t)
    rw [strLen_append, strLen_append] at h1
    have h3 : (((if k > 0 then ", " else "" : String) : Str)).length ≤ 2 := by split <;> decide +kernel
    rw [slen_cons]
    omega
theorem piled_sum : ∀ ts : List Str, (Str.join ", " ts).length ≤ slen ts
  | [] => by
    show Str.empty.length ≤ _
    exact Nat.zero_le _
  | [x] => by
    show x.length ≤ _
    rw [slen_cons]
    omega
  | x :: y :: r => by
    show (x ++ ", " ++ Str.join ", " (y :: r)).length ≤ _
    have ih := piled_sum (y :: r)
    rw [strLen_append, strLen_append]
    have e2 : ((", " : String) : Str).length = 2 := rfl
    rw [slen_cons]
    omega
mutual
theorem Nd.data {n : Nat} : ∀ v : PV, Nd n v → v.pure = true ∧ v.d.canLay0 = true ∧ v.d.showable = true ∧ v.d.shown.length ≤ wt v
  | .non, _ => ⟨rfl, by simp only [PV.d, PyData.canLay0], by simp only [PV.d, PyData.showable], by simp only [PV.d, PyData.shown, wt]; decide +kernel⟩
  | .bl b, _ => ⟨rfl, by simp only [PV.d, PyData.canLay0], by simp only [PV.d, PyData.showable], by simp only [PV.d, PyData.shown, wt]; cases b <;> decide +kernel⟩
  | .int i, h => by
    simp only [Nd] at h
    exact ⟨rfl, by simp only [PV.d, PyData.canLay0], by simp only [PV.d, PyData.showable]; exact decide_eq_true h, by simp only [PV.d, PyData.shown, wt]; exact Nat.le_refl _⟩
  | .str s, h => by
    simp only [Nd] at h
    have f := Fit.str (d := 0) h
    exact ⟨rfl, f.can, f.sh, by simp only [PV.d, PyData.shown, wt]; exact Nat.le_refl _⟩
  | .tup xs, h => by
    simp only [Nd] at h
    obtain ⟨h1, h2, h3, h4, h5⟩ := Nds.data xs h.2
    refine ⟨by simp only [PV.pure, h1], by simp only [PV.d, PyData.canLay0, h2], by simp only [PV.d, PyData.showable, h3], ?_⟩
    simp only [PV.d, PyData.shown, wt]
    unfold tupleText
    have q := piled_sum (PyData.shownAll (PV.ds xs))
    rw [strLen_append, strLen_append]
    have e1 : (("(" : String) : Str).length = 1 := rfl
    have e2 : (((if (PyData.shownAll (PV.ds xs)).length == 1 then ",)" else ")" : String) : Str)).length ≤ 2 := by split <;> decide +kernel
    omega
  | .lst xs, h => by
    simp only [Nd] at h
    obtain ⟨h1, h2, h3, h4, h5⟩ := Nds.data xs h.2
    refine ⟨by simp only [PV.pure, h1], by simp only [PV.d, PyData.canLay0, h2], by simp only [PV.d, PyData.showable, h3], ?_⟩
    simp only [PV.d, PyData.shown, wt]
    unfold listText
    have q := textFrom_sum (PyData.shownAll (PV.ds xs)) 0 "["
    rw [strLen_append]
    have e1 : (("[" : String) : Str).length = 1 := rfl
    have e2 : (("]" : String) : Str).length = 1 := rfl
    omega
  | .fz _, h => by simp only [Nd] at h
  | .ref _, h => by simp only [Nd] at h
  | .ty _, h => by simp only [Nd] at h
theorem Nds.data {n : Nat} : ∀ xs : List PV, Nds n xs → PV.pures xs = true ∧ PyData.canLayAll0 (PV.ds xs) = true ∧ PyData.showableAll (PV.ds xs) = true ∧ (PyData.shownAll (PV.ds xs)).length = xs.length ∧ slen (PyData.shownAll (PV.ds xs)) ≤ wts xs
  | [], _ => ⟨rfl, by simp [PV.ds, PyData.canLayAll0], by simp [PV.ds, PyData.showableAll], by simp [PV.ds, PyData.shownAll], by simp [PV.ds, PyData.shownAll, slen, wts]⟩
  | x :: xs, h => by
    simp only [Nds] at h
    obtain ⟨a1, a2, a3, a4⟩ := Nd.data x h.1
    obtain ⟨h1, h2, h3, h4, h5⟩ := Nds.data xs h.2
    refine ⟨by simp only [PV.pures, a1, h1, Bool.and_self], by simp only [PV.ds, PyData.canLayAll0, a2, h2, Bool.and_self], by simp only [PV.ds, PyData.showableAll, a3, h3, Bool.and_self], by simp only [PV.ds, PyData.shownAll, List.length_cons, h4], ?_⟩
    simp only [PV.ds, PyData.shownAll, slen_cons, wts]
    omega
end
theorem Gd.fit {d w n : Nat} {v : PV} (h : Gd d w n v) : Fit d w v := by
  obtain ⟨h1, h2, h3, h4⟩ := Nd.data v h.nd
  exact ⟨h1, h2, h3, by rw [dep_d]; exact h.dp, Nat.le_trans h4 h.wt⟩
theorem Gd.mono {d w n d' w' n' : Nat} {v : PV} (h : Gd d w n v) (h1 : d ≤ d') (h2 : w ≤ w') (h3 : ∀ v, Nd n v → Nd n' v) : Gd d' w' n' v := ⟨h3 _ h.nd, Nat.le_trans h.dp h1, Nat.le_trans h.wt h2⟩
mutual
theorem Nd.mono {n m : Nat} (l : n ≤ m) : ∀ v : PV, Nd n v → Nd m v
  | .non, h => by simp only [Nd]
  | .bl b, h => by simp only [Nd]
  | .int i, h => by simpa only [Nd] using h
  | .str s, h => by
    simp only [Nd] at h ⊢
    exact h.mono l
  | .tup xs, h => by
    simp only [Nd] at h ⊢
    exact ⟨Nat.le_trans h.1 l, Nds.mono l xs h.2⟩
  | .lst xs, h => by
    simp only [Nd] at h ⊢
    exact ⟨Nat.le_trans h.1 l, Nds.mono l xs h.2⟩
  | .fz _, h => by simp only [Nd] at h
  | .ref _, h => by simp only [Nd] at h
  | .ty _, h => by simp only [Nd] at h
theorem Nds.mono {n m : Nat} (l : n ≤ m) : ∀ xs : List PV, Nds n xs → Nds m xs
  | [], h => by simp only [Nds]
  | x :: xs, h => by
    simp only [Nds] at h ⊢
    exact ⟨Nd.mono l x h.1, Nds.mono l xs h.2⟩
end
theorem Gd.up {d w n d' w' n' : Nat} {v : PV} (h : Gd d w n v) (h1 : d ≤ d') (h2 : w ≤ w') (h3 : n ≤ n') : Gd d' w' n' v := h.mono h1 h2 (Nd.mono h3)
theorem Gd.item {d w n : Nat} {xs : List PV} (h : Gd d w n (.tup xs)) : ∀ x ∈ xs, Gd d w n x := fun x hx => by
  have h1 := h.nd
  have h2 := h.dp
  have h3 := h.wt
  simp only [Nd] at h1
  simp only [dep] at h2
  simp only [Ev.wt] at h3
  have a := deps_mem hx
  have b := wts_mem hx
  exact ⟨h1.2.mem x hx, by omega, by omega⟩
theorem Gd.itemL {d w n : Nat} {xs : List PV} (h : Gd d w n (.lst xs)) : ∀ x ∈ xs, Gd d w n x := fun x hx => by
  have h1 := h.nd
  have h2 := h.dp
  have h3 := h.wt
  simp only [Nd] at h1
  simp only [dep] at h2
  simp only [Ev.wt] at h3
  have a := deps_mem hx
  have b := wts_mem hx
  exact ⟨h1.2.mem x hx, by omega, by omega⟩
theorem Gd.len {d w n : Nat} {xs : List PV} (h : Gd d w n (.tup xs)) : xs.length ≤ n := by
  have h1 := h.nd
  simp only [Nd] at h1
  exact h1.1
theorem Gd.slen {d w n : Nat} {s : Str} (h : Gd d w n (.str s)) : s.length ≤ n := by
  have h1 := h.nd
  simp only [Nd] at h1
  exact h1.len
theorem Gd.repr {d w n : Nat} {v : PV} (h : Gd d w n v) (hd : d ≤ 100) (hw : w ≤ 16777216) : biV .repr [v] = some (.val (.str v.d.shown)) := by
  have f := h.fit
  show ck _ _ = _
  unfold ck
  rw [if_pos ⟨f.pure, f.sh, Nat.le_trans f.dp hd, Nat.le_trans f.sz hw⟩]
/-- [..] == [] of plain items -/
theorem nil_eq {d w n : Nat} (hd : d ≤ 60) {xs : List PV} (h : ∀ x ∈ xs, Gd d w n x) : eqV (.lst xs) (.lst []) = some xs.isEmpty := by
  obtain ⟨h1, h2, _⟩ := Nds.data xs (Nds.of fun x hx => (h x hx).nd)
  refine eq_nil_l h1 ?_
  unfold SeqAt.shaped
  simp only [PV.d, PyData.canLay0, PyData.depth, h2, deps_d, Bool.true_and, decide_eq_true_eq]
  have := deps_le fun x hx => (h x hx).dp
  omega
theorem nil_eqT {d w n : Nat} (hd : d ≤ 60) {xs : List PV} (h : Gd d w n (.tup xs)) : eqV (.tup xs) (.tup []) = some xs.isEmpty := by
  have f := h.fit
  have p := f.pure
  simp only [PV.pure] at p
  exact eq_nil_t p (f.shaped (by omega))
theorem inV_tf {x : PV} {t : List PV} (hx : flat x = true) (ht : t.all flat = true) : inV x (.tup t) = some (t.any fun y => eqF y x) := by
  show (if _ then _ else _) = _
  rw [if_pos ⟨hx, ht⟩]
theorem inV_lf {x : PV} {t : List PV} (hx : flat x = true) (ht : t.all flat = true) : inV x (.lst t) = some (t.any fun y => eqF y x) := by
  show (if _ then _ else _) = _
  rw [if_pos ⟨hx, ht⟩]
/-- one sign in a text -/
theorem inV_sign {c : Nat} {t : Str} : inV (.str ⟨#[c]⟩) (.str t) = some (decide (c ∈ t.cps.toList)) := rfl
theorem cmpG_ins {x : PV} {t : Str} {hp : List Cell} : cmpG .inn x (.str t) hp = inV x (.str t) := rfl
theorem cmpG_nins {x : PV} {t : Str} {hp : List Cell} : cmpG .nin x (.str t) hp = (inV x (.str t)).map (!·) := rfl
theorem cmpG_inls {x : PV} {n : Nat} {t : List PV} {hp : List Cell} (h : hp[n]? = some (.ls t)) : cmpG .inn x (.ref n) hp = inV x (.lst t) := by
  show (hp[n]?).bind _ = _
  rw [h]
  rfl
/-- a list's items, one by one, a truth each -/
theorem bls_all {α : Type} (p : α → Bool) (as : List α) : (bls (as.map fun a => .bl (p a))).map (fun bs => bs.all id) = some (as.all p) := by
  rw [bls_map]
  simp [List.all_map]
end Ev
/-! # Ev, part 21: written values, plans and values with one change: plain Lean, no law in sight. -/
namespace Pl
open PySem Ev
def isInt : PV → Bool
  | .int _ => true
  | _ => false
def isNum : PV → Bool
  | .int i => decide (0 ≤ i)
  | _ => false
def isTup : PV → Bool
  | .tup _ => true
  | _ => false
theorem ofs_list (s : String) : (Str.ofString s).cps.toList = s.toList.map Char.toNat := by
  rw [Str.ofString_eq_toList]
theorem app_list (a b : Str) : (a ++ b).cps.toList = a.cps.toList ++ b.cps.toList := by
  show (Str.append a b).cps.toList = _
  simp [Str.append]
theorem repr_fold (q : Nat) : ∀ (l : List Nat) (acc : Array Nat), (l.foldl (fun out c => out ++ (Builtin.Str.reprChar q c).toArray) acc).toList = acc.toList ++ l.flatMap (Builtin.Str.reprChar q)
  | [], acc => by simp
  | c :: r, acc => by
    rw [List.foldl_cons, repr_fold q r]
    simp [List.flatMap_cons]
theorem repr_list (s : Str) : (reprText s).cps.toList = reprQuote s :: (s.cps.toList.flatMap (Builtin.Str.reprChar (reprQuote s)) ++ [reprQuote s]) := by
  unfold reprText
  rw [Array.toList_push, ← Array.foldl_toList, repr_fold]
  simp
/-! ### shown texts are plain -/
def Asc (t : Str) : Prop := ∀ c ∈ t.cps.toList, c < 256
theorem Asc.app {a b : Str} (h : Asc a) (k : Asc b) : Asc (a ++ b) := fun c hc => by
  rw [app_list, List.mem_append] at hc
  exact hc.elim (h c) (k c)
theorem hex_lt (n : Nat) : ∀ c ∈ (Nat.toDigits 16 n).map Char.toNat, c < 256 := by
  intro c hc
  obtain ⟨d, hd, rfl⟩ := List.mem_map.mp hc
  unfold Nat.toDigits at hd
  have go : ∀ (f n : Nat) (acc : List Char), (∀ x ∈ acc, x.toNat < 256) → ∀ x ∈ Nat.toDigitsCore 16 f n acc, x.toNat < 256 := by
    have dig : ∀ k, (Nat.digitChar k).toNat < 256 := by
      intro k
      rcases Nat.lt_or_ge k 16 with h | h
      · have : ∀ k : _root_.Fin 16, (Nat.digitChar k.val).toNat < 256 := by decide
        exact this ⟨k, h⟩
      · have : Nat.digitChar k = '*' := by
          unfold Nat.digitChar
          repeat rw [if_neg (by omega)]
        rw [this]
        decide
    intro f
    induction f with
    | zero => intro n acc h x hx; exact h x hx
    | succ f ih =>
      intro n acc h x hx
      unfold Nat.toDigitsCore at hx
      simp only at hx
      split at hx
      · rcases List.mem_cons.mp hx with rfl | hx
        · exact dig _
        · exact h x hx
      · refine ih _ _ (fun y hy => ?_) x hx
        rcases List.mem_cons.mp hy with rfl | hy
        · exact dig _
        · exact h y hy
  exact go _ _ _ (by simp) d hd
theorem reprChar_lt {q c : Nat} (hq : q < 256) (h : c < 256) : ∀ x ∈ Builtin.Str.reprChar q c, x < 256 := by
  have hx := hex_lt c
  unfold Builtin.Str.reprChar
  simp only
  repeat' split
  all_goals
    intro x hm
    simp only [List.mem_cons, List.not_mem_nil, or_false, List.mem_append, List.mem_replicate] at hm
    first
    | omega
    | (rcases hm with (hm | hm) | hm | hm
       · omega
       · omega
       · omega
       · exact hx x hm)
theorem quote_lt (s : Str) : reprQuote s < 256 := by
  unfold reprQuote
  split <;> omega
theorem Asc.repr {s : Str} (h : Asc s) : Asc (reprText s) := fun c hc => by
  rw [repr_list] at hc
  rcases List.mem_cons.mp hc with rfl | hc
  · exact quote_lt s
  · rcases List.mem_append.mp hc with hc | hc
    · obtain ⟨x, hx, hc⟩ := List.mem_flatMap.mp hc
      exact reprChar_lt (quote_lt s) (h x hx) c hc
    · rw [List.mem_singleton.mp hc]
      exact quote_lt s
theorem Asc.int (i : Int) : Asc (Str.ofString (toString i)) := by
  intro x hx
  rw [ofs_list] at hx
  obtain ⟨c, hc, rfl⟩ := List.mem_map.mp hx
  cases i with
  | ofNat n =>
    have : toString (Int.ofNat n) = Nat.repr n := rfl
    rw [this, Nat.repr, String.toList_ofList] at hc
    exact digit_lt n c hc
  | negSucc n =>
    have : toString (Int.negSucc n) = "-" ++ Nat.repr (n + 1) := rfl
    rw [this, String.toList_append, Nat.repr, String.toList_ofList] at hc
    rcases List.mem_append.mp hc with hc | hc
    · rw [List.mem_singleton] at hc
      subst hc
      decide
    · rw [String.toList_ofList] at hc
      exact digit_lt _ c hc
theorem Asc.from : ∀ {ts : List Str} {k : Nat} {acc : Str}, Asc acc → (∀ t ∈ ts, Asc t) → Asc (textFrom k acc ts)
  | [], _, _, h, _ => h
  | t :: ts, k, acc, h, hs => by
    unfold textFrom
    refine Asc.from (Asc.app (Asc.app h ?_) (hs t List.mem_cons_self)) fun x hx => hs x (List.mem_cons_of_mem _ hx)
    intro c hc
    split at hc
    · revert c
      decide +kernel
    · revert c
      decide +kernel
theorem Asc.join {s : Str} (hs : Asc s) : ∀ {ts : List Str}, (∀ t ∈ ts, Asc t) → Asc (Str.join s ts)
  | [], _ => fun c hc => by
    have : c ∈ ([] : List Nat) := hc
    cases this
  | [x], h => h x (by simp)
  | x :: y :: r, h => Asc.app (Asc.app (h x (by simp)) hs) (Asc.join hs fun t ht => h t (List.mem_cons_of_mem _ ht))
mutual
theorem Nd.asc {n : Nat} : ∀ v : PV, Nd n v → Asc v.d.shown
  | .non, _ => by simp only [PV.d, PyData.shown]; intro c; revert c; decide +kernel
  | .bl b, _ => by simp only [PV.d, PyData.shown]; cases b <;> (intro c; revert c; decide +kernel)
  | .int i, h => by simp only [PV.d, PyData.shown]; exact Asc.int i
  | .str s, h => by
    simp only [Nd] at h
    simp only [PV.d, PyData.shown]
    exact Asc.repr h.asc
  | .tup xs, h => by
    simp only [Nd] at h
    simp only [PV.d, PyData.shown, tupleText]
    refine Asc.app (Asc.app ?_ (Asc.join ?_ (Nds.asc xs h.2))) ?_
    · intro c; revert c; decide +kernel
    · intro c; revert c; decide +kernel
    · split <;> (intro c; revert c; decide +kernel)
  | .lst xs, h => by
    simp only [Nd] at h
    simp only [PV.d, PyData.shown, listText]
    refine Asc.app (Asc.from ?_ (Nds.asc xs h.2)) ?_
    · intro c; revert c; decide +kernel
    · intro c; revert c; decide +kernel
  | .fz _, h => by simp only [Nd] at h
  | .ref _, h => by simp only [Nd] at h
  | .ty _, h => by simp only [Nd] at h
theorem Nds.asc {n : Nat} : ∀ xs : List PV, Nds n xs → ∀ t ∈ PyData.shownAll (PV.ds xs), Asc t
  | [], _, t, ht => by simp [PV.ds, PyData.shownAll] at ht
  | x :: xs, h, t, ht => by
    simp only [Nds] at h
    simp only [PV.ds, PyData.shownAll, List.mem_cons] at ht
    rcases ht with rfl | ht
    · exact Nd.asc x h.1
    · exact Nds.asc xs h.2 t ht
end
theorem shown_tx {d w n : Nat} {v : PV} (h : Gd d w n v) : Tx w v.d.shown := ⟨Nd.asc v h.nd, h.fit.sz⟩
/-! ### written values -/
mutual
def ndB (n : Nat) : PV → Bool
  | .non => true
  | .bl _ => true
  | .int i => decide (i.natAbs.log2 < 1920)
  | .str s => s.cps.toList.all (fun c => decide (c < 256)) && decide (s.length ≤ n)
  | .tup xs => decide (xs.length ≤ n) && ndsB n xs
  | .lst xs => decide (xs.length ≤ n) && ndsB n xs
  | .fz _ => false
  | .ref _ => false
  | .ty _ => false
def ndsB (n : Nat) : List PV → Bool
  | [] => true
  | x :: xs => ndB n x && ndsB n xs
end
mutual
theorem ndB_ok {n : Nat} : ∀ v : PV, ndB n v = true → Nd n v
  | .non, _ => by simp only [Nd]
  | .bl _, _ => by simp only [Nd]
  | .int i, h => by
    simp only [ndB] at h
    simp only [Nd]
    exact of_decide_eq_true h
  | .str s, h => by
    simp only [ndB, Bool.and_eq_true, List.all_eq_true, decide_eq_true_eq] at h
    simp only [Nd]
    exact ⟨h.1, h.2⟩
  | .tup xs, h => by
    simp only [ndB, Bool.and_eq_true, decide_eq_true_eq] at h
    simp only [Nd]
    exact ⟨h.1, ndsB_ok xs h.2⟩
  | .lst xs, h => by
    simp only [ndB, Bool.and_eq_true, decide_eq_true_eq] at h
    simp only [Nd]
    exact ⟨h.1, ndsB_ok xs h.2⟩
  | .fz _, h => by simp [ndB] at h
  | .ref _, h => by simp [ndB] at h
  | .ty _, h => by simp [ndB] at h
theorem ndsB_ok {n : Nat} : ∀ xs : List PV, ndsB n xs = true → Nds n xs
  | [], _ => by simp only [Nds]
  | x :: xs, h => by
    simp only [ndsB, Bool.and_eq_true] at h
    simp only [Nds]
    exact ⟨ndB_ok x h.1, ndsB_ok xs h.2⟩
end
def gdB (d w n : Nat) (v : PV) : Bool := ndB n v && (decide (dep v ≤ d) && decide (wt v ≤ w))
theorem lit {d w n : Nat} {v : PV} (h : gdB d w n v = true) : Gd d w n v := by
  simp only [gdB, Bool.and_eq_true, decide_eq_true_eq] at h
  exact ⟨ndB_ok v h.1, h.2.1, h.2.2⟩
theorem at_0 {a : PV} {xs : List PV} : atI (a :: xs) 0 = some a := by
  rw [atI_in (by omega) (by simp only [List.length_cons]; omega)]
  rfl
theorem at_1 {a b : PV} {xs : List PV} : atI (a :: b :: xs) 1 = some b := by
  rw [atI_in (by omega) (by simp only [List.length_cons]; omega)]
  rfl
theorem at_2 {a b d : PV} {xs : List PV} : atI (a :: b :: d :: xs) 2 = some d := by
  rw [atI_in (by omega) (by simp only [List.length_cons]; omega)]
  rfl
theorem at_3 {a b d e : PV} {xs : List PV} : atI (a :: b :: d :: e :: xs) 3 = some e := by
  rw [atI_in (by omega) (by simp only [List.length_cons]; omega)]
  rfl
theorem drop_at {xs : List PV} {i : Nat} {y : PV} (h : xs[i]? = some y) : xs.drop i = y :: xs.drop (i + 1) := by
  obtain ⟨hi, e⟩ := List.getElem?_eq_some_iff.mp h
  rw [List.drop_eq_getElem_cons hi, e]
theorem take_atV {xs : List PV} {i : Nat} {y : PV} (h : xs[i]? = some y) : xs.take (i + 1) = xs.take i ++ [y] := by
  rw [List.take_add_one, h]
  rfl
/-! ### plans -/
structure Test where
  one : Str
  sign : Str
  two : Str
structure Rd where
  tag : Str
  path : List Str
  tests : List Test
structure Wt where
  place : List Str
  worth : Str
  tests : List Test
structure Base where
  ways : Int
  guard : Bool
  last : Bool
structure Plan where
  base : Base
  names : List Str
  reads : List Rd
  writes : List Wt
def tPV (t : Test) : PV := .tup [.str t.one, .str t.sign, .str t.two]
def rPV (r : Rd) : PV := .tup [.str r.tag, .tup (r.path.map PV.str), .tup (r.tests.map tPV)]
def wPV (w : Wt) : PV := .tup [.tup (w.place.map PV.str), .str w.worth, .tup (w.tests.map tPV)]
def bPV (b : Base) : PV := .tup [.int b.ways, .bl b.guard, .bl b.last]
def pPV (p : Plan) : PV := .tup [bPV p.base, .tup (p.names.map PV.str), .tup (p.reads.map rPV), .tup (p.writes.map wPV)]
structure TestOk (t : Test) : Prop where
  one : Tx 12 t.one
  sign : Tx 12 t.sign
  two : Tx 12 t.two
structure TestsOk (ts : List Test) : Prop where
  len : ts.length ≤ 3
  all : ∀ t ∈ ts, TestOk t
structure RdOk (r : Rd) : Prop where
  tag : Tx 12 r.tag
  plen : r.path.length ≤ 4
  path : ∀ w ∈ r.path, Tx 12 w
  tests : TestsOk r.tests
structure WtOk (w : Wt) : Prop where
  plen : w.place.length ≤ 2
  place : ∀ x ∈ w.place, Tx 12 x
  worth : Tx 12 w.worth
  tests : TestsOk w.tests
structure BaseOk (b : Base) : Prop where
  lo : 1 ≤ b.ways
  hi : b.ways ≤ 2
structure PlanOk (a b d : Nat) (p : Plan) : Prop where
  base : BaseOk p.base
  nlen : p.names.length ≤ a
  names : ∀ w ∈ p.names, Tx 12 w
  rlen : p.reads.length ≤ b
  reads : ∀ r ∈ p.reads, RdOk r
  wlen : p.writes.length ≤ d
  writes : ∀ w ∈ p.writes, WtOk w

def intP (lo hi : Int) : PV → Bool
  | .int i => decide (lo ≤ i ∧ i ≤ hi)
  | _ => false
theorem intP_of {lo hi : Int} {L : List PV} {v : PV} (h : L.all (intP lo hi) = true) (m : v ∈ L) : ∃ i, v = .int i ∧ lo ≤ i ∧ i ≤ hi := by
  have := List.all_eq_true.mp h v m
  unfold intP at this
  split at this
  · exact ⟨_, rfl, of_decide_eq_true this⟩
  · cases this
theorem mem_txP {n : Nat} {L : List PV} {v : PV} (h : L.all (txP n) = true) (m : v ∈ L) : ∃ w, v = .str w ∧ Tx n w := txP_of (List.all_eq_true.mp h v m)
theorem mem_str {ws : List Str} {v : PV} (m : v ∈ ws.map PV.str) : ∃ w ∈ ws, v = .str w := by
  obtain ⟨w, h1, h2⟩ := List.mem_map.mp m
  exact ⟨w, h1, h2.symm⟩
theorem len_map {α : Type} {xs : List α} {f : α → PV} : (xs.map f).length = xs.length := by simp
/-- a place to write at -/
def PlaceP (y : PV) : Prop := ∃ ps : List Str, y = .tup (ps.map PV.str) ∧ ps.length ≤ 2 ∧ ∀ w ∈ ps, Tx 12 w
def baseP : PV → Bool
  | .tup [.int i, .bl _, .bl _] => decide (1 ≤ i ∧ i ≤ 2)
  | _ => false
theorem baseP_of {L : List PV} {v : PV} (h : L.all baseP = true) (m : v ∈ L) : ∃ b, v = bPV b ∧ BaseOk b := by
  have := List.all_eq_true.mp h v m
  unfold baseP at this
  split at this
  · have q := of_decide_eq_true this
    exact ⟨⟨_, _, _⟩, rfl, q.1, q.2⟩
  · cases this
/-! ### values by weight, and one change -/
theorem gd_str {m n : Nat} {s : Str} (h : Tx m s) (hm : m ≤ n) : Gd 0 (4 * m + 2) n (.str s) := ⟨by simp only [Nd]; exact h.mono hm, by simp only [dep]; exact Nat.le_refl _, by simp only [wt]; exact reprText_le h⟩
theorem wts_le {w : Nat} : ∀ {xs : List PV}, (∀ x ∈ xs, wt x ≤ w) → wts xs ≤ xs.length * (w + 2)
  | [], _ => Nat.zero_le _
  | x :: xs, h => by
    have h1 := h x List.mem_cons_self
    have h2 := wts_le fun y hy => h y (List.mem_cons_of_mem _ hy)
    simp only [wts, List.length_cons, Nat.succ_mul]
    omega
theorem gd_tup {d w n m : Nat} {xs : List PV} (h : ∀ x ∈ xs, Gd d w n x) (hl : xs.length ≤ m) (hn : m ≤ n) : Gd (d + 1) (3 + m * (w + 2)) n (.tup xs) := by
  refine ⟨?_, ?_, ?_⟩
  · simp only [Nd]
    exact ⟨by omega, Nds.of fun x hx => (h x hx).nd⟩
  · simp only [dep]
    have := deps_le fun x hx => (h x hx).dp
    omega
  · simp only [wt]
    have h1 := wts_le fun x hx => (h x hx).wt
    have h2 := Nat.mul_le_mul_right (w + 2) hl
    omega
theorem gd_strs {ws : List Str} {m n : Nat} (h : ∀ w ∈ ws, Tx 12 w) (hl : ws.length ≤ m) (h1 : m ≤ n) (h2 : 12 ≤ n) : Gd 1 (3 + m * 52) n (.tup (ws.map PV.str)) := gd_tup (d := 0) (w := 50) (fun x hx => by
  obtain ⟨w, hw, rfl⟩ := List.mem_map.mp hx
  exact gd_str (h w hw) h2) (by simpa using hl) h1
theorem mem3 {P : PV → Prop} {a b c : PV} (h1 : P a) (h2 : P b) (h3 : P c) : ∀ x ∈ [a, b, c], P x := fun x hx => by
  simp only [List.mem_cons, List.not_mem_nil, or_false] at hx
  rcases hx with rfl | rfl | rfl <;> assumption
theorem mem4 {P : PV → Prop} {a b c d : PV} (h1 : P a) (h2 : P b) (h3 : P c) (h4 : P d) : ∀ x ∈ [a, b, c, d], P x := fun x hx => by
  simp only [List.mem_cons, List.not_mem_nil, or_false] at hx
  rcases hx with rfl | rfl | rfl | rfl <;> assumption
theorem gd_test {t : Test} (h : TestOk t) : Gd 1 160 20 (tPV t) := (gd_tup (n := 20) (d := 0) (w := 50) (m := 3) (mem3 (gd_str (n := 20) h.one (by omega)) (gd_str (n := 20) h.sign (by omega)) (gd_str (n := 20) h.two (by omega))) (by simp) (by omega)).up (by omega) (by omega) (by omega)
theorem gd_tests {ts : List Test} (h : TestsOk ts) : Gd 2 500 20 (.tup (ts.map tPV)) := (gd_tup (n := 20) (d := 1) (w := 160) (m := 3) (fun x hx => by
  obtain ⟨t, ht, rfl⟩ := List.mem_map.mp hx
  exact gd_test (h.all t ht)) (by simpa using h.len) (by omega)).up (by omega) (by omega) (by omega)
theorem gd_rd {r : Rd} (h : RdOk r) : Gd 3 2000 20 (rPV r) := (gd_tup (n := 20) (d := 2) (w := 500) (m := 3) (mem3 ((gd_str (n := 20) h.tag (by omega)).up (by omega) (by omega) (by omega)) ((gd_strs h.path h.plen (n := 20) (by omega) (by omega)).up (by omega) (by omega) (by omega)) ((gd_tests h.tests).up (by omega) (by omega) (by omega))) (by simp) (by omega)).up (by omega) (by omega) (by omega)
theorem gd_wt {r : Wt} (h : WtOk r) : Gd 3 2000 20 (wPV r) := (gd_tup (n := 20) (d := 2) (w := 500) (m := 3) (mem3 ((gd_strs h.place h.plen (n := 20) (by omega) (by omega)).up (by omega) (by omega) (by omega)) ((gd_str (n := 20) h.worth (by omega)).up (by omega) (by omega) (by omega)) ((gd_tests h.tests).up (by omega) (by omega) (by omega))) (by simp) (by omega)).up (by omega) (by omega) (by omega)
theorem gd_base {b : Base} (h : BaseOk b) : Gd 1 100 20 (bPV b) := by
  obtain ⟨w, g, l⟩ := b
  have h1 : w = 1 ∨ w = 2 := by
    have a : 1 ≤ w := h.lo
    have b : w ≤ 2 := h.hi
    omega
  rcases h1 with rfl | rfl <;> cases g <;> cases l <;> exact lit (by decide +kernel)
theorem gd_plan {p : Plan} (h : PlanOk 2 20 40 p) : Gd 5 330000 40 (pPV p) := (gd_tup (n := 40) (d := 4) (w := 82000) (m := 4) (mem4 ((gd_base h.base).up (by omega) (by omega) (by omega)) ((gd_strs h.names h.nlen (n := 40) (by omega) (by omega)).up (by omega) (by omega) (by omega))
  ((gd_tup (n := 40) (d := 3) (w := 2000) (m := 20) (fun x hx => by
    obtain ⟨t, ht, rfl⟩ := List.mem_map.mp hx
    exact (gd_rd (h.reads t ht)).up (by omega) (by omega) (by omega)) (by simpa using h.rlen) (by omega)).up (by omega) (by omega) (by omega))
  ((gd_tup (n := 40) (d := 3) (w := 2000) (m := 40) (fun x hx => by
    obtain ⟨t, ht, rfl⟩ := List.mem_map.mp hx
    exact (gd_wt (h.writes t ht)).up (by omega) (by omega) (by omega)) (by simpa using h.wlen) (by omega)).up (by omega) (by omega) (by omega))) (by simp) (by omega)).up (by omega) (by omega) (by omega)
/-- some other value -/
abbrev Od (v : PV) : Prop := Gd 3 200 16 v
structure Bt (n : Nat) (v v' : PV) : Prop where
  nd : Nd (3 * n + 1) v'
  dp : dep v' ≤ dep v + 3
  wt : Ev.wt v' ≤ 3 * Ev.wt v + 600
theorem Bt.odd {n : Nat} {v o : PV} (hn : 16 ≤ n) (h : Od o) : Bt n v o := ⟨Nd.mono (by omega) _ h.nd, by have := h.dp; omega, by have := h.wt; omega⟩
theorem Bt.tup {n : Nat} {xs ys : List PV} (hn : 16 ≤ n) (hx : Nd n (.tup xs)) (hl : ys.length ≤ 3 * xs.length + 1) (hm : ∀ y ∈ ys, y ∈ xs ∨ Od y) (hw : wts ys ≤ 3 * wts xs + 300) : Bt n (.tup xs) (.tup ys) := by
  simp only [Nd] at hx
  refine ⟨?_, ?_, ?_⟩
  · simp only [Nd]
    refine ⟨by omega, Nds.of fun y hy => ?_⟩
    rcases hm y hy with h | h
    · exact Nd.mono (by omega) _ (hx.2.mem y h)
    · exact Nd.mono (by omega) _ h.nd
  · simp only [dep]
    have : deps ys ≤ deps xs + 3 := deps_le fun y hy => by
      rcases hm y hy with h | h
      · have := deps_mem h
        omega
      · have := h.dp
        omega
    omega
  · simp only [Ev.wt]
    omega
theorem Bt.lst {n : Nat} {xs : List PV} (hx : Nd n (.tup xs)) : Bt n (.tup xs) (.lst xs) := by
  refine ⟨?_, by simp only [dep]; omega, by simp only [Ev.wt]; omega⟩
  simp only [Nd] at hx ⊢
  exact ⟨by omega, Nds.mono (by omega) _ hx.2⟩
theorem Bt.put {n m : Nat} {xs : List PV} {x b : PV} (hx : Nd n (.tup xs)) (hm : xs[m]? = some x) (hb : Bt n x b) : Bt n (.tup xs) (.tup (xs.take m ++ [b] ++ xs.drop (m + 1))) := by
  simp only [Nd] at hx
  have hd := drop_at hm
  have hlt := (List.getElem?_eq_some_iff.mp hm).1
  have mx := List.mem_of_getElem? hm
  refine ⟨?_, ?_, ?_⟩
  · simp only [Nd]
    refine ⟨by simp only [List.length_append, List.length_take, List.length_drop, List.length_cons, List.length_nil]; omega, Nds.of fun y hy => ?_⟩
    simp only [List.mem_append, List.mem_cons, List.not_mem_nil, or_false] at hy
    rcases hy with (h | rfl) | h
    · exact Nd.mono (by omega) _ (hx.2.mem y (List.mem_of_mem_take h))
    · exact hb.nd
    · exact Nd.mono (by omega) _ (hx.2.mem y (List.mem_of_mem_drop h))
  · simp only [dep]
    have : deps (xs.take m ++ [b] ++ xs.drop (m + 1)) ≤ deps xs + 3 := deps_le fun y hy => by
      simp only [List.mem_append, List.mem_cons, List.not_mem_nil, or_false] at hy
      rcases hy with (h | rfl) | h
      · have := deps_mem (List.mem_of_mem_take h)
        omega
      · have := hb.dp
        have := deps_mem mx
        omega
      · have := deps_mem (List.mem_of_mem_drop h)
        omega
    omega
  · have e : wts xs = wts (xs.take m) + (Ev.wt x + 2 + wts (xs.drop (m + 1))) := by
      conv => lhs; rw [← List.take_append_drop m xs, wts_app, hd]
      simp only [wts]
    have := hb.wt
    have := wts_mem mx
    simp only [Ev.wt, wts_app, wts]
    omega
theorem cut_mem {xs : List PV} {lo hi : Option Int} {y : PV} (h : y ∈ cut xs lo hi) : y ∈ xs := List.mem_of_mem_drop (List.mem_of_mem_take h)
theorem cut_len (xs : List PV) (lo hi : Option Int) : (cut xs lo hi).length ≤ xs.length := by
  unfold cut
  rw [List.length_take, List.length_drop]
  omega
theorem cut_wts (xs : List PV) (lo hi : Option Int) : wts (cut xs lo hi) ≤ wts xs := Nat.le_trans (wts_take _ _) (wts_drop _ _)
theorem cutS_tx {n : Nat} {s : Str} (h : Tx n s) (lo hi : Option Int) : Tx n (L2.cutS s lo hi) := by
  refine ⟨fun c hc => ?_, Nat.le_trans (L2.cutS_length s lo hi) h.len⟩
  unfold L2.cutS at hc
  simp only at hc
  exact h.asc c (List.mem_of_mem_drop (List.mem_of_mem_take hc))
theorem slc_str {n : Nat} {s : Str} (h : Tx n s) (hn : n ≤ 1000) {lo hi : Option Int} : slcV (.str s) lo hi = some (.val (.str (L2.cutS s lo hi))) := by
  show ck _ _ = _
  unfold ck
  have := h.len
  rw [if_pos (by show _ ≤ 16777216; omega)]
theorem Bt.str {n : Nat} {s w : Str} {l1 h1 l2 h2 : Option Int} (hn : n ≤ 62) (h : Tx n s) (hw : Tx 1 w) : Bt n (.str s) (.str (L2.cutS s l1 h1 ++ w ++ L2.cutS s l2 h2)) := by
  have t : Tx (s.length + 1 + s.length) (L2.cutS s l1 h1 ++ w ++ L2.cutS s l2 h2) := ((cutS_tx ⟨h.asc, Nat.le_refl _⟩ l1 h1).app hw).app (cutS_tx ⟨h.asc, Nat.le_refl _⟩ l2 h2)
  have hl := h.len
  refine ⟨?_, by simp only [dep]; omega, ?_⟩
  · simp only [Nd]
    exact t.mono (by omega)
  · have h1 := reprText_le t
    simp only [Ev.wt]
    omega
theorem cut_t {xs : List PV} {m : Nat} : cut xs none (some (m : Int)) = xs.take m := by
  rw [cut_to (by omega), Int.toNat_natCast]
theorem cut_s {xs : List PV} {m : Nat} : cut xs (some ((m : Int) + 1)) none = xs.drop (m + 1) := cut_from (n := m + 1)
theorem int_pv (b : Bool) : Od (.int (if b = true then 1 else 0)) := by cases b <;> exact lit (by decide +kernel)
theorem bl_pv (b : Bool) : Od (.bl (!b)) := by cases b <;> exact lit (by decide +kernel)
/-- a number taken out of a row of numbers -/
theorem pop_ints {xs : List Int} {v : Int} (h0 : 0 ≤ v) (h1 : v < xs.length) (hl : xs.length ≤ 1000) : ∃ x ys, popAt (xs.map PV.int) (some v) = some (.int x, ys.map PV.int) ∧ (x :: ys).Perm xs := by
  obtain ⟨n, rfl⟩ := Int.eq_ofNat_of_zero_le h0
  have hn : n < xs.length := by omega
  refine ⟨xs[n], xs.eraseIdx n, ?_, ?_⟩
  · unfold popAt
    simp only
    rw [if_pos (by rw [rgOk_eq]; omega)]
    unfold ixN
    rw [List.length_map, if_pos (by omega), if_pos (by omega)]
    show (((xs.map PV.int)[((n : Int)).toNat]?).map fun y => (y, (xs.map PV.int).eraseIdx ((n : Int)).toNat)) = _
    rw [Int.toNat_natCast, List.getElem?_map, List.getElem?_eq_getElem hn]
    show some (PV.int xs[n], (xs.map PV.int).eraseIdx n) = _
    rw [List.eraseIdx_eq_take_drop_succ, List.eraseIdx_eq_take_drop_succ, List.map_append, List.map_take, List.map_drop]
  · rw [List.eraseIdx_eq_take_drop_succ]
    have e : xs = xs.take n ++ xs[n] :: xs.drop (n + 1) := by
      rw [List.getElem_cons_drop, List.take_append_drop]
    conv => rhs; rw [e]
    exact List.perm_middle.symm
theorem rg_ints (n : Int) : rgItems 0 n = ((List.range n.toNat).map fun k : Nat => (k : Int)).map PV.int := by
  unfold rgItems
  rw [List.map_map, Int.sub_zero]
  refine List.map_congr_left fun k _ => ?_
  show PV.int (0 + (k : Int)) = PV.int (k : Int)
  rw [Int.zero_add]
end Pl
/-! # Ev, part 22: calls that raise what is known; a handler's queries; rows of numbers in order. -/
namespace Pl
open PySem Ev
section
variable {W : EX → G → Prop}
/-- a call that raises what is known -/
theorem call_qx {D : List En} {k i : Nat} {as bs : List PV} {sl : List Slot} {hp hp' : List Cell} {x : EX} {Q : Res → G → Prop} (h : GivesX (calls D k i as bs hp) (fun _ _ => False) fun y h' => y = x ∧ h' = hp') : Ok W (callC (calls D k) i as bs ⟨sl, hp⟩) Q = W x ⟨sl, hp'⟩ := by
  rcases h.ex with ⟨_, _, _, h⟩ | ⟨y, h', e, rfl, rfl⟩
  · exact h.elim
  · unfold callC
    simp only [e]
    rfl
theorem hot_b {h : HX} {x : EX} {i : Nat} {b : Bool} {sl : List Slot} {hp : List Cell} {Q : Res → G → Prop} (e : (h.ans[x.cls]?).bind (·[i]?) = some (.b b)) : Ok W (callC (hotC h x) i [] [] ⟨sl, hp⟩) Q = Q (.val (.bl b)) ⟨sl, hp⟩ := by
  unfold callC hotC
  simp only [e]
  rfl
theorem hot_a {h : HX} {x : EX} {i j : Nat} {v : PV} {sl : List Slot} {hp : List Cell} {Q : Res → G → Prop} (e : (h.ans[x.cls]?).bind (·[i]?) = some (.a j)) (e2 : x.args[j]? = some v) (p : v.pure = true) : Ok W (callC (hotC h x) i [] [] ⟨sl, hp⟩) Q = Q (.val v) ⟨sl, hp⟩ := by
  unfold callC hotC
  simp only [e, e2, Option.bind_some, p, if_true]
  rfl
theorem lc_filtX {α : Type} {own : List Nat} {bd : Res → M Unit} {ts : M Bool} {el : M Res} {sl : List Slot} {hp : List Cell} {Q : List PV → G → Prop} {items : List PV} (as : List α) (f h : α → PV) (p : α → Bool) (hx : items = as.map f) (hl : as.length ≤ 16777216)
    (step : ∀ a ∈ as, Ok W (bd (.val (f a)) ⟨sl, hp⟩) fun _ g1 => Ok W (ts g1) fun b g2 => b = p a ∧ if b = true then Ok W (el g2) fun y g3 => y.pv = h a ∧ wipe g3.sl own = sl ∧ g3.hp = hp else wipe g2.sl own = sl ∧ g2.hp = hp) (fin : Q ((as.filter p).map h) ⟨sl, hp⟩) : Ok W (lcGo own bd ts el items [] ⟨sl, hp⟩) Q := by
  subst hx
  exact lc_filt p as [] (by simpa using hl) step (by simpa using fin)
end
theorem ints_pure : ∀ ns : List Int, PV.pures (ns.map PV.int) = true
  | [] => rfl
  | n :: ns => by rw [List.map_cons, PV.pures, ints_pure ns]; rfl
theorem ints_can : ∀ ns : List Int, PyData.canLayAll0 (PV.ds (ns.map PV.int)) = true
  | [] => by simp [PV.ds, PyData.canLayAll0]
  | n :: ns => by simp only [List.map_cons, PV.ds, PV.d, PyData.canLayAll0, PyData.canLay0, ints_can ns, Bool.and_self]
theorem ints_deps : ∀ ns : List Int, deps (ns.map PV.int) = 0
  | [] => rfl
  | n :: ns => by simp only [List.map_cons, deps, dep, ints_deps ns, Nat.max_self]
theorem ints_shaped (ns : List Int) : SeqAt.shaped (PV.lst (ns.map PV.int)).d = true := by
  unfold SeqAt.shaped
  simp only [PV.d, PyData.canLay0, PyData.depth, ints_can, deps_d, ints_deps, Bool.true_and, decide_eq_true_eq]
  omega
theorem eqv_ints : ∀ as bs : List Int, PyData.eqvAll (PV.ds (as.map PV.int)) (PV.ds (bs.map PV.int)) = decide (as = bs)
  | [], [] => by simp [PV.ds, PyData.eqvAll]
  | [], b :: bs => by simp [PV.ds, PyData.eqvAll]
  | a :: as, [] => by simp [PV.ds, PyData.eqvAll]
  | a :: as, b :: bs => by
    simp only [List.map_cons, PV.ds, PV.d, PyData.eqvAll, eqv_ints as bs, PyData.eqv]
    by_cases h : a = b
    · subst h
      simp
    · simp [h]
theorem eq_intsL (as bs : List Int) : eqV (.lst (as.map PV.int)) (.lst (bs.map PV.int)) = some (decide (as = bs)) := by
  show ck _ _ = _
  unfold ck
  rw [if_pos ⟨by simp only [PV.pure, ints_pure], by simp only [PV.pure, ints_pure], ints_shaped as, ints_shaped bs⟩]
  simp only [PV.d, PyData.eqv, eqv_ints]
theorem insI_perm (x : Int) : ∀ xs : List Int, (insI x xs).Perm (x :: xs)
  | [] => .refl _
  | y :: r => by
    unfold insI
    split
    · exact .refl _
    · exact ((insI_perm x r).cons y).trans (.swap x y r)
theorem sortI_perm : ∀ xs : List Int, (sortI xs).Perm xs
  | [] => .refl _
  | x :: r => by
    unfold sortI
    exact (insI_perm x _).trans ((sortI_perm r).cons x)
theorem insI_le (x : Int) : ∀ {xs : List Int}, xs.Pairwise (· ≤ ·) → (insI x xs).Pairwise (· ≤ ·)
  | [], _ => List.pairwise_singleton ..
  | y :: r, h => by
    rw [List.pairwise_cons] at h
    unfold insI
    split
    · rename_i q
      refine List.pairwise_cons.mpr ⟨fun z hz => ?_, List.pairwise_cons.mpr h⟩
      rcases List.mem_cons.mp hz with rfl | hz
      · exact q
      · exact Int.le_trans q (h.1 z hz)
    · refine List.pairwise_cons.mpr ⟨fun z hz => ?_, insI_le x h.2⟩
      rcases List.mem_cons.mp ((insI_perm x r).mem_iff.mp hz) with rfl | hz
      · omega
      · exact h.1 z hz
theorem sortI_le : ∀ xs : List Int, (sortI xs).Pairwise (· ≤ ·)
  | [] => .nil
  | x :: r => by
    unfold sortI
    exact insI_le x (sortI_le r)
theorem sortI_lt {xs : List Int} (h : xs.Nodup) : (sortI xs).Pairwise (· < ·) := by
  have h1 : (sortI xs).Nodup := (sortI_perm xs).symm.nodup h
  exact (List.pairwise_and_iff.mpr ⟨sortI_le xs, h1⟩).imp fun {a b} h => by omega
theorem getD_at {α : Type} {xs : List α} {i : Nat} {d : α} (h : i < xs.length) : xs.getD i d = xs[i] := by simp [List.getD, h]
/-! ### orders -/
/-- 0 .. n - 1 -/
def upN (n : Nat) : List Int := (List.range n).map fun k : Nat => (k : Int)
theorem mem_upN {n : Nat} {i : Int} : i ∈ upN n ↔ 0 ≤ i ∧ i < n := by
  unfold upN
  rw [List.mem_map]
  constructor
  · rintro ⟨k, hk, rfl⟩
    rw [List.mem_range] at hk
    omega
  · rintro ⟨h1, h2⟩
    exact ⟨i.toNat, List.mem_range.mpr (by omega), by omega⟩
theorem upN_len (n : Nat) : (upN n).length = n := by simp [upN]
theorem upN_nodup (n : Nat) : (upN n).Nodup := List.Pairwise.map _ (fun a b h e => h (Int.ofNat_inj.mp e)) List.nodup_range
theorem upN_lt (n : Nat) : (upN n).Pairwise (· < ·) := List.pairwise_map.mpr (List.pairwise_lt_range.imp fun {i j} h => by omega)
theorem rg_upN (n : Nat) : rgItems 0 (n : Int) = (upN n).map PV.int := by
  rw [rg_ints]
  simp [upN]
/-- a sorted row of the same numbers is the same -/
theorem lt_ext {xs ys : List Int} (hx : xs.Pairwise (· < ·)) (hy : ys.Pairwise (· < ·)) (h : xs.Perm ys) : xs = ys := List.Perm.eq_of_pairwise (le := (· < ·)) (fun a b _ _ h1 h2 => by omega) hx hy h
theorem sort_perm {n : Nat} {xs : List Int} : sortI xs = upN n ↔ xs.Perm (upN n) := by
  constructor
  · intro h
    rw [← h]
    exact (sortI_perm xs).symm
  · intro h
    exact lt_ext (sortI_lt (h.symm.nodup (upN_nodup n))) (upN_lt n) ((sortI_perm xs).trans h)
def intsV : PV → List Int
  | .tup xs => (nts xs).getD []
  | _ => []
/-- an order of so many -/
def isOrd (n : Nat) : PV → Bool
  | .tup xs => xs.all isNum && decide (sortI ((nts xs).getD []) = upN n)
  | _ => false
theorem nums_ints : ∀ {xs : List PV}, xs.all isNum = true → ∃ ns : List Int, xs = ns.map PV.int ∧ ∀ n ∈ ns, 0 ≤ n
  | [], _ => ⟨[], rfl, nofun⟩
  | x :: xs, h => by
    rw [List.all_cons, Bool.and_eq_true] at h
    obtain ⟨ns, rfl, hn⟩ := nums_ints h.2
    cases x with
    | int i =>
      have h1 := of_decide_eq_true (show decide (0 ≤ i) = true from h.1)
      exact ⟨i :: ns, rfl, fun n hm => by
        rcases List.mem_cons.mp hm with rfl | hm
        · exact h1
        · exact hn n hm⟩
    | _ => simp [isNum] at h
theorem isOrd_of {n : Nat} {v : PV} (h : isOrd n v = true) : ∃ ns : List Int, v = .tup (ns.map PV.int) ∧ ns.Perm (upN n) ∧ intsV v = ns := by
  cases v with
  | tup xs =>
    simp only [isOrd, Bool.and_eq_true, decide_eq_true_eq] at h
    obtain ⟨ns, rfl, _⟩ := nums_ints h.1
    rw [nts_map] at h
    exact ⟨ns, rfl, sort_perm.mp h.2, by simp only [intsV, nts_map, Option.getD_some]⟩
  | _ => simp [isOrd] at h
theorem isOrd_ints {n : Nat} {ns : List Int} (h : ns.Perm (upN n)) : isOrd n (.tup (ns.map PV.int)) = true := by
  simp only [isOrd, nts_map, Option.getD_some, Bool.and_eq_true, decide_eq_true_eq]
  refine ⟨?_, sort_perm.mpr h⟩
  rw [List.all_eq_true]
  intro x hx
  obtain ⟨i, hi, rfl⟩ := List.mem_map.mp hx
  exact decide_eq_true (mem_upN.mp (h.mem_iff.mp hi)).1
/-! ### writes in an order -/
def wt0 : Wt := ⟨[], "", []⟩
def turnW (w : List Wt) (ns : List Int) : List Wt := ns.map fun i => w.getD i.toNat wt0
def turn (p : Plan) (ns : List Int) : Plan := { p with writes := turnW p.writes ns }
theorem turnW_len {w : List Wt} {ns : List Int} (h : ns.Perm (upN w.length)) : (turnW w ns).length = w.length := by
  rw [turnW, List.length_map, h.length_eq, upN_len]
theorem turn_ok {a b d : Nat} {p : Plan} {ns : List Int} (h : PlanOk a b d p) (hn : ns.Perm (upN p.writes.length)) : PlanOk a b d (turn p ns) := by
  refine ⟨h.base, h.nlen, h.names, h.rlen, h.reads, ?_, fun w hw => ?_⟩
  · show (turnW p.writes ns).length ≤ d
    rw [turnW_len hn]
    exact h.wlen
  · obtain ⟨i, hi, rfl⟩ := List.mem_map.mp (show w ∈ turnW p.writes ns from hw)
    have hb := mem_upN.mp (hn.mem_iff.mp hi)
    have hl : i.toNat < p.writes.length := by omega
    rw [getD_at hl]
    exact h.writes _ (List.getElem_mem hl)
/-- two orders, one behind the other -/
theorem turnW_two {w : List Wt} {one two : List Int} (h2 : two.Perm (upN w.length)) (h1 : one.Perm (upN w.length)) : turnW (turnW w one) two = turnW w (two.map fun i => one.getD i.toNat 0) := by
  unfold turnW
  rw [List.map_map]
  refine List.map_congr_left fun i hi => ?_
  have hb := mem_upN.mp (h2.mem_iff.mp hi)
  have hl : i.toNat < one.length := by rw [h1.length_eq, upN_len]; omega
  rw [Function.comp, getD_at (by rw [List.length_map]; exact hl), List.getElem_map, getD_at hl]
theorem comp_perm {n : Nat} {one two : List Int} (h2 : two.Perm (upN n)) (h1 : one.Perm (upN n)) : (two.map fun i => one.getD i.toNat 0).Perm (upN n) := by
  refine (h2.map _).trans ?_
  have : (upN n).map (fun i => one.getD i.toNat 0) = one := by
    refine List.ext_getElem (by rw [List.length_map, upN_len, h1.length_eq, upN_len]) fun i a b => ?_
    rw [List.getElem_map]
    have : (upN n)[i]'(by simpa using a) = (i : Int) := by simp [upN]
    rw [this, Int.toNat_natCast, getD_at b]
  rw [this]
  exact h1
/-- the order that takes one back -/
theorem back_turn {w : List Wt} {ns : List Int} (h : ns.Perm (upN w.length)) : turnW (turnW w ns) ((upN w.length).map fun i => (ns.idxOf i : Int)) = w := by
  refine List.ext_getElem (by rw [turnW, List.length_map, List.length_map, upN_len]) fun i a b => ?_
  have hu : (upN w.length)[i]'(by rw [upN_len]; exact b) = (i : Int) := by simp [upN]
  have hm : (i : Int) ∈ ns := h.mem_iff.mpr (mem_upN.mpr ⟨by omega, by omega⟩)
  have hl : ns.idxOf (i : Int) < ns.length := List.idxOf_lt_length_of_mem hm
  have hg : ns[ns.idxOf (i : Int)] = (i : Int) := List.getElem_idxOf hl
  simp only [turnW, List.getElem_map]
  rw [hu, Int.toNat_natCast, getD_at (by rw [List.length_map]; exact hl), List.getElem_map, hg, Int.toNat_natCast, getD_at b]
theorem back_perm {n : Nat} {ns : List Int} (h : ns.Perm (upN n)) : ((upN n).map fun i => (ns.idxOf i : Int)).Perm (upN n) := by
  have hl : ns.length = n := by rw [h.length_eq, upN_len]
  have nd := h.symm.nodup (upN_nodup n)
  refine ((h.map _).symm).trans ?_
  have : ns.map (fun i => (ns.idxOf i : Int)) = upN n := by
    refine List.ext_getElem (by rw [List.length_map, upN_len, hl]) fun i a b => ?_
    have hi : i < ns.length := by simpa using a
    have : (upN n)[i]'b = (i : Int) := by simp [upN]
    rw [List.getElem_map, this, nd.idxOf_getElem i hi]
  rw [this]
theorem idx_ints {i : Int} : ∀ {ns : List Int}, i ∈ ns → idxOf (.int i) (ns.map PV.int) = some (ns.idxOf i)
  | [], h => by cases h
  | n :: ns, h => by
    unfold Ev.idxOf
    have e : eqF (.int n) (.int i) = (n == i) := rfl
    rw [List.map_cons] at *
    simp only [e, List.idxOf_cons]
    by_cases c : n = i
    · subst c
      simp
    · rw [if_neg (by simpa using c), idx_ints ((List.mem_cons.mp h).resolve_left fun q => c q.symm)]
      rw [show (n == i) = false by simpa using c]
      rfl
end Pl
local macro_rules | `(tactic| simp +singlePass only [$xs,*]) => `(tactic| simp only [$xs,*, ↓Ev.q_ok, ↓Ev.q_some, ↓Ev.q_cst, ↓Ev.q_var, ↓Ev.q_tup, ↓Ev.q_lst, ↓Ev.q_bin, ↓Ev.q_cmp, ↓Ev.q_neg, ↓Ev.q_nt, ↓Ev.q_chn, ↓Ev.q_an, ↓Ev.q_orr, ↓Ev.q_ite, ↓Ev.q_idx, ↓Ev.q_slc, ↓Ev.q_rev, ↓Ev.q_call, ↓Ev.q_bi, ↓Ev.q_join, ↓Ev.q_app, ↓Ev.q_ext, ↓Ev.q_lc, ↓Ev.q_fs, ↓Ev.q_dct, ↓Ev.q_tyn, ↓Ev.q_pop, ↓Ev.q_mt, ↓Ev.q_itl, ↓Ev.q_lrg, ↓Ev.q_lset, ↓Ev.q_dnew, ↓Ev.q_lc2, ↓Ev.q_dcn, ↓Ev.q_evs2, ↓Ev.q_evsR0, ↓Ev.q_evsR1, ↓Ev.q_enu, ↓Ev.q_zip, ↓Ev.q_otyn, ↓Ev.q_rtyn, ↓Ev.q_ochn, ↓Ev.q_tpop, ↓Ev.q_opop, ↓Ev.q_rpop, ↓Ev.q_tmt, ↓Ev.q_omt, ↓Ev.q_rmt, ↓Ev.q_oitl, ↓Ev.q_ritl, ↓Ev.q_olrg, ↓Ev.q_rlrg, ↓Ev.q_tlset, ↓Ev.q_olset, ↓Ev.q_rlset, ↓Ev.q_olc2, ↓Ev.q_rlc2, ↓Ev.q_odcn, ↓Ev.q_rdcn, ↓Ev.q_said, ↓Ev.q_hx, ↓Ev.q_osaid, ↓Ev.q_ohx, ↓Ev.q_thx, ↓Ev.q_rsaid, ↓Ev.q_rs, ↓Ev.q_glb, ↓Ev.q_oglb, ↓Ev.q_lnew, ↓Ev.q_lnewn, ↓Ev.q_lapp, ↓Ev.q_lsAt, ↓Ev.q_lappV, ↓Ev.q_lset2, ↓Ev.q_olset2, ↓Ev.q_odnew, ↓Ev.q_rdnew, ↓Ev.q_evs0, ↓Ev.q_evs1, ↓Ev.q_opds0, ↓Ev.q_opds1, ↓Ev.q_no, ↓Ev.q_so, ↓Ev.q_it, ↓Ev.q_rg1, ↓Ev.q_rg2, ↓Ev.q_tno, ↓Ev.q_tso, ↓Ev.q_evf0, ↓Ev.q_evf1, ↓Ev.q_tnt, ↓Ev.q_tan, ↓Ev.q_tor, ↓Ev.q_tite, ↓Ev.q_tvar, ↓Ev.q_tcst, ↓Ev.q_tchn, ↓Ev.q_tcmp, ↓Ev.q_tidx, ↓Ev.q_tcall, ↓Ev.q_tbi, ↓Ev.q_tslc, ↓Ev.q_ovar, ↓Ev.q_ocst, ↓Ev.q_otup, ↓Ev.q_olst, ↓Ev.q_obin, ↓Ev.q_ocmp, ↓Ev.q_oneg, ↓Ev.q_ont, ↓Ev.q_oan, ↓Ev.q_oorr, ↓Ev.q_oite, ↓Ev.q_oidx, ↓Ev.q_oslc, ↓Ev.q_orev, ↓Ev.q_ocall, ↓Ev.q_obi, ↓Ev.q_ojoin, ↓Ev.q_olc, ↓Ev.q_ofs, ↓Ev.q_odct, ↓Ev.q_lookv, ↓Ev.q_looks, ↓Ev.q_peek, ↓Ev.q_look0, ↓Ev.q_look1, ↓Ev.q_set, ↓Ev.q_bnm, ↓Ev.q_btp, ↓Ev.q_sets0, ↓Ev.q_sets1, ↓Ev.q_par0, ↓Ev.q_par1, ↓Ev.q_own, ↓Ev.q_appV, ↓Ev.q_extn, ↓Ev.q_extl, ↓Ev.q_ixr, ↓Ev.q_ixt, ↓Ev.q_ixl, ↓Ev.q_ixs, ↓Ev.q_putG, ↓Ev.q_popV, ↓Ev.q_add_int, ↓Ev.q_add_str, ↓Ev.q_add_lst, ↓Ev.q_add_tup, ↓Ev.q_sub_int, ↓Ev.q_mul_int, ↓Ev.q_mul_lst, ↓Ev.q_fdiv_int, ↓Ev.q_mod_int, ↓Ev.q_pow_int, ↓Ev.q_bisi, ↓Ev.q_ball, ↓Ev.q_bany, ↓Ev.q_bsrtl, ↓Ev.q_bsrtt, ↓Ev.q_bsum, ↓Ev.q_mtget1, ↓Ev.q_mtidxt, ↓Ev.q_mtidxl, ↓Ev.q_itlr, ↓Ev.q_lsetV, ↓Ev.q_bint, ↓Ev.q_bintb, ↓Ev.q_blenl, ↓Ev.q_blent, ↓Ev.q_blens, ↓Ev.q_bstri, ↓Ev.q_bstrs, ↓Ev.q_blistl, ↓Ev.q_blistt, ↓Ev.q_btupl, ↓Ev.q_btupt, ↓Ev.q_bmin, ↓Ev.q_bmax, ↓Ev.q_fmts, ↓Ev.q_fmti, ↓Ev.q_asg, ↓Ev.q_parS, ↓Ev.q_put, ↓Ev.q_star, ↓Ev.q_starV, ↓Ev.q_ex, ↓Ev.q_iff, ↓Ev.q_for, ↓Ev.q_retV, ↓Ev.q_rcst, ↓Ev.q_rtup, ↓Ev.q_rlst, ↓Ev.q_rbin, ↓Ev.q_rchn, ↓Ev.q_rcmp, ↓Ev.q_rneg, ↓Ev.q_rnt, ↓Ev.q_ran, ↓Ev.q_rorr, ↓Ev.q_rite, ↓Ev.q_ridx, ↓Ev.q_rslc, ↓Ev.q_rrev, ↓Ev.q_rcall, ↓Ev.q_rbi, ↓Ev.q_rjoin, ↓Ev.q_rlc, ↓Ev.q_rfs, ↓Ev.q_rdct, ↓Ev.q_retN, ↓Ev.q_pas, ↓Ev.q_brk, ↓Ev.q_cnt, ↓Ev.q_exs0, ↓Ev.q_exs1, Ev.q_add_int, Ev.q_add_str, Ev.q_add_lst, Ev.q_add_tup, Ev.q_sub_int, Ev.q_mul_int, Ev.q_mul_lst, Ev.q_fdiv_int, Ev.q_mod_int, Ev.q_pow_int, Ev.q_bisi, Ev.q_ball, Ev.q_bany, Ev.q_bsrtl, Ev.q_bsrtt, Ev.q_bsum, Ev.q_mtget1, Ev.q_mtidxt, Ev.q_mtidxl, Ev.q_itlr, Ev.q_lsetV, Ev.q_bint, Ev.q_bintb, Ev.q_blenl, Ev.q_blent, Ev.q_blens, Ev.q_bstri, Ev.q_bstrs, Ev.q_blistl, Ev.q_blistt, Ev.q_btupl, Ev.q_btupt, Ev.q_bmin, Ev.q_bmax, Ev.q_fmts, Ev.q_fmti, Ev.backG_mk, Ev.pushG_mk, Ev.wipe_nil, Ev.wipe_cons, Ev.back_nil, Ev.back_cons, Ev.noOwn_nil, Ev.slots_nm, Ev.slots_tp, Ev.pv_val, Ev.pv_new, Ev.slot_val, Ev.slot_new, Ev.asStr_str, Ev.asInt_int, Ev.truV_bl, Ev.truV_int, Ev.cmpG_eq, Ev.cmpG_ne, Ev.cmpG_lt, Ev.cmpG_le, Ev.cmpG_gt, Ev.cmpG_ge, Ev.cmpG_isN, Ev.cmpG_notN, Ev.cmpG_int, Ev.cmpG_inl, Ev.cmpG_nint, Ev.cmpG_ninl, Ev.getC_s, Ev.getC_i, Ev.getC_t, Ev.putC_s, Ev.putC_i, Ev.putC_t, Ev.mtOk_it, Ev.mtOk_il, Ev.mtOk_g, Ev.isD_dk, Ev.isD_dn, Ev.isi_bl, Ev.isi_int, Ev.isi_str, Ev.isi_tup, Ev.isi_lst, Ev.isi_non, Ev.zipV_l, Ev.zipV_t, Ev.cmpV_eq, Ev.cmpV_ne, Ev.cmpV_lt, Ev.cmpV_le, Ev.cmpV_gt, Ev.cmpV_ge, Ev.eqV_int, Ev.eqV_str, Ev.eqV_is, Ev.eqV_si, Ev.eqV_bl, Ev.items_l, Ev.items_t, Ev.items_f, Ev.itemsI_l, Ev.itemsI_t, Ev.itemsI_f, Ev.itemsI_s, Ev.tupsOf_t, Ev.slcV_lst, Ev.slcV_tup, Ev.slcV_fz, Ev.revV_tup, Ev.revV_lst, Ev.idxV_lst, Ev.idxV_tup, Ev.noOwn_cons, Ev.at0, Ev.at1, Ev.at2, Ev.at3, Ev.Nxt_nx, Ev.Nxt_ret, Ev.Nxt_brk, Ev.Nxt_cnt, Ev.Turn_nx, Ev.Turn_cnt, Ev.Turn_brk, Ev.Turn_ret, Ev.Fin'_ret, Ev.Fin'_nx, List.getElem?_cons_zero, List.getElem?_cons_succ, List.set_cons_zero, List.set_cons_succ, List.getD_cons_zero, List.getD_cons_succ, List.length_cons, List.length_nil, List.map_cons, List.map_nil, List.cons_append, List.nil_append, List.replicate_succ, List.replicate_zero, Option.map_some, Option.some.injEq, Bool.not_true, Bool.not_false, Bool.and_self, Bool.and_true, Bool.true_and, Bool.false_eq_true, Bool.true_eq_false, if_true, if_false, ite_true, ite_false, reduceIte, true_and, and_true, Nat.reduceAdd, Nat.reduceSub, Nat.reduceLT, Nat.reduceLeDiff, Nat.reducePow, Int.reducePow, Int.reduceToNat, Int.reduceLE, Int.reduceLT, Int.reduceNeg, decide_true, decide_false, Ev.sizeLine_eq, Ev.rgOk_eq, Nat.lt_add_left_iff_pos, Nat.zero_lt_succ, Nat.succ_pos, Nat.zero_add, true_or, or_true, Nat.reduceMul, Nat.add_zero, Nat.zero_le, Nat.le_refl, Ev.optP_some, Ev.optP_bind, Ev.optP_map, Ev.optP_ck, Option.bind_some, Option.getD_some, Option.getD_none, eq_self, reduceCtorEq, Bool.or_true, Bool.or_false, Bool.true_or, Bool.false_or, Bool.or_self, and_self, Ev.asm, Int.reduceEq, Int.reduceBEq, beq_self_eq_true, Int.reduceNegSucc, List.append_nil, Bool.false_and, Bool.and_false, and_false, false_and, or_false, false_or, Ev.wR_val, Ev.wR_new])
local macro_rules | `(tactic| simp +failIfUnchanged only [$xs,*]) => `(tactic| simp only [$xs,*, ↓Ev.q_ok, ↓Ev.q_some, ↓Ev.q_cst, ↓Ev.q_var, ↓Ev.q_tup, ↓Ev.q_lst, ↓Ev.q_bin, ↓Ev.q_cmp, ↓Ev.q_neg, ↓Ev.q_nt, ↓Ev.q_chn, ↓Ev.q_an, ↓Ev.q_orr, ↓Ev.q_ite, ↓Ev.q_idx, ↓Ev.q_slc, ↓Ev.q_rev, ↓Ev.q_call, ↓Ev.q_bi, ↓Ev.q_join, ↓Ev.q_app, ↓Ev.q_ext, ↓Ev.q_lc, ↓Ev.q_fs, ↓Ev.q_dct, ↓Ev.q_tyn, ↓Ev.q_pop, ↓Ev.q_mt, ↓Ev.q_itl, ↓Ev.q_lrg, ↓Ev.q_lset, ↓Ev.q_dnew, ↓Ev.q_lc2, ↓Ev.q_dcn, ↓Ev.q_evs2, ↓Ev.q_evsR0, ↓Ev.q_evsR1, ↓Ev.q_enu, ↓Ev.q_zip, ↓Ev.q_otyn, ↓Ev.q_rtyn, ↓Ev.q_ochn, ↓Ev.q_tpop, ↓Ev.q_opop, ↓Ev.q_rpop, ↓Ev.q_tmt, ↓Ev.q_omt, ↓Ev.q_rmt, ↓Ev.q_oitl, ↓Ev.q_ritl, ↓Ev.q_olrg, ↓Ev.q_rlrg, ↓Ev.q_tlset, ↓Ev.q_olset, ↓Ev.q_rlset, ↓Ev.q_olc2, ↓Ev.q_rlc2, ↓Ev.q_odcn, ↓Ev.q_rdcn, ↓Ev.q_said, ↓Ev.q_hx, ↓Ev.q_osaid, ↓Ev.q_ohx, ↓Ev.q_thx, ↓Ev.q_rsaid, ↓Ev.q_rs, ↓Ev.q_glb, ↓Ev.q_oglb, ↓Ev.q_lnew, ↓Ev.q_lnewn, ↓Ev.q_lapp, ↓Ev.q_lsAt, ↓Ev.q_lappV, ↓Ev.q_lset2, ↓Ev.q_olset2, ↓Ev.q_odnew, ↓Ev.q_rdnew, ↓Ev.q_evs0, ↓Ev.q_evs1, ↓Ev.q_opds0, ↓Ev.q_opds1, ↓Ev.q_no, ↓Ev.q_so, ↓Ev.q_it, ↓Ev.q_rg1, ↓Ev.q_rg2, ↓Ev.q_tno, ↓Ev.q_tso, ↓Ev.q_evf0, ↓Ev.q_evf1, ↓Ev.q_tnt, ↓Ev.q_tan, ↓Ev.q_tor, ↓Ev.q_tite, ↓Ev.q_tvar, ↓Ev.q_tcst, ↓Ev.q_tchn, ↓Ev.q_tcmp, ↓Ev.q_tidx, ↓Ev.q_tcall, ↓Ev.q_tbi, ↓Ev.q_tslc, ↓Ev.q_ovar, ↓Ev.q_ocst, ↓Ev.q_otup, ↓Ev.q_olst, ↓Ev.q_obin, ↓Ev.q_ocmp, ↓Ev.q_oneg, ↓Ev.q_ont, ↓Ev.q_oan, ↓Ev.q_oorr, ↓Ev.q_oite, ↓Ev.q_oidx, ↓Ev.q_oslc, ↓Ev.q_orev, ↓Ev.q_ocall, ↓Ev.q_obi, ↓Ev.q_ojoin, ↓Ev.q_olc, ↓Ev.q_ofs, ↓Ev.q_odct, ↓Ev.q_lookv, ↓Ev.q_looks, ↓Ev.q_peek, ↓Ev.q_look0, ↓Ev.q_look1, ↓Ev.q_set, ↓Ev.q_bnm, ↓Ev.q_btp, ↓Ev.q_sets0, ↓Ev.q_sets1, ↓Ev.q_par0, ↓Ev.q_par1, ↓Ev.q_own, ↓Ev.q_appV, ↓Ev.q_extn, ↓Ev.q_extl, ↓Ev.q_ixr, ↓Ev.q_ixt, ↓Ev.q_ixl, ↓Ev.q_ixs, ↓Ev.q_putG, ↓Ev.q_popV, ↓Ev.q_add_int, ↓Ev.q_add_str, ↓Ev.q_add_lst, ↓Ev.q_add_tup, ↓Ev.q_sub_int, ↓Ev.q_mul_int, ↓Ev.q_mul_lst, ↓Ev.q_fdiv_int, ↓Ev.q_mod_int, ↓Ev.q_pow_int, ↓Ev.q_bisi, ↓Ev.q_ball, ↓Ev.q_bany, ↓Ev.q_bsrtl, ↓Ev.q_bsrtt, ↓Ev.q_bsum, ↓Ev.q_mtget1, ↓Ev.q_mtidxt, ↓Ev.q_mtidxl, ↓Ev.q_itlr, ↓Ev.q_lsetV, ↓Ev.q_bint, ↓Ev.q_bintb, ↓Ev.q_blenl, ↓Ev.q_blent, ↓Ev.q_blens, ↓Ev.q_bstri, ↓Ev.q_bstrs, ↓Ev.q_blistl, ↓Ev.q_blistt, ↓Ev.q_btupl, ↓Ev.q_btupt, ↓Ev.q_bmin, ↓Ev.q_bmax, ↓Ev.q_fmts, ↓Ev.q_fmti, ↓Ev.q_asg, ↓Ev.q_parS, ↓Ev.q_put, ↓Ev.q_star, ↓Ev.q_starV, ↓Ev.q_ex, ↓Ev.q_iff, ↓Ev.q_for, ↓Ev.q_retV, ↓Ev.q_rcst, ↓Ev.q_rtup, ↓Ev.q_rlst, ↓Ev.q_rbin, ↓Ev.q_rchn, ↓Ev.q_rcmp, ↓Ev.q_rneg, ↓Ev.q_rnt, ↓Ev.q_ran, ↓Ev.q_rorr, ↓Ev.q_rite, ↓Ev.q_ridx, ↓Ev.q_rslc, ↓Ev.q_rrev, ↓Ev.q_rcall, ↓Ev.q_rbi, ↓Ev.q_rjoin, ↓Ev.q_rlc, ↓Ev.q_rfs, ↓Ev.q_rdct, ↓Ev.q_retN, ↓Ev.q_pas, ↓Ev.q_brk, ↓Ev.q_cnt, ↓Ev.q_exs0, ↓Ev.q_exs1, Ev.q_add_int, Ev.q_add_str, Ev.q_add_lst, Ev.q_add_tup, Ev.q_sub_int, Ev.q_mul_int, Ev.q_mul_lst, Ev.q_fdiv_int, Ev.q_mod_int, Ev.q_pow_int, Ev.q_bisi, Ev.q_ball, Ev.q_bany, Ev.q_bsrtl, Ev.q_bsrtt, Ev.q_bsum, Ev.q_mtget1, Ev.q_mtidxt, Ev.q_mtidxl, Ev.q_itlr, Ev.q_lsetV, Ev.q_bint, Ev.q_bintb, Ev.q_blenl, Ev.q_blent, Ev.q_blens, Ev.q_bstri, Ev.q_bstrs, Ev.q_blistl, Ev.q_blistt, Ev.q_btupl, Ev.q_btupt, Ev.q_bmin, Ev.q_bmax, Ev.q_fmts, Ev.q_fmti, Ev.backG_mk, Ev.pushG_mk, Ev.wipe_nil, Ev.wipe_cons, Ev.back_nil, Ev.back_cons, Ev.noOwn_nil, Ev.slots_nm, Ev.slots_tp, Ev.pv_val, Ev.pv_new, Ev.slot_val, Ev.slot_new, Ev.asStr_str, Ev.asInt_int, Ev.truV_bl, Ev.truV_int, Ev.cmpG_eq, Ev.cmpG_ne, Ev.cmpG_lt, Ev.cmpG_le, Ev.cmpG_gt, Ev.cmpG_ge, Ev.cmpG_isN, Ev.cmpG_notN, Ev.cmpG_int, Ev.cmpG_inl, Ev.cmpG_nint, Ev.cmpG_ninl, Ev.getC_s, Ev.getC_i, Ev.getC_t, Ev.putC_s, Ev.putC_i, Ev.putC_t, Ev.mtOk_it, Ev.mtOk_il, Ev.mtOk_g, Ev.isD_dk, Ev.isD_dn, Ev.isi_bl, Ev.isi_int, Ev.isi_str, Ev.isi_tup, Ev.isi_lst, Ev.isi_non, Ev.zipV_l, Ev.zipV_t, Ev.cmpV_eq, Ev.cmpV_ne, Ev.cmpV_lt, Ev.cmpV_le, Ev.cmpV_gt, Ev.cmpV_ge, Ev.eqV_int, Ev.eqV_str, Ev.eqV_is, Ev.eqV_si, Ev.eqV_bl, Ev.items_l, Ev.items_t, Ev.items_f, Ev.itemsI_l, Ev.itemsI_t, Ev.itemsI_f, Ev.itemsI_s, Ev.tupsOf_t, Ev.slcV_lst, Ev.slcV_tup, Ev.slcV_fz, Ev.revV_tup, Ev.revV_lst, Ev.idxV_lst, Ev.idxV_tup, Ev.noOwn_cons, Ev.at0, Ev.at1, Ev.at2, Ev.at3, Ev.Nxt_nx, Ev.Nxt_ret, Ev.Nxt_brk, Ev.Nxt_cnt, Ev.Turn_nx, Ev.Turn_cnt, Ev.Turn_brk, Ev.Turn_ret, Ev.Fin'_ret, Ev.Fin'_nx, List.getElem?_cons_zero, List.getElem?_cons_succ, List.set_cons_zero, List.set_cons_succ, List.getD_cons_zero, List.getD_cons_succ, List.length_cons, List.length_nil, List.map_cons, List.map_nil, List.cons_append, List.nil_append, List.replicate_succ, List.replicate_zero, Option.map_some, Option.some.injEq, Bool.not_true, Bool.not_false, Bool.and_self, Bool.and_true, Bool.true_and, Bool.false_eq_true, Bool.true_eq_false, if_true, if_false, ite_true, ite_false, reduceIte, true_and, and_true, Nat.reduceAdd, Nat.reduceSub, Nat.reduceLT, Nat.reduceLeDiff, Nat.reducePow, Int.reducePow, Int.reduceToNat, Int.reduceLE, Int.reduceLT, Int.reduceNeg, decide_true, decide_false, Ev.sizeLine_eq, Ev.rgOk_eq, Nat.lt_add_left_iff_pos, Nat.zero_lt_succ, Nat.succ_pos, Nat.zero_add, true_or, or_true, Nat.reduceMul, Nat.add_zero, Nat.zero_le, Nat.le_refl, Ev.optP_some, Ev.optP_bind, Ev.optP_map, Ev.optP_ck, Option.bind_some, Option.getD_some, Option.getD_none, eq_self, reduceCtorEq, Bool.or_true, Bool.or_false, Bool.true_or, Bool.false_or, Bool.or_self, and_self, Ev.asm, Int.reduceEq, Int.reduceBEq, beq_self_eq_true, Int.reduceNegSucc, Bool.false_and, Bool.and_false, and_false, false_and, or_false, false_or, Ev.wR_val, Ev.wR_new])
/-! # K06: its defs, as the evaluator's terms (printed by tr6.py). -/
namespace K06
open PySem PySem.Spec Ev L2
def top (i : Nat) : Stmt := PySem.Challenge.pw_amidlinks_k06_whole_writes_turned.main.body.getD i (.Pass ⟨0, 0, 0, 0⟩)
/-- law -/
def d_law : FD := ⟨1, 6, (
  .cons (.asg (.nm 1) (.call 1 (.cons (.var 0) .nil) .nil)) <|
  .cons (.for_ (.nm 2) (.rg1 (.cst (.int 2))) (
    .cons (.asg (.nm 3) (.call 2 (.cons (.var 1) (.cons (.idx (.lst (.cons (.cst (.int 4)) (.cons (.cst (.int 4)) (.cons (.cst (.int 4)) (.cons (.cst (.int 4)) (.cons (.cst (.int 4)) (.cons (.cst (.int 4)) (.cons (.cst (.int 4)) (.cons (.cst (.int 20)) .nil))))))))) (.call 3 (.cons (.var 1) (.cons (.cst (.int 8)) .nil)) .nil)) .nil)) .nil)) <|
    .cons (.asg (.nm 4) (.call 4 (.cons (.var 1) (.cons (.bi .len (.cons (.idx (.var 3) (.cst (.int 3))) .nil)) .nil)) .nil)) <|
    .cons (.iff (.cmp .ne (.lc (.nm 5) (.it (.call 5 (.cons (.var 1) (.cons (.var 4) .nil)) .nil)) (.so (.nt (.call 6 (.cons (.var 3) (.cons (.var 5) .nil)) .nil))) (.var 5)) (.lst .nil)) (
      .cons (.ret (.cst (.bl false))) <| .nil) .nil) <|
    .cons (.iff (.nt (.call 7 (.cons (.var 1) (.cons (.var 3) .nil)) .nil)) (
      .cons (.ret (.cst (.bl false))) <| .nil) .nil) <| .nil)) <|
  .cons (.ret (.cst (.bl true))) <| .nil)⟩
/-- _law_feed -/
def d_l_feed : FD := ⟨1, 2, (
  .cons (.ret (.dct ["cells", "spot", "left", "drawn"] (.cons (.lc (.nm 1) (.it (.slc (.var 0) .no (.so (.cst (.int 63))))) .no (.bi .int (.cons (.var 1) .nil))) (.cons (.cst (.int 0)) (.cons (.cst (.int 0)) (.cons (.cst (.int 0)) .nil)))))) <| .nil)⟩
/-- _law_plan -/
def d_l_plan : FD := ⟨2, 12, (
  .cons (.asg (.nm 2) (.lst (.cons (.tup (.cons (.cst (.int 1)) (.cons (.cst (.bl false)) (.cons (.cst (.bl false)) .nil)))) (.cons (.tup (.cons (.cst (.int 1)) (.cons (.cst (.bl false)) (.cons (.cst (.bl true)) .nil)))) (.cons (.tup (.cons (.cst (.int 1)) (.cons (.cst (.bl true)) (.cons (.cst (.bl false)) .nil)))) (.cons (.tup (.cons (.cst (.int 1)) (.cons (.cst (.bl true)) (.cons (.cst (.bl true)) .nil)))) (.cons (.tup (.cons (.cst (.int 2)) (.cons (.cst (.bl false)) (.cons (.cst (.bl false)) .nil)))) .nil))))))) <|
  .cons (.asg (.nm 3) (.call 8 (.cons (.var 0) (.cons (.bin .add (.var 2) (.lst (.cons (.tup (.cons (.cst (.int 2)) (.cons (.cst (.bl false)) (.cons (.cst (.bl true)) .nil)))) (.cons (.tup (.cons (.cst (.int 2)) (.cons (.cst (.bl true)) (.cons (.cst (.bl false)) .nil)))) (.cons (.tup (.cons (.cst (.int 2)) (.cons (.cst (.bl false)) (.cons (.cst (.bl true)) .nil)))) (.cons (.tup (.cons (.cst (.int 2)) (.cons (.cst (.bl true)) (.cons (.cst (.bl false)) .nil)))) .nil)))))) .nil)) .nil)) <|
  .cons (.par [4, 5] (.cons (.call 3 (.cons (.var 0) (.cons (.bin .add (.var 1) (.cst (.int 1))) .nil)) .nil) (.cons (.tup .nil) .nil))) <|
  .cons (.asg (.nm 6) (.call 9 (.cons (.var 0) (.cons (.bin .add (.var 4) (.cst (.int 2))) .nil)) .nil)) <|
  .cons (.asg (.nm 7) (.slc (.var 6) .no (.so (.bin .add (.cst (.int 1)) (.call 3 (.cons (.var 0) (.cons (.cst (.int 2)) .nil)) .nil))))) <|
  .cons (.asg (.nm 8) (.bi .tuple (.cons (.var 7) .nil))) <|
  .cons (.for_ (.nm 9) (.rg1 (.var 4)) (
    .cons (.asg (.nm 5) (.bin .add (.var 5) (.tup (.cons (.call 10 (.cons (.var 0) (.cons (.var 3) (.cons (.var 7) (.cons (.idx (.var 6) (.bin .add (.cst (.int 2)) (.var 9))) .nil)))) .nil) .nil)))) <|
    .cons (.asg (.nm 7) (.bin .add (.var 7) (.lst (.cons (.idx (.var 6) (.bin .add (.cst (.int 2)) (.var 9))) .nil)))) <| .nil)) <|
  .cons (.asg (.nm 10) (.bi .tuple (.cons (.lc (.nm 11) (.rg1 (.call 3 (.cons (.var 0) (.cons (.bin .add (.bin .mul (.cst (.int 2)) (.var 1)) (.cst (.int 1))) .nil)) .nil)) .no (.call 11 (.cons (.var 0) (.cons (.var 3) (.cons (.var 7) .nil))) .nil)) .nil))) <|
  .cons (.ret (.tup (.cons (.var 3) (.cons (.var 8) (.cons (.var 5) (.cons (.var 10) .nil)))))) <| .nil)⟩
/-- _law_draw -/
def d_l_draw : FD := ⟨2, 7, (
  .cons (.put (.var 0) (.cst (.str "drawn")) (.bin .add (.idx (.var 0) (.cst (.str "drawn"))) (.cst (.int 1)))) <|
  .cons (.iff (.cmp .gt (.idx (.var 0) (.cst (.str "left"))) (.cst (.int 0))) (
    .cons (.asg (.nm 2) (.bin .mod (.bi .int (.cons (.idx (.var 0) (.cst (.str "left"))) .nil)) (.var 1))) <|
    .cons (.put (.var 0) (.cst (.str "left")) (.bin .fdiv (.idx (.var 0) (.cst (.str "left"))) (.var 1))) <|
    .cons (.ret (.var 2)) <| .nil) .nil) <|
  .cons (.par [3, 4] (.cons (.idx (.var 0) (.cst (.str "cells"))) (.cons (.idx (.var 0) (.cst (.str "spot"))) .nil))) <|
  .cons (.put (.var 0) (.cst (.str "spot")) (.bin .add (.var 4) (.cst (.int 1)))) <|
  .cons (.asg (.nm 5) (.ite (.cmp .ne (.var 3) (.lst .nil)) (.idx (.var 3) (.bin .mod (.bi .int (.cons (.var 4) .nil)) (.bi .len (.cons (.var 3) .nil)))) (.cst (.int 6029)))) <|
  .cons (.iff (.an (.cmp .ge (.var 5) (.bin .pow (.cst (.int 10)) (.cst (.int 18)))) (.cmp .lt (.var 4) (.bi .len (.cons (.var 3) .nil)))) (
    .cons (.put (.var 0) (.cst (.str "left")) (.bin .fdiv (.var 5) (.var 1))) <|
    .cons (.ret (.bin .mod (.bi .int (.cons (.var 5) .nil)) (.var 1))) <| .nil) .nil) <|
  .cons (.asg (.nm 6) (.bin .mod (.bi .int (.cons (.bin .add (.bin .add (.bin .mod (.bi .int (.cons (.var 5) .nil)) (.cst (.int 1000000889))) (.bin .mul (.cst (.int 61057)) (.idx (.var 0) (.cst (.str "drawn"))))) (.cst (.int 349))) .nil)) (.cst (.int 2147483563)))) <|
  .cons (.asg (.nm 6) (.bin .mod (.bi .int (.cons (.bin .add (.bin .add (.bin .mul (.var 6) (.var 6)) (.bin .mul (.cst (.int 5500057)) (.idx (.var 0) (.cst (.str "drawn"))))) (.cst (.int 433))) .nil)) (.cst (.int 2147483497)))) <|
  .cons (.ret (.bin .mod (.bi .int (.cons (.bin .fdiv (.bin .mod (.bi .int (.cons (.bin .add (.bin .mul (.var 6) (.var 6)) (.bin .mul (.cst (.int 547)) (.var 6))) .nil)) (.cst (.int 2147483489))) (.cst (.int 16))) .nil)) (.var 1))) <| .nil)⟩
/-- _law_order -/
def d_l_order : FD := ⟨2, 5, (
  .cons (.par [2, 3] (.cons (.lrg (.rg1 (.var 1))) (.cons (.tup .nil) .nil))) <|
  .cons (.for_ (.nm 4) (.rg1 (.var 1)) (
    .cons (.asg (.nm 3) (.bin .add (.var 3) (.tup (.cons (.pop 2 (.so (.call 3 (.cons (.var 0) (.cons (.bi .len (.cons (.var 2) .nil)) .nil)) .nil))) .nil)))) <| .nil)) <|
  .cons (.ret (.var 3)) <| .nil)⟩
/-- _law_near -/
def d_l_near : FD := ⟨2, 5, (
  .cons (.asg (.nm 2) (.call 3 (.cons (.var 0) (.cons (.bin .add (.bi .len (.cons (.var 1) .nil)) (.cst (.int 1))) .nil)) .nil)) <|
  .cons (.asg (.nm 3) (.lst (.cons (.var 1) (.cons (.rev (.var 1)) (.cons (.bi .list (.cons (.var 1) .nil)) (.cons (.bin .add (.slc (.var 1) .no (.so (.var 2))) (.slc (.var 1) (.so (.bin .add (.var 2) (.cst (.int 1)))) .no)) (.cons (.bin .add (.bin .add (.slc (.var 1) .no (.so (.var 2))) (.slc (.var 1) (.so (.var 2)) (.so (.bin .add (.var 2) (.cst (.int 1)))))) (.slc (.var 1) (.so (.var 2)) .no)) .nil))))))) <|
  .cons (.asg (.nm 3) (.bin .add (.var 3) (.lc (.nm 4) (.it (.lst (.cons (.bi .len (.cons (.var 1) .nil)) (.cons (.neg (.cst (.int 1))) (.cons (.cst .non) (.cons (.cst (.bl true)) (.cons (.cst (.bl false)) (.cons (.cst (.str "0")) (.cons (.tup (.cons (.cst (.int 0)) .nil)) (.cons (.bin .pow (.cst (.int 10)) (.cst (.int 59))) .nil)))))))))) .no (.bin .add (.bin .add (.slc (.var 1) .no (.so (.var 2))) (.tup (.cons (.var 4) .nil))) (.slc (.var 1) (.so (.bin .add (.var 2) (.cst (.int 1)))) .no))))) <|
  .cons (.asg (.nm 3) (.bin .add (.var 3) (.lst (.cons (.bin .add (.var 1) (.tup (.cons (.bi .len (.cons (.var 1) .nil)) .nil))) (.cons (.bin .add (.var 1) (.tup (.cons (.cst (.int 0)) .nil))) (.cons (.tup (.cons (.var 1) .nil)) (.cons (.bin .add (.slc (.var 1) (.so (.var 2)) .no) (.slc (.var 1) .no (.so (.var 2)))) (.cons (.tup .nil) .nil)))))))) <|
  .cons (.ret (.bin .add (.var 3) (.lst (.cons (.call 13 (.cons (.var 0) .nil) .nil) (.cons (.call 12 (.cons (.var 0) (.cons (.var 1) .nil)) .nil) .nil))))) <| .nil)⟩
/-- _law_is_right -/
def d_l_is_right : FD := ⟨2, 5, (
  .cons (.par [2, 3] (.cons (.bi .repr (.cons (.lst (.cons (.var 0) (.cons (.var 1) .nil))) .nil)) (.cons (.call 14 (.cons (.var 0) (.cons (.var 1) .nil)) .nil) .nil))) <|
  .cons (.asg (.nm 4) (.lst (.cons (.said 0 (lamQ "_law_is_right") 15 (.call 16 (.cons (.var 0) (.cons (.var 1) .nil)) .nil)) .nil))) <|
  .cons (.ex (.app 4 (.said 0 (lamQ "_law_is_right") 15 (.call 17 .nil (.cons (.var 1) (.cons (.var 0) .nil)))))) <|
  .cons (.ret (.an (.cmp .eq (.bi .repr (.cons (.var 4) .nil)) (.bi .repr (.cons (.lst (.cons (.var 3) (.cons (.var 3) .nil))) .nil))) (.cmp .eq (.bi .repr (.cons (.lst (.cons (.var 0) (.cons (.var 1) .nil))) .nil)) (.var 2)))) <| .nil)⟩
/-- _law_are_two_right -/
def d_l_are_two_right : FD := ⟨2, 10, (
  .cons (.asg (.nm 2) (.bi .len (.cons (.idx (.var 1) (.cst (.int 3))) .nil))) <|
  .cons (.asg (.tp [3, 4]) (.tup (.cons (.call 4 (.cons (.var 0) (.cons (.var 2) .nil)) .nil) (.cons (.call 4 (.cons (.var 0) (.cons (.var 2) .nil)) .nil) .nil)))) <|
  .cons (.asg (.nm 5) (.call 16 (.cons (.call 16 (.cons (.var 1) (.cons (.var 3) .nil)) .nil) (.cons (.var 4) .nil)) .nil)) <|
  .cons (.asg (.nm 6) (.bi .tuple (.cons (.lc (.nm 9) (.it (.var 4)) .no (.idx (.var 3) (.var 9))) .nil))) <|
  .cons (.asg (.nm 7) (.bi .tuple (.cons (.lc (.nm 9) (.rg1 (.var 2)) .no (.mt .index (.var 6) (.cons (.var 9) .nil))) .nil))) <|
  .cons (.asg (.nm 8) (.idx (.call 14 (.cons (.var 1) (.cons (.var 6) .nil)) .nil) (.cst (.int 1)))) <|
  .cons (.ret (.cmp .eq (.bi .repr (.cons (.lst (.cons (.var 5) (.cons (.call 16 (.cons (.var 1) (.cons (.var 6) .nil)) .nil) (.cons (.call 16 (.cons (.var 5) (.cons (.var 7) .nil)) .nil) .nil)))) .nil)) (.bi .repr (.cons (.lst (.cons (.var 8) (.cons (.var 8) (.cons (.var 1) .nil)))) .nil)))) <| .nil)⟩
/-- _law_any -/
def d_l_any : FD := ⟨2, 2, (
  .cons (.ret (.idx (.var 1) (.call 3 (.cons (.var 0) (.cons (.bi .len (.cons (.var 1) .nil)) .nil)) .nil))) <| .nil)⟩
/-- _law_words -/
def d_l_words : FD := ⟨2, 9, (
  .cons (.asg (.nm 2) (.lst (.cons (.cst (.str "x")) (.cons (.cst (.str "y")) (.cons (.cst (.str "z")) (.cons (.cst (.str "a")) (.cons (.cst (.str "ab")) (.cons (.cst (.str "abc")) (.cons (.cst (.str "is")) (.cons (.cst (.str "not")) (.cons (.cst (.str "out")) (.cons (.cst (.str "to")) (.cons (.cst (.str "up")) (.cons (.cst (.str "read")) (.cons (.cst (.str "write")) (.cons (.cst (.str "make")) (.cons (.cst (.str "names")) (.cons (.cst (.str "open")) .nil)))))))))))))))))) <|
  .cons (.asg (.nm 2) (.bin .add (.var 2) (.lst (.cons (.cst (.str "free")) (.cons (.cst (.str "on")) (.cons (.cst (.str "off")) (.cons (.cst (.str "front")) (.cons (.cst (.str "end")) (.cons (.cst (.str "ahead")) (.cons (.cst (.str "behind")) (.cons (.cst (.str "forward")) (.cons (.cst (.str "nexta")) (.cons (.cst (.str "lastly")) (.cons (.cst (.str "nones")) .nil)))))))))))))) <|
  .cons (.asg (.nm 2) (.bin .add (.var 2) (.lst (.cons (.cst (.str "guards")) (.cons (.cst (.str "abcdefgh")) (.cons (.cst (.str "zzzzzzzz")) (.cons (.cst (.str "b")) .nil))))))) <|
  .cons (.asg (.tp [3, 4, 5, 6]) (.tup (.cons (.call 3 (.cons (.var 0) (.cons (.cst (.int 31)) .nil)) .nil) (.cons (.bin .add (.cst (.int 1)) (.call 3 (.cons (.var 0) (.cons (.cst (.int 30)) .nil)) .nil)) (.cons (.cst (.str "abcdefghijklmnopqrstuvwxyz")) (.cons (.cst (.str "")) .nil)))))) <|
  .cons (.iff (.orr (.cmp .gt (.call 3 (.cons (.var 0) (.cons (.cst (.int 4)) .nil)) .nil) (.cst (.int 0))) (.cmp .gt (.var 1) (.cst (.int 22)))) (
    .cons (.ret (.lc (.nm 8) (.rg1 (.var 1)) .no (.idx (.var 2) (.bin .mod (.bi .int (.cons (.bin .add (.var 3) (.bin .mul (.var 4) (.var 8))) .nil)) (.cst (.int 31)))))) <| .nil) .nil) <|
  .cons (.for_ (.nm 7) (.rg1 (.call 3 (.cons (.var 0) (.cons (.cst (.int 8)) .nil)) .nil)) (
    .cons (.asg (.nm 6) (.bin .add (.var 6) (.idx (.var 5) (.call 3 (.cons (.var 0) (.cons (.cst (.int 26)) .nil)) .nil)))) <| .nil)) <|
  .cons (.ret (.lc (.nm 8) (.rg1 (.var 1)) .no (.bin .add (.var 6) (.idx (.cst (.str "abcfghijlmnopqrsuvwxyz")) (.bin .mod (.bi .int (.cons (.bin .add (.var 3) (.var 8)) .nil)) (.cst (.int 22))))))) <| .nil)⟩
/-- _law_any_get -/
def d_l_any_get : FD := ⟨4, 8, (
  .cons (.asg (.nm 4) (.bin .add (.bin .add (.var 2) (.ite (.idx (.var 1) (.cst (.int 1))) (.lst (.cons (.cst (.str "guard")) .nil)) (.lst (.cons (.cst (.str "first")) .nil)))) (.ite (.idx (.var 1) (.cst (.int 2))) (.lst (.cons (.cst (.str "last")) .nil)) (.lst .nil)))) <|
  .cons (.asg (.nm 5) (.tup (.cons (.call 8 (.cons (.var 0) (.cons (.var 4) .nil)) .nil) .nil))) <|
  .cons (.for_ (.nm 6) (.rg1 (.call 8 (.cons (.var 0) (.cons (.lst (.cons (.cst (.int 0)) (.cons (.cst (.int 1)) (.cons (.cst (.int 1)) (.cons (.cst (.int 1)) (.cons (.cst (.int 2)) (.cons (.cst (.int 3)) .nil))))))) .nil)) .nil)) (
    .cons (.asg (.nm 5) (.bin .add (.var 5) (.tup (.cons (.call 8 (.cons (.var 0) (.cons (.slc (.lst (.cons (.cst (.str "next")) (.cons (.cst (.str "back")) .nil))) .no (.so (.idx (.var 1) (.cst (.int 0))))) .nil)) .nil) .nil)))) <| .nil)) <|
  .cons (.asg (.nm 7) (.bin .add (.bin .add (.var 2) (.lst (.cons (.cst (.str "none")) .nil))) (.ite (.idx (.var 1) (.cst (.int 1))) (.lst (.cons (.cst (.str "guard")) .nil)) (.lst .nil)))) <|
  .cons (.ret (.tup (.cons (.var 3) (.cons (.var 5) (.cons (.call 18 (.cons (.var 0) (.cons (.var 7) .nil)) .nil) .nil))))) <| .nil)⟩
/-- _law_any_put -/
def d_l_any_put : FD := ⟨3, 6, (
  .cons (.asg (.nm 3) (.bin .add (.var 2) (.ite (.idx (.var 1) (.cst (.int 1))) (.lst (.cons (.cst (.str "guard")) .nil)) (.lst .nil)))) <|
  .cons (.asg (.nm 4) (.lc (.nm 5) (.rg1 (.cst (.int 4))) .no (.tup (.cons (.call 8 (.cons (.var 0) (.cons (.slc (.lst (.cons (.cst (.str "next")) (.cons (.cst (.str "back")) .nil))) .no (.so (.idx (.var 1) (.cst (.int 0))))) .nil)) .nil) (.cons (.call 8 (.cons (.var 0) (.cons (.var 3) .nil)) .nil) .nil))))) <|
  .cons (.asg (.nm 4) (.bin .add (.bin .add (.var 4) (.ite (.idx (.var 1) (.cst (.int 1))) (.lst .nil) (.lst (.cons (.tup (.cons (.cst (.str "first")) .nil)) .nil)))) (.ite (.idx (.var 1) (.cst (.int 2))) (.lst (.cons (.tup (.cons (.cst (.str "last")) .nil)) .nil)) (.lst .nil)))) <|
  .cons (.ret (.tup (.cons (.call 8 (.cons (.var 0) (.cons (.var 4) .nil)) .nil) (.cons (.call 8 (.cons (.var 0) (.cons (.bin .add (.var 3) (.lst (.cons (.cst (.str "none")) .nil))) .nil)) .nil) (.cons (.call 18 (.cons (.var 0) (.cons (.bin .add (.var 3) (.lst (.cons (.cst (.str "none")) .nil))) .nil)) .nil) .nil))))) <| .nil)⟩
/-- _law_bent -/
def d_l_bent : FD := ⟨2, 5, (
  .cons (.iff (.an (.bi .isi (.cons (.var 1) (.cons (.tyn .tuple) .nil))) (.an (.cmp .ne (.var 1) (.tup .nil)) (.cmp .gt (.call 3 (.cons (.var 0) (.cons (.cst (.int 5)) .nil)) .nil) (.cst (.int 0))))) (
    .cons (.asg (.nm 2) (.call 3 (.cons (.var 0) (.cons (.bi .len (.cons (.var 1) .nil)) .nil)) .nil)) <|
    .cons (.ret (.bin .add (.bin .add (.slc (.var 1) .no (.so (.var 2))) (.tup (.cons (.call 12 (.cons (.var 0) (.cons (.idx (.var 1) (.var 2)) .nil)) .nil) .nil))) (.slc (.var 1) (.so (.bin .add (.var 2) (.cst (.int 1)))) .no))) <| .nil) .nil) <|
  .cons (.par [3, 4] (.cons (.call 3 (.cons (.var 0) (.cons (.cst (.int 8)) .nil)) .nil) (.cons (.call 13 (.cons (.var 0) .nil) .nil) .nil))) <|
  .cons (.iff (.an (.bi .isi (.cons (.var 1) (.cons (.tyn .tuple) .nil))) (.cmp .lt (.var 3) (.cst (.int 7)))) (
    .cons (.asg (.nm 2) (.call 3 (.cons (.var 0) (.cons (.bin .add (.bi .len (.cons (.var 1) .nil)) (.cst (.int 1))) .nil)) .nil)) <|
    .cons (.iff (.cmp .lt (.var 3) (.cst (.int 2))) (
      .cons (.ret (.ite (.cmp .eq (.var 3) (.cst (.int 0))) (.bi .list (.cons (.var 1) .nil)) (.bin .add (.slc (.var 1) .no (.so (.var 2))) (.slc (.var 1) (.so (.bin .add (.var 2) (.cst (.int 1)))) .no)))) <| .nil) .nil) <|
    .cons (.iff (.cmp .lt (.var 3) (.cst (.int 4))) (
      .cons (.ret (.ite (.cmp .eq (.var 3) (.cst (.int 2))) (.bin .add (.bin .add (.slc (.var 1) .no (.so (.var 2))) (.slc (.var 1) (.so (.var 2)) (.so (.bin .add (.var 2) (.cst (.int 1)))))) (.slc (.var 1) (.so (.var 2)) .no)) (.rev (.var 1)))) <| .nil) .nil) <|
    .cons (.ret (.bin .add (.bin .add (.slc (.var 1) .no (.so (.var 2))) (.tup (.cons (.var 4) .nil))) (.slc (.var 1) (.so (.var 2)) .no))) <| .nil) .nil) <|
  .cons (.iff (.an (.bi .isi (.cons (.var 1) (.cons (.tyn .str) .nil))) (.cmp .lt (.var 3) (.cst (.int 3)))) (
    .cons (.asg (.nm 2) (.call 3 (.cons (.var 0) (.cons (.bin .add (.bi .len (.cons (.var 1) .nil)) (.cst (.int 1))) .nil)) .nil)) <|
    .cons (.ret (.bin .add (.bin .add (.slc (.var 1) .no (.so (.var 2))) (.call 8 (.cons (.var 0) (.cons (.lst (.cons (.cst (.str "a")) (.cons (.cst (.str "A")) (.cons (.cst (.str "")) (.cons (.cst (.str " ")) (.cons (.cst (.str "z")) (.cons (.cst (.str ".")) .nil))))))) .nil)) .nil)) (.slc (.var 1) (.so (.bin .add (.var 2) (.bin .fdiv (.var 3) (.cst (.int 2))))) .no))) <| .nil) .nil) <|
  .cons (.iff (.an (.bi .isi (.cons (.var 1) (.cons (.tyn .bool) .nil))) (.cmp .lt (.var 3) (.cst (.int 5)))) (
    .cons (.ret (.ite (.cmp .eq (.var 3) (.cst (.int 0))) (.bi .int (.cons (.var 1) .nil)) (.nt (.var 1)))) <| .nil) .nil) <|
  .cons (.ret (.var 4)) <| .nil)⟩
/-- _law_strange -/
def d_l_strange : FD := ⟨1, 2, (
  .cons (.asg (.nm 1) (.lst (.cons (.cst .non) (.cons (.cst (.bl true)) (.cons (.cst (.bl false)) (.cons (.cst (.int 0)) (.cons (.cst (.int 1)) (.cons (.cst (.int 2)) (.cons (.cst (.int 3)) (.cons (.neg (.cst (.int 1))) (.cons (.bin .pow (.cst (.int 10)) (.cst (.int 59))) (.cons (.cst (.str "")) (.cons (.cst (.str "x")) (.cons (.cst (.str "y")) (.cons (.cst (.str "next")) (.cons (.cst (.str "back")) (.cons (.cst (.str "first")) (.cons (.cst (.str "last")) .nil)))))))))))))))))) <|
  .cons (.asg (.nm 1) (.bin .add (.var 1) (.lst (.cons (.cst (.str "guard")) (.cons (.cst (.str "none")) (.cons (.cst (.str "is")) (.cons (.cst (.str "not")) (.cons (.cst (.str "A")) (.cons (.cst (.str "x y")) (.cons (.cst (.str "abcdefghi")) (.cons (.cst (.str "-")) (.cons (.cst (.str "x.next")) (.cons (.tup .nil) (.cons (.lst .nil) (.cons (.tup (.cons (.cst (.str "x")) .nil)) .nil))))))))))))))) <|
  .cons (.asg (.nm 1) (.bin .add (.var 1) (.lst (.cons (.lst (.cons (.cst (.str "x")) .nil)) (.cons (.tup (.cons (.cst (.str "x")) (.cons (.cst (.str "y")) .nil))) (.cons (.tup (.cons (.cst (.str "x")) (.cons (.cst (.str "x")) .nil))) (.cons (.tup (.cons (.cst (.str "first")) .nil)) (.cons (.tup (.cons (.cst (.str "last")) .nil)) (.cons (.lst (.cons (.cst (.str "first")) .nil)) (.cons (.tup (.cons (.cst (.str "next")) (.cons (.cst (.str "x")) .nil))) .nil)))))))))) <|
  .cons (.asg (.nm 1) (.bin .add (.var 1) (.lst (.cons (.tup (.cons (.cst (.str "back")) (.cons (.cst (.str "x")) .nil))) (.cons (.tup (.cons (.cst (.str "next")) (.cons (.cst (.str "none")) .nil))) (.cons (.tup (.cons (.cst (.str "next")) (.cons (.cst (.str "guard")) .nil))) (.cons (.tup (.cons (.cst (.str "x")) (.cons (.cst (.str "is")) (.cons (.cst (.str "none")) .nil)))) (.cons (.tup (.cons (.cst (.str "next")) (.cons (.cst (.int 0)) .nil))) .nil)))))))) <|
  .cons (.asg (.nm 1) (.bin .add (.var 1) (.lst (.cons (.tup (.cons (.cst (.str "x")) (.cons (.cst (.str "not")) (.cons (.cst (.str "guard")) .nil)))) (.cons (.tup (.cons (.cst (.str "x")) (.cons (.cst (.str "in")) (.cons (.cst (.str "y")) .nil)))) (.cons (.tup (.cons (.cst (.str "x")) (.cons (.cst (.str "is")) .nil))) (.cons (.lst (.cons (.cst (.str "x")) (.cons (.cst (.str "is")) (.cons (.cst (.str "y")) .nil)))) (.cons (.cst (.str "X")) (.cons (.cst (.str "nextnext")) .nil))))))))) <|
  .cons (.asg (.nm 1) (.bin .add (.var 1) (.lst (.cons (.tup (.cons (.tup (.cons (.cst (.str "x")) (.cons (.cst (.str "is")) (.cons (.cst (.str "none")) .nil)))) .nil)) (.cons (.tup (.cons (.cst (.str "z")) (.cons (.tup (.cons (.cst (.str "x")) (.cons (.cst (.str "next")) .nil))) (.cons (.tup .nil) .nil)))) (.cons (.tup (.cons (.cst (.str "z")) (.cons (.tup (.cons (.cst (.str "x")) .nil)) (.cons (.tup .nil) .nil)))) (.cons (.tup (.cons (.cst (.int 2)) (.cons (.cst (.int 0)) (.cons (.cst (.int 1)) .nil)))) (.cons (.tup (.cons (.cst (.int 0)) (.cons (.cst (.int 1)) .nil))) .nil)))))))) <|
  .cons (.asg (.nm 1) (.bin .add (.var 1) (.lst (.cons (.tup (.cons (.tup (.cons (.cst (.str "next")) (.cons (.cst (.str "x")) .nil))) (.cons (.cst (.str "none")) (.cons (.tup .nil) .nil)))) (.cons (.tup (.cons (.tup (.cons (.cst (.str "first")) .nil)) (.cons (.cst (.str "x")) (.cons (.tup .nil) .nil)))) (.cons (.tup (.cons (.cst (.int 1)) (.cons (.cst (.bl false)) (.cons (.cst (.bl false)) .nil)))) (.cons (.tup (.cons (.cst (.int 1)) (.cons (.cst (.bl true)) (.cons (.cst (.bl true)) .nil)))) .nil))))))) <|
  .cons (.ret (.call 8 (.cons (.var 0) (.cons (.bin .add (.var 1) (.lst (.cons (.tup (.cons (.cst (.int 2)) (.cons (.cst (.bl true)) (.cons (.cst (.bl true)) .nil)))) (.cons (.tup (.cons (.cst (.bl true)) (.cons (.cst (.bl false)) (.cons (.cst (.bl false)) .nil)))) (.cons (.tup (.cons (.cst (.int 1)) (.cons (.cst (.int 0)) .nil))) (.cons (.tup (.cons (.cst (.int 0)) (.cons (.cst (.int 0)) .nil))) (.cons (.tup (.cons (.cst (.bl true)) (.cons (.cst (.int 0)) .nil))) .nil))))))) .nil)) .nil)) <| .nil)⟩
/-- _law_due -/
def d_l_due : FD := ⟨2, 5, (
  .cons (.asg (.nm 2) (.bi .len (.cons (.idx (.var 0) (.cst (.int 3))) .nil))) <|
  .cons (.iff (.orr (.nt (.bi .isi (.cons (.var 1) (.cons (.tyn .tuple) .nil)))) (.cmp .ne (.lc (.nm 3) (.it (.var 1)) (.so (.nt (.call 19 (.cons (.var 3) .nil) .nil))) (.var 3)) (.lst .nil))) (
    .cons (.ret (.tup (.cons (.cst (.str "use")) (.cons (.cst (.str "order")) (.cons (.neg (.cst (.int 1))) .nil))))) <| .nil) .nil) <|
  .cons (.iff (.cmp .ne (.bi .sorted (.cons (.var 1) .nil)) (.lrg (.rg1 (.var 2)))) (
    .cons (.ret (.tup (.cons (.cst (.str "use")) (.cons (.cst (.str "order")) (.cons (.neg (.cst (.int 1))) .nil))))) <| .nil) .nil) <|
  .cons (.ret (.tup (.cons (.cst (.str "told")) (.cons (.bin .add (.slc (.var 0) .no (.so (.cst (.int 3)))) (.tup (.cons (.bi .tuple (.cons (.lc (.nm 4) (.it (.var 1)) .no (.idx (.idx (.var 0) (.cst (.int 3))) (.var 4))) .nil)) .nil))) .nil)))) <| .nil)⟩
/-- _law_refusal -/
def d_l_refusal : FD := ⟨1, 2, (
  .cons (.asg (.nm 1) (.lst (.cons (.hx 0 2) (.cons (.hx 0 1) (.cons (.hx 0 0) .nil))))) <|
  .cons (.asg (.nm 1) (.bin .add (.var 1) (.lst (.cons (.hx 0 4) (.cons (.hx 0 3) .nil))))) <|
  .cons (.iff (.hx 0 5) (
    .cons (.ret (.ite (.cmp .eq (.var 1) (.lst (.cons (.cst (.bl false)) (.cons (.cst (.bl true)) (.cons (.cst (.bl false)) (.cons (.cst (.bl false)) (.cons (.cst (.bl true)) .nil))))))) (.tup (.cons (.cst (.str "use")) (.cons (.hx 0 7) (.cons (.hx 0 6) .nil)))) (.tup (.cons (.cst (.str "odd")) .nil)))) <| .nil) .nil) <|
  .cons (.iff (.hx 0 8) (
    .cons (.ret (.ite (.cmp .eq (.var 1) (.lst (.cons (.cst (.bl true)) (.cons (.cst (.bl false)) (.cons (.cst (.bl false)) (.cons (.cst (.bl false)) (.cons (.cst (.bl true)) .nil))))))) (.tup (.cons (.cst (.str "paper")) (.cons (.hx 0 7) (.cons (.hx 0 6) .nil)))) (.tup (.cons (.cst (.str "odd")) .nil)))) <| .nil) .nil) <|
  .cons (.iff (.hx 0 9) (
    .cons (.ret (.ite (.cmp .eq (.var 1) (.lst (.cons (.cst (.bl false)) (.cons (.cst (.bl false)) (.cons (.cst (.bl false)) (.cons (.cst (.bl true)) (.cons (.cst (.bl true)) .nil))))))) (.tup (.cons (.cst (.str "text")) (.cons (.hx 0 11) (.cons (.hx 0 10) .nil)))) (.tup (.cons (.cst (.str "odd")) .nil)))) <| .nil) .nil) <|
  .cons (.ret (.tup (.cons (.cst (.str "odd")) .nil))) <| .nil)⟩
/-- turned_writes -/
def d_turned_writes : FD := ⟨2, 7, (
  .cons (.ex (.call 20 (.cons (.call 21 (.cons (.var 0) (.cons (.var 1) .nil)) .nil) (.cons (.cst (.str "order")) .nil)) .nil)) <|
  .cons (.asg (.tp [2, 3, 4, 5]) (.var 0)) <|
  .cons (.ret (.tup (.cons (.var 2) (.cons (.var 3) (.cons (.var 4) (.cons (.bi .tuple (.cons (.lc (.nm 6) (.it (.var 1)) .no (.idx (.var 5) (.var 6))) .nil)) .nil)))))) <| .nil)⟩
/-- _law_any_tests -/
def d_l_any_tests : FD := ⟨2, 6, (
  .cons (.asg (.nm 2) (.tup .nil)) <|
  .cons (.for_ (.nm 3) (.rg1 (.call 8 (.cons (.var 0) (.cons (.lst (.cons (.cst (.int 0)) (.cons (.cst (.int 0)) (.cons (.cst (.int 0)) (.cons (.cst (.int 1)) (.cons (.cst (.int 1)) (.cons (.cst (.int 2)) (.cons (.cst (.int 3)) .nil)))))))) .nil)) .nil)) (
    .cons (.par [4, 5] (.cons (.call 8 (.cons (.var 0) (.cons (.var 1) .nil)) .nil) (.cons (.call 8 (.cons (.var 0) (.cons (.lst (.cons (.cst (.str "is")) (.cons (.cst (.str "not")) .nil))) .nil)) .nil) .nil))) <|
    .cons (.asg (.nm 2) (.bin .add (.var 2) (.tup (.cons (.tup (.cons (.var 4) (.cons (.var 5) (.cons (.call 8 (.cons (.var 0) (.cons (.var 1) .nil)) .nil) .nil)))) .nil)))) <| .nil)) <|
  .cons (.ret (.var 2)) <| .nil)⟩
/-- _law_is_number -/
def d_l_is_number : FD := ⟨1, 1, (
  .cons (.ret (.an (.call 22 (.cons (.var 0) .nil) .nil) (.cmp .ge (.var 0) (.cst (.int 0))))) <| .nil)⟩
/-- want -/
def d_want : FD := ⟨3, 3, (
  .cons (.iff (.nt (.var 0)) (
    .cons (.rs 0 (.cons (.var 1) (.cons (.var 2) .nil))) <| .nil) .nil) <| .nil)⟩
/-- is_order_of -/
def d_is_order_of : FD := ⟨2, 3, (
  .cons (.iff (.orr (.nt (.bi .isi (.cons (.var 1) (.cons (.tyn .tuple) .nil)))) (.nt (.bi .all (.cons (.lc (.nm 2) (.it (.var 1)) .no (.call 23 (.cons (.var 2) .nil) .nil)) .nil)))) (
    .cons (.ret (.cst (.bl false))) <| .nil) .nil) <|
  .cons (.ret (.cmp .eq (.bi .sorted (.cons (.var 1) .nil)) (.lrg (.rg1 (.bi .len (.cons (.idx (.var 0) (.cst (.int 3))) .nil)))))) <| .nil)⟩
/-- _law_is_integer -/
def d_l_is_integer : FD := ⟨1, 1, (
  .cons (.ret (.an (.bi .isi (.cons (.var 0) (.cons (.tyn .int) .nil))) (.nt (.bi .isi (.cons (.var 0) (.cons (.tyn .bool) .nil)))))) <| .nil)⟩
/-- is_number -/
def d_is_number : FD := ⟨1, 1, (
  .cons (.ret (.an (.call 24 (.cons (.var 0) .nil) .nil) (.cmp .ge (.var 0) (.cst (.int 0))))) <| .nil)⟩
/-- is_integer -/
def d_is_integer : FD := ⟨1, 1, (
  .cons (.ret (.an (.bi .isi (.cons (.var 0) (.cons (.tyn .int) .nil))) (.nt (.bi .isi (.cons (.var 0) (.cons (.tyn .bool) .nil)))))) <| .nil)⟩
def hx : HX := ⟨"_law_error", [.isa "LiveError", .isa "RoutineError", .isa "PaperError", .isa "ValueError", .isa "TextError", .isa "NotUsable", .fld "at", .fld "word", .isa "InvalidPaper", .isa "InvalidText", .fld "field", .fld "line"], [[.b false, .b true, .b false, .b true, .b false, .b true, .a 1, .a 0, .b false, .b false, .no, .no]]⟩
def table : List En := [
  ⟨⟨"law", 1, []⟩, d_law, [.pos 0], none⟩,
  ⟨⟨"_law_feed", 1, []⟩, d_l_feed, [.pos 0], none⟩,
  ⟨⟨"_law_plan", 2, []⟩, d_l_plan, [.pos 0, .pos 1], none⟩,
  ⟨⟨"_law_draw", 2, []⟩, d_l_draw, [.pos 0, .pos 1], none⟩,
  ⟨⟨"_law_order", 2, []⟩, d_l_order, [.pos 0, .pos 1], none⟩,
  ⟨⟨"_law_near", 2, []⟩, d_l_near, [.pos 0, .pos 1], none⟩,
  ⟨⟨"_law_is_right", 2, []⟩, d_l_is_right, [.pos 0, .pos 1], none⟩,
  ⟨⟨"_law_are_two_right", 2, []⟩, d_l_are_two_right, [.pos 0, .pos 1], none⟩,
  ⟨⟨"_law_any", 2, []⟩, d_l_any, [.pos 0, .pos 1], none⟩,
  ⟨⟨"_law_words", 2, []⟩, d_l_words, [.pos 0, .pos 1], none⟩,
  ⟨⟨"_law_any_get", 4, []⟩, d_l_any_get, [.pos 0, .pos 1, .pos 2, .pos 3], none⟩,
  ⟨⟨"_law_any_put", 3, []⟩, d_l_any_put, [.pos 0, .pos 1, .pos 2], none⟩,
  ⟨⟨"_law_bent", 2, []⟩, d_l_bent, [.pos 0, .pos 1], none⟩,
  ⟨⟨"_law_strange", 1, []⟩, d_l_strange, [.pos 0], none⟩,
  ⟨⟨"_law_due", 2, []⟩, d_l_due, [.pos 0, .pos 1], none⟩,
  ⟨⟨"_law_refusal", 0, []⟩, d_l_refusal, [], some hx⟩,
  ⟨⟨"turned_writes", 2, []⟩, d_turned_writes, [.pos 0, .pos 1], none⟩,
  ⟨⟨"turned_writes", 0, ["order", "routine"]⟩, d_turned_writes, [.kw 1, .kw 0], none⟩,
  ⟨⟨"_law_any_tests", 2, []⟩, d_l_any_tests, [.pos 0, .pos 1], none⟩,
  ⟨⟨"_law_is_number", 1, []⟩, d_l_is_number, [.pos 0], none⟩,
  ⟨⟨"want", 2, []⟩, d_want, [.pos 0, .pos 1, .df 0 (.int (-1))], none⟩,
  ⟨⟨"is_order_of", 2, []⟩, d_is_order_of, [.pos 0, .pos 1], none⟩,
  ⟨⟨"_law_is_integer", 1, []⟩, d_l_is_integer, [.pos 0], none⟩,
  ⟨⟨"is_number", 1, []⟩, d_is_number, [.pos 0], none⟩,
  ⟨⟨"is_integer", 1, []⟩, d_is_integer, [.pos 0], none⟩]
def gls : List (Str × PV) := []
def tgs : TTab := { tg := table.map (·.tg), gl := gls, ls := true, xs := [("NotUsable", ["word", "at"])], sn := "_law_said", ln := ["_law_is_right"], sr := 15 }
abbrev I_law : Nat := 0
abbrev I_l_feed : Nat := 1
abbrev I_l_plan : Nat := 2
abbrev I_l_draw : Nat := 3
abbrev I_l_order : Nat := 4
abbrev I_l_near : Nat := 5
abbrev I_l_is_right : Nat := 6
abbrev I_l_are_two_right : Nat := 7
abbrev I_l_any : Nat := 8
abbrev I_l_words : Nat := 9
abbrev I_l_any_get : Nat := 10
abbrev I_l_any_put : Nat := 11
abbrev I_l_bent : Nat := 12
abbrev I_l_strange : Nat := 13
abbrev I_l_due : Nat := 14
abbrev I_l_refusal : Nat := 15
abbrev I_turned_writes : Nat := 16
abbrev I_turned_writes_1 : Nat := 17
abbrev I_l_any_tests : Nat := 18
abbrev I_l_is_number : Nat := 19
abbrev I_want : Nat := 20
abbrev I_is_order_of : Nat := 21
abbrev I_l_is_integer : Nat := 22
abbrev I_is_number : Nat := 23
abbrev I_is_integer : Nat := 24
theorem sc_law : FnScope ["_law_script", "_law_feed_here", "_law_lap", "_law_plan_here", "_law_turn", "_law_what"] ["_law_script"] (defScope (top 37)) := ⟨rfl, rfl, rfl, by decide +kernel, rfl, by decide +kernel, by decide +kernel⟩
theorem ch_law : chSs (tgs.at "law" "law") ["_law_script", "_law_feed_here", "_law_lap", "_law_plan_here", "_law_turn", "_law_what"] (defScope (top 37)) (fun _ => true) d_law.body (defBody (top 37)) = true := by decide +kernel
theorem sc_l_feed : FnScope ["_law_script", "_law_cell"] ["_law_script"] (defScope (top 18)) := ⟨rfl, rfl, rfl, by decide +kernel, rfl, by decide +kernel, by decide +kernel⟩
theorem ch_l_feed : chSs (tgs.at "_law_feed" "_law_feed") ["_law_script", "_law_cell"] (defScope (top 18)) (fun _ => true) d_l_feed.body (defBody (top 18)) = true := by decide +kernel
theorem sc_l_plan : FnScope ["_law_feed_here", "_law_most", "_law_bases", "_law_base", "_law_many", "_law_gets", "_law_words_here", "_law_known", "_law_tags", "_law_n", "_law_puts", "_law_lap"] ["_law_feed_here", "_law_most"] (defScope (top 27)) := ⟨rfl, rfl, rfl, by decide +kernel, rfl, by decide +kernel, by decide +kernel⟩
theorem ch_l_plan : chSs (tgs.at "_law_plan" "_law_plan") ["_law_feed_here", "_law_most", "_law_bases", "_law_base", "_law_many", "_law_gets", "_law_words_here", "_law_known", "_law_tags", "_law_n", "_law_puts", "_law_lap"] (defScope (top 27)) (fun _ => true) d_l_plan.body (defBody (top 27)) = true := by decide +kernel
theorem sc_l_draw : FnScope ["_law_feed_here", "_law_many", "_law_digit", "_law_cells", "_law_spot", "_law_cell", "_law_mixed"] ["_law_feed_here", "_law_many"] (defScope (top 19)) := ⟨rfl, rfl, rfl, by decide +kernel, rfl, by decide +kernel, by decide +kernel⟩
theorem ch_l_draw : chSs (tgs.at "_law_draw" "_law_draw") ["_law_feed_here", "_law_many", "_law_digit", "_law_cells", "_law_spot", "_law_cell", "_law_mixed"] (defScope (top 19)) (fun _ => true) d_l_draw.body (defBody (top 19)) = true := by decide +kernel
theorem sc_l_order : FnScope ["_law_feed_here", "_law_many", "_law_left", "_law_found", "_law_lap"] ["_law_feed_here", "_law_many"] (defScope (top 32)) := ⟨rfl, rfl, rfl, by decide +kernel, rfl, by decide +kernel, by decide +kernel⟩
theorem ch_l_order : chSs (tgs.at "_law_order" "_law_order") ["_law_feed_here", "_law_many", "_law_left", "_law_found", "_law_lap"] (defScope (top 32)) (fun _ => true) d_l_order.body (defBody (top 32)) = true := by decide +kernel
theorem sc_l_near : FnScope ["_law_feed_here", "_law_turn", "_law_n", "_law_some", "_law_odd"] ["_law_feed_here", "_law_turn"] (defScope (top 35)) := ⟨rfl, rfl, rfl, by decide +kernel, rfl, by decide +kernel, by decide +kernel⟩
theorem ch_l_near : chSs (tgs.at "_law_near" "_law_near") ["_law_feed_here", "_law_turn", "_law_n", "_law_some", "_law_odd"] (defScope (top 35)) (fun _ => true) d_l_near.body (defBody (top 35)) = true := by decide +kernel
theorem sc_l_is_right : FnScope ["_law_plan_here", "_law_what", "_law_shown", "_law_due_here", "_law_heard"] ["_law_plan_here", "_law_what"] (defScope (top 34)) := ⟨rfl, rfl, rfl, by decide +kernel, rfl, by decide +kernel, by decide +kernel⟩
theorem ch_l_is_right : chSs (tgs.at "_law_is_right" "_law_is_right") ["_law_plan_here", "_law_what", "_law_shown", "_law_due_here", "_law_heard"] (defScope (top 34)) (fun _ => true) d_l_is_right.body (defBody (top 34)) = true := by decide +kernel
theorem sc_l_are_two_right : FnScope ["_law_feed_here", "_law_plan_here", "_law_many", "_law_one", "_law_two", "_law_late", "_law_both", "_law_again", "_law_due_here", "_law_n"] ["_law_feed_here", "_law_plan_here"] (defScope (top 36)) := ⟨rfl, rfl, rfl, by decide +kernel, rfl, by decide +kernel, by decide +kernel⟩
theorem ch_l_are_two_right : chSs (tgs.at "_law_are_two_right" "_law_are_two_right") ["_law_feed_here", "_law_plan_here", "_law_many", "_law_one", "_law_two", "_law_late", "_law_both", "_law_again", "_law_due_here", "_law_n"] (defScope (top 36)) (fun _ => true) d_l_are_two_right.body (defBody (top 36)) = true := by decide +kernel
theorem sc_l_any : FnScope ["_law_feed_here", "_law_some"] ["_law_feed_here", "_law_some"] (defScope (top 20)) := ⟨rfl, rfl, rfl, by decide +kernel, rfl, by decide +kernel, by decide +kernel⟩
theorem ch_l_any : chSs (tgs.at "_law_any" "_law_any") ["_law_feed_here", "_law_some"] (defScope (top 20)) (fun _ => true) d_l_any.body (defBody (top 20)) = true := by decide +kernel
theorem sc_l_words : FnScope ["_law_feed_here", "_law_many", "_law_pool", "_law_turn", "_law_pace", "_law_letters", "_law_stem", "_law_lap", "_law_n"] ["_law_feed_here", "_law_many"] (defScope (top 23)) := ⟨rfl, rfl, rfl, by decide +kernel, rfl, by decide +kernel, by decide +kernel⟩
theorem ch_l_words : chSs (tgs.at "_law_words" "_law_words") ["_law_feed_here", "_law_many", "_law_pool", "_law_turn", "_law_pace", "_law_letters", "_law_stem", "_law_lap", "_law_n"] (defScope (top 23)) (fun _ => true) d_l_words.body (defBody (top 23)) = true := by decide +kernel
theorem sc_l_any_get : FnScope ["_law_feed_here", "_law_base", "_law_known", "_law_tag", "_law_starts", "_law_path", "_law_lap", "_law_some"] ["_law_feed_here", "_law_base", "_law_known", "_law_tag"] (defScope (top 25)) := ⟨rfl, rfl, rfl, by decide +kernel, rfl, by decide +kernel, by decide +kernel⟩
theorem ch_l_any_get : chSs (tgs.at "_law_any_get" "_law_any_get") ["_law_feed_here", "_law_base", "_law_known", "_law_tag", "_law_starts", "_law_path", "_law_lap", "_law_some"] (defScope (top 25)) (fun _ => true) d_l_any_get.body (defBody (top 25)) = true := by decide +kernel
theorem sc_l_any_put : FnScope ["_law_feed_here", "_law_base", "_law_known", "_law_some", "_law_spots", "_law_lap"] ["_law_feed_here", "_law_base", "_law_known"] (defScope (top 26)) := ⟨rfl, rfl, rfl, by decide +kernel, rfl, by decide +kernel, by decide +kernel⟩
theorem ch_l_any_put : chSs (tgs.at "_law_any_put" "_law_any_put") ["_law_feed_here", "_law_base", "_law_known", "_law_some", "_law_spots", "_law_lap"] (defScope (top 26)) (fun _ => true) d_l_any_put.body (defBody (top 26)) = true := by decide +kernel
theorem sc_l_bent : FnScope ["_law_feed_here", "_law_what", "_law_n", "_law_kind", "_law_odd"] ["_law_feed_here", "_law_what"] (defScope (top 31)) := ⟨rfl, rfl, rfl, by decide +kernel, rfl, by decide +kernel, by decide +kernel⟩
theorem ch_l_bent : chSs (tgs.at "_law_bent" "_law_bent") ["_law_feed_here", "_law_what", "_law_n", "_law_kind", "_law_odd"] (defScope (top 31)) (fun _ => true) d_l_bent.body (defBody (top 31)) = true := by decide +kernel
theorem sc_l_strange : FnScope ["_law_feed_here", "_law_some"] ["_law_feed_here"] (defScope (top 30)) := ⟨rfl, rfl, rfl, by decide +kernel, rfl, by decide +kernel, by decide +kernel⟩
theorem ch_l_strange : chSs (tgs.at "_law_strange" "_law_strange") ["_law_feed_here", "_law_some"] (defScope (top 30)) (fun _ => true) d_l_strange.body (defBody (top 30)) = true := by decide +kernel
theorem sc_l_due : FnScope ["_law_plan_here", "_law_what", "_law_many", "_law_one", "_law_n"] ["_law_plan_here", "_law_what"] (defScope (top 33)) := ⟨rfl, rfl, rfl, by decide +kernel, rfl, by decide +kernel, by decide +kernel⟩
theorem ch_l_due : chSs (tgs.at "_law_due" "_law_due") ["_law_plan_here", "_law_what", "_law_many", "_law_one", "_law_n"] (defScope (top 33)) (fun _ => true) d_l_due.body (defBody (top 33)) = true := by decide +kernel
theorem sc_l_refusal : FnScope ["_law_error", "_law_families"] ["_law_error"] (defScope (top 28)) := ⟨rfl, rfl, rfl, by decide +kernel, rfl, by decide +kernel, by decide +kernel⟩
theorem ch_l_refusal : chSs ({ tgs with cm := false, ls := false, hn := hx.hn, hs := 0, hq := hx.hq } : TTab) ["_law_error", "_law_families"] (defScope (top 28)) (fun _ => true) d_l_refusal.body (defBody (top 28)) = true := by decide +kernel
theorem sc_turned_writes : FnScope ["routine", "order", "make", "names", "reads", "writes", "k"] ["routine", "order"] (defScope (top 16)) := ⟨rfl, rfl, rfl, by decide +kernel, rfl, by decide +kernel, by decide +kernel⟩
theorem ch_turned_writes : chSs (tgs.at "turned_writes" "turned_writes") ["routine", "order", "make", "names", "reads", "writes", "k"] (defScope (top 16)) (fun _ => true) d_turned_writes.body (defBody (top 16)) = true := by decide +kernel
theorem sc_l_any_tests : FnScope ["_law_feed_here", "_law_some", "_law_found", "_law_lap", "_law_one", "_law_sign"] ["_law_feed_here", "_law_some"] (defScope (top 24)) := ⟨rfl, rfl, rfl, by decide +kernel, rfl, by decide +kernel, by decide +kernel⟩
theorem ch_l_any_tests : chSs (tgs.at "_law_any_tests" "_law_any_tests") ["_law_feed_here", "_law_some", "_law_found", "_law_lap", "_law_one", "_law_sign"] (defScope (top 24)) (fun _ => true) d_l_any_tests.body (defBody (top 24)) = true := by decide +kernel
theorem sc_l_is_number : FnScope ["_law_what"] ["_law_what"] (defScope (top 22)) := ⟨rfl, rfl, rfl, by decide +kernel, rfl, by decide +kernel, by decide +kernel⟩
theorem ch_l_is_number : chSs (tgs.at "_law_is_number" "_law_is_number") ["_law_what"] (defScope (top 22)) (fun _ => true) d_l_is_number.body (defBody (top 22)) = true := by decide +kernel
theorem sc_want : FnScope ["is_right", "word", "at"] ["is_right", "word", "at"] (defScope (top 13)) := ⟨rfl, rfl, rfl, by decide +kernel, rfl, by decide +kernel, by decide +kernel⟩
theorem ch_want : chSs (tgs.at "want" "want") ["is_right", "word", "at"] (defScope (top 13)) (fun _ => true) d_want.body (defBody (top 13)) = true := by decide +kernel
theorem sc_is_order_of : FnScope ["routine", "thing", "k"] ["routine", "thing"] (defScope (top 14)) := ⟨rfl, rfl, rfl, by decide +kernel, rfl, by decide +kernel, by decide +kernel⟩
theorem ch_is_order_of : chSs (tgs.at "is_order_of" "is_order_of") ["routine", "thing", "k"] (defScope (top 14)) (fun _ => true) d_is_order_of.body (defBody (top 14)) = true := by decide +kernel
theorem sc_l_is_integer : FnScope ["_law_what"] ["_law_what"] (defScope (top 21)) := ⟨rfl, rfl, rfl, by decide +kernel, rfl, by decide +kernel, by decide +kernel⟩
theorem ch_l_is_integer : chSs (tgs.at "_law_is_integer" "_law_is_integer") ["_law_what"] (defScope (top 21)) (fun _ => true) d_l_is_integer.body (defBody (top 21)) = true := by decide +kernel
theorem sc_is_number : FnScope ["thing"] ["thing"] (defScope (top 2)) := ⟨rfl, rfl, rfl, by decide +kernel, rfl, by decide +kernel, by decide +kernel⟩
theorem ch_is_number : chSs (tgs.at "is_number" "is_number") ["thing"] (defScope (top 2)) (fun _ => true) d_is_number.body (defBody (top 2)) = true := by decide +kernel
theorem sc_is_integer : FnScope ["thing"] ["thing"] (defScope (top 1)) := ⟨rfl, rfl, rfl, by decide +kernel, rfl, by decide +kernel, by decide +kernel⟩
theorem ch_is_integer : chSs (tgs.at "is_integer" "is_integer") ["thing"] (defScope (top 1)) (fun _ => true) d_is_integer.body (defBody (top 1)) = true := by decide +kernel
theorem sc_said : FnScope ["_law_query", "_law_error"] ["_law_query"] (defScope (top 29)) := ⟨rfl, rfl, rfl, by decide +kernel, rfl, by decide +kernel, by decide +kernel⟩
section
variable {K : PySem.W.Frag} {mg : Str → Option Value} {h : Heap} {w : World}
abbrev KOf {K : PySem.W.Frag} {h : Heap} (_ : K.In h) : PySem.W.Frag := K
theorem all_mk (X : K.In h) (G : h.Ns mainGlobals mg)
    {f0 : Addr}
    {od0 an0 : Option Addr}
    {sl0 : Array (Option Value)}
    {oc0 kV0 dc0 pm0 cd0 ct0 : Value}
    (a0 : PySem.W.nsIn K mainGlobals "law" = some (some (.ref f0)))
    (l0 : K.lookup f0 = some ⟨oc0, od0, .func (PySem.W.fnOf "law" "law" (defArgs (top 37)) (defBody (top 37)) (defScope (top 37)) .none kV0 dc0 pm0 an0 cd0 ct0), sl0⟩)
    (c0 : PySem.W.codeIn K cd0 "law" = true)
    {f1 : Addr}
    {od1 an1 : Option Addr}
    {sl1 : Array (Option Value)}
    {oc1 kV1 dc1 pm1 cd1 ct1 : Value}
    (a1 : PySem.W.nsIn K mainGlobals "_law_feed" = some (some (.ref f1)))
    (l1 : K.lookup f1 = some ⟨oc1, od1, .func (PySem.W.fnOf "_law_feed" "_law_feed" (defArgs (top 18)) (defBody (top 18)) (defScope (top 18)) .none kV1 dc1 pm1 an1 cd1 ct1), sl1⟩)
    (c1 : PySem.W.codeIn K cd1 "_law_feed" = true)
    {f2 : Addr}
    {od2 an2 : Option Addr}
    {sl2 : Array (Option Value)}
    {oc2 kV2 dc2 pm2 cd2 ct2 : Value}
    (a2 : PySem.W.nsIn K mainGlobals "_law_plan" = some (some (.ref f2)))
    (l2 : K.lookup f2 = some ⟨oc2, od2, .func (PySem.W.fnOf "_law_plan" "_law_plan" (defArgs (top 27)) (defBody (top 27)) (defScope (top 27)) .none kV2 dc2 pm2 an2 cd2 ct2), sl2⟩)
    (c2 : PySem.W.codeIn K cd2 "_law_plan" = true)
    {f3 : Addr}
    {od3 an3 : Option Addr}
    {sl3 : Array (Option Value)}
    {oc3 kV3 dc3 pm3 cd3 ct3 : Value}
    (a3 : PySem.W.nsIn K mainGlobals "_law_draw" = some (some (.ref f3)))
    (l3 : K.lookup f3 = some ⟨oc3, od3, .func (PySem.W.fnOf "_law_draw" "_law_draw" (defArgs (top 19)) (defBody (top 19)) (defScope (top 19)) .none kV3 dc3 pm3 an3 cd3 ct3), sl3⟩)
    (c3 : PySem.W.codeIn K cd3 "_law_draw" = true)
    {f4 : Addr}
    {od4 an4 : Option Addr}
    {sl4 : Array (Option Value)}
    {oc4 kV4 dc4 pm4 cd4 ct4 : Value}
    (a4 : PySem.W.nsIn K mainGlobals "_law_order" = some (some (.ref f4)))
    (l4 : K.lookup f4 = some ⟨oc4, od4, .func (PySem.W.fnOf "_law_order" "_law_order" (defArgs (top 32)) (defBody (top 32)) (defScope (top 32)) .none kV4 dc4 pm4 an4 cd4 ct4), sl4⟩)
    (c4 : PySem.W.codeIn K cd4 "_law_order" = true)
    {f5 : Addr}
    {od5 an5 : Option Addr}
    {sl5 : Array (Option Value)}
    {oc5 kV5 dc5 pm5 cd5 ct5 : Value}
    (a5 : PySem.W.nsIn K mainGlobals "_law_near" = some (some (.ref f5)))
    (l5 : K.lookup f5 = some ⟨oc5, od5, .func (PySem.W.fnOf "_law_near" "_law_near" (defArgs (top 35)) (defBody (top 35)) (defScope (top 35)) .none kV5 dc5 pm5 an5 cd5 ct5), sl5⟩)
    (c5 : PySem.W.codeIn K cd5 "_law_near" = true)
    {f6 : Addr}
    {od6 an6 : Option Addr}
    {sl6 : Array (Option Value)}
    {oc6 kV6 dc6 pm6 ct6 : Value}
    {cc6 P6 : Addr}
    (a6 : PySem.W.nsIn K mainGlobals "_law_is_right" = some (some (.ref f6)))
    (l6 : K.lookup f6 = some ⟨oc6, od6, .func (PySem.W.fnOf "_law_is_right" "_law_is_right" (defArgs (top 34)) (defBody (top 34)) (defScope (top 34)) .none kV6 dc6 pm6 an6 (.ref cc6) ct6), sl6⟩)
    (c6 : PySem.W.codeIn K (.ref cc6) "_law_is_right" = true)
    (tb6 : PySem.W.tabIn K "_law_is_right" = some (cc6, P6))
    (tn6 : K.lookup P6 = none)
    (th6 : PySem.W.codeHdIn K cc6 P6 = true)
    (tt6_ : h.get? P6 = some { cls := .none, data := .fields #[] })
    {f7 : Addr}
    {od7 an7 : Option Addr}
    {sl7 : Array (Option Value)}
    {oc7 kV7 dc7 pm7 cd7 ct7 : Value}
    (a7 : PySem.W.nsIn K mainGlobals "_law_are_two_right" = some (some (.ref f7)))
    (l7 : K.lookup f7 = some ⟨oc7, od7, .func (PySem.W.fnOf "_law_are_two_right" "_law_are_two_right" (defArgs (top 36)) (defBody (top 36)) (defScope (top 36)) .none kV7 dc7 pm7 an7 cd7 ct7), sl7⟩)
    (c7 : PySem.W.codeIn K cd7 "_law_are_two_right" = true)
    {f8 : Addr}
    {od8 an8 : Option Addr}
    {sl8 : Array (Option Value)}
    {oc8 kV8 dc8 pm8 cd8 ct8 : Value}
    (a8 : PySem.W.nsIn K mainGlobals "_law_any" = some (some (.ref f8)))
    (l8 : K.lookup f8 = some ⟨oc8, od8, .func (PySem.W.fnOf "_law_any" "_law_any" (defArgs (top 20)) (defBody (top 20)) (defScope (top 20)) .none kV8 dc8 pm8 an8 cd8 ct8), sl8⟩)
    (c8 : PySem.W.codeIn K cd8 "_law_any" = true)
    {f9 : Addr}
    {od9 an9 : Option Addr}
    {sl9 : Array (Option Value)}
    {oc9 kV9 dc9 pm9 cd9 ct9 : Value}
    (a9 : PySem.W.nsIn K mainGlobals "_law_words" = some (some (.ref f9)))
    (l9 : K.lookup f9 = some ⟨oc9, od9, .func (PySem.W.fnOf "_law_words" "_law_words" (defArgs (top 23)) (defBody (top 23)) (defScope (top 23)) .none kV9 dc9 pm9 an9 cd9 ct9), sl9⟩)
    (c9 : PySem.W.codeIn K cd9 "_law_words" = true)
    {f10 : Addr}
    {od10 an10 : Option Addr}
    {sl10 : Array (Option Value)}
    {oc10 kV10 dc10 pm10 cd10 ct10 : Value}
    (a10 : PySem.W.nsIn K mainGlobals "_law_any_get" = some (some (.ref f10)))
    (l10 : K.lookup f10 = some ⟨oc10, od10, .func (PySem.W.fnOf "_law_any_get" "_law_any_get" (defArgs (top 25)) (defBody (top 25)) (defScope (top 25)) .none kV10 dc10 pm10 an10 cd10 ct10), sl10⟩)
    (c10 : PySem.W.codeIn K cd10 "_law_any_get" = true)
    {f11 : Addr}
    {od11 an11 : Option Addr}
    {sl11 : Array (Option Value)}
    {oc11 kV11 dc11 pm11 cd11 ct11 : Value}
    (a11 : PySem.W.nsIn K mainGlobals "_law_any_put" = some (some (.ref f11)))
    (l11 : K.lookup f11 = some ⟨oc11, od11, .func (PySem.W.fnOf "_law_any_put" "_law_any_put" (defArgs (top 26)) (defBody (top 26)) (defScope (top 26)) .none kV11 dc11 pm11 an11 cd11 ct11), sl11⟩)
    (c11 : PySem.W.codeIn K cd11 "_law_any_put" = true)
    {f12 : Addr}
    {od12 an12 : Option Addr}
    {sl12 : Array (Option Value)}
    {oc12 kV12 dc12 pm12 cd12 ct12 : Value}
    (a12 : PySem.W.nsIn K mainGlobals "_law_bent" = some (some (.ref f12)))
    (l12 : K.lookup f12 = some ⟨oc12, od12, .func (PySem.W.fnOf "_law_bent" "_law_bent" (defArgs (top 31)) (defBody (top 31)) (defScope (top 31)) .none kV12 dc12 pm12 an12 cd12 ct12), sl12⟩)
    (c12 : PySem.W.codeIn K cd12 "_law_bent" = true)
    {f13 : Addr}
    {od13 an13 : Option Addr}
    {sl13 : Array (Option Value)}
    {oc13 kV13 dc13 pm13 cd13 ct13 : Value}
    (a13 : PySem.W.nsIn K mainGlobals "_law_strange" = some (some (.ref f13)))
    (l13 : K.lookup f13 = some ⟨oc13, od13, .func (PySem.W.fnOf "_law_strange" "_law_strange" (defArgs (top 30)) (defBody (top 30)) (defScope (top 30)) .none kV13 dc13 pm13 an13 cd13 ct13), sl13⟩)
    (c13 : PySem.W.codeIn K cd13 "_law_strange" = true)
    {f14 : Addr}
    {od14 an14 : Option Addr}
    {sl14 : Array (Option Value)}
    {oc14 kV14 dc14 pm14 cd14 ct14 : Value}
    (a14 : PySem.W.nsIn K mainGlobals "_law_due" = some (some (.ref f14)))
    (l14 : K.lookup f14 = some ⟨oc14, od14, .func (PySem.W.fnOf "_law_due" "_law_due" (defArgs (top 33)) (defBody (top 33)) (defScope (top 33)) .none kV14 dc14 pm14 an14 cd14 ct14), sl14⟩)
    (c14 : PySem.W.codeIn K cd14 "_law_due" = true)
    {f15 : Addr}
    {od15 an15 : Option Addr}
    {sl15 : Array (Option Value)}
    {oc15 kV15 dc15 pm15 cd15 ct15 : Value}
    (a15 : PySem.W.nsIn K mainGlobals "_law_refusal" = some (some (.ref f15)))
    (l15 : K.lookup f15 = some ⟨oc15, od15, .func (PySem.W.fnOf "_law_refusal" "_law_refusal" (defArgs (top 28)) (defBody (top 28)) (defScope (top 28)) .none kV15 dc15 pm15 an15 cd15 ct15), sl15⟩)
    (c15 : PySem.W.codeIn K cd15 "_law_refusal" = true)
    {f16 : Addr}
    {od16 an16 : Option Addr}
    {sl16 : Array (Option Value)}
    {oc16 kV16 dc16 pm16 cd16 ct16 : Value}
    (a16 : PySem.W.nsIn K mainGlobals "turned_writes" = some (some (.ref f16)))
    (l16 : K.lookup f16 = some ⟨oc16, od16, .func (PySem.W.fnOf "turned_writes" "turned_writes" (defArgs (top 16)) (defBody (top 16)) (defScope (top 16)) .none kV16 dc16 pm16 an16 cd16 ct16), sl16⟩)
    (c16 : PySem.W.codeIn K cd16 "turned_writes" = true)
    {f17 : Addr}
    {od17 an17 : Option Addr}
    {sl17 : Array (Option Value)}
    {oc17 kV17 dc17 pm17 cd17 ct17 : Value}
    (a17 : PySem.W.nsIn K mainGlobals "_law_any_tests" = some (some (.ref f17)))
    (l17 : K.lookup f17 = some ⟨oc17, od17, .func (PySem.W.fnOf "_law_any_tests" "_law_any_tests" (defArgs (top 24)) (defBody (top 24)) (defScope (top 24)) .none kV17 dc17 pm17 an17 cd17 ct17), sl17⟩)
    (c17 : PySem.W.codeIn K cd17 "_law_any_tests" = true)
    {f18 : Addr}
    {od18 an18 : Option Addr}
    {sl18 : Array (Option Value)}
    {oc18 kV18 dc18 pm18 cd18 ct18 : Value}
    (a18 : PySem.W.nsIn K mainGlobals "_law_is_number" = some (some (.ref f18)))
    (l18 : K.lookup f18 = some ⟨oc18, od18, .func (PySem.W.fnOf "_law_is_number" "_law_is_number" (defArgs (top 22)) (defBody (top 22)) (defScope (top 22)) .none kV18 dc18 pm18 an18 cd18 ct18), sl18⟩)
    (c18 : PySem.W.codeIn K cd18 "_law_is_number" = true)
    {f19 : Addr}
    {od19 an19 : Option Addr}
    {sl19 : Array (Option Value)}
    {oc19 kV19 dc19 pm19 cd19 ct19 : Value}
    {tt19 : Addr} {td19 : Option Addr} {tc19 : Value} {ts19 : Array (Option Value)} {tn19 : Nat} {tk19_0 : Tok}
    (a19 : PySem.W.nsIn K mainGlobals "want" = some (some (.ref f19)))
    (l19 : K.lookup f19 = some ⟨oc19, od19, .func (PySem.W.fnOf "want" "want" (defArgs (top 13)) (defBody (top 13)) (defScope (top 13)) (.ref tt19) kV19 dc19 pm19 an19 cd19 ct19), sl19⟩)
    (c19 : PySem.W.codeIn K cd19 "want" = true)
    (lt19 : K.lookup tt19 = some ⟨tc19, td19, .seq #[.int (-1) tk19_0] tn19, ts19⟩)
    {f20 : Addr}
    {od20 an20 : Option Addr}
    {sl20 : Array (Option Value)}
    {oc20 kV20 dc20 pm20 cd20 ct20 : Value}
    (a20 : PySem.W.nsIn K mainGlobals "is_order_of" = some (some (.ref f20)))
    (l20 : K.lookup f20 = some ⟨oc20, od20, .func (PySem.W.fnOf "is_order_of" "is_order_of" (defArgs (top 14)) (defBody (top 14)) (defScope (top 14)) .none kV20 dc20 pm20 an20 cd20 ct20), sl20⟩)
    (c20 : PySem.W.codeIn K cd20 "is_order_of" = true)
    {f21 : Addr}
    {od21 an21 : Option Addr}
    {sl21 : Array (Option Value)}
    {oc21 kV21 dc21 pm21 cd21 ct21 : Value}
    (a21 : PySem.W.nsIn K mainGlobals "_law_is_integer" = some (some (.ref f21)))
    (l21 : K.lookup f21 = some ⟨oc21, od21, .func (PySem.W.fnOf "_law_is_integer" "_law_is_integer" (defArgs (top 21)) (defBody (top 21)) (defScope (top 21)) .none kV21 dc21 pm21 an21 cd21 ct21), sl21⟩)
    (c21 : PySem.W.codeIn K cd21 "_law_is_integer" = true)
    {f22 : Addr}
    {od22 an22 : Option Addr}
    {sl22 : Array (Option Value)}
    {oc22 kV22 dc22 pm22 cd22 ct22 : Value}
    (a22 : PySem.W.nsIn K mainGlobals "is_number" = some (some (.ref f22)))
    (l22 : K.lookup f22 = some ⟨oc22, od22, .func (PySem.W.fnOf "is_number" "is_number" (defArgs (top 2)) (defBody (top 2)) (defScope (top 2)) .none kV22 dc22 pm22 an22 cd22 ct22), sl22⟩)
    (c22 : PySem.W.codeIn K cd22 "is_number" = true)
    {f23 : Addr}
    {od23 an23 : Option Addr}
    {sl23 : Array (Option Value)}
    {oc23 kV23 dc23 pm23 cd23 ct23 : Value}
    (a23 : PySem.W.nsIn K mainGlobals "is_integer" = some (some (.ref f23)))
    (l23 : K.lookup f23 = some ⟨oc23, od23, .func (PySem.W.fnOf "is_integer" "is_integer" (defArgs (top 1)) (defBody (top 1)) (defScope (top 1)) .none kV23 dc23 pm23 an23 cd23 ct23), sl23⟩)
    (c23 : PySem.W.codeIn K cd23 "is_integer" = true)
    (z0 : PySem.W.nsIn K mainGlobals "len" = some none)
    (z1 : PySem.W.nsIn K mainGlobals "int" = some none)
    (z2 : PySem.W.nsIn K mainGlobals "str" = some none)
    (z3 : PySem.W.nsIn K mainGlobals "repr" = some none)
    (z4 : PySem.W.nsIn K mainGlobals "list" = some none)
    (z5 : PySem.W.nsIn K mainGlobals "tuple" = some none)
    (z6 : PySem.W.nsIn K mainGlobals "min" = some none)
    (z7 : PySem.W.nsIn K mainGlobals "max" = some none)
    (z8 : PySem.W.nsIn K mainGlobals "range" = some none)
    (z9 : PySem.W.nsIn K mainGlobals "isinstance" = some none)
    (z10 : PySem.W.nsIn K mainGlobals "all" = some none)
    (z11 : PySem.W.nsIn K mainGlobals "any" = some none)
    (z12 : PySem.W.nsIn K mainGlobals "sorted" = some none)
    (z13 : PySem.W.nsIn K mainGlobals "sum" = some none)
    (z14 : PySem.W.nsIn K mainGlobals "zip" = some none)
    (z15 : PySem.W.nsIn K mainGlobals "enumerate" = some none)
    (z16 : PySem.W.nsIn K mainGlobals "bool" = some none)
    (z17 : PySem.W.nsIn K mainGlobals "dict" = some none)
    (z18 : PySem.W.nsIn K mainGlobals "set" = some none)
    (zs : PySem.W.nsIn K mainGlobals "super" = some none)
    (zv : PySem.W.nsIn K mainGlobals "ValueError" = some none)
    (zt : PySem.W.nsIn K cStatics "thirdparty.any" = some none)
    (gcl : PySem.W.specialIn K (.builtin "object.__class__") "__get__" = some (some (.builtin "getset_descriptor.__get__")))
    (gct : PySem.W.takesIn K (.builtin "object.__class__") = some true)
    {fs : Addr}
    {ods ans : Option Addr}
    {sls : Array (Option Value)}
    {ocs kVs dcs pms cds cts : Value}
    (as : PySem.W.nsIn K mainGlobals "_law_said" = some (some (.ref fs)))
    (ls : K.lookup fs = some ⟨ocs, ods, .func (PySem.W.fnOf "_law_said" "_law_said" (defArgs (top 29)) (defBody (top 29)) (defScope (top 29)) .none kVs dcs pms ans cds cts), sls⟩)
    (cs : PySem.W.codeIn K cds "_law_said" = true)
    {C_LiveError : Addr}
    (n_LiveError : PySem.W.nsIn K mainGlobals "LiveError" = some (some (.ref C_LiveError)))
    {C_RoutineError : Addr}
    (n_RoutineError : PySem.W.nsIn K mainGlobals "RoutineError" = some (some (.ref C_RoutineError)))
    {C_PaperError : Addr}
    (n_PaperError : PySem.W.nsIn K mainGlobals "PaperError" = some (some (.ref C_PaperError)))
    {C_TextError : Addr}
    (n_TextError : PySem.W.nsIn K mainGlobals "TextError" = some (some (.ref C_TextError)))
    {C_NotUsable : Addr}
    (n_NotUsable : PySem.W.nsIn K mainGlobals "NotUsable" = some (some (.ref C_NotUsable)))
    {C_InvalidPaper : Addr}
    (n_InvalidPaper : PySem.W.nsIn K mainGlobals "InvalidPaper" = some (some (.ref C_InvalidPaper)))
    {C_InvalidText : Addr}
    (n_InvalidText : PySem.W.nsIn K mainGlobals "InvalidText" = some (some (.ref C_InvalidText)))
    {C_LinkError : Addr}
    (n_LinkError : PySem.W.nsIn K mainGlobals "LinkError" = some (some (.ref C_LinkError)))
    {fI_NotUsable cl_NotUsable cda_NotUsable Nn_NotUsable : Addr}
    {nm_NotUsable cq_NotUsable : Str}
    {kV_NotUsable doc_NotUsable pm_NotUsable ct_NotUsable oc_NotUsable : Value}
    {an_NotUsable od_NotUsable : Option Addr}
    {osl_NotUsable : Array (Option Value)}
    {ccl_NotUsable cL_NotUsable : Value}
    {cdd_NotUsable cld_NotUsable : Option Addr}
    {ccs_NotUsable csl_NotUsable : Array (Option Value)}
    {vs_NotUsable : Array Value}
    {file_NotUsable : Str}
    {tf_NotUsable : Tok}
    {bs_NotUsable bm_NotUsable : List Value}
    {sn_NotUsable : List Str}
    {sub_NotUsable : List Value}
    {ab_NotUsable : Bool}
    {col_NotUsable : Option Bool}
    {dd_NotUsable : Option Addr}
    {k0_NotUsable k1_NotUsable k2_NotUsable k3_NotUsable k5_NotUsable : Option Value}
    (x1_NotUsable : K.lookup C_NotUsable = some (excClassObj nm_NotUsable cq_NotUsable C_NotUsable Nn_NotUsable bs_NotUsable bm_NotUsable true sn_NotUsable sub_NotUsable ab_NotUsable col_NotUsable dd_NotUsable k0_NotUsable k1_NotUsable k2_NotUsable k3_NotUsable k5_NotUsable "ValueError.__new__"))
    (x2_NotUsable : PySem.HandSPX.refsVE bm_NotUsable = true)
    (x3_NotUsable : PySem.W.findIn K (.ref C_NotUsable) "__setattr__" = some (some (.builtin "object.__setattr__")))
    (x4_NotUsable : PySem.W.subIn K (.ref C_NotUsable) (.type "BaseException") = some true)
    (x5_NotUsable : PySem.W.typeIn K (.ref C_NotUsable) = some (.type "type"))
    (x6_NotUsable : PySem.W.keepIn K (.ref C_NotUsable) = true)
    (x7_NotUsable : PySem.W.findIn K (.ref C_NotUsable) "__init__" = some (some (.ref fI_NotUsable)))
    (x8_NotUsable : PySem.W.typeIn K (.ref fI_NotUsable) = some (.type "function"))
    (x9_NotUsable : K.lookup fI_NotUsable = some ⟨oc_NotUsable, od_NotUsable, .func (PySem.W.ksFn "__init__" "NotUsable.__init__" (defArgs (clsFst (top 10))) (defBody (clsFst (top 10))) (defScope (clsFst (top 10))) .none kV_NotUsable doc_NotUsable pm_NotUsable an_NotUsable (.ref cda_NotUsable) ct_NotUsable cl_NotUsable), osl_NotUsable⟩)
    (xa_NotUsable : PySem.W.codeIn K (.ref cda_NotUsable) "NotUsable.__init__" = true)
    (xb_NotUsable : K.lookup cda_NotUsable = some ⟨ccl_NotUsable, cdd_NotUsable, .fields vs_NotUsable, ccs_NotUsable⟩)
    (xc_NotUsable : vs_NotUsable[2]? = some (.str file_NotUsable tf_NotUsable))
    (xd_NotUsable : ((PySem.Challenge.pw_amidlinks_k06_whole_writes_turned.main.file : Str) == file_NotUsable) = true)
    (xe_NotUsable : K.lookup cl_NotUsable = some ⟨cL_NotUsable, cld_NotUsable, .cell (some (.ref C_NotUsable)), csl_NotUsable⟩)
    (xf_NotUsable : PySem.W.ks_superIn K C_NotUsable C_NotUsable "__init__" = some (some (.builtin "ValueError.__init__")))
    (xg_NotUsable : PySem.W.subIn K (.ref C_NotUsable) (.type "ValueError") = some true)
    (xh_NotUsable : PySem.W.mroIn K C_NotUsable (.ref C_NotUsable) = some true)
    (xi_NotUsable_word : PySem.W.findIn K (.ref C_NotUsable) "word" = some none)
    (xi_NotUsable_at : PySem.W.findIn K (.ref C_NotUsable) "at" = some none)
    (y1_NotUsable : PySem.W.findIn K (.ref C_NotUsable) "__getattribute__" = some (some (.builtin "BaseException.__getattribute__")))
    (y2_NotUsable : PySem.W.findIn K (.ref C_NotUsable) "__getattr__" = some none)
    (y3_NotUsable : PySem.W.hasDictIn K C_NotUsable = true)
    (y4_NotUsable : PySem.W.findIn K (.ref C_NotUsable) "__class__" = some (some (.builtin "object.__class__")))
    (y5_NotUsable : PySem.W.mroIn K C_NotUsable (.type "object") = some true)
    (y6_NotUsable : PySem.W.exmOne K (.ref C_NotUsable) (.ref C_LinkError) = some true)
    (k_NotUsable_LiveError : PySem.W.kitOne K (.ref C_NotUsable) (.ref C_LiveError) = some false)
    (k_NotUsable_RoutineError : PySem.W.kitOne K (.ref C_NotUsable) (.ref C_RoutineError) = some true)
    (k_NotUsable_PaperError : PySem.W.kitOne K (.ref C_NotUsable) (.ref C_PaperError) = some false)
    (k_NotUsable_ValueError : PySem.W.kitOne K (.ref C_NotUsable) (.type "ValueError") = some true)
    (k_NotUsable_TextError : PySem.W.kitOne K (.ref C_NotUsable) (.ref C_TextError) = some false)
    (k_NotUsable_NotUsable : PySem.W.kitOne K (.ref C_NotUsable) (.ref C_NotUsable) = some true)
    (k_NotUsable_InvalidPaper : PySem.W.kitOne K (.ref C_NotUsable) (.ref C_InvalidPaper) = some false)
    (k_NotUsable_InvalidText : PySem.W.kitOne K (.ref C_NotUsable) (.ref C_InvalidText) = some false)
    (nd : [P6].Nodup) :
    ∃ (CT : CTab) (cs : List (Str × Addr × Addr)), cs.map (·.1) = tgs.ln ∧ (∀ p ∈ cs, h.get? p.2.2 = some { cls := .none, data := .fields #[] }) ∧ (∀ p ∈ cs, K.lookup p.2.2 = none) ∧ (∀ p ∈ cs, PySem.W.tabIn K p.1 = some p.2) ∧ (∀ p ∈ cs, PySem.W.codeHdIn K p.2.1 p.2.2 = true) ∧ (cs.map (·.2.2)).Nodup ∧
      (∀ e ∈ table, EnOk CT K mg tgs e) ∧ (∀ x ∈ bltNames, mg x = none) ∧ (∀ p ∈ tgs.gl, GlOk K mg p.1 p.2) ∧ (tgs.ls = true → ∀ base : Heap, (∀ x c Pl, tgs.ln.any (seq x) = true → PySem.W.tabIn K x = some (c, Pl) → LamX.TabB base mg c Pl) → LsTop CT PySem.Challenge.pw_amidlinks_k06_whole_writes_turned w K mg base tgs table) := by
  have hms : mg "super" = none := PySem.W.mg_none_of X G zs
  have hmv : mg "ValueError" = none := PySem.W.mg_none_of X G zv
  generalize hCT : ctOf ([(C_NotUsable, ["word", "at"])] : List (Addr × List Str)) = CT
  have HD : HotDef CT K mg tgs d_l_refusal hx "_law_refusal" := by
    subst hCT
    refine HotDef.mk' l15 c15 (PySem.W.mg_of X G a15) sc_l_refusal rfl ch_l_refusal (fun u => rfl) (HxsOk.get (qs := hx.hq) (ls := hx.ans) (cs := [(C_NotUsable, ["word", "at"])]) ?_)
    exact ⟨⟨⟨y1_NotUsable, y2_NotUsable, x4_NotUsable, y3_NotUsable, y4_NotUsable, gcl, gct, y5_NotUsable⟩, ⟨y1_NotUsable, y2_NotUsable, x4_NotUsable, y3_NotUsable⟩, ⟨haB (PySem.W.mg_of X G n_LiveError) k_NotUsable_LiveError, ⟨haB (PySem.W.mg_of X G n_RoutineError) k_NotUsable_RoutineError, ⟨haB (PySem.W.mg_of X G n_PaperError) k_NotUsable_PaperError, ⟨haV hmv k_NotUsable_ValueError, ⟨haB (PySem.W.mg_of X G n_TextError) k_NotUsable_TextError, ⟨haB (PySem.W.mg_of X G n_NotUsable) k_NotUsable_NotUsable, ⟨haF rfl xi_NotUsable_at, ⟨haF rfl xi_NotUsable_word, ⟨haB (PySem.W.mg_of X G n_InvalidPaper) k_NotUsable_InvalidPaper, ⟨haB (PySem.W.mg_of X G n_InvalidText) k_NotUsable_InvalidText, ⟨haN, ⟨haN, trivial⟩⟩⟩⟩⟩⟩⟩⟩⟩⟩⟩⟩⟩, trivial⟩
  have SD : SdOk CT K mg "_law_said" "_law_refusal" := by
    subst hCT
    refine SdOk.mk' (st := top 29) rfl (PySem.W.mg_of X G as) ls cs sc_said (fun u => rfl) rfl rfl rfl rfl (PySem.W.mg_of X G n_LinkError) (by decide +kernel) (fun i C ns hi => ?_)
    match i, hi with
    | 0, hi => cases hi; exact y6_NotUsable
    | i + 1, hi => simp [ctOf] at hi
  have M_NotUsable : MkOk PySem.Challenge.pw_amidlinks_k06_whole_writes_turned w K mg C_NotUsable ["word", "at"] := by
    refine MkOk.mk2 (XIn.mk' (st := (clsFst (top 10))) (xs := ["self", "word", "at"]) x1_NotUsable x2_NotUsable x3_NotUsable x4_NotUsable x5_NotUsable x6_NotUsable x7_NotUsable x8_NotUsable x9_NotUsable xa_NotUsable xb_NotUsable xc_NotUsable xd_NotUsable xe_NotUsable (fun us hl => ?_) ⟨_, rfl, rfl⟩ xf_NotUsable zt xg_NotUsable xh_NotUsable (by decide +kernel) (by decide +kernel) (by decide +kernel) rfl rfl rfl (by decide +kernel) (by decide +kernel) rfl (by decide +kernel) (fun z hz => ?_)) rfl ?_ hms (by decide +kernel)
    · match us, hl with
      | [_, _, _], _ => rfl
    · simp only [List.tail_cons, List.mem_cons, List.not_mem_nil, or_false] at hz
      rcases hz with rfl | rfl
      · exact ⟨xi_NotUsable_word, by decide +kernel⟩
      · exact ⟨xi_NotUsable_at, by decide +kernel⟩
    · exact fun L f cda cc => ⟨rfl, _, rfl⟩
  refine ⟨CT, [("_law_is_right", cc6, P6)], rfl, by simp only [List.forall_mem_cons, List.not_mem_nil, false_imp_iff, implies_true, and_true]; exact tt6_, by simp only [List.forall_mem_cons, List.not_mem_nil, false_imp_iff, implies_true, and_true]; exact tn6, by simp only [List.forall_mem_cons, List.not_mem_nil, false_imp_iff, implies_true, and_true]; exact tb6, by simp only [List.forall_mem_cons, List.not_mem_nil, false_imp_iff, implies_true, and_true]; exact th6, nd, ?_, ?_, ?_, ?_⟩
  · simp only [table, List.forall_mem_cons, List.not_mem_nil, false_imp_iff, implies_true, and_true]
    refine ⟨?_, ?_, ?_, ?_, ?_, ?_, ?_, ?_, ?_, ?_, ?_, ?_, ?_, ?_, ?_, ?_, ?_, ?_, ?_, ?_, ?_, ?_, ?_, ?_, ?_⟩
    · exact .inl (DefOk.mk0 l0 c0 (PySem.W.mg_of X G a0) rfl sc_law rfl rfl ch_law rfl (fun z => absurd z (by decide +kernel)) (by decide) fun us ws h1 h2 => match us, h1, ws, h2 with | [_], _, [], _ => rfl)
    · exact .inl (DefOk.mk0 l1 c1 (PySem.W.mg_of X G a1) rfl sc_l_feed rfl rfl ch_l_feed rfl (fun z => absurd z (by decide +kernel)) (by decide) fun us ws h1 h2 => match us, h1, ws, h2 with | [_], _, [], _ => rfl)
    · exact .inl (DefOk.mk0 l2 c2 (PySem.W.mg_of X G a2) rfl sc_l_plan rfl rfl ch_l_plan rfl (fun z => absurd z (by decide +kernel)) (by decide) fun us ws h1 h2 => match us, h1, ws, h2 with | [_, _], _, [], _ => rfl)
    · exact .inl (DefOk.mk0 l3 c3 (PySem.W.mg_of X G a3) rfl sc_l_draw rfl rfl ch_l_draw rfl (fun z => absurd z (by decide +kernel)) (by decide) fun us ws h1 h2 => match us, h1, ws, h2 with | [_, _], _, [], _ => rfl)
    · exact .inl (DefOk.mk0 l4 c4 (PySem.W.mg_of X G a4) rfl sc_l_order rfl rfl ch_l_order rfl (fun z => absurd z (by decide +kernel)) (by decide) fun us ws h1 h2 => match us, h1, ws, h2 with | [_, _], _, [], _ => rfl)
    · exact .inl (DefOk.mk0 l5 c5 (PySem.W.mg_of X G a5) rfl sc_l_near rfl rfl ch_l_near rfl (fun z => absurd z (by decide +kernel)) (by decide) fun us ws h1 h2 => match us, h1, ws, h2 with | [_, _], _, [], _ => rfl)
    · exact .inl (DefOk.mk0 l6 c6 (PySem.W.mg_of X G a6) rfl sc_l_is_right rfl rfl ch_l_is_right rfl (fun _ => ⟨a6, _, rfl⟩) (by decide) fun us ws h1 h2 => match us, h1, ws, h2 with | [_, _], _, [], _ => rfl)
    · exact .inl (DefOk.mk0 l7 c7 (PySem.W.mg_of X G a7) rfl sc_l_are_two_right rfl rfl ch_l_are_two_right rfl (fun z => absurd z (by decide +kernel)) (by decide) fun us ws h1 h2 => match us, h1, ws, h2 with | [_, _], _, [], _ => rfl)
    · exact .inl (DefOk.mk0 l8 c8 (PySem.W.mg_of X G a8) rfl sc_l_any rfl rfl ch_l_any rfl (fun z => absurd z (by decide +kernel)) (by decide) fun us ws h1 h2 => match us, h1, ws, h2 with | [_, _], _, [], _ => rfl)
    · exact .inl (DefOk.mk0 l9 c9 (PySem.W.mg_of X G a9) rfl sc_l_words rfl rfl ch_l_words rfl (fun z => absurd z (by decide +kernel)) (by decide) fun us ws h1 h2 => match us, h1, ws, h2 with | [_, _], _, [], _ => rfl)
    · exact .inl (DefOk.mk0 l10 c10 (PySem.W.mg_of X G a10) rfl sc_l_any_get rfl rfl ch_l_any_get rfl (fun z => absurd z (by decide +kernel)) (by decide) fun us ws h1 h2 => match us, h1, ws, h2 with | [_, _, _, _], _, [], _ => rfl)
    · exact .inl (DefOk.mk0 l11 c11 (PySem.W.mg_of X G a11) rfl sc_l_any_put rfl rfl ch_l_any_put rfl (fun z => absurd z (by decide +kernel)) (by decide) fun us ws h1 h2 => match us, h1, ws, h2 with | [_, _, _], _, [], _ => rfl)
    · exact .inl (DefOk.mk0 l12 c12 (PySem.W.mg_of X G a12) rfl sc_l_bent rfl rfl ch_l_bent rfl (fun z => absurd z (by decide +kernel)) (by decide) fun us ws h1 h2 => match us, h1, ws, h2 with | [_, _], _, [], _ => rfl)
    · exact .inl (DefOk.mk0 l13 c13 (PySem.W.mg_of X G a13) rfl sc_l_strange rfl rfl ch_l_strange rfl (fun z => absurd z (by decide +kernel)) (by decide) fun us ws h1 h2 => match us, h1, ws, h2 with | [_], _, [], _ => rfl)
    · exact .inl (DefOk.mk0 l14 c14 (PySem.W.mg_of X G a14) rfl sc_l_due rfl rfl ch_l_due rfl (fun z => absurd z (by decide +kernel)) (by decide) fun us ws h1 h2 => match us, h1, ws, h2 with | [_, _], _, [], _ => rfl)
    · exact .inr ⟨hx, rfl, HD, rfl⟩
    · exact .inl (DefOk.mk0 l16 c16 (PySem.W.mg_of X G a16) rfl sc_turned_writes rfl rfl ch_turned_writes rfl (fun z => absurd z (by decide +kernel)) (by decide) fun us ws h1 h2 => match us, h1, ws, h2 with | [_, _], _, [], _ => rfl)
    · exact .inl (DefOk.mk0 l16 c16 (PySem.W.mg_of X G a16) rfl sc_turned_writes rfl rfl ch_turned_writes rfl (fun z => absurd z (by decide +kernel)) (by decide) fun us ws h1 h2 => match us, h1, ws, h2 with | [], _, [_, _], _ => rfl)
    · exact .inl (DefOk.mk0 l17 c17 (PySem.W.mg_of X G a17) rfl sc_l_any_tests rfl rfl ch_l_any_tests rfl (fun z => absurd z (by decide +kernel)) (by decide) fun us ws h1 h2 => match us, h1, ws, h2 with | [_, _], _, [], _ => rfl)
    · exact .inl (DefOk.mk0 l18 c18 (PySem.W.mg_of X G a18) rfl sc_l_is_number rfl rfl ch_l_is_number rfl (fun z => absurd z (by decide +kernel)) (by decide) fun us ws h1 h2 => match us, h1, ws, h2 with | [_], _, [], _ => rfl)
    · exact .inl (DefOk.mkD (its := [.int (-1) tk19_0]) l19 lt19 c19 (PySem.W.mg_of X G a19) rfl sc_want rfl rfl ch_want rfl (fun z => absurd z (by decide +kernel)) (by decide) (by simp only [DfOk]; refine ⟨?_, ?_⟩ <;> first | trivial | exact ⟨_, rfl⟩ | rfl) fun us ws h1 h2 => match us, h1, ws, h2 with | [_, _], _, [], _ => ⟨_, rfl, rfl⟩)
    · exact .inl (DefOk.mk0 l20 c20 (PySem.W.mg_of X G a20) rfl sc_is_order_of rfl rfl ch_is_order_of rfl (fun z => absurd z (by decide +kernel)) (by decide) fun us ws h1 h2 => match us, h1, ws, h2 with | [_, _], _, [], _ => rfl)
    · exact .inl (DefOk.mk0 l21 c21 (PySem.W.mg_of X G a21) rfl sc_l_is_integer rfl rfl ch_l_is_integer rfl (fun z => absurd z (by decide +kernel)) (by decide) fun us ws h1 h2 => match us, h1, ws, h2 with | [_], _, [], _ => rfl)
    · exact .inl (DefOk.mk0 l22 c22 (PySem.W.mg_of X G a22) rfl sc_is_number rfl rfl ch_is_number rfl (fun z => absurd z (by decide +kernel)) (by decide) fun us ws h1 h2 => match us, h1, ws, h2 with | [_], _, [], _ => rfl)
    · exact .inl (DefOk.mk0 l23 c23 (PySem.W.mg_of X G a23) rfl sc_is_integer rfl rfl ch_is_integer rfl (fun z => absurd z (by decide +kernel)) (by decide) fun us ws h1 h2 => match us, h1, ws, h2 with | [_], _, [], _ => rfl)
  · simp only [bltNames, List.forall_mem_cons, List.not_mem_nil, false_imp_iff, implies_true, and_true]
    exact ⟨PySem.W.mg_none_of X G z0, PySem.W.mg_none_of X G z1, PySem.W.mg_none_of X G z2, PySem.W.mg_none_of X G z3, PySem.W.mg_none_of X G z4, PySem.W.mg_none_of X G z5, PySem.W.mg_none_of X G z6, PySem.W.mg_none_of X G z7, PySem.W.mg_none_of X G z8, PySem.W.mg_none_of X G z9, PySem.W.mg_none_of X G z10, PySem.W.mg_none_of X G z11, PySem.W.mg_none_of X G z12, PySem.W.mg_none_of X G z13, PySem.W.mg_none_of X G z14, PySem.W.mg_none_of X G z15, PySem.W.mg_none_of X G z16, PySem.W.mg_none_of X G z17, PySem.W.mg_none_of X G z18⟩
  · simp only [tgs, gls, List.forall_mem_cons, List.not_mem_nil, false_imp_iff, implies_true, and_true]
  · intro _ base TB
    refine ⟨fun i x ns hi => ?_, TB, fun _ => ⟨_, hx, rfl, rfl, SD, HD⟩⟩
    subst hCT
    match i, hi with
    | 0, hi => cases hi; exact ⟨C_NotUsable, rfl, PySem.W.mg_of X G n_NotUsable, M_NotUsable⟩
    | i + 1, hi => simp [tgs] at hi
end
end K06
namespace K06
open PySem Ev Pl
/-! ### the feed -/
def feedL (cells : List Int) (place left drawn : Int) : List (Key × PV) := [(.inr "cells", .lst (cells.map PV.int)), (.inr "spot", .int place), (.inr "left", .int left), (.inr "drawn", .int drawn)]
section
variable (cells : List Int) (place left drawn x : Int)
theorem fl_len : (feedL cells place left drawn).length = 4 := rfl
theorem gC : getK (feedL cells place left drawn) (.inr "cells") = some (.lst (cells.map PV.int)) := rfl
theorem gS : getK (feedL cells place left drawn) (.inr "spot") = some (.int place) := rfl
theorem gL : getK (feedL cells place left drawn) (.inr "left") = some (.int left) := rfl
theorem gD : getK (feedL cells place left drawn) (.inr "drawn") = some (.int drawn) := rfl
theorem pS : putK (feedL cells place left drawn) (.inr "spot") (.int x) = feedL cells x left drawn := rfl
theorem pL : putK (feedL cells place left drawn) (.inr "left") (.int x) = feedL cells place x drawn := rfl
theorem pD : putK (feedL cells place left drawn) (.inr "drawn") (.int x) = feedL cells place left x := rfl
end
/-- the feed is the first cell -/
def Fd (hp : List Cell) : Prop := ∃ cells place left drawn rest, hp = .tb (lamQ "_law_is_right") :: .dk (feedL cells place left drawn) :: rest
theorem Fd.mk {cells : List Int} {place left drawn : Int} {rest : List Cell} : Fd (.tb (lamQ "_law_is_right") :: .dk (feedL cells place left drawn) :: rest) := ⟨_, _, _, _, _, rfl⟩
theorem Fd.app {hp cs : List Cell} (h : Fd hp) : Fd (hp ++ cs) := by
  obtain ⟨_, _, _, _, _, rfl⟩ := h
  exact ⟨_, _, _, _, _, rfl⟩
theorem modpos {i j : Int} (h : 1 ≤ j) : 0 ≤ i % j ∧ i % j < j := ⟨Int.emod_nonneg _ (by omega), Int.emod_lt_of_pos _ (by omega)⟩
theorem draw_ok (k : Nat) {hp : List Cell} (F : Fd hp) {many : Int} (h1 : 1 ≤ many) (h2 : many ≤ 1000000) : Gives (calls table (k + 1) I_l_draw [.ref 1, .int many] [] hp) fun r hp => Fd hp ∧ ∃ v, r = .val (.int v) ∧ 0 ≤ v ∧ v < many := by
  obtain ⟨cells, place, left, drawn, rest, rfl⟩ := F
  refine gives_run (c := calls table k) (d := d_l_draw) (as := [.ref 1, .int many]) rfl ?_
  have hm : many.natAbs.log2 < 9000 := by
    have : many.natAbs ≤ 1000000 := by omega
    by_cases q : many.natAbs = 0
    · simp [q]
    · have := (Nat.log2_lt q (k := 20)).mpr (by omega)
      omega
  have hm0 : 0 < many := by omega
  simp +singlePass only [d_l_draw, gC, gS, gL, gD, pS, pL, pD, fl_len, decide_eq_true_eq, eq_ints, hm, hm0]
  split
  · exact ⟨Fd.mk, _, rfl, modpos h1⟩
  · split
    · rename_i hc
      have hl : 0 < (List.map PV.int cells).length := by
        cases cells with
        | nil => cases hc
        | cons _ _ => simp
      refine ⟨by omega, Ok_at (Int.emod_nonneg _ (by omega)) (Int.emod_lt_of_pos _ (by omega)) fun y hy => ?_⟩
      obtain ⟨z, rfl⟩ : ∃ z, y = .int z := by
        rw [List.getElem?_map] at hy
        cases q : cells[(place % ↑(List.map PV.int cells).length).toNat]? with
        | none => rw [q] at hy; cases hy
        | some z => rw [q] at hy; cases hy; exact ⟨z, rfl⟩
      simp +singlePass only [gC, gS, gL, gD, pS, pL, pD, fl_len, decide_eq_true_eq, hm, hm0]
      split
      · split
        · refine ⟨by omega, ?_⟩
          repeat' apply And.intro
          all_goals first | omega | decide | exact Fd.mk | exact ⟨_, rfl, modpos h1⟩
        · repeat' apply And.intro
          all_goals first | omega | decide | exact Fd.mk | exact ⟨_, rfl, modpos h1⟩
      · repeat' apply And.intro
        all_goals first | omega | decide | exact Fd.mk | exact ⟨_, rfl, modpos h1⟩
    · repeat' apply And.intro
      all_goals first | omega | decide | exact Fd.mk | exact ⟨_, rfl, modpos h1⟩
theorem any_ok (k : Nat) {hp : List Cell} (F : Fd hp) {xs : List PV} (h1 : 1 ≤ xs.length) (h2 : xs.length ≤ 1000000) : Gives (calls table (k + 2) I_l_any [.ref 1, .lst xs] [] hp) fun r hp => Fd hp ∧ ∃ y ∈ xs, r = .val y := by
  refine gives_run (c := calls table (k + 1)) (d := d_l_any) (as := [.ref 1, .lst xs]) rfl ?_
  simp +singlePass only [d_l_any]
  refine Ok_callW (draw_ok k F (by omega) (by omega)) fun r hp' ⟨F', v, hr, h0, h1⟩ => ?_
  subst hr
  simp +singlePass only [eq_self]
  refine Ok_at h0 h1 fun y hy => ?_
  simp +singlePass only [eq_self]
  exact ⟨F', y, List.mem_of_getElem? hy, rfl⟩
end K06
namespace K06
open PySem Ev Pl
theorem words_ok (k : Nat) {hp : List Cell} (F : Fd hp) {many : Int} (h1 : 0 ≤ many) (h2 : many ≤ 1000) : Gives (calls table (k + 2) I_l_words [.ref 1, .int many] [] hp) fun r hp => Fd hp ∧ ∃ ws : List Str, r = .new (ws.map PV.str) ∧ (ws.length : Int) = many ∧ ∀ w ∈ ws, Tx 12 w := by
  refine gives_run (c := calls table (k + 1)) (d := d_l_words) (as := [.ref 1, .int many]) rfl ?_
  simp +failIfUnchanged only [d_l_words]
  refine Ok_callW (draw_ok k F (by omega) (by omega)) fun r hp1 ⟨F1, v1, hr, a1, b1⟩ => ?_
  subst hr
  simp +failIfUnchanged only [eq_self]
  refine Ok_callW (draw_ok k F1 (by omega) (by omega)) fun r hp2 ⟨F2, v2, hr, a2, b2⟩ => ?_
  subst hr
  simp +failIfUnchanged only [eq_self]
  refine Ok_callW (draw_ok k F2 (by omega) (by omega)) fun r hp3 ⟨F3, v3, hr, a3, b3⟩ => ?_
  subst hr
  simp +failIfUnchanged only [decide_eq_true_eq]
  split
  ·
    refine ⟨by omega, ?_⟩
    refine lc_all Fd (fun _ y => ∃ w, y = PV.str w ∧ Tx 12 w) F3 ?_ (fun x hx hp F => ?_) fun ys hp' F' e => ?_
    · rw [rg_len]; omega
    · obtain ⟨n, rfl, n0, n1⟩ := rg_mem hx
      simp +failIfUnchanged only [eq_self]
      refine ⟨.inl (by omega), Ok_at (by omega) (by simp +failIfUnchanged only [eq_self]; omega) fun y hy => ?_⟩
      simp +failIfUnchanged only [eq_self]
      exact ⟨at_txP (by decide +kernel) hy, F⟩
    · obtain ⟨ws, rfl, hl, hw⟩ := e.map fun x y h => h
      rw [rg_len] at hl
      exact ⟨F', ws, rfl, by omega, hw⟩
  · split
    ·
      refine ⟨by omega, ?_⟩
      refine lc_all Fd (fun _ y => ∃ w, y = PV.str w ∧ Tx 12 w) F3 ?_ (fun x hx hp F => ?_) fun ys hp' F' e => ?_
      · rw [rg_len]; omega
      · obtain ⟨n, rfl, n0, n1⟩ := rg_mem hx
        simp +failIfUnchanged only [eq_self]
        refine ⟨.inl (by omega), Ok_at (by omega) (by simp +failIfUnchanged only [eq_self]; omega) fun y hy => ?_⟩
        simp +failIfUnchanged only [eq_self]
        exact ⟨at_txP (by decide +kernel) hy, F⟩
      · obtain ⟨ws, rfl, hl, hw⟩ := e.map fun x y h => h
        rw [rg_len] at hl
        exact ⟨F', ws, rfl, by omega, hw⟩
    · refine Ok_callW (draw_ok k F3 (by omega) (by omega)) fun r hp4 ⟨F4, v4, hr, a4, b4⟩ => ?_
      subst hr
      simp +failIfUnchanged only [eq_self]
      refine ⟨by omega, ?_⟩
      refine for_sl (β := Str × Slot) (fun b sl => (sl.set 6 (.val (.str b.1))).set 7 b.2) (fun i b hp => Fd hp ∧ Tx i b.1 ∧ i ≤ 8) ("", .no) rfl ⟨F4, Tx.by (by decide +kernel), by omega⟩ (fun i x b hp hx ⟨F, hb, hi⟩ => ?_) fun b hp ⟨F, hb, hi⟩ => ?_
      · obtain ⟨rfl, hi2⟩ := rg_get hx
        simp +failIfUnchanged only [eq_self]
        refine Ok_callW (draw_ok k F (by omega) (by omega)) fun r hp5 ⟨F5, v5, hr, a5, b5⟩ => ?_
        subst hr
        simp +failIfUnchanged only [eq_self]
        refine Ok_ats a5 (by exact b5) (by decide +kernel) fun ch hch => ?_
        have h1 := Tx.one (Tx.by (n := 26) (by decide +kernel)).asc hch
        have h2 := hb.app h1
        have h3 := h2.len
        rw [strLen_append] at h3
        simp +failIfUnchanged only [eq_self]
        exact ⟨by omega, ⟨_, _⟩, rfl, F5, h2, by omega⟩
      · have hb8 := hb.mono (m := 8) (by rw [rg_len]; omega)
        simp +failIfUnchanged only [eq_self]
        refine ⟨by omega, ?_⟩
        refine lc_all Fd (fun _ y => ∃ w, y = PV.str w ∧ Tx 12 w) F ?_ (fun x hx hp F => ?_) fun ys hp' F' e => ?_
        · rw [rg_len]; omega
        · obtain ⟨n, rfl, n0, n1⟩ := rg_mem hx
          simp +failIfUnchanged only [eq_self]
          refine Ok_ats (by omega) (show (_ : Int) < 22 by omega) (by decide +kernel) fun ch hch => ?_
          have h1 := Tx.one (Tx.by (n := 22) (by decide +kernel)).asc hch
          have h2 := hb8.app h1
          have h3 := h2.len
          rw [strLen_append] at h3
          simp +failIfUnchanged only [eq_self]
          exact ⟨by omega, ⟨_, rfl, h2.mono (by omega)⟩, F⟩
        · obtain ⟨ws, rfl, hl, hw⟩ := e.map fun x y h => h
          rw [rg_len] at hl
          exact ⟨F', ws, rfl, by omega, hw⟩
theorem tests_ok (k : Nat) {hp : List Cell} (F : Fd hp) {L : List PV} (h1 : 1 ≤ L.length) (h2 : L.length ≤ 1000) (h3 : AllTx 12 L) :
    Gives (calls table (k + 3) I_l_any_tests [.ref 1, .lst L] [] hp) fun r hp => Fd hp ∧ ∃ ts, r = .val (.tup (ts.map tPV)) ∧ TestsOk ts := by
  refine gives_run (c := calls table (k + 2)) (d := d_l_any_tests) (as := [.ref 1, .lst L]) rfl ?_
  simp +failIfUnchanged only [d_l_any_tests]
  refine Ok_callW (any_ok k F (by decide) (by decide)) fun r hp1 ⟨F1, y, hy, hr⟩ => ?_
  subst hr
  obtain ⟨n, rfl, n0, n1⟩ := intP_of (lo := 0) (hi := 3) (by decide +kernel) hy
  simp +failIfUnchanged only [eq_self]
  refine ⟨by omega, ?_⟩
  refine for_sl (β := List Test × Slot × Slot × Slot) (fun b sl => (((sl.set 2 (.val (.tup (b.1.map tPV)))).set 3 b.2.1).set 4 b.2.2.1).set 5 b.2.2.2) (fun i b hp => Fd hp ∧ b.1.length = i ∧ i ≤ 3 ∧ ∀ t ∈ b.1, TestOk t) ([], .no, .no, .no) rfl ⟨F1, rfl, by omega, nofun⟩
    (fun i x b hp hx ⟨F, hb, hi, ht⟩ => ?_) fun b hp ⟨F, hb, hi, ht⟩ => ?_
  · obtain ⟨rfl, hi2⟩ := rg_get hx
    obtain ⟨ts, s3, s4, s5⟩ := b
    simp +failIfUnchanged only [eq_self]
    refine Ok_callW (any_ok k F h1 (by omega)) fun r hp2 ⟨F2, y, hy, hr⟩ => ?_
    subst hr
    obtain ⟨w1, rfl, m1⟩ := h3 y hy
    simp +failIfUnchanged only [eq_self]
    refine Ok_callW (any_ok k F2 (by decide) (by decide)) fun r hp3 ⟨F3, y, hy, hr⟩ => ?_
    subst hr
    obtain ⟨w2, rfl, t2⟩ := mem_txP (n := 12) (by decide +kernel) hy
    simp +failIfUnchanged only [eq_self]
    refine Ok_callW (any_ok k F3 h1 (by omega)) fun r hp4 ⟨F4, y, hy, hr⟩ => ?_
    subst hr
    obtain ⟨w3, rfl, m3⟩ := h3 y hy
    simp +failIfUnchanged only [eq_self]
    refine ⟨by simp at hb; simp; omega, (ts ++ [⟨w1, w2, w3⟩], _, _, _), by simp only [List.map_append, List.map_cons, List.map_nil, tPV]; rfl, F4, by simpa using hb, by omega, fun t ht' => ?_⟩
    rcases List.mem_append.mp ht' with q | q
    · exact ht t q
    · rw [List.mem_singleton] at q
      subst q
      exact ⟨m1, t2, m3⟩
  · simp +failIfUnchanged only [eq_self]
    exact ⟨F, _, rfl, by omega, ht⟩
/-- a reading -/
theorem get_ok (k : Nat) {hp : List Cell} (F : Fd hp) {b : Base} (hb : BaseOk b) {known : List Str} (h1 : 1 ≤ known.length) (h2 : known.length ≤ 100) (h3 : ∀ w ∈ known, Tx 12 w) {tag : Str} (ht : Tx 12 tag) :
    Gives (calls table (k + 4) I_l_any_get [.ref 1, bPV b, .lst (known.map PV.str), .str tag] [] hp) fun r hp => Fd hp ∧ ∃ x, r = .val (rPV x) ∧ RdOk x := by
  refine gives_run (c := calls table (k + 3)) (d := d_l_any_get) (as := [.ref 1, bPV b, .lst (known.map PV.str), .str tag]) rfl ?_
  obtain ⟨ways, guard, last⟩ := b
  have b1 : 1 ≤ ways := hb.lo
  have b2 : ways ≤ 2 := hb.hi
  have hk := AllTx.map h3
  have hl : (known.map PV.str).length = known.length := by simp
  generalize known.map PV.str = L at *
  cases guard <;> cases last
  all_goals
    simp +failIfUnchanged only [d_l_any_get, bPV]
    refine ⟨by ((try simp only [List.length_append, List.length_cons, List.length_nil, List.length_take, List.length_map, List.length_reverse]); omega), by ((try simp only [List.length_append, List.length_cons, List.length_nil, List.length_take, List.length_map, List.length_reverse]); omega), ?_⟩
    refine Ok_callW (any_ok (k + 1) F (by ((try simp only [List.length_append, List.length_cons, List.length_nil, List.length_take, List.length_map, List.length_reverse]); omega)) (by ((try simp only [List.length_append, List.length_cons, List.length_nil, List.length_take, List.length_map, List.length_reverse]); omega))) fun r hp1 ⟨F1, y, hy, hr⟩ => ?_
    subst hr
    obtain ⟨w0, rfl, t0⟩ := ((hk.app (.lit (by decide +kernel))).app (.lit (by decide +kernel))) y hy
    simp +failIfUnchanged only [eq_self]
    refine Ok_callW (any_ok (k + 1) F1 (by decide) (by decide)) fun r hp2 ⟨F2, y, hy, hr⟩ => ?_
    subst hr
    obtain ⟨n, rfl, n0, n1⟩ := intP_of (lo := 0) (hi := 3) (by decide +kernel) hy
    simp +failIfUnchanged only [eq_self]
    refine ⟨by omega, ?_⟩
    refine for_sl (β := List Str × Slot) (fun b sl => (sl.set 5 (.val (.tup (b.1.map PV.str)))).set 6 b.2) (fun i b hp => Fd hp ∧ b.1.length = i + 1 ∧ i ≤ 3 ∧ ∀ w ∈ b.1, Tx 12 w) ([w0], .no) rfl ⟨F2, rfl, by omega, fun w hw => by
      rw [List.mem_singleton] at hw
      subst hw
      exact t0⟩ (fun i x b hp hx ⟨F, hb, hi, ht⟩ => ?_) fun b hp ⟨F, hb, hi, ht'⟩ => ?_
    · obtain ⟨rfl, hi2⟩ := rg_get hx
      obtain ⟨ps, s6⟩ := b
      simp +failIfUnchanged only [eq_self]
      rw [cut_to (by omega)]
      refine Ok_callW (any_ok (k + 1) F (by ((try simp only [List.length_append, List.length_cons, List.length_nil, List.length_take, List.length_map, List.length_reverse]); omega)) (by ((try simp only [List.length_append, List.length_cons, List.length_nil, List.length_take, List.length_map, List.length_reverse]); omega))) fun r hp3 ⟨F3, y, hy, hr⟩ => ?_
      subst hr
      obtain ⟨w1, rfl, t1⟩ := (AllTx.lit (n := 12) (by decide +kernel)).take _ y hy
      simp +failIfUnchanged only [eq_self]
      refine ⟨by simp at hb; simp; omega, (ps ++ [w1], _), by simp only [List.map_append, List.map_cons, List.map_nil]; rfl, F3, by simp at hb ⊢; omega, by omega, fun w hw => ?_⟩
      rcases List.mem_append.mp hw with q | q
      · exact ht w q
      · rw [List.mem_singleton] at q
        subst q
        exact t1
    · simp +failIfUnchanged only [eq_self]
      refine ⟨by ((try simp only [List.length_append, List.length_cons, List.length_nil, List.length_take, List.length_map, List.length_reverse]); omega), by ((try simp only [List.length_append, List.length_cons, List.length_nil, List.length_take, List.length_map, List.length_reverse]); omega), ?_⟩
      refine Ok_callW (tests_ok k F (by ((try simp only [List.length_append, List.length_cons, List.length_nil, List.length_take, List.length_map, List.length_reverse]); omega)) (by ((try simp only [List.length_append, List.length_cons, List.length_nil, List.length_take, List.length_map, List.length_reverse]); omega)) ((hk.app (.lit (by decide +kernel))).app (.lit (by decide +kernel)))) fun r hp3 ⟨F3, ts, hr, hts⟩ => ?_
      subst hr
      simp +failIfUnchanged only [eq_self]
      rw [rg_len] at hb
      exact ⟨F3, ⟨tag, b.1, ts⟩, rfl, ht, by show b.1.length ≤ 4; omega, ht', hts⟩
theorem put_ok (k : Nat) {hp : List Cell} (F : Fd hp) {b : Base} (hb : BaseOk b) {L : List PV} (h1 : 1 ≤ L.length) (h2 : L.length ≤ 100) (hk : AllTx 12 L) :
    Gives (calls table (k + 4) I_l_any_put [.ref 1, bPV b, .lst L] [] hp) fun r hp => Fd hp ∧ ∃ x, r = .val (wPV x) ∧ WtOk x := by
  refine gives_run (c := calls table (k + 3)) (d := d_l_any_put) (as := [.ref 1, bPV b, .lst L]) rfl ?_
  obtain ⟨ways, guard, last⟩ := b
  have b1 : 1 ≤ ways := hb.lo
  have b2 : ways ≤ 2 := hb.hi
  cases guard <;> cases last
  all_goals
    simp +failIfUnchanged only [d_l_any_put, bPV]
    refine ⟨by ((try simp only [List.length_append, List.length_cons, List.length_nil, List.length_take, List.length_map, List.length_reverse]); omega), ?_⟩
    refine lc_up (β := Slot) (fun b sl => sl.set 3 b) (fun i b hp => Fd hp ∧ ∃ S, AllTx 12 S ∧ 1 ≤ S.length ∧ S.length ≤ 200 ∧ b = if i = 0 then .own S else .val (.lst S)) (fun _ y => PlaceP y) (.own _) rfl ⟨F, _, hk.app (.lit (by decide +kernel)), by ((try simp only [List.length_append, List.length_cons, List.length_nil, List.length_take, List.length_map, List.length_reverse]); omega), by ((try simp only [List.length_append, List.length_cons, List.length_nil, List.length_take, List.length_map, List.length_reverse]); omega), rfl⟩ ?_ (fun i x b hp hx ⟨F, S, hS, s1, s2, hb⟩ => ?_) fun ys b hp1 ⟨F1, S, hS, s1, s2, hb⟩ e => ?_
    · decide +kernel
    · have hb : b = .own S ∨ b = .val (.lst S) := by
        rw [hb]
        split
        · exact .inl rfl
        · exact .inr rfl
      rcases hb with rfl | rfl
      all_goals
        simp +failIfUnchanged only [eq_self]
        rw [cut_to (by omega)]
        refine Ok_callW (any_ok (k + 1) F (by ((try simp only [List.length_append, List.length_cons, List.length_nil, List.length_take, List.length_map, List.length_reverse]); omega)) (by ((try simp only [List.length_append, List.length_cons, List.length_nil, List.length_take, List.length_map, List.length_reverse]); omega))) fun r hp3 ⟨F3, y, hy, hr⟩ => ?_
        subst hr
        obtain ⟨w1, rfl, t1⟩ := (AllTx.lit (n := 12) (by decide +kernel)).take _ y hy
        simp +failIfUnchanged only [eq_self]
        refine Ok_callW (any_ok (k + 1) F3 (by ((try simp only [List.length_append, List.length_cons, List.length_nil, List.length_take, List.length_map, List.length_reverse]); omega)) (by ((try simp only [List.length_append, List.length_cons, List.length_nil, List.length_take, List.length_map, List.length_reverse]); omega))) fun r hp4 ⟨F4, y, hy, hr⟩ => ?_
        subst hr
        obtain ⟨w2, rfl, t2⟩ := hS y hy
        simp +failIfUnchanged only [eq_self]
        refine ⟨⟨[w1, w2], rfl, Nat.le_refl 2, fun w hw => ?_⟩, _, rfl, F4, S, hS, s1, s2, rfl⟩
        simp only [List.mem_cons, List.not_mem_nil, or_false] at hw
        rcases hw with rfl | rfl
        · exact t1
        · exact t2
    · have hb : b = .val (.lst S) := by
        rw [hb]
        rfl
      subst hb
      have hl : ys.length = 4 := e.length
      have hall : ∀ y ∈ ys, PlaceP y := fun y hy => by
        obtain ⟨x, _, h⟩ := e.all y hy
        exact h
      have hlit : ∀ y ∈ [PV.tup [.str "first"], PV.tup [.str "last"]], PlaceP y := fun y hy => by
        simp only [List.mem_cons, List.not_mem_nil, or_false] at hy
        rcases hy with rfl | rfl
        · exact ⟨["first"], rfl, by decide, fun w hw => by
            rw [List.mem_singleton] at hw
            subst hw
            exact Tx.by (by decide +kernel)⟩
        · exact ⟨["last"], rfl, by decide, fun w hw => by
            rw [List.mem_singleton] at hw
            subst hw
            exact Tx.by (by decide +kernel)⟩
      simp +failIfUnchanged only [eq_self]
      refine ⟨by ((try simp only [List.length_append, List.length_cons, List.length_nil, List.length_take, List.length_map, List.length_reverse]); omega), by ((try simp only [List.length_append, List.length_cons, List.length_nil, List.length_take, List.length_map, List.length_reverse]); omega), ?_⟩
      refine Ok_callW (any_ok (k + 1) F1 (by ((try simp only [List.length_append, List.length_cons, List.length_nil, List.length_take, List.length_map, List.length_reverse]); omega)) (by ((try simp only [List.length_append, List.length_cons, List.length_nil, List.length_take, List.length_map, List.length_reverse]); omega))) fun r hp3 ⟨F3, y, hy, hr⟩ => ?_
      subst hr
      have hp : PlaceP y := by
        simp only [List.mem_append] at hy
        rcases hy with (q | q) | q
        · exact hall y q
        · first
            | exact hlit y (List.mem_cons_of_mem _ q)
            | exact hlit y (by simp at q; simp [q])
            | cases q
        · first
            | exact hlit y (by simp at q; simp [q])
            | cases q
      obtain ⟨ps, rfl, pl, pt⟩ := hp
      simp +failIfUnchanged only [eq_self]
      refine ⟨by ((try simp only [List.length_append, List.length_cons, List.length_nil, List.length_take, List.length_map, List.length_reverse]); omega), ?_⟩
      refine Ok_callW (any_ok (k + 1) F3 (by ((try simp only [List.length_append, List.length_cons, List.length_nil, List.length_take, List.length_map, List.length_reverse]); omega)) (by ((try simp only [List.length_append, List.length_cons, List.length_nil, List.length_take, List.length_map, List.length_reverse]); omega))) fun r hp4 ⟨F4, y, hy, hr⟩ => ?_
      subst hr
      obtain ⟨w3, rfl, t3⟩ := (hS.app (.lit (by decide +kernel))) y hy
      simp +failIfUnchanged only [eq_self]
      refine ⟨by ((try simp only [List.length_append, List.length_cons, List.length_nil, List.length_take, List.length_map, List.length_reverse]); omega), ?_⟩
      refine Ok_callW (tests_ok k F4 (by ((try simp only [List.length_append, List.length_cons, List.length_nil, List.length_take, List.length_map, List.length_reverse]); omega)) (by ((try simp only [List.length_append, List.length_cons, List.length_nil, List.length_take, List.length_map, List.length_reverse]); omega)) (hS.app (.lit (by decide +kernel)))) fun r hp5 ⟨F5, ts, hr, hts⟩ => ?_
      subst hr
      simp +failIfUnchanged only [eq_self]
      exact ⟨F5, ⟨ps, w3, ts⟩, rfl, pl, pt, t3, hts⟩
theorem plan_ok (k : Nat) {hp : List Cell} (F : Fd hp) {most : Int} (m1 : 1 ≤ most) (m2 : most ≤ 20) :
    Gives (calls table (k + 5) I_l_plan [.ref 1, .int most] [] hp) fun r hp => Fd hp ∧ ∃ p, r = .val (pPV p) ∧ PlanOk 2 20 40 p ∧ 1 ≤ p.names.length := by
  refine gives_run (c := calls table (k + 4)) (d := d_l_plan) (as := [.ref 1, .int most]) rfl ?_
  simp +failIfUnchanged only [d_l_plan]
  refine Ok_callW (any_ok (k + 2) F (by decide) (by decide)) fun r hp1 ⟨F1, y, hy, hr⟩ => ?_
  subst hr
  obtain ⟨b, rfl, hb⟩ := baseP_of (by decide +kernel) hy
  simp +failIfUnchanged only [eq_self]
  refine Ok_callW (draw_ok (k + 3) F1 (by omega) (by omega)) fun r hp2 ⟨F2, many, hr, n0, n1⟩ => ?_
  subst hr
  simp +failIfUnchanged only [eq_self]
  refine Ok_callW (words_ok (k + 2) F2 (by omega) (by omega)) fun r hp3 ⟨F3, ws, hr, hwl, hws⟩ => ?_
  subst hr
  simp +failIfUnchanged only [eq_self]
  refine Ok_callW (draw_ok (k + 3) F3 (by omega) (by omega)) fun r hp4 ⟨F4, dd, hr, d0, d1⟩ => ?_
  subst hr
  simp +failIfUnchanged only [eq_self]
  rw [cut_to (by omega)]
  refine ⟨by omega, ?_⟩
  have hal := AllTx.map hws
  have hln : (ws.map PV.str).length = many.toNat + 2 := by simp; omega
  have hlz : (ws.map PV.str).length = ws.length := by simp
  generalize ws.map PV.str = W at *
  obtain ⟨names, hn, hnt⟩ := (hal.take (1 + dd).toNat).ex
  have hnl : names.length = (1 + dd).toNat := by
    have := congrArg List.length hn
    simp only [List.length_take, List.length_map] at this
    omega
  rw [hn]
  refine for_sl (β := List Rd × Slot × Slot) (fun b sl => ((sl.set 5 (.val (.tup (b.1.map rPV)))).set 7 b.2.1).set 9 b.2.2)
    (fun i b hp => Fd hp ∧ b.1.length = i ∧ i ≤ many.toNat ∧ (∀ r ∈ b.1, RdOk r) ∧ ∃ S : List Str, b.2.1 = .own (S.map PV.str) ∧ S.length = names.length + i ∧ ∀ w ∈ S, Tx 12 w) ([], .own (names.map PV.str), .no) rfl
    ⟨F4, rfl, by omega, nofun, names, rfl, by omega, hnt⟩ (fun i x b2 hp hx ⟨F, hb1, hi, hr, S, hS, sl, st⟩ => ?_) fun b2 hp ⟨F, hb1, hi, hr, S, hS, sl, st⟩ => ?_
  · obtain ⟨rfl, hi2⟩ := rg_get hx
    obtain ⟨rs, s7, s9⟩ := b2
    simp only at hS hb1
    subst hS
    simp +failIfUnchanged only [eq_self]
    refine Ok_at (by omega) (by omega) fun y hy => ?_
    obtain ⟨w, rfl, tw⟩ := hal y (List.mem_of_getElem? hy)
    simp +failIfUnchanged only [eq_self]
    refine Ok_callW (get_ok k F hb (by omega) (by omega) st tw) fun r hp5 ⟨F5, x, hr2, hx⟩ => ?_
    subst hr2
    simp +failIfUnchanged only [eq_self]
    refine ⟨by ((try simp only [List.length_append, List.length_cons, List.length_nil, List.length_take, List.length_map, List.length_reverse]); omega), ?_⟩
    refine Ok_at (by omega) (by omega) fun y hy => ?_
    obtain ⟨w2, rfl, tw2⟩ := hal y (List.mem_of_getElem? hy)
    simp +failIfUnchanged only [eq_self]
    refine ⟨by ((try simp only [List.length_append, List.length_cons, List.length_nil, List.length_take, List.length_map, List.length_reverse]); omega), (rs ++ [x], .own ((S ++ [w2]).map PV.str), _), by simp only [List.map_append, List.map_cons, List.map_nil]; rfl, F5, by simp; omega, by omega, fun r hr' => ?_, _, rfl, by simp; omega, fun v hv => ?_⟩
    · rcases List.mem_append.mp hr' with q | q
      · exact hr r q
      · rw [List.mem_singleton] at q
        subst q
        exact hx
    · rcases List.mem_append.mp hv with q | q
      · exact st v q
      · rw [List.mem_singleton] at q
        subst q
        exact tw2
  · rw [rg_len] at hb1 hi sl
    obtain ⟨rs, s7, s9⟩ := b2
    simp only at hS hb1
    subst hS
    have sal := AllTx.map st
    have sln : (S.map PV.str).length = S.length := by simp
    generalize S.map PV.str = SL at *
    simp +failIfUnchanged only [eq_self]
    refine Ok_callW (draw_ok (k + 3) F (by omega) (by omega)) fun r hp6 ⟨F6, np, hr2, p0, p1⟩ => ?_
    subst hr2
    simp +failIfUnchanged only [eq_self]
    refine ⟨by omega, ?_⟩
    refine lc_up (β := Slot) (fun b sl => sl.set 7 b) (fun i b hp => Fd hp ∧ (b = .own SL ∨ b = .val (.lst SL))) (fun _ y => ∃ w, y = wPV w ∧ WtOk w) (.own SL) rfl ⟨F6, .inl rfl⟩ ?_ (fun i x b3 hp hx ⟨F, hb3⟩ => ?_) fun ys b3 hp7 ⟨F7, hb3⟩ e => ?_
    · rw [rg_len]
      omega
    · rcases hb3 with rfl | rfl
      all_goals
        simp +failIfUnchanged only [eq_self]
        refine Ok_callW (put_ok k F hb (by omega) (by omega) sal) fun r hp8 ⟨F8, x, hr2, hx⟩ => ?_
        subst hr2
        simp +failIfUnchanged only [eq_self]
        exact ⟨⟨x, rfl, hx⟩, _, rfl, F8, .inr rfl⟩
    · obtain ⟨writes, rfl, wl, wt⟩ := e.map fun x y h => h
      rw [rg_len] at wl
      simp +failIfUnchanged only [eq_self]
      exact ⟨F7, ⟨b, names, rs, writes⟩, rfl, ⟨hb, by show names.length ≤ 2; omega, hnt, by show rs.length ≤ 20; omega, hr, by show writes.length ≤ 40; omega, wt⟩, by show 1 ≤ names.length; omega⟩
end K06
namespace K06
open PySem Ev Pl
theorem strange_ok (k : Nat) {hp : List Cell} (F : Fd hp) : Gives (calls table (k + 3) I_l_strange [.ref 1] [] hp) fun r hp => Fd hp ∧ ∃ y, r = .val y ∧ Od y := by
  refine gives_run (c := calls table (k + 2)) (d := d_l_strange) (as := [.ref 1]) rfl ?_
  simp +singlePass only [d_l_strange]
  refine ⟨by decide, ?_⟩
  refine Ok_callW (any_ok k F (by decide) (by decide)) fun r hp1 ⟨F1, y, hy, hr⟩ => ?_
  subst hr
  simp +singlePass only [eq_self]
  refine ⟨F1, y, rfl, lit ?_⟩
  refine List.all_eq_true.mp ?_ y hy
  decide +kernel
theorem any_signs (k : Nat) {hp : List Cell} (F : Fd hp) : Gives (calls table (k + 2) I_l_any [.ref 1, .lst [.str "a", .str "A", .str "", .str " ", .str "z", .str "."]] [] hp) fun r hp => Fd hp ∧ ∃ w, r = .val (.str w) ∧ Tx 1 w := (any_ok k F (by decide) (by decide)).imp fun r hp h => by
  obtain ⟨F, y, hy, rfl⟩ := h
  obtain ⟨w, rfl, t⟩ := mem_txP (n := 1) (by decide +kernel) hy
  exact ⟨F, w, rfl, t⟩
theorem bent_flat (k : Nat) {n : Nat} (n1 : 16 ≤ n) (n2 : n ≤ 62) {hp : List Cell} (F0 : Fd hp) {v : PV} (hn : Nd n v) (hv : isTup v = false) : Gives (calls table (k + 4) I_l_bent [.ref 1, v] [] hp) fun r hp' => Fd hp' ∧ Bt n v r.pv := by
  refine gives_run (c := calls table (k + 3)) (d := d_l_bent) (as := [.ref 1, v]) rfl ?_
  cases v with
  | tup xs => simp [isTup] at hv
  | str s =>
    simp +singlePass only [d_l_bent]
    refine Ok_callW (draw_ok (k + 2) F0 (by omega) (by omega)) fun r hp1 ⟨F1, v1, hr, a1, b1⟩ => ?_
    subst hr
    simp +singlePass only [eq_self]
    refine Ok_callW (strange_ok k F1) fun r hp2 ⟨F2, o, hr, ho⟩ => ?_
    subst hr
    simp +singlePass only [eq_self]
    by_cases c3 : v1 < 3
    · simp only [Nd] at hn
      simp +singlePass only [c3]
      have hsl := hn.len
      refine ⟨by omega, ?_⟩
      refine Ok_callW (draw_ok (k + 2) F2 (by omega) (by omega)) fun r hp3 ⟨F3, v2, hr, a2, b2⟩ => ?_
      subst hr
      simp +singlePass only [slc_str hn (by omega)]
      refine Ok_callW (any_signs (k + 1) F3) fun r hp4 ⟨F4, w, hr, hw⟩ => ?_
      subst hr
      have l1 := (cutS_tx hn none (some v2)).len
      have l2 := hw.len
      have l3 := (cutS_tx hn (some (v2 + v1 / 2)) none).len
      simp +singlePass only [slc_str hn (by omega)]
      exact ⟨by omega, by decide +kernel, by rw [strLen_append]; omega, F4, Bt.str n2 hn hw⟩
    · simp +singlePass only [c3]
      exact ⟨F2, Bt.odd n1 ho⟩
  | bl b =>
    simp +singlePass only [d_l_bent]
    refine Ok_callW (draw_ok (k + 2) F0 (by omega) (by omega)) fun r hp1 ⟨F1, v1, hr, a1, b1⟩ => ?_
    subst hr
    simp +singlePass only [eq_self]
    refine Ok_callW (strange_ok k F1) fun r hp2 ⟨F2, o, hr, ho⟩ => ?_
    subst hr
    simp +singlePass only [eq_self]
    by_cases c5 : v1 < 5
    · by_cases c0 : v1 = 0
      · simp +singlePass only [c5, c0]
        exact ⟨F2, Bt.odd n1 (int_pv b)⟩
      · simp +singlePass only [c5, c0]
        exact ⟨F2, Bt.odd n1 (bl_pv b)⟩
    · simp +singlePass only [c5]
      exact ⟨F2, Bt.odd n1 ho⟩
  | _ =>
    first
    | (simp only [Nd] at hn; done)
    | (simp +singlePass only [d_l_bent]
       refine Ok_callW (draw_ok (k + 2) F0 (by omega) (by omega)) fun r hp1 ⟨F1, v1, hr, a1, b1⟩ => ?_
       subst hr
       simp +singlePass only [eq_self]
       refine Ok_callW (strange_ok k F1) fun r hp2 ⟨F2, o, hr, ho⟩ => ?_
       subst hr
       simp +singlePass only [eq_self]
       exact ⟨F2, Bt.odd n1 ho⟩)
theorem bent_tup (k : Nat) {n : Nat} (n1 : 16 ≤ n) (n2 : n ≤ 1000) {hp : List Cell} (F : Fd hp) {xs : List PV} (hn : Nd n (.tup xs)) (hd : dep (.tup xs) ≤ 60)
    (rec : ∀ x ∈ xs, ∀ {hp}, Fd hp → Gives (calls table (k + 3) I_l_bent [.ref 1, x] [] hp) fun r hp' => Fd hp' ∧ Bt n x r.pv) :
    Gives (calls table (k + 4) I_l_bent [.ref 1, .tup xs] [] hp) fun r hp' => Fd hp' ∧ Bt n (.tup xs) r.pv := by
  refine gives_run (c := calls table (k + 3)) (d := d_l_bent) (as := [.ref 1, .tup xs]) rfl ?_
  have e := nil_eqT (d := 60) (w := wt (.tup xs)) (n := n) (by omega) ⟨hn, hd, Nat.le_refl _⟩
  have hl : xs.length ≤ n := by
    simp only [Nd] at hn
    exact hn.1
  simp +singlePass only [d_l_bent, e]
  cases he : xs.isEmpty with
  | true =>
    have F0 := F
    simp +singlePass only [eq_self]
    refine Ok_callW (draw_ok (k + 2) F0 (by omega) (by omega)) fun r hp1 ⟨F1, v1, hr, a1, b1⟩ => ?_
    subst hr
    simp +singlePass only [eq_self]
    refine Ok_callW (strange_ok k F1) fun r hp2 ⟨F2, o, hr, ho⟩ => ?_
    subst hr
    simp +singlePass only [eq_self]
    by_cases c7 : v1 < 7
    · simp +singlePass only [c7]
      refine Ok_callW (draw_ok (k + 2) F2 (by omega) (by omega)) fun r hp3 ⟨F3, v2, hr, a2, b2⟩ => ?_
      subst hr
      obtain ⟨m, rfl⟩ := Int.eq_ofNat_of_zero_le a2
      have q1 := cut_len xs none (some (m : Int))
      have q2 := cut_len xs (some ((m : Int) + 1)) none
      have q3 := cut_len xs (some (m : Int)) (some ((m : Int) + 1))
      have q4 := cut_len xs (some (m : Int)) none
      have w1 := cut_wts xs none (some (m : Int))
      have w2 := cut_wts xs (some ((m : Int) + 1)) none
      have w3 := cut_wts xs (some (m : Int)) (some ((m : Int) + 1))
      have w4 := cut_wts xs (some (m : Int)) none
      by_cases c2 : v1 < 2
      · by_cases c0 : v1 = 0
        · simp +singlePass only [c2, c0]
          exact ⟨F3, Bt.lst hn⟩
        · simp +singlePass only [c2, c0]
          refine ⟨by omega, F3, Bt.tup n1 hn (by simp only [List.length_append]; omega) (fun y hy => .inl ?_) (by simp only [wts_app]; omega)⟩
          rcases List.mem_append.mp hy with h | h <;> exact cut_mem h
      · by_cases c4 : v1 < 4
        · by_cases c3 : v1 = 2
          · simp +singlePass only [c2, c4, c3]
            refine ⟨by omega, by simp only [List.length_append]; omega, F3, Bt.tup n1 hn (by simp only [List.length_append]; omega) (fun y hy => .inl ?_) (by simp only [wts_app]; omega)⟩
            simp only [List.mem_append] at hy
            rcases hy with (h | h) | h <;> exact cut_mem h
          · simp +singlePass only [c2, c4, c3]
            exact ⟨F3, Bt.tup n1 hn (by simp only [List.length_reverse]; omega) (fun y hy => .inl (List.mem_reverse.mp hy)) (by rw [wts_rev]; omega)⟩
        · simp +singlePass only [c2, c4]
          have := ho.wt
          refine ⟨by omega, by simp only [List.length_append, List.length_cons, List.length_nil]; omega, F3, Bt.tup n1 hn (by simp only [List.length_append, List.length_cons, List.length_nil]; omega) (fun y hy => ?_) (by simp only [wts_app, wts]; omega)⟩
          simp only [List.mem_append, List.mem_cons, List.not_mem_nil, or_false] at hy
          rcases hy with (h | rfl) | h
          · exact .inl (cut_mem h)
          · exact .inr ho
          · exact .inl (cut_mem h)
    · simp +singlePass only [c7]
      exact ⟨F2, Bt.odd n1 ho⟩
  | false =>
    have hpos : 0 < xs.length := by
      cases xs with
      | nil => cases he
      | cons _ _ => simp
    simp +singlePass only [eq_self]
    refine Ok_callW (draw_ok (k + 2) F (by omega) (by omega)) fun r hp0 ⟨F0, v0, hr, a0, b0⟩ => ?_
    subst hr
    by_cases c : v0 > 0
    · simp +singlePass only [c]
      refine Ok_callW (draw_ok (k + 2) F0 (by omega) (by omega)) fun r hp1 ⟨F1, v1, hr, a1, b1⟩ => ?_
      subst hr
      obtain ⟨m, rfl⟩ := Int.eq_ofNat_of_zero_le a1
      simp +singlePass only [cut_t]
      refine Ok_at (by omega) (by omega) fun y hy => ?_
      rw [Int.toNat_natCast] at hy
      simp +singlePass only [eq_self]
      refine Ok_callW (rec y (List.mem_of_getElem? hy) F1) fun r hp2 ⟨F2, hb⟩ => ?_
      simp +singlePass only [cut_s]
      refine ⟨by simp only [List.length_take]; omega, by simp only [List.length_append, List.length_take, List.length_drop, List.length_cons, List.length_nil]; omega, F2, ?_⟩
      exact Bt.put hn hy hb
    · simp +singlePass only [c]
      refine Ok_callW (draw_ok (k + 2) F0 (by omega) (by omega)) fun r hp1 ⟨F1, v1, hr, a1, b1⟩ => ?_
      subst hr
      simp +singlePass only [eq_self]
      refine Ok_callW (strange_ok k F1) fun r hp2 ⟨F2, o, hr, ho⟩ => ?_
      subst hr
      simp +singlePass only [eq_self]
      by_cases c7 : v1 < 7
      · simp +singlePass only [c7]
        refine Ok_callW (draw_ok (k + 2) F2 (by omega) (by omega)) fun r hp3 ⟨F3, v2, hr, a2, b2⟩ => ?_
        subst hr
        obtain ⟨m, rfl⟩ := Int.eq_ofNat_of_zero_le a2
        have q1 := cut_len xs none (some (m : Int))
        have q2 := cut_len xs (some ((m : Int) + 1)) none
        have q3 := cut_len xs (some (m : Int)) (some ((m : Int) + 1))
        have q4 := cut_len xs (some (m : Int)) none
        have w1 := cut_wts xs none (some (m : Int))
        have w2 := cut_wts xs (some ((m : Int) + 1)) none
        have w3 := cut_wts xs (some (m : Int)) (some ((m : Int) + 1))
        have w4 := cut_wts xs (some (m : Int)) none
        by_cases c2 : v1 < 2
        · by_cases c0 : v1 = 0
          · simp +singlePass only [c2, c0]
            exact ⟨F3, Bt.lst hn⟩
          · simp +singlePass only [c2, c0]
            refine ⟨by omega, F3, Bt.tup n1 hn (by simp only [List.length_append]; omega) (fun y hy => .inl ?_) (by simp only [wts_app]; omega)⟩
            rcases List.mem_append.mp hy with h | h <;> exact cut_mem h
        · by_cases c4 : v1 < 4
          · by_cases c3 : v1 = 2
            · simp +singlePass only [c2, c4, c3]
              refine ⟨by omega, by simp only [List.length_append]; omega, F3, Bt.tup n1 hn (by simp only [List.length_append]; omega) (fun y hy => .inl ?_) (by simp only [wts_app]; omega)⟩
              simp only [List.mem_append] at hy
              rcases hy with (h | h) | h <;> exact cut_mem h
            · simp +singlePass only [c2, c4, c3]
              exact ⟨F3, Bt.tup n1 hn (by simp only [List.length_reverse]; omega) (fun y hy => .inl (List.mem_reverse.mp hy)) (by rw [wts_rev]; omega)⟩
          · simp +singlePass only [c2, c4]
            have := ho.wt
            refine ⟨by omega, by simp only [List.length_append, List.length_cons, List.length_nil]; omega, F3, Bt.tup n1 hn (by simp only [List.length_append, List.length_cons, List.length_nil]; omega) (fun y hy => ?_) (by simp only [wts_app, wts]; omega)⟩
            simp only [List.mem_append, List.mem_cons, List.not_mem_nil, or_false] at hy
            rcases hy with (h | rfl) | h
            · exact .inl (cut_mem h)
            · exact .inr ho
            · exact .inl (cut_mem h)
      · simp +singlePass only [c7]
        exact ⟨F2, Bt.odd n1 ho⟩
theorem bent_ok (k : Nat) {n : Nat} (n1 : 16 ≤ n) (n2 : n ≤ 62) : ∀ (d : Nat) {hp : List Cell} (_ : Fd hp) {v : PV} (_ : Nd n v) (_ : dep v ≤ d) (_ : d ≤ 50), Gives (calls table (k + d + 4) I_l_bent [.ref 1, v] [] hp) fun r hp' => Fd hp' ∧ Bt n v r.pv := by
  intro d
  induction d with
  | zero =>
    intro hp F0 v hn hd hd2
    refine bent_flat (k + 0) n1 n2 F0 hn ?_
    cases v <;> first | rfl | (simp only [dep] at hd; omega)
  | succ d ih =>
    intro hp F v hn hd hd2
    cases hv : isTup v with
    | false => exact bent_flat (k + (d + 1)) n1 n2 F hn hv
    | true =>
      obtain ⟨xs, rfl⟩ : ∃ xs, v = .tup xs := by cases v <;> first | exact ⟨_, rfl⟩ | (simp [isTup] at hv)
      refine bent_tup (k + (d + 1)) n1 (by omega) F hn (by omega) fun x hx hp F => ?_
      have hx2 := deps_mem hx
      simp only [dep] at hd
      simp only [Nd] at hn
      exact ih F (hn.2.mem x hx) (by omega) (by omega)
end K06
namespace K06
open PySem Ev Pl
abbrev Okv (v : PV) : Prop := Gd 50 4000000 3000 v
theorem all_id {α : Type} (p : α → Bool) (as : List α) : (as.map p).all id = as.all p := by simp [List.all_map]
section
variable {W : EX → G → Prop} {k : Nat} {sl : List Slot} {hp : List Cell} {Q : Res → G → Prop} {v : PV}
theorem is_integer_q (h : Okv v) : Ok W (callC (calls table (k + 1)) I_is_integer [v] [] ⟨sl, hp⟩) Q = Q (.val (.bl (isInt v))) ⟨sl, hp⟩ := call_q (by
  refine gives_run (c := calls table k) (d := d_is_integer) (as := [v]) rfl ?_
  have := h.nd
  cases v <;> first | (simp only [Nd] at this; done) | (simp +singlePass only [d_is_integer, isInt]))
theorem is_number_q (h : Okv v) : Ok W (callC (calls table (k + 2)) I_is_number [v] [] ⟨sl, hp⟩) Q = Q (.val (.bl (isNum v))) ⟨sl, hp⟩ := call_q (by
  refine gives_run (c := calls table (k + 1)) (d := d_is_number) (as := [v]) rfl ?_
  have := h.nd
  cases v <;> first | (simp only [Nd] at this; done) | (simp +singlePass only [d_is_number, is_integer_q h, isInt, isNum]))
theorem l_is_integer_q (h : Okv v) : Ok W (callC (calls table (k + 1)) I_l_is_integer [v] [] ⟨sl, hp⟩) Q = Q (.val (.bl (isInt v))) ⟨sl, hp⟩ := call_q (by
  refine gives_run (c := calls table k) (d := d_l_is_integer) (as := [v]) rfl ?_
  have := h.nd
  cases v <;> first | (simp only [Nd] at this; done) | (simp +singlePass only [d_l_is_integer, isInt]))
theorem l_is_number_q (h : Okv v) : Ok W (callC (calls table (k + 2)) I_l_is_number [v] [] ⟨sl, hp⟩) Q = Q (.val (.bl (isNum v))) ⟨sl, hp⟩ := call_q (by
  refine gives_run (c := calls table (k + 1)) (d := d_l_is_number) (as := [v]) rfl ?_
  have := h.nd
  cases v <;> first | (simp only [Nd] at this; done) | (simp +singlePass only [d_l_is_number, l_is_integer_q h, isInt, isNum]))
/-- nothing, or an error with this word -/
theorem want_t {s : Str} : Ok W (callC (calls table (k + 1)) I_want [.bl true, .str s] [] ⟨sl, hp⟩) Q = Q (.val .non) ⟨sl, hp⟩ := call_q (by
  refine gives_run (c := calls table k) (d := d_want) (as := [.bl true, .str s, .int (-1)]) rfl ?_
  simp +singlePass only [d_want])
theorem want_f {s : Str} : Ok W (callC (calls table (k + 1)) I_want [.bl false, .str s] [] ⟨sl, hp⟩) Q = W ⟨0, [.str s, .int (-1)]⟩ ⟨sl, hp⟩ := call_qx (by
  refine givesX_run (c := calls table k) (d := d_want) (as := [.bl false, .str s, .int (-1)]) rfl ?_
  simp +singlePass only [d_want])
theorem refusal_q {s : Str} {i : Int} : Ok W (callC (calls table (k + 1)) I_l_refusal [.str s, .int i] [.int ((0 : Nat) : Int)] ⟨sl, hp⟩) Q = Q (.val (.tup [.str "use", .str s, .int i])) ⟨sl, hp⟩ := call_q (by
  refine gives_hot (h := hx) rfl rfl ?_
  have b0 : ∀ {W : EX → G → Prop} {sl : List Slot} {hp : List Cell} {Q : Res → G → Prop}, Ok W (callC (hotC hx ⟨0, [.str s, .int i]⟩) 0 [] [] ⟨sl, hp⟩) Q = Q (.val (.bl false)) ⟨sl, hp⟩ := hot_b rfl
  have b1 : ∀ {W : EX → G → Prop} {sl : List Slot} {hp : List Cell} {Q : Res → G → Prop}, Ok W (callC (hotC hx ⟨0, [.str s, .int i]⟩) 1 [] [] ⟨sl, hp⟩) Q = Q (.val (.bl true)) ⟨sl, hp⟩ := hot_b rfl
  have b2 : ∀ {W : EX → G → Prop} {sl : List Slot} {hp : List Cell} {Q : Res → G → Prop}, Ok W (callC (hotC hx ⟨0, [.str s, .int i]⟩) 2 [] [] ⟨sl, hp⟩) Q = Q (.val (.bl false)) ⟨sl, hp⟩ := hot_b rfl
  have b3 : ∀ {W : EX → G → Prop} {sl : List Slot} {hp : List Cell} {Q : Res → G → Prop}, Ok W (callC (hotC hx ⟨0, [.str s, .int i]⟩) 3 [] [] ⟨sl, hp⟩) Q = Q (.val (.bl true)) ⟨sl, hp⟩ := hot_b rfl
  have b4 : ∀ {W : EX → G → Prop} {sl : List Slot} {hp : List Cell} {Q : Res → G → Prop}, Ok W (callC (hotC hx ⟨0, [.str s, .int i]⟩) 4 [] [] ⟨sl, hp⟩) Q = Q (.val (.bl false)) ⟨sl, hp⟩ := hot_b rfl
  have b5 : ∀ {W : EX → G → Prop} {sl : List Slot} {hp : List Cell} {Q : Res → G → Prop}, Ok W (callC (hotC hx ⟨0, [.str s, .int i]⟩) 5 [] [] ⟨sl, hp⟩) Q = Q (.val (.bl true)) ⟨sl, hp⟩ := hot_b rfl
  have b6 : ∀ {W : EX → G → Prop} {sl : List Slot} {hp : List Cell} {Q : Res → G → Prop}, Ok W (callC (hotC hx ⟨0, [.str s, .int i]⟩) 6 [] [] ⟨sl, hp⟩) Q = Q (.val (.int i)) ⟨sl, hp⟩ := hot_a (j := 1) rfl rfl rfl
  have b7 : ∀ {W : EX → G → Prop} {sl : List Slot} {hp : List Cell} {Q : Res → G → Prop}, Ok W (callC (hotC hx ⟨0, [.str s, .int i]⟩) 7 [] [] ⟨sl, hp⟩) Q = Q (.val (.str s)) ⟨sl, hp⟩ := hot_a (j := 0) rfl rfl rfl
  have e : eqV (.lst [.bl false, .bl true, .bl false, .bl false, .bl true]) (.lst [.bl false, .bl true, .bl false, .bl false, .bl true]) = some true := by decide +kernel
  show Ok NX (exs _ d_l_refusal.body _) _
  generalize hotC hx ⟨0, [.str s, .int i]⟩ = c at *
  simp +singlePass only [d_l_refusal, b0, b1, b2, b3, b4, b5, b6, b7, e])
theorem is_order_of_q {p : Plan} (hw : p.writes.length ≤ 40) (h : Okv v) : Ok W (callC (calls table (k + 3)) I_is_order_of [pPV p, v] [] ⟨sl, hp⟩) Q = Q (.val (.bl (isOrd p.writes.length v))) ⟨sl, hp⟩ := call_q (by
  refine gives_run (c := calls table (k + 2)) (d := d_is_order_of) (as := [pPV p, v]) rfl ?_
  have := h.nd
  cases v with
  | tup xs =>
    have hl := h.len
    simp +singlePass only [d_is_order_of, pPV]
    refine lc_mapsX xs id (fun x => .bl (isNum x)) (by simp) (by omega) (fun x hx => ?_) ?_
    · have hx := h.item x hx
      simp +singlePass only [id, is_number_q hx]
    · simp +singlePass only [bls_map, all_id, isOrd]
      cases ha : xs.all isNum with
      | false => simp +singlePass only [eq_self]
      | true =>
        obtain ⟨ns, rfl, _⟩ := nums_ints ha
        simp +singlePass only [nts_map, at_3, len_map, rg_upN]
        simp +singlePass only [upN_len, eq_intsL]
        first | done | omega | exact ⟨by omega, by omega⟩
  | _ => first | (simp only [Nd] at this; done) | (simp +singlePass only [d_is_order_of, isOrd]))
end
end K06
namespace K06
open PySem Ev Pl
section
variable {W : EX → G → Prop} {k : Nat} {sl : List Slot} {hp : List Cell} {Q : Res → G → Prop} {v : PV}
theorem turned_t {p : Plan} (hw : p.writes.length ≤ 40) {ns : List Int} (h : Okv (.tup (ns.map PV.int))) (ho : ns.Perm (upN p.writes.length)) : Ok W (callC (calls table (k + 4)) I_turned_writes [pPV p, .tup (ns.map PV.int)] [] ⟨sl, hp⟩) Q = Q (.val (pPV (turn p ns))) ⟨sl, hp⟩ := call_q (by
  refine gives_run (c := calls table (k + 3)) (d := d_turned_writes) (as := [pPV p, .tup (ns.map PV.int)]) rfl ?_
  have hl := ho.length_eq
  rw [upN_len] at hl
  simp +singlePass only [d_turned_writes, is_order_of_q hw h, isOrd_ints ho, want_t]
  simp +singlePass only [pPV]
  refine lc_mapsX ns PV.int (fun i => wPV (p.writes.getD i.toNat wt0)) rfl (by omega) (fun i hi => ?_) ?_
  · have hb := mem_upN.mp (ho.mem_iff.mp hi)
    simp +singlePass only [eq_self]
    refine Ok_at hb.1 (by rw [len_map]; exact hb.2) fun y hy => ?_
    have hn : i.toNat < p.writes.length := by omega
    rw [List.getElem?_map, List.getElem?_eq_getElem hn] at hy
    cases hy
    simp +singlePass only [getD_at hn]
  · simp +singlePass only [eq_self]
    simp only [turn, turnW, List.map_map]
    rfl)
theorem turned_f {p : Plan} (hw : p.writes.length ≤ 40) (h : Okv v) (ho : isOrd p.writes.length v = false) : Ok W (callC (calls table (k + 4)) I_turned_writes [pPV p, v] [] ⟨sl, hp⟩) Q = W ⟨0, [.str "order", .int (-1)]⟩ ⟨sl, hp⟩ := call_qx (by
  refine givesX_run (c := calls table (k + 3)) (d := d_turned_writes) (as := [pPV p, v]) rfl ?_
  simp +singlePass only [d_turned_writes, is_order_of_q hw h, ho, want_f])
theorem kw {a b : PV} {g : G} : callC (calls table (k + 1)) I_turned_writes_1 [] [b, a] g = callC (calls table (k + 1)) I_turned_writes [a, b] [] g := rfl
/-- what is due -/
def dueV (p : Plan) (v : PV) : PV := if isOrd p.writes.length v = true then .tup [.str "told", pPV (turn p (intsV v))] else .tup [.str "use", .str "order", .int (-1)]
theorem filt_not {α : Type} (f : α → Bool) (xs : List α) : (xs.filter fun x => !f x).isEmpty = xs.all f := by
  induction xs with
  | nil => rfl
  | cons x r ih => cases h : f x <;> simp [List.filter_cons, h, ih]
theorem l_due_q {p : Plan} (hw : p.writes.length ≤ 40) (h : Okv v) : Ok W (callC (calls table (k + 3)) I_l_due [pPV p, v] [] ⟨sl, hp⟩) Q = Q (.val (dueV p v)) ⟨sl, hp⟩ := call_q (by
  refine gives_run (c := calls table (k + 2)) (d := d_l_due) (as := [pPV p, v]) rfl ?_
  have := h.nd
  cases v with
  | tup xs =>
    have hl := h.len
    simp +singlePass only [d_l_due, pPV, at_3, len_map]
    refine lc_filtX xs id id (fun x => !isNum x) (by simp) (by omega) (fun x hx => ?_) ?_
    · have hx := h.item x hx
      simp +singlePass only [id, l_is_number_q hx]
      cases isNum x <;> simp +singlePass only [eq_self]
    · have q := nil_eq (d := 50) (w := 4000000) (n := 3000) (by omega) (xs := xs.filter fun x => !isNum x) (fun x hx => h.item x (List.mem_filter.mp hx |>.1))
      simp +singlePass only [List.map_id, q, filt_not]
      cases ha : xs.all isNum with
      | false => simp +singlePass only [dueV, isOrd, ha]
      | true =>
        obtain ⟨ns, rfl, _⟩ := nums_ints ha
        simp +singlePass only [nts_map, rg_upN]
        simp +singlePass only [upN_len, eq_intsL]
        have lu : ((upN p.writes.length).map PV.int).length ≤ 16777216 := by rw [List.length_map, upN_len]; omega
        by_cases ho : sortI ns = upN p.writes.length
        · have hp := sort_perm.mp ho
          have hi : isOrd p.writes.length (.tup (ns.map PV.int)) = true := isOrd_ints hp
          have hl2 : ns.length ≤ 40 := by rw [hp.length_eq, upN_len]; exact hw
          simp +singlePass only [ho]
          refine ⟨by omega, lu, ?_⟩
          rw [cut_to (by omega)]
          refine lc_mapsX ns PV.int (fun i => wPV (p.writes.getD i.toNat wt0)) rfl (by omega) (fun i hi => ?_) ?_
          · have hb := mem_upN.mp (hp.mem_iff.mp hi)
            simp +singlePass only [at_3]
            refine Ok_at hb.1 (by rw [len_map]; exact hb.2) fun y hy => ?_
            have hn : i.toNat < p.writes.length := by omega
            rw [List.getElem?_map, List.getElem?_eq_getElem hn] at hy
            cases hy
            simp +singlePass only [getD_at hn]
          · simp +singlePass only [eq_self]
            refine ⟨by simpa using by omega, ?_⟩
            simp +singlePass only [dueV, hi, intsV, nts_map, turn, turnW, pPV, List.map_map]
            rfl
        · simp +singlePass only [ho, dueV, isOrd, ha, nts_map]
          exact ⟨by omega, lu⟩
  | _ => first | (simp only [Nd] at this; done) | (simp +singlePass only [d_l_due, pPV, at_3, len_map, dueV, isOrd]))
end
end K06
namespace K06
open PySem Ev Pl
theorem gd_lst {d w n m : Nat} {xs : List PV} (h : ∀ x ∈ xs, Gd d w n x) (hl : xs.length ≤ m) (hn : m ≤ n) : Gd (d + 1) (2 + m * (w + 2)) n (.lst xs) := by
  refine ⟨?_, ?_, ?_⟩
  · simp only [Nd]
    exact ⟨by omega, Nds.of fun x hx => (h x hx).nd⟩
  · simp only [dep]
    have := deps_le fun x hx => (h x hx).dp
    omega
  · simp only [wt]
    have h1 := wts_le fun x hx => (h x hx).wt
    have h2 := Nat.mul_le_mul_right (w + 2) hl
    omega
theorem mem2 {P : PV → Prop} {a b : PV} (h1 : P a) (h2 : P b) : ∀ x ∈ [a, b], P x := fun x hx => by
  simp only [List.mem_cons, List.not_mem_nil, or_false] at hx
  rcases hx with rfl | rfl <;> assumption
/-- a plan, or a bent order -/
abbrev Big (v : PV) : Prop := Gd 40 4000000 3000 v
theorem big_plan {p : Plan} (h : PlanOk 2 20 40 p) : Big (pPV p) := (gd_plan h).up (by omega) (by omega) (by omega)
theorem big_due {p : Plan} (h : PlanOk 2 20 40 p) (v : PV) : Big (dueV p v) := by
  unfold dueV
  split
  · rename_i ho
    obtain ⟨ns, rfl, hp, e⟩ := isOrd_of ho
    rw [e]
    exact (gd_tup (n := 40) (d := 5) (w := 330000) (m := 2) (mem2 (lit (by decide +kernel)) (gd_plan (turn_ok h hp))) (by simp) (by omega)).up (by omega) (by omega) (by omega)
  · exact lit (by decide +kernel)
theorem repr2 {a b : PV} (h1 : Big a) (h2 : Big b) : biV .repr [.lst [a, b]] = some (.val (.str (PV.lst [a, b]).d.shown)) := (gd_lst (m := 2) (mem2 h1 h2) (by simp) (by omega)).repr (by omega) (by omega)
section
variable {W : EX → G → Prop} {k : Nat} {sl : List Slot} {hp : List Cell} {Q : Res → G → Prop} {v : PV}
theorem is_right_ok {p : Plan} (hw : PlanOk 2 20 40 p) (h : Big v) (ht : hp[0]? = some (.tb (lamQ "_law_is_right"))) : Gives (calls table (k + 5) I_l_is_right [pPV p, v] [] hp) fun r h => r = .val (.bl true) ∧ h = hp := by
  refine gives_run (c := calls table (k + 4)) (d := d_l_is_right) (as := [pPV p, v]) rfl ?_
  have ho : Okv v := h.up (by omega) (by omega) (by omega)
  have hd := big_due hw v
  have hb := big_plan hw
  cases e : isOrd p.writes.length v with
  | false =>
    have e1 : dueV p v = .tup [.str "use", .str "order", .int (-1)] := by simp +singlePass only [dueV, e]
    rw [e1] at hd
    simp +singlePass only [d_l_is_right, repr2 hb h, l_due_q hw.wlen ho, ht, e1, turned_f hw.wlen ho e, refusal_q, kw, repr2 hd hd]
  | true =>
    obtain ⟨ns, rfl, hp, e2⟩ := isOrd_of e
    have e1 : dueV p (.tup (ns.map PV.int)) = .tup [.str "told", pPV (turn p ns)] := by simp +singlePass only [dueV, e, e2]
    rw [e1] at hd
    simp +singlePass only [d_l_is_right, repr2 hb h, l_due_q hw.wlen ho, ht, e1, turned_t hw.wlen ho hp, kw, repr2 hd hd]
end
end K06
namespace K06
open PySem Ev Pl
theorem small_nat {n : Nat} (h : n ≤ 1000) : -4611686018427387904 ≤ (n : Int) ∧ (n : Int) < 4611686018427387904 := by omega
theorem order_ok (k : Nat) {hp : List Cell} (F : Fd hp) {n : Nat} (hn : n ≤ 40) : Gives (calls table (k + 2) I_l_order [.ref 1, .int (n : Int)] [] hp) fun r hp => Fd hp ∧ ∃ ns : List Int, r = .val (.tup (ns.map PV.int)) ∧ ns.Perm (upN n) := by
  refine gives_run (c := calls table (k + 1)) (d := d_l_order) (as := [.ref 1, .int (n : Int)]) rfl ?_
  have hz2 := small_nat (n := n) (by omega)
  have lu : ((upN n).map PV.int).length = n := by rw [List.length_map, upN_len]
  simp +singlePass only [d_l_order, hz2, rg_upN]
  refine ⟨by omega, ?_⟩
  refine for_sl (β := List Int × List Int × Slot) (fun b sl => ((sl.set 2 (.own (b.1.map PV.int))).set 3 (.val (.tup (b.2.1.map PV.int)))).set 4 b.2.2) (fun i b hp => Fd hp ∧ b.1.length + i = n ∧ (b.2.1 ++ b.1).Perm (upN n)) (upN n, [], .no) rfl ⟨F, by rw [upN_len]; rfl, .refl _⟩ (fun i x b hp hx I => ?_) fun b hp I => ?_
  · obtain ⟨F, hl, hp2⟩ := I
    obtain ⟨left, found, s4⟩ := b
    have hi := (List.getElem?_eq_some_iff.mp hx).1
    rw [lu] at hi
    have fl := hp2.length_eq
    simp only [List.length_append, upN_len] at fl hl
    simp +singlePass only [len_map]
    refine Ok_callW (draw_ok k F (by omega) (by omega)) fun r hp1 ⟨F1, v, hr, a1, b1⟩ => ?_
    subst hr
    obtain ⟨y, ys, e, p⟩ := pop_ints (xs := left) a1 b1 (by omega)
    have pl := p.length_eq
    simp only [List.length_cons] at pl
    simp +singlePass only [e]
    refine ⟨by simp only [List.length_append, List.length_map, List.length_cons, List.length_nil]; omega, (ys, found ++ [y], _), by simp only [List.map_append, List.map_cons, List.map_nil]; rfl, F1, by simp only; omega, ?_⟩
    refine List.Perm.trans ?_ hp2
    rw [List.append_assoc]
    exact List.Perm.append_left found p
  · obtain ⟨F, hl, hp2⟩ := I
    obtain ⟨left, found, s4⟩ := b
    rw [lu] at hl
    simp only at hl hp2
    have : left = [] := List.eq_nil_of_length_eq_zero (by omega)
    subst this
    rw [List.append_nil] at hp2
    simp +singlePass only [eq_self]
    exact ⟨F, found, rfl, hp2⟩
/-! ### values near an order -/
abbrev Sx (v : PV) : Prop := Gd 1 200 40 v
theorem sx_small {i : Int} (h0 : 0 ≤ i) (h1 : i ≤ 41) : Sx (.int i) := by
  have h : ∀ n : _root_.Fin 42, gdB 1 200 40 (.int (n.val : Int)) = true := by decide +kernel
  have := h ⟨i.toNat, by omega⟩
  rw [show ((i.toNat : Nat) : Int) = i by omega] at this
  exact lit this
structure Rw (m : Nat) (xs : List PV) : Prop where
  all : ∀ x ∈ xs, Sx x
  len : xs.length ≤ m
theorem Rw.app {a b : Nat} {xs ys : List PV} (h : Rw a xs) (k : Rw b ys) : Rw (a + b) (xs ++ ys) := ⟨fun x hx => (List.mem_append.mp hx).elim (h.all x) (k.all x), by have := h.len; have := k.len; rw [List.length_append]; omega⟩
theorem Rw.cut {m : Nat} {xs : List PV} (h : Rw m xs) {lo hi : Option Int} : Rw m (cut xs lo hi) := ⟨fun x hx => h.all x (cut_mem hx), Nat.le_trans (cut_len _ _ _) h.len⟩
theorem Rw.rev {m : Nat} {xs : List PV} (h : Rw m xs) : Rw m xs.reverse := ⟨fun x hx => h.all x (List.mem_reverse.mp hx), by rw [List.length_reverse]; exact h.len⟩
theorem Rw.one {x : PV} (h : Sx x) : Rw 1 [x] := ⟨fun y hy => by rw [List.mem_singleton] at hy; subst hy; exact h, Nat.le_refl 1⟩
theorem Rw.big {m : Nat} {xs : List PV} (h : Rw m xs) (hm : m ≤ 200) : Big (.tup xs) := (gd_tup (n := 200) (m := 200) (d := 1) (w := 200) (fun x hx => (h.all x hx).up (by omega) (by omega) (by omega)) (Nat.le_trans h.len hm) (by omega)).up (by omega) (by omega) (by omega)
theorem Rw.bigL {m : Nat} {xs : List PV} (h : Rw m xs) (hm : m ≤ 200) : Big (.lst xs) := (gd_lst (n := 200) (m := 200) (d := 1) (w := 200) (fun x hx => (h.all x hx).up (by omega) (by omega) (by omega)) (Nat.le_trans h.len hm) (by omega)).up (by omega) (by omega) (by omega)
theorem big_lit {v : PV} (h : gdB 40 4000000 3000 v = true) : Big v := lit h
theorem near_ok (k : Nat) {hp : List Cell} (F : Fd hp) {T : List PV} (hT : Rw 40 T) : Gives (calls table (k + 7) I_l_near [.ref 1, .tup T] [] hp) fun r hp => Fd hp ∧ ∃ L, r = .new L ∧ L.length ≤ 100 ∧ ∀ y ∈ L, Big y := by
  refine gives_run (c := calls table (k + 6)) (d := d_l_near) (as := [.ref 1, .tup T]) rfl ?_
  have hl := hT.len
  simp +singlePass only [d_l_near]
  refine Ok_callW (draw_ok (k + 5) F (by omega) (by omega)) fun r hp1 ⟨F1, v, hr, a1, b1⟩ => ?_
  subst hr
  have l1 := cut_len T none (some v)
  have l2 := cut_len T (some (v + 1)) none
  have l3 := cut_len T (some v) (some (v + 1))
  have l4 := cut_len T (some v) none
  have sT : Sx (.int (T.length : Int)) := sx_small (by omega) (by omega)
  simp +singlePass only [eq_self]
  refine ⟨by ((try simp only [List.length_append, List.length_cons, List.length_nil, List.length_take, List.length_map, List.length_reverse]); omega), by ((try simp only [List.length_append, List.length_cons, List.length_nil, List.length_take, List.length_map, List.length_reverse]); omega), by ((try simp only [List.length_append, List.length_cons, List.length_nil, List.length_take, List.length_map, List.length_reverse]); omega), by ((try simp only [List.length_append, List.length_cons, List.length_nil, List.length_take, List.length_map, List.length_reverse]); omega), ?_⟩
  refine lc_all Fd (fun _ y => Big y) F1 (by ((try simp only [List.length_append, List.length_cons, List.length_nil, List.length_take, List.length_map, List.length_reverse]); omega)) (fun x hx hp F => ?_) fun ys hp2 F2 e => ?_
  · have hs : Sx x := by
      simp only [List.mem_cons, List.not_mem_nil, or_false] at hx
      rcases hx with rfl | rfl | rfl | rfl | rfl | rfl | rfl | rfl
      all_goals first | exact sT | exact lit (by decide +kernel)
    simp +singlePass only [eq_self]
    refine ⟨by ((try simp only [List.length_append, List.length_cons, List.length_nil, List.length_take, List.length_map, List.length_reverse]); omega), by ((try simp only [List.length_append, List.length_cons, List.length_nil, List.length_take, List.length_map, List.length_reverse]); omega), ?_⟩
    exact ⟨((hT.cut.app (Rw.one hs)).app hT.cut).big (by omega), F⟩
  · have yl : ys.length = 8 := e.length
    have yb : ∀ y ∈ ys, Big y := fun y hy => by
      obtain ⟨x, _, h⟩ := e.all y hy
      exact h
    simp +singlePass only [eq_self]
    refine ⟨by ((try simp only [List.length_append, List.length_cons, List.length_nil, List.length_take, List.length_map, List.length_reverse]); omega), by ((try simp only [List.length_append, List.length_cons, List.length_nil, List.length_take, List.length_map, List.length_reverse]); omega), by ((try simp only [List.length_append, List.length_cons, List.length_nil, List.length_take, List.length_map, List.length_reverse]); omega), by ((try simp only [List.length_append, List.length_cons, List.length_nil, List.length_take, List.length_map, List.length_reverse]); omega), by ((try simp only [List.length_append, List.length_cons, List.length_nil, List.length_take, List.length_map, List.length_reverse]); omega), ?_⟩
    refine Ok_callW (strange_ok (k + 3) F2) fun r hp3 ⟨F3, y, hr, hy⟩ => ?_
    subst hr
    simp +singlePass only [eq_self]
    have hn : Nd 40 (.tup T) := by
      simp only [Nd]
      exact ⟨hl, Nds.of fun x hx => (hT.all x hx).nd⟩
    have hd : dep (.tup T) ≤ 2 := by
      simp only [dep]
      have := deps_le fun x hx => (hT.all x hx).dp
      omega
    have hw : wt (.tup T) ≤ 8100 := by
      simp only [wt]
      have h1 := wts_le fun x hx => (hT.all x hx).wt
      have h2 := Nat.mul_le_mul_right (200 + 2) hl
      omega
    refine Ok_callW (bent_ok k (n := 40) (by omega) (by omega) 2 F3 hn hd (by omega)) fun r hp4 ⟨F4, bt⟩ => ?_
    have rb : Big r.pv := ⟨Nd.mono (by omega) _ bt.nd, by have := bt.dp; omega, by have := bt.wt; omega⟩
    simp +singlePass only [eq_self]
    have t1 : Big (.tup T) := hT.big (by omega)
    have all : ∀ z ∈ [PV.tup T, .tup T.reverse, .lst T, .tup (cut T none (some v) ++ cut T (some (v + 1)) none), .tup (cut T none (some v) ++ cut T (some v) (some (v + 1)) ++ cut T (some v) none)] ++ (ys ++ [PV.tup (T ++ [PV.int ↑T.length]), PV.tup (T ++ [PV.int 0]), PV.tup [PV.tup T], PV.tup (cut T (some v) none ++ cut T none (some v)), PV.tup []]) ++ [y, r.pv], Big z := fun z hz => by
      simp only [List.mem_append, List.mem_cons, List.not_mem_nil, or_false] at hz
      rcases hz with ((rfl | rfl | rfl | rfl | rfl) | h | rfl | rfl | rfl | rfl | rfl) | rfl | rfl
      · exact t1
      · exact hT.rev.big (by omega)
      · exact hT.bigL (by omega)
      · exact (hT.cut.app hT.cut).big (by omega)
      · exact ((hT.cut.app hT.cut).app hT.cut).big (by omega)
      · exact yb _ h
      · exact (hT.app (Rw.one sT)).big (by omega)
      · exact (hT.app (Rw.one (sx_small (by omega) (by omega)))).big (by omega)
      · exact (gd_tup (n := 40) (m := 1) (d := 2) (w := 8100) (fun x hx => by rw [List.mem_singleton] at hx; subst hx; exact ⟨hn, hd, hw⟩) (by simp) (by omega)).up (by omega) (by omega) (by omega)
      · exact (hT.cut.app hT.cut).big (by omega)
      · exact big_lit (by decide +kernel)
      · exact hy.up (by omega) (by omega) (by omega)
      · exact rb
    cases r <;> simp +singlePass only [eq_self]
    all_goals exact ⟨by ((try simp only [List.length_append, List.length_cons, List.length_nil, List.length_take, List.length_map, List.length_reverse]); omega), F4, _, rfl, by ((try simp only [List.length_append, List.length_cons, List.length_nil, List.length_take, List.length_map, List.length_reverse]); omega), all⟩
end K06
namespace K06
open PySem Ev Pl
theorem big_ints {ns : List Int} {n : Nat} (hn : n ≤ 40) (h : ns.Perm (upN n)) : Rw 40 (ns.map PV.int) := ⟨fun x hx => by
  obtain ⟨i, hi, rfl⟩ := List.mem_map.mp hx
  have := mem_upN.mp (h.mem_iff.mp hi)
  exact sx_small (by omega) (by omega), by rw [List.length_map, h.length_eq, upN_len]; exact hn⟩
theorem okv_ints {ns : List Int} {n : Nat} (hn : n ≤ 40) (h : ns.Perm (upN n)) : Okv (.tup (ns.map PV.int)) := ((big_ints hn h).big (by omega)).up (by omega) (by omega) (by omega)
theorem mem3' {P : PV → Prop} {a b c : PV} (h1 : P a) (h2 : P b) (h3 : P c) : ∀ x ∈ [a, b, c], P x := mem3 h1 h2 h3
theorem repr3 {a b c : PV} (h1 : Big a) (h2 : Big b) (h3 : Big c) : biV .repr [.lst [a, b, c]] = some (.val (.str (PV.lst [a, b, c]).d.shown)) := (gd_lst (m := 3) (mem3 h1 h2 h3) (by simp) (by omega)).repr (by omega) (by omega)
theorem flat_ints (ns : List Int) : (ns.map PV.int).all flat = true := by simp [flat]
theorem two_ok (k : Nat) {hp : List Cell} (F : Fd hp) {p : Plan} (hw : PlanOk 2 20 40 p) : Gives (calls table (k + 5) I_l_are_two_right [.ref 1, pPV p] [] hp) fun r hp => Fd hp ∧ r = .val (.bl true) := by
  refine gives_run (c := calls table (k + 4)) (d := d_l_are_two_right) (as := [.ref 1, pPV p]) rfl ?_
  have hm := hw.wlen
  have hpp : pPV p = .tup [bPV p.base, .tup (p.names.map PV.str), .tup (p.reads.map rPV), .tup (p.writes.map wPV)] := rfl
  have i3 : ∀ {g : G} {Q : PV → G → Prop}, Ok NX (idxG (pPV p) (.int 3) g) Q = Q (.tup (p.writes.map wPV)) g := by
    intro g Q
    rw [hpp]
    simp +singlePass only [at_3]
  simp +singlePass only [d_l_are_two_right, i3, len_map]
  refine Ok_callW (order_ok (k + 2) F hm) fun r hp1 h => ?_
  obtain ⟨F1, one, rfl, h1⟩ := h
  simp +singlePass only [eq_self]
  refine Ok_callW (order_ok (k + 2) F1 hm) fun r hp2 h => ?_
  obtain ⟨F2, two, rfl, h2⟩ := h
  have hw1 := turn_ok hw h1
  have l1 : (turn p one).writes.length = p.writes.length := turnW_len h1
  have h2' : two.Perm (upN (turn p one).writes.length) := by rw [l1]; exact h2
  simp +singlePass only [turned_t hw.wlen (okv_ints hm h1) h1, turned_t hw1.wlen (okv_ints hw1.wlen h2') h2']
  have c2 := comp_perm h2 h1
  refine lc_mapsX two PV.int (fun i => .int (one.getD i.toNat 0)) rfl (by rw [h2.length_eq, upN_len]; omega) (fun i hi => ?_) ?_
  · have hb := mem_upN.mp (h2.mem_iff.mp hi)
    have hn : i.toNat < one.length := by rw [h1.length_eq, upN_len]; omega
    simp +singlePass only [eq_self]
    refine Ok_at hb.1 (by rw [len_map, h1.length_eq, upN_len]; exact hb.2) fun y hy => ?_
    rw [List.getElem?_map, List.getElem?_eq_getElem hn] at hy
    cases hy
    simp +singlePass only [Pl.getD_at hn]
  · have eb : two.map (fun i => PV.int (one.getD i.toNat 0)) = (two.map fun i => one.getD i.toNat 0).map PV.int := by rw [List.map_map]; rfl
    rw [eb]
    have e2 := turnW_two (w := p.writes) h2 h1
    generalize (two.map fun i => one.getD i.toNat 0) = both at *
    have z2 := small_nat (n := p.writes.length) (by omega)
    have cl := c2.length_eq
    rw [upN_len] at cl
    have lu : ((upN p.writes.length).map PV.int).length ≤ 16777216 := by rw [List.length_map, upN_len]; omega
    simp +singlePass only [z2, rg_upN]
    refine lc_mapsX (upN p.writes.length) PV.int (fun i => .int (both.idxOf i : Int)) rfl (by rw [upN_len]; omega) (fun i hi => ?_) ?_
    · have hb := c2.mem_iff.mpr hi
      simp +singlePass only [idx_ints hb, flat_ints, flat_i]
    · have ea : (upN p.writes.length).map (fun i => PV.int (both.idxOf i : Int)) = ((upN p.writes.length).map fun i => (both.idxOf i : Int)).map PV.int := by rw [List.map_map]; rfl
      rw [ea]
      have b1 := back_perm c2
      have b2 := back_turn (w := p.writes) c2
      generalize ((upN p.writes.length).map fun i => (both.idxOf i : Int)) = again at *
      have hwb := turn_ok hw c2
      have lb : (turn p both).writes.length = p.writes.length := turnW_len c2
      have b1' : again.Perm (upN (turn p both).writes.length) := by rw [lb]; exact b1
      have t1 : turn (turn p one) two = turn p both := by simp only [turn, e2]
      have t2 : turn (turn p both) again = p := by
        unfold turn
        simp only [b2]
      have od := okv_ints hm c2
      have du : dueV p (.tup (both.map PV.int)) = .tup [.str "told", pPV (turn p both)] := by
        have e := isOrd_ints c2
        simp +singlePass only [dueV, e, intsV, nts_map]
      simp +singlePass only [l_due_q hw.wlen od, du, at_1, turned_t hw.wlen od c2, t1, turned_t hwb.wlen (okv_ints hwb.wlen b1') b1', t2, repr3 (big_plan hwb) (big_plan hwb) (big_plan hw)]
      exact F2
/-! ### the law -/
theorem feed_ok (k : Nat) {ns : List Int} : Gives (calls table (k + 1) I_l_feed [.fz ns] [] (tabCells tgs.ln)) fun x hp' => x = .val (.ref 1) ∧ Fd hp' := by
  refine gives_run (c := calls table k) (d := d_l_feed) (as := [.fz ns]) rfl ?_
  show Ok NX (exs _ _ ⟨_, [.tb (lamQ "_law_is_right")]⟩) _
  simp +singlePass only [d_l_feed]
  rw [cut_to (by omega)]
  refine lc_map (f := PV.int) (h := PV.int) (· = [.tb (lamQ "_law_is_right")]) (ns.take 63) [] _ rfl (by ((try simp only [List.length_append, List.length_cons, List.length_nil, List.length_take, List.length_map, List.length_reverse]); omega)) (fun t ht hp' e => ?_) fun hp' e => ?_
  · subst e
    simp +singlePass only [eq_self]
  · subst e
    simp +singlePass only [eq_self]
    exact ⟨ns.take 63, 0, 0, 0, [], rfl⟩
theorem Fd.tb {hp : List Cell} (F : Fd hp) : hp[0]? = some (.tb (lamQ "_law_is_right")) := by
  obtain ⟨_, _, _, _, _, rfl⟩ := F
  rfl
theorem law_run {c : Call} (D : ∀ {hp : List Cell} (F : Fd hp) {many : Int} (h1 : 1 ≤ many) (h2 : many ≤ 1000000), Gives (c I_l_draw [.ref 1, .int many] [] hp) fun r hp => Fd hp ∧ ∃ v, r = .val (.int v) ∧ 0 ≤ v ∧ v < many)
    (Pl : ∀ {hp : List Cell} (F : Fd hp) {most : Int} (m1 : 1 ≤ most) (m2 : most ≤ 20), Gives (c I_l_plan [.ref 1, .int most] [] hp) fun r hp => Fd hp ∧ ∃ p, r = .val (pPV p) ∧ PlanOk 2 20 40 p ∧ 1 ≤ p.names.length)
    (Or : ∀ {hp : List Cell} (F : Fd hp) {n : Nat} (hn : n ≤ 40), Gives (c I_l_order [.ref 1, .int (n : Int)] [] hp) fun r hp => Fd hp ∧ ∃ ns : List Int, r = .val (.tup (ns.map PV.int)) ∧ ns.Perm (upN n))
    (Ne : ∀ {hp : List Cell} (F : Fd hp) {T : List PV} (hT : Rw 40 T), Gives (c I_l_near [.ref 1, .tup T] [] hp) fun r hp => Fd hp ∧ ∃ L, r = .new L ∧ L.length ≤ 100 ∧ ∀ y ∈ L, Big y)
    (Fe : ∀ ns : List Int, Gives (c I_l_feed [.fz ns] [] (tabCells tgs.ln)) fun x hp' => x = .val (.ref 1) ∧ Fd hp')
    (Tw : ∀ {hp : List Cell} (F : Fd hp) {p : Plan} (hw : PlanOk 2 20 40 p), Gives (c I_l_are_two_right [.ref 1, pPV p] [] hp) fun r hp => Fd hp ∧ r = .val (.bl true))
    (R : ∀ {p : Plan} (hw : PlanOk 2 20 40 p) {v : PV} (h : Big v) {hp : List Cell} (F : Fd hp), Gives (c I_l_is_right [pPV p, v] [] hp) fun r h => r = .val (.bl true) ∧ h = hp)
    (ns : List Int) : Gives (run c d_law [.fz ns] (tabCells tgs.ln)) fun r h => r = .val (.bl true) := by
  refine gives_run rfl ?_
  simp +singlePass only [d_law]
  apply Ok_callW (Fe ns)
  intro r hp1 h
  obtain ⟨rfl, F1⟩ := h
  simp +singlePass only [eq_self]
  refine for_sl (β := Slot × Slot × Slot) (fun b sl => ((sl.set 2 b.1).set 3 b.2.1).set 4 b.2.2) (fun i b hp => Fd hp) (.no, .no, .no) rfl F1 (fun i x b hp hx F => ?_) fun b hp F => ?_
  · obtain ⟨s2, s3, s4⟩ := b
    simp +singlePass only [eq_self]
    apply Ok_callW (D F (by omega) (by omega))
    intro r hp2 h
    obtain ⟨F2, v, rfl, v0, v1⟩ := h
    simp +singlePass only [eq_self]
    refine Ok_at v0 (by exact v1) fun y hy => ?_
    obtain ⟨m, rfl, m0, m1⟩ := intP_of (lo := 4) (hi := 20) (by decide +kernel) (List.mem_of_getElem? hy)
    simp +singlePass only [eq_self]
    apply Ok_callW (Pl F2 (by omega) m1)
    intro r hp3 h
    obtain ⟨F3, p, rfl, hw, _⟩ := h
    have hm := hw.wlen
    have i3 : ∀ {g : G} {Q : PV → G → Prop}, Ok NX (idxG (pPV p) (.int 3) g) Q = Q (.tup (p.writes.map wPV)) g := by
      intro g Q
      unfold pPV
      simp +singlePass only [at_3]
    simp +singlePass only [i3, len_map]
    apply Ok_callW (Or F3 hm)
    intro r hp4 h
    obtain ⟨F4, ns, rfl, hn⟩ := h
    simp +singlePass only [eq_self]
    apply Ok_callW (Ne F4 (big_ints hm hn))
    intro r hp5 h
    obtain ⟨F5, L, rfl, hL, hb⟩ := h
    simp +singlePass only [eq_self]
    refine lc_none (fun hp => Fd hp) L [] hp5 F5 (fun x hx hp F => ?_) fun hp' F6 => ?_
    · simp +singlePass only [eq_self]
      apply Ok_callW (R hw (hb x hx) F)
      intro r hp7 h
      obtain ⟨rfl, rfl⟩ := h
      simp +singlePass only [eq_self]
      exact F
    · have e : eqV (.lst []) (.lst []) = some true := nil_eq (d := 1) (w := 1) (n := 1) (by omega) nofun
      simp +singlePass only [e]
      apply Ok_callW (Tw F6 hw)
      intro r hp7 h
      obtain ⟨F7, rfl⟩ := h
      simp +singlePass only [eq_self]
      exact ⟨(_, _, _), rfl, F7⟩
  · simp +singlePass only [eq_self]
theorem main : ∀ ns : List Int, ns.length ≤ 63 → ∃ hp', calls table 12 0 [.fz ns] [] (tabCells tgs.ln) = some (.ret (.val (.bl true)), hp') := by
  intro ns _
  have G1 : Gives (calls table 12 0 [.fz ns] [] (tabCells tgs.ln)) fun r h => r = .val (.bl true) := by
    have D := fun {hp : List Cell} (F : Fd hp) {many : Int} (h1 : 1 ≤ many) (h2 : many ≤ 1000000) => draw_ok 10 F h1 h2
    have P := fun {hp : List Cell} (F : Fd hp) {most : Int} (m1 : 1 ≤ most) (m2 : most ≤ 20) => plan_ok 6 F m1 m2
    have O := fun {hp : List Cell} (F : Fd hp) {n : Nat} (hn : n ≤ 40) => order_ok 9 F hn
    have N := fun {hp : List Cell} (F : Fd hp) {T : List PV} (hT : Rw 40 T) => near_ok 4 F hT
    have Fe := fun ns : List Int => feed_ok 10 (ns := ns)
    have Tw := fun {hp : List Cell} (F : Fd hp) {p : Plan} (hw : PlanOk 2 20 40 p) => two_ok 6 F hw
    have R := fun {p : Plan} (hw : PlanOk 2 20 40 p) {v : PV} (h : Big v) {hp : List Cell} (F : Fd hp) => is_right_ok (k := 6) hw h F.tb
    refine gives_call (k := 11) (e := ⟨⟨"law", 1, []⟩, d_law, [.pos 0], none⟩) rfl rfl ?_
    exact law_run (c := calls table 11) D P O N Fe Tw R ns
  obtain ⟨r, hp, e, rfl⟩ := G1.ex
  exact ⟨hp, e⟩
end K06
open PySem PySem.W PyProof.Rows
set_option maxHeartbeats 0 in
theorem PySem.Challenge.cw_amidlinks_k06_whole_writes_turned_holds : PySem.Challenge.rw_amidlinks_k06_whole_writes_turned.Holds := by
  w_on; o_law; k_head; (case hw => w_witness2)
  k_fill
  refine Ev.walk_ev (l := PySem.Challenge.rw_amidlinks_k06_whole_writes_turned) (n := 63) (k := 12) (D := K06.table) (T := K06.tgs) (i := 0) rfl rfl rfl (by decide) rfl ⟨rfl, by decide, by decide⟩ (fun w h Y => PySem.W.km_in_of Y) rfl rfl rfl rfl ?F ?C
  case F =>
    intro w mg h Y KX G
    refine' K06.all_mk (P6 := (PySem.W.tabIn (K06.KOf KX) "_law_is_right" |>.getD (0, 0)).2) KX G ?v_a0 ?v_l0 ?v_c0 ?v_a1 ?v_l1 ?v_c1 ?v_a2 ?v_l2 ?v_c2 ?v_a3 ?v_l3 ?v_c3 ?v_a4 ?v_l4 ?v_c4 ?v_a5 ?v_l5 ?v_c5 ?v_a6 ?v_l6 ?v_c6 ?v_tb6 ?v_tn6 ?v_th6 ?v_tt6_ ?v_a7 ?v_l7 ?v_c7 ?v_a8 ?v_l8 ?v_c8 ?v_a9 ?v_l9 ?v_c9 ?v_a10 ?v_l10 ?v_c10 ?v_a11 ?v_l11 ?v_c11 ?v_a12 ?v_l12 ?v_c12 ?v_a13 ?v_l13 ?v_c13 ?v_a14 ?v_l14 ?v_c14 ?v_a15 ?v_l15 ?v_c15 ?v_a16 ?v_l16 ?v_c16 ?v_a17 ?v_l17 ?v_c17 ?v_a18 ?v_l18 ?v_c18 ?v_a19 ?v_l19 ?v_c19 ?v_lt19 ?v_a20 ?v_l20 ?v_c20 ?v_a21 ?v_l21 ?v_c21 ?v_a22 ?v_l22 ?v_c22 ?v_a23 ?v_l23 ?v_c23 ?v_z0 ?v_z1 ?v_z2 ?v_z3 ?v_z4 ?v_z5 ?v_z6 ?v_z7 ?v_z8 ?v_z9 ?v_z10 ?v_z11 ?v_z12 ?v_z13 ?v_z14 ?v_z15 ?v_z16 ?v_z17 ?v_z18 ?v_zs ?v_zv ?v_zt ?v_gcl ?v_gct ?v_as ?v_ls ?v_cs ?v_n_LiveError ?v_n_RoutineError ?v_n_PaperError ?v_n_TextError ?v_n_NotUsable ?v_n_InvalidPaper ?v_n_InvalidText ?v_n_LinkError ?v_x1_NotUsable ?v_x2_NotUsable ?v_x3_NotUsable ?v_x4_NotUsable ?v_x5_NotUsable ?v_x6_NotUsable ?v_x7_NotUsable ?v_x8_NotUsable ?v_x9_NotUsable ?v_xa_NotUsable ?v_xb_NotUsable ?v_xc_NotUsable ?v_xd_NotUsable ?v_xe_NotUsable ?v_xf_NotUsable ?v_xg_NotUsable ?v_xh_NotUsable ?v_xi_NotUsable_word ?v_xi_NotUsable_at ?v_y1_NotUsable ?v_y2_NotUsable ?v_y3_NotUsable ?v_y4_NotUsable ?v_y5_NotUsable ?v_y6_NotUsable ?v_k_NotUsable_LiveError ?v_k_NotUsable_RoutineError ?v_k_NotUsable_PaperError ?v_k_NotUsable_ValueError ?v_k_NotUsable_TextError ?v_k_NotUsable_NotUsable ?v_k_NotUsable_InvalidPaper ?v_k_NotUsable_InvalidText ?v_nd
    (case v_a0 => k_is); (case v_l0 => k_is); (case v_c0 => k_is); (case v_a1 => k_is); (case v_l1 => k_is); (case v_c1 => k_is); (case v_a2 => k_is); (case v_l2 => k_is); (case v_c2 => k_is); (case v_a3 => k_is); (case v_l3 => k_is); (case v_c3 => k_is); (case v_a4 => k_is); (case v_l4 => k_is); (case v_c4 => k_is); (case v_a5 => k_is); (case v_l5 => k_is); (case v_c5 => k_is); (case v_a6 => k_is); (case v_l6 => k_is); (case v_c6 => k_is); (case v_tb6 => kernel_rfl); (case v_tn6 => kernel_rfl); (case v_th6 => kernel_rfl); (case v_tt6_ => exact PySem.W.km_tabs_of Y _ (List.mem_of_elem_eq_true (by kernel_rfl))); (case v_a7 => k_is); (case v_l7 => k_is); (case v_c7 => k_is); (case v_a8 => k_is); (case v_l8 => k_is); (case v_c8 => k_is); (case v_a9 => k_is); (case v_l9 => k_is); (case v_c9 => k_is); (case v_a10 => k_is); (case v_l10 => k_is); (case v_c10 => k_is); (case v_a11 => k_is); (case v_l11 => k_is); (case v_c11 => k_is); (case v_a12 => k_is); (case v_l12 => k_is); (case v_c12 => k_is); (case v_a13 => k_is); (case v_l13 => k_is); (case v_c13 => k_is); (case v_a14 => k_is); (case v_l14 => k_is); (case v_c14 => k_is); (case v_a15 => k_is); (case v_l15 => k_is); (case v_c15 => k_is); (case v_a16 => k_is); (case v_l16 => k_is); (case v_c16 => k_is); (case v_a17 => k_is); (case v_l17 => k_is); (case v_c17 => k_is); (case v_a18 => k_is); (case v_l18 => k_is); (case v_c18 => k_is); (case v_a19 => k_is); (case v_l19 => k_is); (case v_c19 => k_is); (case v_lt19 => k_is); (case v_a20 => k_is); (case v_l20 => k_is); (case v_c20 => k_is); (case v_a21 => k_is); (case v_l21 => k_is); (case v_c21 => k_is); (case v_a22 => k_is); (case v_l22 => k_is); (case v_c22 => k_is); (case v_a23 => k_is); (case v_l23 => k_is); (case v_c23 => k_is); (case v_z0 => k_is); (case v_z1 => k_is); (case v_z2 => k_is); (case v_z3 => k_is); (case v_z4 => k_is); (case v_z5 => k_is); (case v_z6 => k_is); (case v_z7 => k_is); (case v_z8 => k_is); (case v_z9 => k_is); (case v_z10 => k_is); (case v_z11 => k_is); (case v_z12 => k_is); (case v_z13 => k_is); (case v_z14 => k_is); (case v_z15 => k_is); (case v_z16 => k_is); (case v_z17 => k_is); (case v_z18 => k_is); (case v_zs => k_is); (case v_zv => k_is); (case v_zt => k_is); (case v_gcl => k_is); (case v_gct => k_is); (case v_as => k_is); (case v_ls => k_is); (case v_cs => k_is); (case v_n_LiveError => k_is); (case v_n_RoutineError => k_is); (case v_n_PaperError => k_is); (case v_n_TextError => k_is); (case v_n_NotUsable => k_is); (case v_n_InvalidPaper => k_is); (case v_n_InvalidText => k_is); (case v_n_LinkError => k_is); (case v_x1_NotUsable => k_is); (case v_x2_NotUsable => first | rfl | decide); (case v_x3_NotUsable => k_is); (case v_x4_NotUsable => k_is); (case v_x5_NotUsable => k_is); (case v_x6_NotUsable => k_is); (case v_x7_NotUsable => k_is); (case v_x8_NotUsable => k_is); (case v_x9_NotUsable => k_is); (case v_xa_NotUsable => k_is); (case v_xb_NotUsable => k_is); (case v_xc_NotUsable => first | rfl | k_is); (case v_xd_NotUsable => first | rfl | decide +kernel); (case v_xe_NotUsable => k_is); (case v_xf_NotUsable => kernel_rfl); (case v_xg_NotUsable => k_is); (case v_xh_NotUsable => k_is); (case v_xi_NotUsable_word => k_is); (case v_xi_NotUsable_at => k_is); (case v_y1_NotUsable => k_is); (case v_y2_NotUsable => k_is); (case v_y3_NotUsable => k_is); (case v_y4_NotUsable => k_is); (case v_y5_NotUsable => k_is); (case v_y6_NotUsable => kernel_rfl); (case v_k_NotUsable_LiveError => kernel_rfl); (case v_k_NotUsable_RoutineError => kernel_rfl); (case v_k_NotUsable_PaperError => kernel_rfl); (case v_k_NotUsable_ValueError => kernel_rfl); (case v_k_NotUsable_TextError => kernel_rfl); (case v_k_NotUsable_NotUsable => kernel_rfl); (case v_k_NotUsable_InvalidPaper => kernel_rfl); (case v_k_NotUsable_InvalidText => kernel_rfl); (case v_nd => exact of_decide_eq_true (by kernel_rfl))
  case C =>
    exact K06.main
