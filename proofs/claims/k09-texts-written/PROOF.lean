import PyProof.Rows.All
import Wide.All
import OpenK.AllK
import Wide.FinOn
import HandS.ForMost
import HandS.FStr
import HandS.TupAny
import HandS.TupMul
import HandS.Wide
import HandS.Style
import HandS.Conv
import HandS.Records
import HandS.RaiseMore
import HandS.Flow
import HandS.Exc
import HandS.Ends
import HandS.Words
import PySem.Challenge.RW_amidlinks_k09_texts_written
set_option Elab.async false
set_option linter.all false
set_option maxRecDepth 100000
set_option maxHeartbeats 4000000
/-! # Ev, part 1: values, the mini language, its evaluator. Plain Lean: no machine in sight. -/
namespace Ev
open PySem

/-! ### values -/
/-- fz: the script, a locked list; ref: a cell of the evaluator's heap -/
inductive PV where
  | non | bl (b : Bool) | int (i : Int) | str (x : Str)
  | tup (xs : List PV) | lst (xs : List PV) | fz (ns : List Int) | ref (n : Nat)
  deriving Inhabited
mutual
def PV.d : PV → PyData
  | .non => .none
  | .bl b => .bool b
  | .int i => .int i
  | .str x => .str x
  | .tup xs => .tuple (PV.ds xs)
  | .lst xs => .list (PV.ds xs)
  | .fz _ => .none
  | .ref _ => .none
def PV.ds : List PV → List PyData
  | [] => []
  | x :: xs => x.d :: PV.ds xs
end
mutual
/-- no cell, no script in it -/
def PV.pure : PV → Bool
  | .non => true
  | .bl _ => true
  | .int _ => true
  | .str _ => true
  | .tup xs => PV.pures xs
  | .lst xs => PV.pures xs
  | .fz _ => false
  | .ref _ => false
def PV.pures : List PV → Bool
  | [] => true
  | x :: xs => x.pure && PV.pures xs
end
/-- a result: a value, or a list that nobody else holds -/
inductive Res where
  | val (v : PV) | new (xs : List PV)
def Res.pv : Res → PV
  | .val v => v
  | .new xs => .lst xs
/-- a local name: unbound, a value, a list that is this name's own -/
inductive Slot where
  | no | val (v : PV) | own (xs : List PV)
  deriving Inhabited
abbrev Key := L2.Key
def Res.slot : Res → Slot
  | .val v => .val v
  | .new xs => .own xs
inductive Cell where
  | dk (kvs : List (Key × PV))
structure G where
  sl : List Slot
  hp : List Cell
inductive R (α : Type) where
  | ok (a : α) (g : G) | bad
abbrev M (α : Type) := G → R α
def R.bind {α β : Type} (r : R α) (f : α → M β) : R β := match r with
  | .ok a g => f a g
  | .bad => .bad
@[simp] theorem R.bind_ok {α β : Type} {a : α} {g : G} {f : α → M β} : (R.ok a g).bind f = f a g := rfl
@[simp] theorem R.bind_bad {α β : Type} {f : α → M β} : (R.bad : R α).bind f = .bad := rfl
def lift {α : Type} (o : Option α) : M α := fun g => match o with
  | some a => .ok a g
  | none => .bad
@[simp] theorem lift_some {α : Type} {a : α} {g : G} : lift (some a) g = .ok a g := rfl
@[simp] theorem lift_none {α : Type} {g : G} : lift (none : Option α) g = .bad := rfl

/-! ### the language -/
inductive BO where | add | sub | mul | fdiv | mod | pow
  deriving DecidableEq
inductive CO where | eq | ne | lt | le | gt | ge | isN | notN | inn | nin
  deriving DecidableEq
inductive BI where | len | int | str | repr | list | tuple | min2 | max2
  deriving DecidableEq
inductive MT where | nm (i : Nat) | tp (is : List Nat)
mutual
inductive ME where
  | cst (v : PV)
  | var (i : Nat)
  | tup (es : MEs) | lst (es : MEs)
  | bin (o : BO) (a b : ME)
  | cmp (o : CO) (a b : ME)
  | neg (a : ME) | nt (a : ME) | an (a b : ME) | orr (a b : ME) | ite (c a b : ME)
  | idx (a b : ME)
  | slc (a : ME) (lo hi : MO)
  | rev (a : ME)
  | call (f : Nat) (es : MEs) (ks : MEs)
  | bi (f : BI) (es : MEs)
  | join (o a : ME)
  | app (i : Nat) (a : ME)
  | ext (i : Nat) (a : ME)
  | lc (t : MT) (it : MI) (c : MO) (e : ME)
  | fs (es : MEs)
  | dct (ks : List Str) (vs : MEs)
inductive MEs where
  | nil | cons (e : ME) (es : MEs)
inductive MO where
  | no | so (e : ME)
inductive MI where
  | it (a : ME) | rg1 (a : ME) | rg2 (a b : ME)
end
mutual
inductive MS where
  | asg (t : MT) (e : ME)
  | par (is : List Nat) (es : MEs)
  | put (o k e : ME)
  | ex (e : ME)
  | iff (c : ME) (a b : MSs)
  | for_ (t : MT) (it : MI) (b : MSs)
  | ret (e : ME)
  | retN
  | pas | brk | cnt
  | nvr
inductive MSs where
  | nil | cons (s : MS) (r : MSs)
end
/-- a call: which def, its arguments, the values of its keywords -/
abbrev Call := Nat → List PV → List PV → List Cell → Option (Res × List Cell)

/-! ### operators -/
def ck {α : Type} (c : Prop) [Decidable c] (r : α) : Option α := if c then some r else none
def addV : PV → PV → Option Res
  | .int i, .int j => some (.val (.int (i + j)))
  | .str x, .str y => ck (x.length + y.length ≤ sizeLine) (.val (.str (x ++ y)))
  | .lst xs, .lst ys => ck (xs.length + ys.length ≤ sizeLine) (.new (xs ++ ys))
  | .tup xs, .tup ys => ck (xs.length + ys.length ≤ sizeLine) (.val (.tup (xs ++ ys)))
  | _, _ => none
def mulV : PV → PV → Option Res
  | .int i, .int j => ck ((-(2 ^ 64) < i ∧ i < 2 ^ 64) ∨ (-(2 ^ 64) < j ∧ j < 2 ^ 64)) (.val (.int (i * j)))
  | .lst xs, .int k => ck (-(2 ^ 63) ≤ k ∧ k < 2 ^ 63 ∧ xs.length * k.toNat ≤ sizeLine) (.new (List.replicate k.toNat xs).flatten)
  | .tup xs, .int k => ck (xs.isEmpty = false ∧ 2 ≤ k ∧ k ≤ 1000 ∧ xs.length ≤ 1000) (.val (.tup (List.replicate k.toNat xs).flatten))
  | _, _ => none
def subV : PV → PV → Option Res
  | .int i, .int j => some (.val (.int (i - j)))
  | _, _ => none
def fdivV : PV → PV → Option Res
  | .int i, .int j => ck (0 < j ∧ j.natAbs.log2 < 9000) (.val (.int (i / j)))
  | _, _ => none
def modV : PV → PV → Option Res
  | .int i, .int j => ck (0 < j) (.val (.int (i % j)))
  | _, _ => none
def powV : PV → PV → Option Res
  | .int i, .int j => ck (0 ≤ j ∧ j ≤ 1000000 ∧ i.natAbs < 2 ^ 64) (.val (.int (i ^ j.toNat)))
  | _, _ => none
def binV (o : BO) : PV → PV → Option Res := match o with
  | .add => addV
  | .sub => subV
  | .mul => mulV
  | .fdiv => fdivV
  | .mod => modV
  | .pow => powV
/-- == of data; strings and numbers first -/
def eqV : PV → PV → Option Bool
  | .non, .non => some true
  | .int i, .int j => some (decide (i = j))
  | .bl i, .bl j => some (decide (i = j))
  | .str i, .str j => some (decide (i = j))
  | .int _, .str _ => some false
  | .str _, .int _ => some false
  | .bl _, .str _ => some false
  | .str _, .bl _ => some false
  | .non, .int _ => some false
  | .int _, .non => some false
  | .non, .str _ => some false
  | .str _, .non => some false
  | x, y => ck (x.pure = true ∧ y.pure = true ∧ SeqAt.shaped x.d = true ∧ SeqAt.shaped y.d = true) (PyData.eqv x.d y.d)
/-- a scalar -/
def flat : PV → Bool
  | .non => true
  | .bl _ => true
  | .int _ => true
  | .str _ => true
  | _ => false
def eqF : PV → PV → Bool
  | .non, .non => true
  | .bl a, .bl b => a == b
  | .bl a, .int b => (if a then 1 else 0) == b
  | .int a, .bl b => a == (if b then 1 else 0)
  | .int a, .int b => a == b
  | .str a, .str b => a == b
  | _, _ => false
def inV (x : PV) : PV → Option Bool
  | .lst xs => ck (flat x = true ∧ xs.all flat = true) (xs.any fun y => eqF y x)
  | .tup xs => ck (flat x = true ∧ xs.all flat = true) (xs.any fun y => eqF y x)
  | _ => none
def ordV (f : Int → Int → Bool) : PV → PV → Option Bool
  | .int i, .int j => some (f i j)
  | _, _ => none
def isNone : PV → Bool
  | .non => true
  | _ => false
def isV (x y : PV) : Option Bool := if isNone y = true then some (isNone x) else none
def cmpV (o : CO) : PV → PV → Option Bool := match o with
  | .eq => eqV
  | .ne => fun x y => (eqV x y).map (!·)
  | .lt => ordV fun i j => decide (i < j)
  | .le => ordV fun i j => decide (i ≤ j)
  | .gt => ordV fun i j => decide (j < i)
  | .ge => ordV fun i j => decide (j ≤ i)
  | .isN => isV
  | .notN => fun x y => (isV x y).map (!·)
  | .inn => inV
  | .nin => fun x y => (inV x y).map (!·)
def truV : PV → Option Bool
  | .non => some false
  | .bl b => some b
  | .int i => some (i != 0)
  | .str x => ck (x.length ≤ sizeLine) ((x.length : Int) != 0)
  | .lst xs => some (!xs.isEmpty)
  | .tup xs => some (!xs.isEmpty)
  | .fz xs => some (!xs.isEmpty)
  | .ref _ => none
def ixN (n : Nat) (i : Int) : Option Nat := if 0 ≤ i then (if i < n then some i.toNat else none) else if -(n : Int) ≤ i then some (i + n).toNat else none
def atI {α : Type} (xs : List α) (i : Int) : Option α := (ixN xs.length i).bind fun j => xs[j]?
def idxV : PV → PV → Option PV
  | .lst xs, .int i => atI xs i
  | .tup xs, .int i => atI xs i
  | .str x, .int i => if x.length ≤ sizeLine then (atI x.cps.toList i).map fun c => .str ⟨#[c]⟩ else none
  | _, _ => none
def cut {α : Type} (xs : List α) (lo hi : Option Int) : List α := (xs.drop (HT.sIx xs.length 0 lo)).take (HT.sIx xs.length xs.length hi - HT.sIx xs.length 0 lo)
def slcV : PV → Option Int → Option Int → Option Res
  | .lst xs, lo, hi => some (.new (cut xs lo hi))
  | .tup xs, lo, hi => some (.val (.tup (cut xs lo hi)))
  | .fz xs, lo, hi => some (.new ((cut xs lo hi).map PV.int))
  | .str x, lo, hi => ck (x.length ≤ sizeLine) (.val (.str (L2.cutS x lo hi)))
  | _, _, _ => none
def revV : PV → Option Res
  | .lst xs => some (.new xs.reverse)
  | .tup xs => some (.val (.tup xs.reverse))
  | _ => none
/-- the texts of a list of texts -/
def txts : List PV → Option (List Str)
  | [] => some []
  | .str x :: r => (txts r).map (x :: ·)
  | _ => none
def joinV : PV → PV → Option PV
  | .str a, .lst xs => (txts xs).bind fun ys => ck ((ys.map (·.length)).sum + ys.length * a.length ≤ 16777216) (.str (Txt.join a ys))
  | .str a, .tup xs => (txts xs).bind fun ys => ck ((ys.map (·.length)).sum + ys.length * a.length ≤ 16777216) (.str (Txt.join a ys))
  | _, _ => none
def isDisp : PV → Bool
  | .lst _ => true
  | .tup _ => true
  | _ => false
def biV : BI → List PV → Option Res
  | .len, [.lst xs] => some (.val (.int xs.length))
  | .len, [.tup xs] => some (.val (.int xs.length))
  | .len, [.str x] => ck (x.length ≤ sizeLine) (.val (.int x.length))
  | .int, [.int i] => some (.val (.int i))
  | .int, [.bl b] => some (.val (.int (if b then 1 else 0)))
  | .str, [.int i] => ck (i.natAbs.log2 < 1920) (.val (.str (toString i)))
  | .str, [.str x] => some (.val (.str x))
  | .repr, [x] => ck (isDisp x = true ∧ x.pure = true ∧ x.d.showable = true ∧ x.d.depth ≤ 100 ∧ x.d.shown.length ≤ sizeLine) (.val (.str x.d.shown))
  | .list, [.lst xs] => some (.new xs)
  | .list, [.tup xs] => some (.new xs)
  | .tuple, [.lst xs] => some (.val (.tup xs))
  | .tuple, [.tup xs] => some (.val (.tup xs))
  | .min2, [.int i, .int j] => some (.val (.int (if j < i then j else i)))
  | .max2, [.int i, .int j] => some (.val (.int (if j > i then j else i)))
  | _, _ => none
def fmtV : PV → Option Str
  | .str x => ck (x.length ≤ sizeLine) x
  | .int i => ck (i.natAbs.log2 < 1920) (toString i)
  | _ => none
/-- a dict with keys ints and texts -/
def keyOf : PV → Option Key
  | .int i => some (.inl i)
  | .str x => some (.inr x)
  | _ => none
def getK (kvs : List (Key × PV)) (k : Key) : Option PV := (kvs.find? fun kv => decide (kv.1 = k)).map (·.2)
def putK (kvs : List (Key × PV)) (k : Key) (v : PV) : List (Key × PV) :=
  if (kvs.any fun kv => decide (kv.1 = k)) = true then kvs.map (fun kv => if kv.1 = k then (kv.1, v) else kv) else kvs ++ [(k, v)]

/-! ### the evaluator -/
/-- an operand: a value, or what a name holds, looked at late -/
inductive Opd where
  | v (x : PV) | s (i : Nat)
def peek (i : Nat) : M PV := fun g => match g.sl[i]? with
  | some (.val v) => .ok v g
  | some (.own xs) => .ok (.lst xs) g
  | _ => .bad
def look : Opd → M PV
  | .v x => fun g => .ok x g
  | .s i => peek i
/-- a name read: a list of its own is its own no longer -/
def rdVar (i : Nat) : M Res := fun g => match g.sl[i]? with
  | some (.val v) => .ok (.val v) g
  | some (.own xs) => .ok (.val (.lst xs)) { g with sl := g.sl.set i (.val (.lst xs)) }
  | _ => .bad
def setVar (i : Nat) (r : Res) : M Unit := fun g => if i < g.sl.length then .ok () { g with sl := g.sl.set i r.slot } else .bad
def setVars : List Nat → List PV → M Unit
  | [], [] => fun g => .ok () g
  | i :: is, v :: vs => fun g => (setVar i (.val v) g).bind fun _ => setVars is vs
  | _, _ => fun _ => .bad
def bindT : MT → Res → M Unit
  | .nm i, r => setVar i r
  | .tp is, .val (.tup xs) => setVars is xs
  | .tp _, _ => fun _ => .bad
def MT.slots : MT → List Nat
  | .nm i => [i]
  | .tp is => is
/-- the slots is of sl as they are in old -/
def wipe (sl : List Slot) : List Nat → List Slot
  | [] => sl
  | i :: is => (wipe sl is).set i .no
def back (old sl : List Slot) : List Nat → List Slot
  | [] => sl
  | i :: is => (back old sl is).set i (old.getD i .no)
/-- none of the slots holds a list of its own -/
def noOwn (sl : List Slot) : List Nat → Bool
  | [] => true
  | i :: is => (match sl[i]? with
    | some (.own _) => false
    | _ => true) && noOwn sl is
def itemsOf : PV → Option (List PV)
  | .lst xs => some xs
  | .tup xs => some xs
  | .fz ns => some (ns.map PV.int)
  | _ => none
def rgItems (lo hi : Int) : List PV := (List.range (hi - lo).toNat).map fun k => PV.int (lo + (k : Nat))
def rgOk (i : Int) : Prop := -(2 ^ 62) ≤ i ∧ i < 2 ^ 62
instance {i : Int} : Decidable (rgOk i) := by unfold rgOk; infer_instance
/-- the turns of a comprehension -/
def lcGo (own : List Nat) (bd : Res → M Unit) (ts : M Bool) (el : M Res) : List PV → List PV → M (List PV)
  | [], acc => fun g => .ok acc g
  | x :: xs, acc => fun g => (bd (.val x) g).bind fun _ g1 => (ts g1).bind fun b g2 =>
    if b = true then (el g2).bind fun y g3 => if acc.length < sizeLine then lcGo own bd ts el xs (acc ++ [y.pv]) { g3 with sl := wipe g3.sl own } else .bad
    else lcGo own bd ts el xs acc { g2 with sl := wipe g2.sl own }
def dictGo : List Str → List PV → List (Key × PV) → List (Key × PV)
  | k :: ks, v :: vs, acc => dictGo ks vs (putK acc (.inr k) v)
  | _, _, acc => acc
def callC (c : Call) (f : Nat) (as ks : List PV) : M Res := fun g => match c f as ks g.hp with
  | some (r, hp) => .ok r { g with hp := hp }
  | none => .bad
def appV (i : Nat) (more : List PV) : M Res := fun g => match g.sl[i]? with
  | some (.own xs) => if xs.length + more.length ≤ sizeLine then .ok (.val .non) { g with sl := g.sl.set i (.own (xs ++ more)) } else .bad
  | _ => .bad
/-- o[k]: of a sequence, of a dict -/
def idxG (x k : PV) : M PV := fun g => match x with
  | .ref n => match g.hp[n]? with
    | some (.dk kvs) => match (keyOf k).bind (getK kvs) with
      | some v => .ok v g
      | none => .bad
    | none => .bad
  | x => lift (idxV x k) g
def putG (x k v : PV) : M Unit := fun g => match x with
  | .ref n => match g.hp[n]? with
    | some (.dk kvs) => match keyOf k with
      | some key => if kvs.length < sizeLine then .ok () { g with hp := g.hp.set n (.dk (putK kvs key v)) } else .bad
      | none => .bad
    | none => .bad
  | _ => .bad
def asInt : PV → Option Int
  | .int i => some i
  | _ => none

def lookAll : List Opd → M (List PV)
  | [] => fun g => .ok [] g
  | x :: xs => fun g => (look x g).bind fun v g1 => (lookAll xs g1).bind fun vs g2 => .ok (v :: vs) g2
/-- a result's truth -/
def tstOf (f : M Res) : M Bool := fun g => (f g).bind fun r g1 => lift (truV r.pv) g1
def pr (f : M Res) : M Res × M Bool := (f, tstOf f)
/-- an operand: names are looked at late -/
def opdF : ME → M Res → M Opd
  | .var i, _ => fun g => (peek i g).bind fun _ g1 => .ok (.s i) g1
  | _, f => fun g => (f g).bind fun r g1 => .ok (.v r.pv) g1
/-- what a return hands back: a name's own list goes with it -/
def retF : ME → M Res → M Res
  | .var i, f => fun g => match g.sl[i]? with
    | some (.own xs) => .ok (.new xs) { g with sl := g.sl.set i .no }
    | _ => f g
  | _, f => f
def ownAt (i : Nat) : M Unit := fun g => match g.sl[i]? with
  | some (.own _) => .ok () g
  | _ => .bad
def extV (i : Nat) (r : Res) : M Res := match r with
  | .new xs => appV i xs
  | .val (.lst xs) => appV i xs
  | _ => fun _ => .bad
mutual
/-- a value's run, and a test's -/
def E2 (c : Call) : ME → M Res × M Bool
  | .cst v => pr fun g => .ok (.val v) g
  | .var i => pr (rdVar i)
  | .tup es => pr fun g => (evs c es g).bind fun vs g1 => if vs.length ≤ sizeLine then .ok (.val (.tup vs)) g1 else .bad
  | .lst es => pr fun g => (evs c es g).bind fun vs g1 => if vs.length ≤ sizeLine then .ok (.new vs) g1 else .bad
  | .bin o a b => pr fun g => (opdF a (E2 c a).1 g).bind fun x g1 => (opdF b (E2 c b).1 g1).bind fun y g2 => (look x g2).bind fun xv g3 => (look y g3).bind fun yv g4 => lift (binV o xv yv) g4
  | .cmp o a b => pr fun g => (opdF a (E2 c a).1 g).bind fun x g1 => (opdF b (E2 c b).1 g1).bind fun y g2 => (look x g2).bind fun xv g3 => (look y g3).bind fun yv g4 => (lift (cmpV o xv yv) g4).bind fun t g5 => .ok (.val (.bl t)) g5
  | .neg a => pr fun g => ((E2 c a).1 g).bind fun r g1 => (lift (asInt r.pv) g1).bind fun i g2 => .ok (.val (.int (-i))) g2
  | .nt a => (fun g => ((E2 c a).1 g).bind fun r g1 => (lift (truV r.pv) g1).bind fun b g2 => .ok (.val (.bl (!b))) g2,
      fun g => ((E2 c a).2 g).bind fun b g1 => .ok (!b) g1)
  | .an a b => (fun g => ((E2 c a).1 g).bind fun r g1 => (lift (truV r.pv) g1).bind fun t g2 => if t = true then ((E2 c b).1 g2).bind fun s g3 => .ok (.val s.pv) g3 else .ok (.val r.pv) g2,
      fun g => ((E2 c a).2 g).bind fun t g1 => if t = true then (E2 c b).2 g1 else .ok false g1)
  | .orr a b => (fun g => ((E2 c a).1 g).bind fun r g1 => (lift (truV r.pv) g1).bind fun t g2 => if t = true then .ok (.val r.pv) g2 else ((E2 c b).1 g2).bind fun s g3 => .ok (.val s.pv) g3,
      fun g => ((E2 c a).2 g).bind fun t g1 => if t = true then .ok true g1 else (E2 c b).2 g1)
  | .ite t a b => (fun g => ((E2 c t).2 g).bind fun k g1 => if k = true then (E2 c a).1 g1 else (E2 c b).1 g1,
      fun g => ((E2 c t).2 g).bind fun k g1 => if k = true then (E2 c a).2 g1 else (E2 c b).2 g1)
  | .idx a b => pr fun g => (opdF a (E2 c a).1 g).bind fun x g1 => (opdF b (E2 c b).1 g1).bind fun y g2 => (look x g2).bind fun xv g3 => (look y g3).bind fun yv g4 => (idxG xv yv g4).bind fun z g5 => .ok (.val z) g5
  | .slc a lo hi => pr fun g => (opdF a (E2 c a).1 g).bind fun x g1 => (evo c lo g1).bind fun l g2 => (evo c hi g2).bind fun h g3 => (look x g3).bind fun xv g4 => lift (slcV xv l h) g4
  | .rev a => pr fun g => (opdF a (E2 c a).1 g).bind fun x g1 => (look x g1).bind fun xv g2 => lift (revV xv) g2
  | .call f es ks => pr fun g => (evs c es g).bind fun vs g1 => (evs c ks g1).bind fun ws g2 => callC c f vs ws g2
  | .bi f es => pr fun g => (opds c es g).bind fun xs g1 => (lookAll xs g1).bind fun vs g2 => lift (biV f vs) g2
  | .join o a => pr fun g => ((E2 c o).1 g).bind fun r g1 => (opdF a (E2 c a).1 g1).bind fun y g2 => (look y g2).bind fun yv g3 => (lift (joinV r.pv yv) g3).bind fun z g4 => .ok (.val z) g4
  | .app i a => pr fun g => (ownAt i g).bind fun _ g0 => ((E2 c a).1 g0).bind fun r g1 => appV i [r.pv] g1
  | .ext i a => pr fun g => (ownAt i g).bind fun _ g0 => ((E2 c a).1 g0).bind fun r g1 => extV i r g1
  | .lc t it k e => pr fun g => (evi c it g).bind fun xs g1 => if noOwn g1.sl t.slots = true then (lcGo t.slots (bindT t) (tsto c k) (E2 c e).1 xs [] { g1 with sl := wipe g1.sl t.slots }).bind fun ys g2 =>
      .ok (.new ys) { g2 with sl := back g1.sl g2.sl t.slots } else .bad
  | .fs es => pr fun g => (evf c es Str.empty g).bind fun x g1 => .ok (.val (.str x)) g1
  | .dct ks vs => pr fun g => (evs c vs g).bind fun ws g1 => if ks.length = ws.length ∧ ks.length ≤ 15 then .ok (.val (.ref g1.hp.length)) { g1 with hp := g1.hp ++ [.dk (dictGo ks ws [])] } else .bad
def evs (c : Call) : MEs → M (List PV)
  | .nil => fun g => .ok [] g
  | .cons e es => fun g => ((E2 c e).1 g).bind fun r g1 => (evs c es g1).bind fun vs g2 => .ok (r.pv :: vs) g2
def opds (c : Call) : MEs → M (List Opd)
  | .nil => fun g => .ok [] g
  | .cons e es => fun g => (opdF e (E2 c e).1 g).bind fun r g1 => (opds c es g1).bind fun vs g2 => .ok (r :: vs) g2
def evo (c : Call) : MO → M (Option Int)
  | .no => fun g => .ok none g
  | .so e => fun g => ((E2 c e).1 g).bind fun r g1 => (lift (asInt r.pv) g1).bind fun i g2 => .ok (some i) g2
def evi (c : Call) : MI → M (List PV)
  | .it a => fun g => ((E2 c a).1 g).bind fun r g1 => lift (itemsOf r.pv) g1
  | .rg1 a => fun g => ((E2 c a).1 g).bind fun r g1 => (lift (asInt r.pv) g1).bind fun j g2 => if rgOk j then .ok (rgItems 0 j) g2 else .bad
  | .rg2 a b => fun g => ((E2 c a).1 g).bind fun r g1 => ((E2 c b).1 g1).bind fun s g2 => (lift (asInt r.pv) g2).bind fun i g3 => (lift (asInt s.pv) g3).bind fun j g4 => if rgOk i ∧ rgOk j then .ok (rgItems i j) g4 else .bad
def tsto (c : Call) : MO → M Bool
  | .no => fun g => .ok true g
  | .so e => (E2 c e).2
def evf (c : Call) : MEs → Str → M Str
  | .nil => fun acc g => .ok acc g
  | .cons e es => fun acc g => ((E2 c e).1 g).bind fun r g1 => (lift (fmtV r.pv) g1).bind fun x g2 => if (acc ++ x).length ≤ sizeLine then evf c es (acc ++ x) g2 else .bad
end
def ev (c : Call) (e : ME) : M Res := (E2 c e).1
def tst (c : Call) (e : ME) : M Bool := (E2 c e).2
def opd (c : Call) (e : ME) : M Opd := opdF e (ev c e)

section
variable (c : Call)
theorem ev_cst (v) : ev c (.cst v) = fun g => .ok (.val v) g := rfl
theorem ev_var (i) : ev c (.var i) = rdVar i := rfl
theorem ev_tup (es) : ev c (.tup es) = fun g => (evs c es g).bind fun vs g1 => if vs.length ≤ sizeLine then .ok (.val (.tup vs)) g1 else .bad := rfl
theorem ev_lst (es) : ev c (.lst es) = fun g => (evs c es g).bind fun vs g1 => if vs.length ≤ sizeLine then .ok (.new vs) g1 else .bad := rfl
theorem ev_bin (o a b) : ev c (.bin o a b) = fun g => (opd c a g).bind fun x g1 => (opd c b g1).bind fun y g2 => (look x g2).bind fun xv g3 => (look y g3).bind fun yv g4 => lift (binV o xv yv) g4 := rfl
theorem ev_cmp (o a b) : ev c (.cmp o a b) = fun g => (opd c a g).bind fun x g1 => (opd c b g1).bind fun y g2 => (look x g2).bind fun xv g3 => (look y g3).bind fun yv g4 => (lift (cmpV o xv yv) g4).bind fun t g5 => .ok (.val (.bl t)) g5 := rfl
theorem ev_neg (a) : ev c (.neg a) = fun g => (ev c a g).bind fun r g1 => (lift (asInt r.pv) g1).bind fun i g2 => .ok (.val (.int (-i))) g2 := rfl
theorem ev_nt (a) : ev c (.nt a) = fun g => (ev c a g).bind fun r g1 => (lift (truV r.pv) g1).bind fun b g2 => .ok (.val (.bl (!b))) g2 := rfl
theorem ev_an (a b) : ev c (.an a b) = fun g => (ev c a g).bind fun r g1 => (lift (truV r.pv) g1).bind fun t g2 => if t = true then (ev c b g2).bind fun s g3 => .ok (.val s.pv) g3 else .ok (.val r.pv) g2 := rfl
theorem ev_orr (a b) : ev c (.orr a b) = fun g => (ev c a g).bind fun r g1 => (lift (truV r.pv) g1).bind fun t g2 => if t = true then .ok (.val r.pv) g2 else (ev c b g2).bind fun s g3 => .ok (.val s.pv) g3 := rfl
theorem ev_ite (t a b) : ev c (.ite t a b) = fun g => (tst c t g).bind fun k g1 => if k = true then ev c a g1 else ev c b g1 := rfl
theorem ev_idx (a b) : ev c (.idx a b) = fun g => (opd c a g).bind fun x g1 => (opd c b g1).bind fun y g2 => (look x g2).bind fun xv g3 => (look y g3).bind fun yv g4 => (idxG xv yv g4).bind fun z g5 => .ok (.val z) g5 := rfl
theorem ev_slc (a lo hi) : ev c (.slc a lo hi) = fun g => (opd c a g).bind fun x g1 => (evo c lo g1).bind fun l g2 => (evo c hi g2).bind fun h g3 => (look x g3).bind fun xv g4 => lift (slcV xv l h) g4 := rfl
theorem ev_rev (a) : ev c (.rev a) = fun g => (opd c a g).bind fun x g1 => (look x g1).bind fun xv g2 => lift (revV xv) g2 := rfl
theorem ev_call (f es ks) : ev c (.call f es ks) = fun g => (evs c es g).bind fun vs g1 => (evs c ks g1).bind fun ws g2 => callC c f vs ws g2 := rfl
theorem ev_bi (f es) : ev c (.bi f es) = fun g => (opds c es g).bind fun xs g1 => (lookAll xs g1).bind fun vs g2 => lift (biV f vs) g2 := rfl
theorem ev_join (o a) : ev c (.join o a) = fun g => (ev c o g).bind fun r g1 => (opd c a g1).bind fun y g2 => (look y g2).bind fun yv g3 => (lift (joinV r.pv yv) g3).bind fun z g4 => .ok (.val z) g4 := rfl
theorem ev_app (i a) : ev c (.app i a) = fun g => (ownAt i g).bind fun _ g0 => (ev c a g0).bind fun r g1 => appV i [r.pv] g1 := rfl
theorem ev_ext (i a) : ev c (.ext i a) = fun g => (ownAt i g).bind fun _ g0 => (ev c a g0).bind fun r g1 => extV i r g1 := rfl
theorem ev_lc (t it k e) : ev c (.lc t it k e) = fun g => (evi c it g).bind fun xs g1 => if noOwn g1.sl t.slots = true then (lcGo t.slots (bindT t) (tsto c k) (ev c e) xs [] { g1 with sl := wipe g1.sl t.slots }).bind fun ys g2 =>
      .ok (.new ys) { g2 with sl := back g1.sl g2.sl t.slots } else .bad := rfl
theorem ev_fs (es) : ev c (.fs es) = fun g => (evf c es Str.empty g).bind fun x g1 => .ok (.val (.str x)) g1 := rfl
theorem ev_dct (ks vs) : ev c (.dct ks vs) = fun g => (evs c vs g).bind fun ws g1 => if ks.length = ws.length ∧ ks.length ≤ 15 then .ok (.val (.ref g1.hp.length)) { g1 with hp := g1.hp ++ [.dk (dictGo ks ws [])] } else .bad := rfl
theorem evs_nil : evs c .nil = fun g => .ok [] g := rfl
theorem evs_cons (e es) : evs c (.cons e es) = fun g => (ev c e g).bind fun r g1 => (evs c es g1).bind fun vs g2 => .ok (r.pv :: vs) g2 := rfl
theorem opds_nil : opds c .nil = fun g => .ok [] g := rfl
theorem opds_cons (e es) : opds c (.cons e es) = fun g => (opd c e g).bind fun r g1 => (opds c es g1).bind fun vs g2 => .ok (r :: vs) g2 := rfl
theorem evo_no : evo c .no = fun g => .ok none g := rfl
theorem evo_so (e) : evo c (.so e) = fun g => (ev c e g).bind fun r g1 => (lift (asInt r.pv) g1).bind fun i g2 => .ok (some i) g2 := rfl
theorem evi_it (a) : evi c (.it a) = fun g => (ev c a g).bind fun r g1 => lift (itemsOf r.pv) g1 := rfl
theorem evi_rg1 (a) : evi c (.rg1 a) = fun g => (ev c a g).bind fun r g1 => (lift (asInt r.pv) g1).bind fun j g2 => if rgOk j then .ok (rgItems 0 j) g2 else .bad := rfl
theorem evi_rg2 (a b) : evi c (.rg2 a b) = fun g => (ev c a g).bind fun r g1 => (ev c b g1).bind fun s g2 => (lift (asInt r.pv) g2).bind fun i g3 => (lift (asInt s.pv) g3).bind fun j g4 => if rgOk i ∧ rgOk j then .ok (rgItems i j) g4 else .bad := rfl
theorem tsto_no : tsto c .no = fun g => .ok true g := rfl
theorem tsto_so (e) : tsto c (.so e) = tst c e := rfl
theorem evf_nil : evf c .nil = fun acc g => .ok acc g := rfl
theorem evf_cons (e es) : evf c (.cons e es) = fun acc g => (ev c e g).bind fun r g1 => (lift (fmtV r.pv) g1).bind fun x g2 => if (acc ++ x).length ≤ sizeLine then evf c es (acc ++ x) g2 else .bad := rfl
theorem opd_var (i) : opd c (.var i) = fun g => (peek i g).bind fun _ g1 => .ok (.s i) g1 := rfl
theorem opd_cst (v) : opd c (.cst v) = fun g => .ok (.v v) g := rfl
theorem tst_nt (a) : tst c (.nt a) = fun g => (tst c a g).bind fun b g1 => .ok (!b) g1 := rfl
theorem tst_an (a b) : tst c (.an a b) = fun g => (tst c a g).bind fun t g1 => if t = true then tst c b g1 else .ok false g1 := rfl
theorem tst_orr (a b) : tst c (.orr a b) = fun g => (tst c a g).bind fun t g1 => if t = true then .ok true g1 else tst c b g1 := rfl
theorem tst_ite (t a b) : tst c (.ite t a b) = fun g => (tst c t g).bind fun k g1 => if k = true then tst c a g1 else tst c b g1 := rfl
end
inductive Fl where
  | nx | ret (r : Res) | brk | cnt
/-- the turns of a loop -/
def forGo (bd : Res → M Unit) (body : M Fl) : List PV → M Fl
  | [] => fun g => .ok .nx g
  | x :: xs => fun g => (bd (.val x) g).bind fun _ g1 => (body g1).bind fun f g2 => match f with
    | .nx => forGo bd body xs g2
    | .cnt => forGo bd body xs g2
    | .brk => .ok .nx g2
    | .ret r => .ok (.ret r) g2
/-- stored from the right -/
def setPar : List Nat → List Res → M Unit
  | [], [] => fun g => .ok () g
  | i :: is, r :: rs => fun g => (setPar is rs g).bind fun _ g1 => setVar i r g1
  | _, _ => fun _ => .bad
mutual
def ex (c : Call) : MS → M Fl
  | .asg t e => fun g => (ev c e g).bind fun r g1 => (bindT t r g1).bind fun _ g2 => .ok .nx g2
  | .par is es => fun g => (evs c es g).bind fun vs g1 => (setPar is (vs.map Res.val) g1).bind fun _ g2 => .ok .nx g2
  | .put o k e => fun g => (ev c e g).bind fun r g1 => (opd c o g1).bind fun x g2 => (opd c k g2).bind fun y g3 => (look x g3).bind fun xv g4 => (look y g4).bind fun yv g5 => (putG xv yv r.pv g5).bind fun _ g6 => .ok .nx g6
  | .ex e => fun g => (ev c e g).bind fun _ g1 => .ok .nx g1
  | .iff t a b => fun g => (tst c t g).bind fun k g1 => if k = true then exs c a g1 else exs c b g1
  | .for_ t it b => fun g => (evi c it g).bind fun xs g1 => forGo (bindT t) (exs c b) xs g1
  | .ret e => fun g => (retF e (ev c e) g).bind fun r g1 => .ok (.ret r) g1
  | .retN => fun g => .ok (.ret (.val .non)) g
  | .pas => fun g => .ok .nx g
  | .brk => fun g => .ok .brk g
  | .cnt => fun g => .ok .cnt g
  | .nvr => fun _ => .bad
def exs (c : Call) : MSs → M Fl
  | .nil => fun g => .ok .nx g
  | .cons s r => fun g => (ex c s g).bind fun f g1 => match f with
    | .nx => exs c r g1
    | f => .ok f g1
end

/-! ### defs -/
/-- n parameters; m slots; keywords: where each keyword's value goes, by the number of positional arguments that are there -/
structure FD where
  n : Nat
  m : Nat
  body : MSs
def Res.pure : Res → Bool
  | .val v => v.pure
  | .new xs => PV.pures xs
def run (c : Call) (d : FD) (as : List PV) (hp : List Cell) : Option (Res × List Cell) :=
  if as.length = d.n then match exs c d.body ⟨as.map Slot.val ++ List.replicate (d.m - as.length) .no, hp⟩ with
    | .ok (.ret r) g => some (r, g.hp)
    | .ok .nx g => some (.val .non, g.hp)
    | _ => none
  else none
end Ev
/-! # Ev, part 2: what the evaluator's state says of the layer's. -/
namespace Ev
open PySem PySem.Spec PyProof.Rows
open L2 (V Hp HO upd SqL SqT Rd Cx Inv PE PT PW PA PS PSs PG PGs PI PK VK TE TT TA TS TG TGs TI Ends RelV Vals It Dp DpAll)

/-- a locked list, or one of the written part -/
def FzL (K : PySem.W.Frag) (H : Hp) (a : Addr) (xs : List V) : Prop := (∃ o, H a = some (.frz o (.lst xs))) ∨
  ∃ (o : Obj) (its : Array Value) (n : Nat), K.lookup a = some o ∧ o.cls = .type "list" ∧ o.dict = none ∧ o.data = .seq its n ∧ its.size ≤ sizeLine ∧ Vals xs its.toList
theorem FzL.sq {K : PySem.W.Frag} {H : Hp} {a : Addr} {xs : List V} : FzL K H a xs → SqL K H a xs
  | .inl h => .inl (.inr h)
  | .inr h => .inr h

section
variable (K : PySem.W.Frag) (Z : Addr → Prop) (ms : List Addr) (H : Hp)
mutual
/-- the layer's value x is the evaluator's value -/
def Den : PV → V → Prop
  | .non, x => x = .non
  | .bl b, x => x = .bl b
  | .int i, x => x = .int i
  | .str s, x => x = .str s
  | .tup ys, x => ∃ a vs, x = .ref a ∧ SqT K H a vs ∧ Dens ys vs
  | .lst ys, x => ∃ a vs, x = .ref a ∧ Z a ∧ H a = some (.lst vs) ∧ Dens ys vs
  | .fz ns, x => ∃ a, x = .ref a ∧ FzL K H a (ns.map V.int)
  | .ref n, x => ∃ a, x = .ref a ∧ ms[n]? = some a
def Dens : List PV → List V → Prop
  | [], vs => vs = []
  | y :: ys, vs => ∃ v r, vs = v :: r ∧ Den y v ∧ Dens ys r
end
def DenKV : List (Key × PV) → List (Key × V) → Prop
  | [], ws => ws = []
  | (k, v) :: r, ws => ∃ x s, ws = (k, x) :: s ∧ Den K Z ms H v x ∧ DenKV r s
def CellOk : Cell → Addr → Prop
  | .dk kvs, a => ∃ ws, H a = some (.dK ws) ∧ DenKV K Z ms H kvs ws
end

/-- what may change: frozen lists, tuples and locked things stay -/
structure Le (Z : Addr → Prop) (ms : List Addr) (H : Hp) (Z' : Addr → Prop) (ms' : List Addr) (H' : Hp) : Prop where
  z : ∀ a, Z a → Z' a
  zh : ∀ a xs, Z a → H a = some (.lst xs) → H' a = some (.lst xs)
  t : ∀ a xs, H a = some (.tup xs) → H' a = some (.tup xs)
  f : ∀ a o u, H a = some (.frz o u) → H' a = some (.frz o u)
  m : ∃ r, ms' = ms ++ r
theorem Le.refl {Z ms H} : Le Z ms H Z ms H := ⟨fun _ h => h, fun _ _ _ h => h, fun _ _ h => h, fun _ _ _ h => h, [], by simp⟩
theorem Le.trans {Z ms H Z1 ms1 H1 Z2 ms2 H2} (a : Le Z ms H Z1 ms1 H1) (b : Le Z1 ms1 H1 Z2 ms2 H2) : Le Z ms H Z2 ms2 H2 := by
  refine ⟨fun x h => b.z x (a.z x h), fun x xs h e => b.zh x xs (a.z x h) (a.zh x xs h e), fun x xs e => b.t x xs (a.t x xs e), fun x o u e => b.f x o u (a.f x o u e), ?_⟩
  obtain ⟨r, rfl⟩ := a.m
  obtain ⟨s, rfl⟩ := b.m
  exact ⟨r ++ s, by simp⟩
section
variable {K : PySem.W.Frag} {Z Z' : Addr → Prop} {ms ms' : List Addr} {H H' : Hp}
theorem Le.sqT (l : Le Z ms H Z' ms' H') {a : Addr} {xs : List V} : SqT K H a xs → SqT K H' a xs
  | .inl (.inl h) => .inl (.inl (l.t a xs h))
  | .inl (.inr ⟨o, h⟩) => .inl (.inr ⟨o, l.f a o _ h⟩)
  | .inr h => .inr h
theorem Le.fzL (l : Le Z ms H Z' ms' H') {a : Addr} {xs : List V} : FzL K H a xs → FzL K H' a xs
  | .inl ⟨o, h⟩ => .inl ⟨o, l.f a o _ h⟩
  | .inr h => .inr h
mutual
theorem Den.mono (l : Le Z ms H Z' ms' H') : ∀ (y : PV) (x : V), Den K Z ms H y x → Den K Z' ms' H' y x
  | .non, x, h => by simp only [Den] at h ⊢; exact h
  | .bl b, x, h => by simp only [Den] at h ⊢; exact h
  | .int i, x, h => by simp only [Den] at h ⊢; exact h
  | .str s, x, h => by simp only [Den] at h ⊢; exact h
  | .tup ys, x, h => by
    simp only [Den] at h ⊢
    obtain ⟨a, vs, e, h1, h2⟩ := h
    exact ⟨a, vs, e, l.sqT h1, Dens.mono l ys vs h2⟩
  | .lst ys, x, h => by
    simp only [Den] at h ⊢
    obtain ⟨a, vs, e, hz, h1, h2⟩ := h
    exact ⟨a, vs, e, l.z a hz, l.zh a vs hz h1, Dens.mono l ys vs h2⟩
  | .fz ns, x, h => by
    simp only [Den] at h ⊢
    obtain ⟨a, e, h1⟩ := h
    exact ⟨a, e, l.fzL h1⟩
  | .ref n, x, h => by
    simp only [Den] at h ⊢
    obtain ⟨a, e, h1⟩ := h
    obtain ⟨r, rfl⟩ := l.m
    exact ⟨a, e, by rw [List.getElem?_append_left (List.getElem?_eq_some_iff.mp h1).1]; exact h1⟩
theorem Dens.mono (l : Le Z ms H Z' ms' H') : ∀ (ys : List PV) (vs : List V), Dens K Z ms H ys vs → Dens K Z' ms' H' ys vs
  | [], vs, h => by simp only [Dens] at h ⊢; exact h
  | y :: ys, vs, h => by
    simp only [Dens] at h ⊢
    obtain ⟨v, r, e, h1, h2⟩ := h
    exact ⟨v, r, e, Den.mono l y v h1, Dens.mono l ys r h2⟩
end
theorem DenKV.mono (l : Le Z ms H Z' ms' H') : ∀ (ys : List (Key × PV)) (vs : List (Key × V)), DenKV K Z ms H ys vs → DenKV K Z' ms' H' ys vs
  | [], vs, h => by simp only [DenKV] at h ⊢; exact h
  | (k, y) :: ys, vs, h => by
    simp only [DenKV] at h ⊢
    obtain ⟨v, r, e, h1, h2⟩ := h
    exact ⟨v, r, e, Den.mono l y v h1, DenKV.mono l ys r h2⟩
theorem Dens.length : ∀ {ys : List PV} {vs : List V}, Dens K Z ms H ys vs → vs.length = ys.length
  | [], vs, h => by
    simp only [Dens] at h
    subst h
    rfl
  | y :: ys, vs, h => by
    simp only [Dens] at h
    obtain ⟨v, r, rfl, _, h2⟩ := h
    simp [Dens.length h2]
theorem Dens.get : ∀ {ys : List PV} {vs : List V} {i : Nat} {y : PV}, Dens K Z ms H ys vs → ys[i]? = some y → ∃ v, vs[i]? = some v ∧ Den K Z ms H y v
  | [], _, _, _, _, e => by simp at e
  | y :: ys, vs, 0, z, h, e => by
    simp only [Dens] at h
    obtain ⟨v, r, rfl, h1, _⟩ := h
    simp at e
    subst e
    exact ⟨v, rfl, h1⟩
  | y :: ys, vs, i + 1, z, h, e => by
    simp only [Dens] at h
    obtain ⟨v, r, rfl, _, h2⟩ := h
    simp at e
    obtain ⟨w, e1, e2⟩ := Dens.get h2 e
    exact ⟨w, by simpa using e1, e2⟩
theorem Dens.getV : ∀ {ys : List PV} {vs : List V} {i : Nat} {v : V}, Dens K Z ms H ys vs → vs[i]? = some v → ∃ y, ys[i]? = some y ∧ Den K Z ms H y v
  | [], vs, i, v, h, e => by
    simp only [Dens] at h
    subst h
    simp at e
  | y :: ys, vs, 0, z, h, e => by
    simp only [Dens] at h
    obtain ⟨v, r, rfl, h1, _⟩ := h
    simp at e
    subst e
    exact ⟨y, rfl, h1⟩
  | y :: ys, vs, i + 1, z, h, e => by
    simp only [Dens] at h
    obtain ⟨v, r, rfl, _, h2⟩ := h
    simp at e
    obtain ⟨w, e1, e2⟩ := Dens.getV h2 e
    exact ⟨w, by simpa using e1, e2⟩
theorem Dens.append : ∀ {ys zs : List PV} {vs ws : List V}, Dens K Z ms H ys vs → Dens K Z ms H zs ws → Dens K Z ms H (ys ++ zs) (vs ++ ws)
  | [], zs, vs, ws, h, h' => by
    simp only [Dens] at h
    subst h
    exact h'
  | y :: ys, zs, vs, ws, h, h' => by
    simp only [Dens] at h
    obtain ⟨v, r, rfl, h1, h2⟩ := h
    show Dens K Z ms H (y :: (ys ++ zs)) _
    simp only [Dens]
    exact ⟨v, r ++ ws, rfl, h1, h2.append h'⟩
theorem Dens.nil : Dens K Z ms H [] [] := by simp only [Dens]
theorem Dens.cons {y : PV} {ys : List PV} {v : V} {vs : List V} (h : Den K Z ms H y v) (t : Dens K Z ms H ys vs) : Dens K Z ms H (y :: ys) (v :: vs) := by
  simp only [Dens]
  exact ⟨v, vs, rfl, h, t⟩
theorem Dens.take : ∀ {ys : List PV} {vs : List V} (n : Nat), Dens K Z ms H ys vs → Dens K Z ms H (ys.take n) (vs.take n)
  | [], vs, n, h => by
    simp only [Dens] at h
    subst h
    simp [Dens]
  | y :: ys, vs, 0, h => by simp [Dens]
  | y :: ys, vs, n + 1, h => by
    simp only [Dens] at h
    obtain ⟨v, r, rfl, h1, h2⟩ := h
    exact .cons h1 (h2.take n)
theorem Dens.drop : ∀ {ys : List PV} {vs : List V} (n : Nat), Dens K Z ms H ys vs → Dens K Z ms H (ys.drop n) (vs.drop n)
  | [], vs, n, h => by
    simp only [Dens] at h
    subst h
    simp [Dens]
  | y :: ys, vs, 0, h => by simpa using h
  | y :: ys, vs, n + 1, h => by
    simp only [Dens] at h
    obtain ⟨v, r, rfl, h1, h2⟩ := h
    simpa using h2.drop n
theorem Dens.reverse : ∀ {ys : List PV} {vs : List V}, Dens K Z ms H ys vs → Dens K Z ms H ys.reverse vs.reverse
  | [], vs, h => by
    simp only [Dens] at h
    subst h
    simp [Dens]
  | y :: ys, vs, h => by
    simp only [Dens] at h
    obtain ⟨v, r, rfl, h1, h2⟩ := h
    rw [List.reverse_cons, List.reverse_cons]
    exact (h2.reverse).append (.cons h1 .nil)
theorem Dens.rep {ys : List PV} {vs : List V} (h : Dens K Z ms H ys vs) : ∀ n : Nat, Dens K Z ms H (List.replicate n ys).flatten (List.replicate n vs).flatten
  | 0 => by simp [Dens]
  | n + 1 => by
    rw [List.replicate_succ, List.replicate_succ, List.flatten_cons, List.flatten_cons]
    exact h.append (Dens.rep h n)
theorem Dens.ints : ∀ ns : List Int, Dens K Z ms H (ns.map PV.int) (ns.map V.int)
  | [] => .nil
  | n :: ns => .cons (by simp only [Den]) (Dens.ints ns)
end

/-! ### the state -/
/-- what a run leaves as it is: the objects in F; and which frozen lists were there ahead of it -/
structure Fm where
  F : Hp
  Z0 : Addr → Prop
structure Rel (K : PySem.W.Frag) (F : Fm) (Z : Addr → Prop) (ms : List Addr) (g : G) (σ : L2.St) (H : Hp) : Prop where
  len : σ.length = g.sl.length
  vl : ∀ (i : Nat) v, g.sl[i]? = some (.val v) → ∃ x, σ[i]? = some (some x) ∧ Den K Z ms H v x
  ow : ∀ (i : Nat) xs, g.sl[i]? = some (.own xs) → ∃ a vs, σ[i]? = some (some (.ref a)) ∧ H a = some (.lst vs) ∧ Dens K Z ms H xs vs ∧ ¬ Z a ∧ a ∉ ms ∧ F.F a = none
  un : ∀ (i j : Nat) xs ys a, g.sl[i]? = some (.own xs) → g.sl[j]? = some (.own ys) → σ[i]? = some (some (.ref a)) → σ[j]? = some (some (.ref a)) → i = j
  cn : ms.length = g.hp.length
  cl : ∀ (n : Nat) c a, g.hp[n]? = some c → ms[n]? = some a → CellOk K Z ms H c a
  nd : ms.Nodup
  mz : ∀ a ∈ ms, ¬ Z a ∧ F.F a = none
  zf : ∀ a, Z a → F.Z0 a ∨ F.F a = none
  zz : ∀ a, F.Z0 a → Z a
  zs : ∀ a, Z a → ∃ vs, H a = some (.lst vs)
  fr : ∀ a o, F.F a = some o → H a = some o
def ResOk (K : PySem.W.Frag) (F : Fm) (Z : Addr → Prop) (ms : List Addr) (g : G) (σ : L2.St) (H : Hp) : Res → V → Prop
  | .val v, x => Den K Z ms H v x
  | .new xs, x => ∃ a vs, x = .ref a ∧ H a = some (.lst vs) ∧ Dens K Z ms H xs vs ∧ ¬ Z a ∧ a ∉ ms ∧ F.F a = none ∧ ∀ (i : Nat) ys, g.sl[i]? = some (.own ys) → σ[i]? ≠ some (some (.ref a))
section
variable {K : PySem.W.Frag} {F : Fm} {Z : Addr → Prop} {ms : List Addr} {g : G} {σ : L2.St} {H : Hp}
/-- a free address -/
theorem Rel.freeZ (R : Rel K F Z ms g σ H) {p : Addr} (h : H p = none) : ¬ Z p := fun z => by
  obtain ⟨vs, e⟩ := R.zs p z
  rw [h] at e
  cases e
theorem Rel.freeF (R : Rel K F Z ms g σ H) {p : Addr} (h : H p = none) : F.F p = none := by
  cases e : F.F p with
  | none => rfl
  | some o =>
    have := R.fr p o e
    rw [h] at this
    cases this
theorem Rel.cell (R : Rel K F Z ms g σ H) {a : Addr} (h : a ∈ ms) : ∃ (n : Nat) (c : Cell), g.hp[n]? = some c ∧ ms[n]? = some a ∧ CellOk K Z ms H c a := by
  obtain ⟨n, hn, e⟩ := List.getElem_of_mem h
  have h1 : n < g.hp.length := by rw [← R.cn]; exact hn
  have e1 : ms[n]? = some a := List.getElem?_eq_some_iff.mpr ⟨hn, e⟩
  have e2 : g.hp[n]? = some g.hp[n] := List.getElem?_eq_some_iff.mpr ⟨h1, rfl⟩
  exact ⟨n, _, e2, e1, R.cl n _ a e2 e1⟩
theorem Rel.freeM (R : Rel K F Z ms g σ H) {p : Addr} (h : H p = none) : p ∉ ms := fun hm => by
  obtain ⟨n, c, _, _, ok⟩ := R.cell hm
  cases c with
  | dk kvs =>
    obtain ⟨ws, e, _⟩ := ok
    rw [h] at e
    cases e
/-- a new object -/
theorem Le.upd {p : Addr} {o : HO} (h : H p = none) : Le Z ms H Z ms (upd H p o) := by
  have ne : ∀ {a : Addr} {u : HO}, H a = some u → a ≠ p := fun {a u} e q => by
    rw [q, h] at e
    cases e
  exact ⟨fun _ z => z, fun a xs _ e => by rw [L2.upd_ne (ne e)]; exact e, fun a xs e => by rw [L2.upd_ne (ne e)]; exact e, fun a o u e => by rw [L2.upd_ne (ne e)]; exact e, [], by simp⟩
theorem CellOk.mono {Z' : Addr → Prop} {ms' : List Addr} {H' : Hp} {c : Cell} {a : Addr} (l : Le Z ms H Z' ms' H') (h : CellOk K Z ms H c a) (e : H' a = H a) : CellOk K Z' ms' H' c a := by
  cases c with
  | dk kvs =>
    obtain ⟨ws, e1, e2⟩ := h
    exact ⟨ws, by rw [e]; exact e1, DenKV.mono l _ _ e2⟩
theorem Rel.laid (R : Rel K F Z ms g σ H) {p : Addr} {o : HO} (h : H p = none) : Rel K F Z ms g σ (upd H p o) := by
  have l : Le Z ms H Z ms (upd H p o) := Le.upd h
  have ne : ∀ {a : Addr} {u : HO}, H a = some u → a ≠ p := fun {a u} e q => by
    rw [q, h] at e
    cases e
  refine ⟨R.len, fun i v e => ?_, fun i xs e => ?_, R.un, R.cn, fun n c a e1 e2 => ?_, R.nd, R.mz, R.zf, R.zz, fun a z => ?_, fun a u e => ?_⟩
  · obtain ⟨x, e1, e2⟩ := R.vl i v e
    exact ⟨x, e1, Den.mono l _ _ e2⟩
  · obtain ⟨a, vs, e1, e2, e3, e4⟩ := R.ow i xs e
    exact ⟨a, vs, e1, by rw [L2.upd_ne (ne e2)]; exact e2, Dens.mono l _ _ e3, e4⟩
  · refine (R.cl n c a e1 e2).mono l (L2.upd_ne ?_)
    rintro rfl
    exact R.freeM h (List.mem_of_getElem? e2)
  · obtain ⟨vs, e⟩ := R.zs a z
    exact ⟨vs, by rw [L2.upd_ne (ne e)]; exact e⟩
  · have e1 := R.fr a u e
    rw [L2.upd_ne (ne e1)]
    exact e1
/-- a new list, nobody else's -/
theorem Rel.newL (R : Rel K F Z ms g σ H) {p : Addr} {xs : List PV} {vs : List V} (h : H p = none) (d : Dens K Z ms H xs vs) : ResOk K F Z ms g σ (upd H p (.lst vs)) (.new xs) (.ref p) := by
  refine ⟨p, vs, rfl, L2.upd_same, Dens.mono (Le.upd h) _ _ d, R.freeZ h, R.freeM h, R.freeF h, fun i ys e q => ?_⟩
  obtain ⟨a, ws, e1, e2, _⟩ := R.ow i ys e
  rw [q] at e1
  cases e1
  rw [h] at e2
  cases e2
theorem Rel.newT (R : Rel K F Z ms g σ H) {p : Addr} {xs : List PV} {vs : List V} (h : H p = none) (d : Dens K Z ms H xs vs) : Den K Z ms (upd H p (.tup vs)) (.tup xs) (.ref p) := by
  simp only [Den]
  exact ⟨p, vs, rfl, .inl (.inl L2.upd_same), Dens.mono (Le.upd h) _ _ d⟩
/-- a list that nobody else holds is made common -/
theorem Rel.freeze (R : Rel K F Z ms g σ H) {xs : List PV} {x : V} (h : ResOk K F Z ms g σ H (.new xs) x) :
    ∃ Z', Le Z ms H Z' ms H ∧ Rel K F Z' ms g σ H ∧ Den K Z' ms H (.lst xs) x := by
  obtain ⟨a, vs, rfl, e, d, nz, nm, nf, no⟩ := h
  have l : Le Z ms H (fun b => Z b ∨ b = a) ms H := ⟨fun _ z => .inl z, fun _ _ _ e => e, fun _ _ e => e, fun _ _ _ e => e, [], by simp⟩
  refine ⟨fun b => Z b ∨ b = a, l, ⟨R.len, fun i v e => ?_, fun i ys e' => ?_, R.un, R.cn, fun n c b e1 e2 => (R.cl n c b e1 e2).mono l rfl, R.nd, fun b hb => ⟨?_, (R.mz b hb).2⟩, fun b z => z.elim (R.zf b) fun q => .inr (q ▸ nf), fun b z => .inl (R.zz b z), fun b z => ?_, R.fr⟩, ?_⟩
  · obtain ⟨x, e1, e2⟩ := R.vl i v e
    exact ⟨x, e1, Den.mono l _ _ e2⟩
  · obtain ⟨b, ws, e1, e2, e3, e4, e5, e6⟩ := R.ow i ys e'
    refine ⟨b, ws, e1, e2, Dens.mono l _ _ e3, ?_, e5, e6⟩
    rintro (z | rfl)
    · exact e4 z
    · exact no i ys e' e1
  · rintro (z | rfl)
    · exact (R.mz b hb).1 z
    · exact nm hb
  · rcases z with z | rfl
    · exact R.zs b z
    · exact ⟨vs, e⟩
  · simp only [Den]
    exact ⟨a, vs, rfl, .inr rfl, e, Dens.mono l _ _ d⟩
/-- any result, made common -/
theorem Rel.force (R : Rel K F Z ms g σ H) {r : Res} {x : V} (h : ResOk K F Z ms g σ H r x) : ∃ Z', Le Z ms H Z' ms H ∧ Rel K F Z' ms g σ H ∧ Den K Z' ms H r.pv x := by
  cases r with
  | val v => exact ⟨Z, .refl, R, h⟩
  | new xs => exact R.freeze h
end
end Ev
/-! # Ev, part 3: operators by values. -/
namespace Ev
open PySem PySem.Spec
open L2 (V Hp HO upd SqL SqT Rd Cx Inv PE PT PW PA PS PSs PG PGs PI PK VK TE TT TA TS TG TGs TI Ends RelV Vals It Dp DpAll OpR UnR CallR TruR IxR SlR MtR EP TP AP SP)

section
variable {K : PySem.W.Frag} {F : Fm} {Z : Addr → Prop} {ms : List Addr} {g : G} {σ : L2.St} {H : Hp}
/-- the value of an operand: a list may be its name's own still -/
def DenW (K : PySem.W.Frag) (Z : Addr → Prop) (ms : List Addr) (H : Hp) (y : PV) (x : V) : Prop :=
  Den K Z ms H y x ∨ ∃ a vs ys, y = .lst ys ∧ x = .ref a ∧ H a = some (.lst vs) ∧ Dens K Z ms H ys vs
theorem DenW.int {i : Int} {x : V} : DenW K Z ms H (.int i) x → x = .int i
  | .inl h => by simpa only [Den] using h
  | .inr ⟨_, _, _, e, _⟩ => by cases e
theorem DenW.bl {b : Bool} {x : V} : DenW K Z ms H (.bl b) x → x = .bl b
  | .inl h => by simpa only [Den] using h
  | .inr ⟨_, _, _, e, _⟩ => by cases e
theorem DenW.non {x : V} : DenW K Z ms H .non x → x = .non
  | .inl h => by simpa only [Den] using h
  | .inr ⟨_, _, _, e, _⟩ => by cases e
theorem DenW.str {s : Str} {x : V} : DenW K Z ms H (.str s) x → x = .str s
  | .inl h => by simpa only [Den] using h
  | .inr ⟨_, _, _, e, _⟩ => by cases e
theorem DenW.lst {ys : List PV} {x : V} : DenW K Z ms H (.lst ys) x → ∃ a vs, x = .ref a ∧ H a = some (.lst vs) ∧ Dens K Z ms H ys vs
  | .inl h => by
    simp only [Den] at h
    obtain ⟨a, vs, e, _, h1, h2⟩ := h
    exact ⟨a, vs, e, h1, h2⟩
  | .inr ⟨a, vs, zs, e, h1, h2, h3⟩ => by
    cases e
    exact ⟨a, vs, h1, h2, h3⟩
theorem DenW.tup {ys : List PV} {x : V} : DenW K Z ms H (.tup ys) x → ∃ a vs, x = .ref a ∧ SqT K H a vs ∧ Dens K Z ms H ys vs
  | .inl h => by simpa only [Den] using h
  | .inr ⟨_, _, _, e, _⟩ => by cases e
theorem DenW.fz {ns : List Int} {x : V} : DenW K Z ms H (.fz ns) x → ∃ a, x = .ref a ∧ FzL K H a (ns.map V.int)
  | .inl h => by simpa only [Den] using h
  | .inr ⟨_, _, _, e, _⟩ => by cases e
theorem DenW.ref {n : Nat} {x : V} : DenW K Z ms H (.ref n) x → ∃ a, x = .ref a ∧ ms[n]? = some a
  | .inl h => by simpa only [Den] using h
  | .inr ⟨_, _, _, e, _⟩ => by cases e
theorem DenW.mono {Z' : Addr → Prop} {ms' : List Addr} {y : PV} {x : V} (l : Le Z ms H Z' ms' H) : DenW K Z ms H y x → DenW K Z' ms' H y x
  | .inl h => .inl (Den.mono l _ _ h)
  | .inr ⟨a, vs, ys, e1, e2, e3, h⟩ => .inr ⟨a, vs, ys, e1, e2, e3, Dens.mono l _ _ h⟩
/-- what a list or a tuple is as data -/
theorem DenW.seq {xs : List PV} {y : PV} {x : V} (hy : y = .lst xs ∨ y = .tup xs) (h : DenW K Z ms H y x) : ∃ a vs, x = .ref a ∧ (SqL K H a vs ∨ SqT K H a vs) ∧ Dens K Z ms H xs vs := by
  rcases hy with rfl | rfl
  · obtain ⟨a, vs, e, h1, h2⟩ := h.lst
    exact ⟨a, vs, e, .inl (.inl (.inl h1)), h2⟩
  · obtain ⟨a, vs, e, h1, h2⟩ := h.tup
    exact ⟨a, vs, e, .inr h1, h2⟩
mutual
theorem Den.dp : ∀ (y : PV) (x : V), Den K Z ms H y x → y.pure = true → Dp K H x y.d
  | .non, x, h, _ => by
    simp only [Den] at h
    subst h
    simp only [PV.d]
    exact .non
  | .bl b, x, h, _ => by
    simp only [Den] at h
    subst h
    simp only [PV.d]
    exact .bl b
  | .int i, x, h, _ => by
    simp only [Den] at h
    subst h
    simp only [PV.d]
    exact .int i
  | .str s, x, h, _ => by
    simp only [Den] at h
    subst h
    simp only [PV.d]
    exact .str s
  | .tup ys, x, h, p => by
    simp only [Den] at h
    simp only [PV.pure] at p
    obtain ⟨a, vs, e, h1, h2⟩ := h
    subst e
    simp only [PV.d]
    exact .tup h1 (Dens.dp ys vs h2 p)
  | .lst ys, x, h, p => by
    simp only [Den] at h
    simp only [PV.pure] at p
    obtain ⟨a, vs, e, _, h1, h2⟩ := h
    subst e
    simp only [PV.d]
    exact .lst (.inl (.inl h1)) (Dens.dp ys vs h2 p)
  | .fz ns, x, h, p => by simp [PV.pure] at p
  | .ref n, x, h, p => by simp [PV.pure] at p
theorem Dens.dp : ∀ (ys : List PV) (vs : List V), Dens K Z ms H ys vs → PV.pures ys = true → DpAll K H vs (PV.ds ys)
  | [], vs, h, _ => by
    simp only [Dens] at h
    subst h
    simp only [PV.ds]
    exact .nil
  | y :: ys, vs, h, p => by
    simp only [Dens] at h
    simp only [PV.pures, Bool.and_eq_true] at p
    obtain ⟨v, r, e, h1, h2⟩ := h
    subst e
    simp only [PV.ds]
    exact .cons (Den.dp y v h1 p.1) (Dens.dp ys r h2 p.2)
end
theorem DenW.dp {y : PV} {x : V} (h : DenW K Z ms H y x) (p : y.pure = true) : Dp K H x y.d := by
  rcases h with h | ⟨a, vs, ys, rfl, rfl, h1, h2⟩
  · exact Den.dp y x h p
  · simp only [PV.pure] at p
    simp only [PV.d]
    exact .lst (.inl (.inl h1)) (Dens.dp ys vs h2 p)
/-- what is wanted behind a step that makes nothing but what its result says -/
def After (K : PySem.W.Frag) (F : Fm) (Z : Addr → Prop) (ms : List Addr) (g : G) (σ : L2.St) (H : Hp) (r : Res) (Q : VK) : Prop :=
  ∀ Z' ms' H' v, Le Z ms H Z' ms' H' → Rel K F Z' ms' g σ H' → ResOk K F Z' ms' g σ H' r v → Q v H'
theorem After.val {v : PV} {x : V} {Q : VK} (R : Rel K F Z ms g σ H) (k : After K F Z ms g σ H (.val v) Q) (h : Den K Z ms H v x) : Q x H := k Z ms H x .refl R h
theorem After.newL {xs : List PV} {vs : List V} {Q : VK} (R : Rel K F Z ms g σ H) (k : After K F Z ms g σ H (.new xs) Q) (d : Dens K Z ms H xs vs) {p : Addr} (hp : H p = none) : Q (.ref p) (upd H p (.lst vs)) :=
  k Z ms _ _ (Le.upd hp) (R.laid hp) (R.newL hp d)
theorem After.newT {xs : List PV} {vs : List V} {Q : VK} (R : Rel K F Z ms g σ H) (k : After K F Z ms g σ H (.val (.tup xs)) Q) (d : Dens K Z ms H xs vs) {p : Addr} (hp : H p = none) : Q (.ref p) (upd H p (.tup vs)) :=
  k Z ms _ _ (Le.upd hp) (R.laid hp) (R.newT hp d)
theorem After.int {i : Int} {Q : VK} (R : Rel K F Z ms g σ H) (k : After K F Z ms g σ H (.val (.int i)) Q) : Q (.int i) H := k.val R (by simp only [Den])
theorem After.str {i : Str} {Q : VK} (R : Rel K F Z ms g σ H) (k : After K F Z ms g σ H (.val (.str i)) Q) : Q (.str i) H := k.val R (by simp only [Den])
theorem After.bl {i : Bool} {Q : VK} (R : Rel K F Z ms g σ H) (k : After K F Z ms g σ H (.val (.bl i)) Q) : Q (.bl i) H := k.val R (by simp only [Den])
end
theorem ck_some {α : Type} {c : Prop} [Decidable c] {r s : α} (h : ck c r = some s) : c ∧ r = s := by
  unfold ck at h
  split at h
  · exact ⟨by assumption, Option.some.inj h⟩
  · cases h

/-! ### two-place operators -/
def bop : BO → Operator
  | .add => .Add
  | .sub => .Sub
  | .mul => .Mult
  | .fdiv => .FloorDiv
  | .mod => .Mod
  | .pow => .Pow
def cop : CO → CmpOp
  | .eq => .Eq
  | .ne => .NotEq
  | .lt => .Lt
  | .le => .LtE
  | .gt => .Gt
  | .ge => .GtE
  | .isN => .Is
  | .notN => .IsNot
  | .inn => .In
  | .nin => .NotIn
def rB (K : PySem.W.Frag) (F : Fm) (σ' : L2.St) (o : BO) : V → V → Hp → VK → Prop := fun x y H Q => ∃ Z ms g xv yv r, Rel K F Z ms g σ' H ∧ DenW K Z ms H xv x ∧ DenW K Z ms H yv y ∧ binV o xv yv = some r ∧ After K F Z ms g σ' H r Q
section
variable {X : Cx} {F : Fm} {σ' : L2.St}
theorem op_bin (o : BO) : OpR X (binaryOp (bop o)) (rB X.K F σ' o) := by
  intro pins s σ H x y v u Q I rx ry h
  obtain ⟨Z, ms, g, xv, yv, r, R, dx, dy, e, k⟩ := h
  cases o with
  | add =>
    change addV xv yv = some r at e
    unfold addV at e
    split at e
    · cases e
      exact L2.op_add pins s σ H x y v u Q I rx ry ⟨_, _, dx.int, dy.int, k.int R⟩
    · obtain ⟨c, rfl⟩ := ck_some e
      exact L2.op_add_str pins s σ H x y v u Q I rx ry ⟨_, _, dx.str, dy.str, c, k.str R⟩
    · obtain ⟨c, rfl⟩ := ck_some e
      obtain ⟨a, vs, rfl, h1, h2⟩ := dx.lst
      obtain ⟨b, ws, rfl, h3, h4⟩ := dy.lst
      exact L2.op_cat pins s σ H _ _ v u Q I rx ry ⟨a, b, vs, ws, rfl, rfl, h1, h3, by rw [h2.length, h4.length]; exact c, fun p hp => k.newL R (h2.append h4) hp⟩
    · obtain ⟨c, rfl⟩ := ck_some e
      obtain ⟨a, vs, rfl, h1, h2⟩ := dx.tup
      obtain ⟨b, ws, rfl, h3, h4⟩ := dy.tup
      refine L2.op_catA pins s σ H _ _ v u Q I rx ry ⟨a, b, vs, ws, rfl, rfl, h1, h3, by rw [h2.length, h4.length]; exact c, fun z => ?_, fun _ z => ?_, fun _ _ p hp => k.newT R (h2.append h4) hp⟩
      · subst z
        refine k.val R ?_
        simp only [Den]
        exact ⟨b, ws, rfl, h3, by simpa using h2.append h4⟩
      · subst z
        refine k.val R ?_
        simp only [Den]
        exact ⟨a, vs, rfl, h1, by simpa using h2.append h4⟩
    · cases e
  | sub =>
    change subV xv yv = some r at e
    unfold subV at e
    split at e
    · cases e
      exact L2.op_sub pins s σ H x y v u Q I rx ry ⟨_, _, dx.int, dy.int, k.int R⟩
    · cases e
  | mul =>
    change mulV xv yv = some r at e
    unfold mulV at e
    split at e
    · obtain ⟨c, rfl⟩ := ck_some e
      exact L2.op_mul pins s σ H x y v u Q I rx ry ⟨_, _, dx.int, dy.int, c, k.int R⟩
    · obtain ⟨⟨c1, c2, c3⟩, rfl⟩ := ck_some e
      obtain ⟨a, vs, rfl, h1, h2⟩ := dx.lst
      exact L2.op_rep pins s σ H _ _ v u Q I rx ry ⟨a, _, vs, rfl, dy.int, h1, c1, c2, by rw [h2.length]; exact c3, fun p hp => k.newL R (h2.rep _) hp⟩
    · obtain ⟨⟨c1, c2, c3, c4⟩, rfl⟩ := ck_some e
      obtain ⟨a, vs, rfl, h1, h2⟩ := dx.tup
      have hl := h2.length
      refine L2.op_repT pins s σ H _ _ v u Q I rx ry ⟨a, _, vs, rfl, dy.int, h1, fun z => ?_, c2, c3, by omega, fun p hp => k.newT R (h2.rep _) hp⟩
      subst z
      have hn := List.length_eq_zero_iff.mp (hl.symm.trans rfl)
      rw [hn] at c1
      cases c1
    · cases e
  | fdiv =>
    change fdivV xv yv = some r at e
    unfold fdivV at e
    split at e
    · obtain ⟨c, rfl⟩ := ck_some e
      exact L2.op_fdivW pins s σ H x y v u Q I rx ry ⟨_, _, dx.int, dy.int, c, k.int R⟩
    · cases e
  | mod =>
    change modV xv yv = some r at e
    unfold modV at e
    split at e
    · obtain ⟨c, rfl⟩ := ck_some e
      exact L2.op_mod pins s σ H x y v u Q I rx ry ⟨_, _, dx.int, dy.int, c, k.int R⟩
    · cases e
  | pow =>
    change powV xv yv = some r at e
    unfold powV at e
    split at e
    · obtain ⟨c, rfl⟩ := ck_some e
      exact L2.op_pow pins s σ H x y v u Q I rx ry ⟨_, _, dx.int, dy.int, c, k.int R⟩
    · cases e

/-! ### comparisons -/
/-- what a step that yields a truth value asks -/
def AfterB (Q : VK) (b : Bool) (H : Hp) : Prop := Q (.bl b) H
def rC (K : PySem.W.Frag) (o : CO) : V → V → Hp → VK → Prop := fun x y H Q => ∃ Z ms xv yv b, DenW K Z ms H xv x ∧ DenW K Z ms H yv y ∧ cmpV o xv yv = some b ∧ Q (.bl b) H
theorem deep_eq (hu : X.A.units + 64 < cLine) {pins : List (Addr × Obj)} {s : Shared} {σ : L2.St} {H : Hp} {x y : V} {v u : Value} {Q : VK} (I : Inv X pins σ H s) (rx : RelV x v) (ry : RelV y u)
    {Z : Addr → Prop} {ms : List Addr} {xv yv : PV} {b : Bool} (dx : DenW X.K Z ms H xv x) (dy : DenW X.K Z ms H yv y) (e : eqV xv yv = some b) :
    (Q (.bl b) H → wpAny (model X.prog X.w) X.A (compareOp .Eq v u) (EP X pins σ Q) X.xe s) ∧ (Q (.bl (!b)) H → wpAny (model X.prog X.w) X.A (compareOp .NotEq v u) (EP X pins σ Q) X.xe s) := by
  have sc : L2.scal x y = true → b = decide (x = y) → (Q (.bl b) H → wpAny (model X.prog X.w) X.A (compareOp .Eq v u) (EP X pins σ Q) X.xe s) ∧ (Q (.bl (!b)) H → wpAny (model X.prog X.w) X.A (compareOp .NotEq v u) (EP X pins σ Q) X.xe s) := fun h1 h2 =>
    ⟨fun q => L2.op_eq pins s σ H x y v u Q I rx ry ⟨h1, by rw [← h2]; exact q⟩, fun q => L2.op_ne pins s σ H x y v u Q I rx ry ⟨h1, by rw [← h2]; exact q⟩⟩
  unfold eqV at e
  split at e
  · have e1 := dx.non
    have e2 := dy.non
    subst e1 e2
    cases e
    exact sc rfl (by simp)
  · have e1 := dx.int
    have e2 := dy.int
    subst e1 e2
    cases e
    exact sc rfl (by simp)
  · have e1 := dx.bl
    have e2 := dy.bl
    subst e1 e2
    cases e
    exact sc rfl (by simp)
  · have e1 := dx.str
    have e2 := dy.str
    subst e1 e2
    cases e
    exact sc rfl (by simp)
  · have e1 := dx.int
    have e2 := dy.str
    subst e1 e2
    cases e
    exact sc rfl (by simp)
  · have e1 := dx.str
    have e2 := dy.int
    subst e1 e2
    cases e
    exact sc rfl (by simp)
  · have e1 := dx.bl
    have e2 := dy.str
    subst e1 e2
    cases e
    exact sc rfl (by simp)
  · have e1 := dx.str
    have e2 := dy.bl
    subst e1 e2
    cases e
    exact sc rfl (by simp)
  · have e1 := dx.non
    have e2 := dy.int
    subst e1 e2
    cases e
    exact sc rfl (by simp)
  · have e1 := dx.int
    have e2 := dy.non
    subst e1 e2
    cases e
    exact sc rfl (by simp)
  · have e1 := dx.non
    have e2 := dy.str
    subst e1 e2
    cases e
    exact sc rfl (by simp)
  · have e1 := dx.str
    have e2 := dy.non
    subst e1 e2
    cases e
    exact sc rfl (by simp)
  · obtain ⟨⟨p1, p2, s1, s2⟩, rfl⟩ := ck_some e
    exact ⟨fun q => L2.op_eqD hu pins s σ H x y v u Q I rx ry ⟨_, _, dx.dp p1, dy.dp p2, s1, s2, q⟩, fun q => L2.op_neD hu pins s σ H x y v u Q I rx ry ⟨_, _, dx.dp p1, dy.dp p2, s1, s2, q⟩⟩
theorem flat_V {K : PySem.W.Frag} {Z : Addr → Prop} {ms : List Addr} {H : Hp} {y : PV} {x : V} (f : flat y = true) (h : Den K Z ms H y x) : L2.flatV x = true := by
  cases y <;> first | (simp [flat] at f; done) | (simp only [Den] at h; subst h; rfl)
theorem flats_V {K : PySem.W.Frag} {Z : Addr → Prop} {ms : List Addr} {H : Hp} : ∀ {ys : List PV} {vs : List V}, ys.all flat = true → Dens K Z ms H ys vs → vs.all L2.flatV = true
  | [], vs, _, h => by
    simp only [Dens] at h
    subst h
    rfl
  | y :: ys, vs, f, h => by
    simp only [Dens] at h
    obtain ⟨v, r, rfl, h1, h2⟩ := h
    simp only [List.all_cons, Bool.and_eq_true] at f ⊢
    exact ⟨flat_V f.1 h1, flats_V f.2 h2⟩
theorem eqF_V {K : PySem.W.Frag} {Z : Addr → Prop} {ms : List Addr} {H : Hp} {y z : PV} {x w : V} (f1 : flat y = true) (f2 : flat z = true) (h1 : Den K Z ms H y x) (h2 : Den K Z ms H z w) : L2.eqV x w = eqF y z := by
  cases y <;> cases z <;> first | (simp [flat] at f1; done) | (simp [flat] at f2; done) | (simp only [Den] at h1 h2; subst h1 h2; rfl)
theorem anyF_V {K : PySem.W.Frag} {Z : Addr → Prop} {ms : List Addr} {H : Hp} {z : PV} {w : V} (f2 : flat z = true) (h2 : Den K Z ms H z w) : ∀ {ys : List PV} {vs : List V}, ys.all flat = true → Dens K Z ms H ys vs →
    (vs.any fun x => L2.eqV x w) = ys.any fun y => eqF y z
  | [], vs, _, h => by
    simp only [Dens] at h
    subst h
    rfl
  | y :: ys, vs, f, h => by
    simp only [Dens] at h
    obtain ⟨v, r, rfl, h1, h3⟩ := h
    simp only [List.all_cons, Bool.and_eq_true] at f
    simp only [List.any_cons]
    rw [eqF_V f.1 f2 h1 h2, anyF_V f2 h2 f.2 h3]
theorem DenW.flat {K : PySem.W.Frag} {Z : Addr → Prop} {ms : List Addr} {H : Hp} {y : PV} {x : V} (f : Ev.flat y = true) (h : DenW K Z ms H y x) : Den K Z ms H y x := by
  rcases h with h | ⟨_, _, _, rfl, _⟩
  · exact h
  · simp [Ev.flat] at f
theorem in_ok {pins : List (Addr × Obj)} {s : Shared} {σ : L2.St} {H : Hp} {x y : V} {v u : Value} {Q : VK} (I : Inv X pins σ H s) (rx : RelV x v) (ry : RelV y u)
    {Z : Addr → Prop} {ms : List Addr} {xv yv : PV} {b : Bool} (dx : DenW X.K Z ms H xv x) (dy : DenW X.K Z ms H yv y) (e : inV xv yv = some b) :
    (Q (.bl b) H → wpAny (model X.prog X.w) X.A (compareOp .In v u) (EP X pins σ Q) X.xe s) ∧ (Q (.bl (!b)) H → wpAny (model X.prog X.w) X.A (compareOp .NotIn v u) (EP X pins σ Q) X.xe s) := by
  have core : ∀ zs, (yv = .lst zs ∨ yv = .tup zs) → Ev.flat xv = true → zs.all Ev.flat = true → b = (zs.any fun y => eqF y xv) →
      (Q (.bl b) H → wpAny (model X.prog X.w) X.A (compareOp .In v u) (EP X pins σ Q) X.xe s) ∧ (Q (.bl (!b)) H → wpAny (model X.prog X.w) X.A (compareOp .NotIn v u) (EP X pins σ Q) X.xe s) := fun zs hy f1 f2 hb => by
    obtain ⟨a, vs, rfl, h1, h2⟩ := dy.seq hy
    have d := dx.flat f1
    have e1 : (vs.any fun x' => L2.eqV x' x) = b := by rw [hb]; exact anyF_V f1 d f2 h2
    have e2 : L2.inV x vs = b := e1
    exact ⟨fun q => L2.op_in_seq pins s σ H x _ v u Q I rx ry ⟨a, vs, rfl, h1, flat_V f1 d, flats_V f2 h2, by rw [e2]; exact q⟩, fun q => L2.op_notIn_seq pins s σ H x _ v u Q I rx ry ⟨a, vs, rfl, h1, flat_V f1 d, flats_V f2 h2, by rw [e2]; exact q⟩⟩
  unfold inV at e
  split at e
  · obtain ⟨⟨c1, c2⟩, rfl⟩ := ck_some e
    exact core _ (.inl rfl) c1 c2 rfl
  · obtain ⟨⟨c1, c2⟩, rfl⟩ := ck_some e
    exact core _ (.inr rfl) c1 c2 rfl
  · cases e
theorem isNone_V {K : PySem.W.Frag} {Z : Addr → Prop} {ms : List Addr} {H : Hp} {y : PV} {x : V} (h : DenW K Z ms H y x) : decide (x = .non) = isNone y := by
  rcases h with h | ⟨a, _, _, rfl, rfl, _⟩
  · cases y <;> simp only [Den] at h
    case tup => obtain ⟨a, vs, rfl, _⟩ := h; rfl
    case lst => obtain ⟨a, vs, rfl, _⟩ := h; rfl
    case fz => obtain ⟨a, rfl, _⟩ := h; rfl
    case ref => obtain ⟨a, rfl, _⟩ := h; rfl
    all_goals (subst h; rfl)
  · rfl
theorem op_cmp (hu : X.A.units + 64 < cLine) (o : CO) : OpR X (compareOp (cop o)) (rC X.K o) := by
  intro pins s σ H x y v u Q I rx ry h
  obtain ⟨Z, ms, xv, yv, b, dx, dy, e, q⟩ := h
  have ord : ∀ f, ordV f xv yv = some b → ∃ i j, x = .int i ∧ y = .int j ∧ b = f i j := fun f e => by
    unfold ordV at e
    split at e
    · cases e
      exact ⟨_, _, dx.int, dy.int, rfl⟩
    · cases e
  cases o with
  | eq => exact (deep_eq hu I rx ry dx dy e).1 q
  | ne =>
    change (eqV xv yv).map (!·) = some b at e
    cases e1 : eqV xv yv with
    | none => rw [e1] at e; cases e
    | some c =>
      rw [e1] at e
      cases e
      exact (deep_eq hu I rx ry dx dy e1).2 q
  | lt =>
    obtain ⟨i, j, rfl, rfl, rfl⟩ := ord _ e
    exact L2.op_lt pins s σ H _ _ v u Q I rx ry ⟨i, j, rfl, rfl, q⟩
  | le =>
    obtain ⟨i, j, rfl, rfl, rfl⟩ := ord _ e
    exact L2.op_le pins s σ H _ _ v u Q I rx ry ⟨i, j, rfl, rfl, q⟩
  | gt =>
    obtain ⟨i, j, rfl, rfl, rfl⟩ := ord _ e
    exact L2.op_gt pins s σ H _ _ v u Q I rx ry ⟨i, j, rfl, rfl, q⟩
  | ge =>
    obtain ⟨i, j, rfl, rfl, rfl⟩ := ord _ e
    exact L2.op_ge pins s σ H _ _ v u Q I rx ry ⟨i, j, rfl, rfl, q⟩
  | isN =>
    change isV xv yv = some b at e
    unfold isV at e
    split at e
    · rename_i hn
      cases e
      have hy : y = .non := of_decide_eq_true ((isNone_V dy).trans hn)
      exact L2.op_isN pins s σ H x y v u Q I rx ry ⟨hy, by rw [isNone_V dx]; exact q⟩
    · cases e
  | notN =>
    change (isV xv yv).map (!·) = some b at e
    unfold isV at e
    split at e
    · rename_i hn
      cases e
      have hy : y = .non := of_decide_eq_true ((isNone_V dy).trans hn)
      exact L2.op_notN pins s σ H x y v u Q I rx ry ⟨hy, by rw [isNone_V dx]; exact q⟩
    · cases e
  | inn => exact (in_ok I rx ry dx dy e).1 q
  | nin =>
    change (inV xv yv).map (!·) = some b at e
    cases e1 : inV xv yv with
    | none => rw [e1] at e; cases e
    | some c =>
      rw [e1] at e
      cases e
      exact (in_ok I rx ry dx dy e1).2 q

/-! ### truth -/
def rT (K : PySem.W.Frag) : V → Hp → (Bool → Hp → Prop) → Prop := fun x H Q => ∃ Z ms xv b, DenW K Z ms H xv x ∧ truV xv = some b ∧ Q b H
theorem tru_V {K : PySem.W.Frag} {Z : Addr → Prop} {ms : List Addr} {H : Hp} {y : PV} {x : V} {b : Bool} (h : DenW K Z ms H y x) (e : truV y = some b) : L2.TruV K x H b := by
  have emp : ∀ {ys : List PV} {vs : List V}, Dens K Z ms H ys vs → (!ys.isEmpty) = !vs.isEmpty := fun {ys vs} d => by
    have := d.length
    cases ys <;> cases vs <;> simp at this ⊢
  unfold truV at e
  split at e
  · have := h.non
    subst this
    cases e
    rfl
  · have := h.bl
    subst this
    cases e
    rfl
  · have := h.int
    subst this
    cases e
    rfl
  · have := h.str
    subst this
    obtain ⟨c, rfl⟩ := ck_some e
    exact ⟨c, rfl⟩
  · obtain ⟨a, vs, rfl, h1, h2⟩ := h.lst
    cases e
    exact .inl ⟨vs, .inl (.inl h1), emp h2⟩
  · obtain ⟨a, vs, rfl, h1, h2⟩ := h.tup
    cases e
    exact .inr (.inl ⟨vs, h1, emp h2⟩)
  · obtain ⟨a, rfl, h1⟩ := h.fz
    cases e
    exact .inl ⟨_, h1.sq, by simp⟩
  · cases e
theorem tru_ev : TruR X (rT X.K) := by
  intro pins s σ H x v Q I rx h
  obtain ⟨Z, ms, xv, b, d, e, q⟩ := h
  exact L2.tru_ok pins s σ H x v Q I rx ⟨b, tru_V d e, q⟩
end
end Ev
/-! # Ev, part 4: subscripts, slices, built-ins by values. -/
namespace Ev
open PySem PySem.Spec
open L2 (V Hp HO upd SqL SqT Rd Cx Inv PE PT PW PA PS PSs PG PGs PI PK VK TE TT TA TS TG TGs TI Ends RelV Vals It Dp DpAll OpR UnR CallR TruR IxR SlR MtR EP TP AP SP)

/-! ### t[::-1], t a tuple -/
theorem back_places (n : Nat) : Builtin.Slice.slicePlaces ((n : Int) - 1) (-1) (-1) = n := by
  unfold Builtin.Slice.slicePlaces
  rw [if_neg (by decide)]
  by_cases h : (n : Int) - 1 > -1
  · rw [if_pos h]
    have e : (-(-1 : Int)) = 1 := by decide
    rw [e, Int.ediv_one]
    omega
  · rw [if_neg h]
    omega
theorem back_pick (xs : Array Value) : ((List.range xs.size).filterMap fun (k : Nat) => xs[((xs.size : Int) - 1 + (k : Int) * (-1)).toNat]?).toArray = xs.toList.reverse.toArray := by
  have key : ∀ l : List Value, ((List.range l.length).filterMap fun (k : Nat) => l[((l.length : Int) - 1 + (k : Int) * (-1)).toNat]?) = l.reverse := by
    intro l
    apply List.ext_getElem?
    intro i
    have e1 : (List.range l.length).filterMap (fun (k : Nat) => l[((l.length : Int) - 1 + (k : Int) * (-1)).toNat]?) = (List.range l.length).map fun k => l.getD (l.length - 1 - k) Value.none := by
      have go : ∀ ks : List Nat, (∀ k ∈ ks, k < l.length) → ks.filterMap (fun (k : Nat) => l[((l.length : Int) - 1 + (k : Int) * (-1)).toNat]?) = ks.map fun k => l.getD (l.length - 1 - k) Value.none := by
        intro ks
        induction ks with
        | nil => intro _; rfl
        | cons k ks ih =>
          intro hk
          have hk' : k < l.length := hk k List.mem_cons_self
          have h3 : ((l.length : Int) - 1 + (k : Int) * (-1)).toNat = l.length - 1 - k := by omega
          have h4 : l.length - 1 - k < l.length := by omega
          rw [List.filterMap_cons, h3, List.getElem?_eq_getElem h4, List.map_cons, ih fun j hj => hk j (List.mem_cons_of_mem _ hj), List.getD_eq_getElem?_getD, List.getElem?_eq_getElem h4]
          rfl
      exact go _ fun k hk => List.mem_range.mp hk
    rw [e1, List.getElem?_map]
    by_cases hi : i < l.length
    · rw [List.getElem?_range hi, List.getElem?_reverse hi, Option.map_some, List.getD_eq_getElem?_getD]
      have h4 : l.length - 1 - i < l.length := by omega
      simp [h4]
    · rw [List.getElem?_eq_none (by simpa using hi), List.getElem?_eq_none (by simpa using hi)]
      rfl
  have := key xs.toList
  simp only [Array.length_toList, Array.getElem?_toList] at this
  rw [this]
theorem adjust_back (n : Nat) : Builtin.Slice.sliceAdjust none none (-1) (n : Int) = ((n : Int) - 1, -1) := by
  unfold Builtin.Slice.sliceAdjust
  simp
theorem applied_back {prog : Program} {w : World} {A : Around} {E : Value → Shared → Prop} {s : Shared} {sl : Addr} {n : Nat} {vs : Value} {Q : Int × Int × Nat → Shared → Prop} (hs : s.heap.IsSliceOf sl .none .none vs)
    (ps : IsPart vs (some (-1))) (h : Q ((n : Int) - 1, -1, n) s) : wpAny (model prog w) A (Builtin.Slice.sliceApplied (.ref sl) (pure (n : Int))) Q E s := by
  obtain ⟨os, hos, hcs, hds⟩ := id hs
  unfold Builtin.Slice.sliceApplied Builtin.Slice.sliceFields
  refine wpAny_bind (wpAny_bind (wpAny_field hos hds (x := .none) rfl (wpAny_bind (wpAny_field hos hds (x := .none) rfl (wpAny_bind (wpAny_field hos hds (x := vs) rfl (wpAny_pure ?_)))))))
  refine wpAny_bind (HT.slicePart_ ps ?_)
  show wpAny _ _ (if ((-1 : Int) == 0) = true then _ else _) _ _ s
  rw [if_neg (by decide)]
  refine wpAny_bind (HT.slicePart_ .none (wpAny_bind (HT.slicePart_ .none (wpAny_bind (wpAny_pure ?_)))))
  show wpAny _ _ (match Builtin.Slice.sliceAdjust none none (-1) (n : Int) with | (lo, hi) => pure (lo, (-1 : Int), Builtin.Slice.slicePlaces lo hi (-1))) _ _ s
  rw [adjust_back]
  show wpAny _ _ (pure ((n : Int) - 1, (-1 : Int), Builtin.Slice.slicePlaces ((n : Int) - 1) (-1) (-1))) _ _ s
  rw [back_places]
  exact wpAny_pure h
theorem tuple_back {prog : Program} {w : World} {A : Around} {E : Value → Shared → Prop} {s : Shared} {t sl : Addr} {items : Array Value} {vs : Value} {Q : Value → Shared → Prop} (ht : PyProof.Rows.IsTup s.heap t items)
    (hs : s.heap.IsSliceOf sl .none .none vs) (ps : IsPart vs (some (-1)))
    (h : Q (.ref s.heap.objs.size) { s with heap := s.heap.push { cls := .type "tuple", data := .seq items.toList.reverse.toArray } }) (hsz : items.size ≤ sizeLine) :
    wpAny (model prog w) A (getItem (.ref t) (.ref sl)) Q E s := by
  obtain ⟨os, hos, hcs, hds⟩ := id hs
  have hTs : s.TypeIs (.ref sl) "slice" := ⟨os, hos, hcs⟩
  unfold getItem
  try with_reducible refine wpAny_holding ?_
  first | refine wpAny_bind (wpAny_pure ?_) | skip
  refine wpAny_bind (wpAny_sequenceKey ht.typeIs (by decide) ?_)
  refine wpAny_bind (wpAny_callSpecial?_slot (name := Str.ofString "__getitem__") ht.typeIs PyProof.Rows.slot_tuple_getitem
    (wpAny_call_entry PyProof.Rows.slot_tuple_getitem ht.typeIs PyProof.Rows.entry_tuple_getitem ?_ (PyProof.Rows.args_tuple_getitem _ _)))
  show wpAny _ _ (Builtin.Tuple.tupleItemsOf (.ref t) >>= _) _ _ s
  refine wpAny_bind (PyProof.Rows.tupleItemsOf_ ht ?_)
  refine wpAny_bind (wpAny_typeOf hTs ?_)
  rw [if_pos (by decide)]
  refine wpAny_bind (applied_back hs ps ?_)
  · show wpAny _ _ (if (((items.size : Int) - 1 == 0) && ((-1 : Int) == 1) && (items.size == items.size)) = true then _ else _) _ _ s
    rw [if_neg (by simp), back_pick]
    have hz : sizeOk (.seq items.toList.reverse.toArray) := by
      show items.toList.reverse.toArray.size ≤ sizeLine
      simpa using hsz
    first
      | exact wpAny_bind (m := Builtin.Tuple.tupleExact _) (wpAny_newObj_type (wpAny_pure ⟨_, rfl, wpAny_pure h⟩) hz)
      | exact wpAny_bind (m := Builtin.Tuple.tupleExact _) (wpAny_newObj_type (wpAny_bind (wpAny_pure (wpAny_pure ⟨_, rfl, wpAny_pure h⟩))) hz)
      | exact wpAny_bind (wpAny_bind (m := Builtin.Tuple.tupleExact _) (wpAny_newObj_type (wpAny_pure (wpAny_pure ⟨_, rfl, wpAny_pure h⟩)) hz))
      | exact wpAny_bind (wpAny_bind (m := Builtin.Tuple.tupleExact _) (wpAny_newObj_type (wpAny_pure ⟨_, rfl, wpAny_pure h⟩) hz))

mutual
theorem noDict_of_dp {K : PySem.W.Frag} {H : Hp} : ∀ (d : PyData) (x : V), Dp K H x d → d.hasDict = false
  | .none, _, _ => by simp only [PyData.hasDict]
  | .bool _, _, _ => by simp only [PyData.hasDict]
  | .int _, _, _ => by simp only [PyData.hasDict]
  | .str _, _, _ => by simp only [PyData.hasDict]
  | .list ds, _, h => by
    cases h with
    | lst _ ha =>
      simp only [PyData.hasDict]
      exact noDicts_of_dp ds _ ha
  | .tuple ds, _, h => by
    cases h with
    | tup _ ha =>
      simp only [PyData.hasDict]
      exact noDicts_of_dp ds _ ha
  | .dict _, _, h => by cases h
theorem noDicts_of_dp {K : PySem.W.Frag} {H : Hp} : ∀ (ds : List PyData) (xs : List V), DpAll K H xs ds → PyData.hasDictAll ds = false
  | [], _, _ => by simp only [PyData.hasDictAll]
  | d :: ds, _, h => by
    cases h with
    | cons h1 h2 =>
      simp only [PyData.hasDictAll, noDict_of_dp d _ h1, noDicts_of_dp ds _ h2, Bool.or_self]
end
section
variable {X : Cx} {F : Fm} {σ' : L2.St}
def tRevT (K : PySem.W.Frag) (te : TE) : TE := fun σ H Q => te σ H fun x H1 => ∃ a xs, x = .ref a ∧ SqT K H1 a xs ∧ ∀ p, H1 p = none → Q (.ref p) (upd H1 p (.tup xs.reverse))
theorem pe_revT {e : Expr} {te : TE} {k : Nat} {p1 p2 p3 pos : Pos} (he : PE X e te) : PE X (.Subscript e (.Slice none none (some (.UnaryOp .USub (.Constant (.int 1) k p1) p2)) p3) pos) (tRevT X.K te) := by
  refine ⟨fun pins s σ H Q I h => ?_⟩
  refine PyProof.Rows.Subscript_ (L2.thn (he.run pins s σ H _ I h) fun v s1 ⟨x, H1, I1, r1, q1⟩ => ?_)
  obtain ⟨a, xs, ex, hx, q⟩ := q1
  subst ex
  cases r1
  have hst : L2.PO X (some (.UnaryOp .USub (.Constant (.int 1) k p1) p2)) (L2.tPart (L2.tUn (L2.rU fun i => .int (-i)) (L2.tC (.int 1)))) := L2.po_some (L2.pe_un L2.un_neg L2.pe_int)
  refine wpAny_Slice (L2.thn (L2.po_none.run pins s1 σ H1 (fun o H2 => o = none ∧ H2 = H1) I1 ⟨rfl, rfl⟩) fun vl s2 ⟨l, H2, I2, pl, el, e2⟩ => ?_)
  subst el e2
  refine L2.thn (L2.po_none.run pins s2 σ H2 (fun o H3 => o = none ∧ H3 = H2) I2 ⟨rfl, rfl⟩) fun vu s3 ⟨u, H3, I3, pu, eu, e3⟩ => ?_
  subst eu e3
  refine L2.thn (hst.run pins s3 σ H3 (fun o H4 => o = some (-1) ∧ H4 = H3) I3 ⟨1, rfl, -1, rfl, rfl, rfl⟩) fun vs s4 ⟨o, H4, I4, ps, eo, e4⟩ => ?_
  subst eo e4
  cases pl
  cases pu
  have I5 : Inv X pins σ H4 { s4 with heap := s4.heap.push { cls := .type "slice", data := .fields #[.none, .none, vs] } } := I4.kept (t' := s4.toks) fun b ob q => Heap.get?_push_of_some _ q
  obtain ⟨its, r, ht, hz⟩ := I5.tuple hx
  have hlen := r.length
  show wpAny (model X.prog X.w) X.A (PyProof.Rows.subscriptTail e (.Slice none none (some (.UnaryOp .USub (.Constant (.int 1) k p1) p2)) p3) (.ref a) (.ref s4.heap.objs.size)) (EP X pins σ Q) X.xe { s4 with heap := s4.heap.push { cls := .type "slice", data := .fields #[.none, .none, vs] } }
  refine PyProof.Rows.tail_any (ops := [.ref a, .ref s4.heap.objs.size]) ht.typeIs (PyProof.Rows.slot_tuple_getitem.lookup) ?_ (by with_unfolding_all rfl)
  refine tuple_back ht (Heap.IsSliceOf.new _ .none .none vs) ps ?_ (by rw [List.size_toArray]; omega)
  refine ⟨.ref _, _, I5.laid (t' := s4.toks) (o := .tup xs.reverse) (fun b ob q => Heap.get?_push_of_some _ q) (Nat.le_refl _) ?_, rfl, q _ (I5.hok.fresh (Nat.le_refl _))⟩
  exact ⟨by rw [List.length_reverse]; exact hz, _, r.reverse, PyProof.Rows.IsTup.new _ _⟩

/-! ### subscripts -/
def rI (K : PySem.W.Frag) : V → V → Hp → VK → Prop := fun x y H Q => ∃ Z ms xv yv v, DenW K Z ms H xv x ∧ DenW K Z ms H yv y ∧ idxV xv yv = some v ∧ ∀ z, Den K Z ms H v z → Q z H
theorem atI_map {K : PySem.W.Frag} {Z : Addr → Prop} {ms : List Addr} {H : Hp} {ys : List PV} {vs : List V} {i : Int} {v : PV} (d : Dens K Z ms H ys vs) (e : atI ys i = some v) : ∃ z, L2.atI vs i = some z ∧ Den K Z ms H v z := by
  unfold atI at e
  unfold L2.atI
  have hl := d.length
  have e1 : L2.ixN vs.length i = ixN ys.length i := by rw [hl]; rfl
  rw [e1]
  cases q : ixN ys.length i with
  | none => rw [q] at e; cases e
  | some j =>
    rw [q] at e
    obtain ⟨z, h1, h2⟩ := d.get (i := j) (y := v) e
    exact ⟨z, h1, h2⟩
theorem ix_ev : IxR X (rI X.K) := by
  intro value slice pins s σ H x y v u Q I rx ry h hs
  obtain ⟨Z, ms, xv, yv, r, dx, dy, e, q⟩ := h
  unfold idxV at e
  split at e
  · obtain ⟨a, vs, rfl, h1, h2⟩ := dx.lst
    obtain ⟨z, e1, d⟩ := atI_map h2 e
    exact L2.ix_list value slice pins s σ H _ y v u Q I rx ry ⟨a, vs, _, z, rfl, dy.int, .inl (.inl h1), e1, q z d⟩ hs
  · obtain ⟨a, vs, rfl, h1, h2⟩ := dx.tup
    obtain ⟨z, e1, d⟩ := atI_map h2 e
    exact L2.ix_tup value slice pins s σ H _ y v u Q I rx ry ⟨a, vs, _, z, rfl, dy.int, h1, e1, q z d⟩ hs
  · split at e
    · rename_i hz
      obtain ⟨c, e1, e2⟩ := Option.map_eq_some_iff.mp e
      subst e2
      exact L2.ix_str value slice pins s σ H x y v u Q I rx ry ⟨_, _, c, dx.str, dy.int, hz, e1, q _ (by simp only [Den])⟩ hs
    · cases e
  · cases e

/-! ### slices -/
def rS (K : PySem.W.Frag) (F : Fm) (σ' : L2.St) : V → Option Int → Option Int → Hp → VK → Prop := fun x lo hi H Q => ∃ Z ms g xv r, Rel K F Z ms g σ' H ∧ DenW K Z ms H xv x ∧ slcV xv lo hi = some r ∧ After K F Z ms g σ' H r Q
theorem Dens.cut {K : PySem.W.Frag} {Z : Addr → Prop} {ms : List Addr} {H : Hp} {ys : List PV} {vs : List V} (lo hi : Option Int) (d : Dens K Z ms H ys vs) : Dens K Z ms H (Ev.cut ys lo hi) (L2.cutV vs lo hi) := by
  unfold Ev.cut L2.cutV
  rw [d.length]
  exact (d.drop _).take _
theorem cut_ints (ns : List Int) (lo hi : Option Int) : (Ev.cut ns lo hi).map V.int = L2.cutV (ns.map V.int) lo hi := by
  unfold Ev.cut L2.cutV
  rw [List.map_take, List.map_drop, List.length_map]
theorem cut_whole {α : Type} {ys : List α} {lo hi : Option Int} (h1 : HT.sIx ys.length 0 lo = 0) (h2 : HT.sIx ys.length ys.length hi = ys.length) : Ev.cut ys lo hi = ys := by
  unfold Ev.cut
  rw [h1, h2]
  simp
theorem sl_ev : SlR X (rS X.K F σ') := by
  intro pins s σ H x v vl vu lo hi sl Q I rx hs pl pu h
  obtain ⟨Z, ms, g, xv, r, R, dx, e, k⟩ := h
  unfold slcV at e
  split at e
  · cases e
    obtain ⟨a, vs, rfl, h1, h2⟩ := dx.lst
    exact L2.sl_list pins s σ H _ v vl vu _ _ sl Q I rx hs pl pu ⟨a, vs, rfl, .inl (.inl h1), fun p hp => k.newL R (h2.cut _ _) hp⟩
  · cases e
    obtain ⟨a, vs, rfl, h1, h2⟩ := dx.tup
    have hl := h2.length
    refine L2.sl_tupA pins s σ H _ v vl vu _ _ sl Q I rx hs pl pu ⟨a, vs, rfl, h1, fun ⟨w1, w2⟩ => ?_, fun _ p hp => k.newT R (h2.cut _ _) hp⟩
    refine k.val R ?_
    rw [hl] at w1 w2
    rw [cut_whole w1 w2]
    simp only [Den]
    exact ⟨a, vs, rfl, h1, h2⟩
  · cases e
    obtain ⟨a, rfl, h1⟩ := dx.fz
    refine L2.sl_list pins s σ H _ v vl vu _ _ sl Q I rx hs pl pu ⟨a, _, rfl, h1.sq, fun p hp => ?_⟩
    rw [← cut_ints]
    exact k.newL R (Dens.ints _) hp
  · obtain ⟨c, rfl⟩ := ck_some e
    exact L2.sl_str pins s σ H x v vl vu _ _ sl Q I rx hs pl pu ⟨_, dx.str, c, k.str R⟩
  · cases e

/-! ### built-ins -/
inductive DenWs (K : PySem.W.Frag) (Z : Addr → Prop) (ms : List Addr) (H : Hp) : List PV → List V → Prop
  | nil : DenWs K Z ms H [] []
  | cons {y : PV} {ys : List PV} {x : V} {xs : List V} : DenW K Z ms H y x → DenWs K Z ms H ys xs → DenWs K Z ms H (y :: ys) (x :: xs)
theorem DenWs.one {K : PySem.W.Frag} {Z : Addr → Prop} {ms : List Addr} {H : Hp} {y : PV} {xs : List V} (h : DenWs K Z ms H [y] xs) : ∃ x, xs = [x] ∧ DenW K Z ms H y x := by
  cases h with
  | cons a b =>
    cases b
    exact ⟨_, rfl, a⟩
theorem DenWs.two {K : PySem.W.Frag} {Z : Addr → Prop} {ms : List Addr} {H : Hp} {y z : PV} {xs : List V} (h : DenWs K Z ms H [y, z] xs) : ∃ x w, xs = [x, w] ∧ DenW K Z ms H y x ∧ DenW K Z ms H z w := by
  cases h with
  | cons a b =>
    obtain ⟨w, rfl, c⟩ := b.one
    exact ⟨_, _, rfl, a, c⟩
/-- the value that stands at a built-in's name -/
def BI.name : BI → Str
  | .len => "len"
  | .int => "int"
  | .str => "str"
  | .repr => "repr"
  | .list => "list"
  | .tuple => "tuple"
  | .min2 => "min"
  | .max2 => "max"
def BI.value : BI → Value
  | .len => .builtin "len"
  | .int => .type "int"
  | .str => .type "str"
  | .repr => .builtin "repr"
  | .list => .type "list"
  | .tuple => .type "tuple"
  | .min2 => .builtin "min"
  | .max2 => .builtin "max"
def rBI (K : PySem.W.Frag) (F : Fm) (σ' : L2.St) (f : BI) : List V → Hp → VK → Prop := fun xs H Q => ∃ Z ms g ys r, Rel K F Z ms g σ' H ∧ DenWs K Z ms H ys xs ∧ biV f ys = some r ∧ After K F Z ms g σ' H r Q
theorem call_bi (hc : X.calm = true) (hg : X.A.guards = some []) (hu : X.A.units + 200 < cLine) (f : BI) : CallR X f.value (rBI X.K F σ' f) := by
  intro pins s σ H xs us Q I rv h
  obtain ⟨Z, ms, g, ys, r, R, d, e, k⟩ := h
  unfold biV at e
  split at e
  · cases e
    obtain ⟨x, rfl, dx⟩ := d.one
    obtain ⟨a, vs, rfl, h1, h2⟩ := dx.seq (.inl rfl)
    exact L2.call_len_seq pins s σ H _ us Q I rv ⟨a, vs, rfl, h1, by rw [h2.length]; exact k.int R⟩
  · cases e
    obtain ⟨x, rfl, dx⟩ := d.one
    obtain ⟨a, vs, rfl, h1, h2⟩ := dx.seq (.inr rfl)
    exact L2.call_len_seq pins s σ H _ us Q I rv ⟨a, vs, rfl, h1, by rw [h2.length]; exact k.int R⟩
  · obtain ⟨c, rfl⟩ := ck_some e
    obtain ⟨x, rfl, dx⟩ := d.one
    exact L2.call_len_str pins s σ H _ us Q I rv ⟨_, by rw [dx.str], c, k.int R⟩
  · cases e
    obtain ⟨x, rfl, dx⟩ := d.one
    exact L2.call_int1 pins s σ H _ us Q I rv (.inl ⟨_, by rw [dx.int], k.int R⟩)
  · cases e
    obtain ⟨x, rfl, dx⟩ := d.one
    exact L2.call_int1 pins s σ H _ us Q I rv (.inr ⟨_, by rw [dx.bl], k.int R⟩)
  · obtain ⟨c, rfl⟩ := ck_some e
    obtain ⟨x, rfl, dx⟩ := d.one
    exact L2.call_str_int pins s σ H _ us Q I rv ⟨_, by rw [dx.int], c, k.str R⟩
  · cases e
    obtain ⟨x, rfl, dx⟩ := d.one
    exact SkE.call_str_str pins s σ H _ us Q I rv ⟨_, by rw [dx.str], k.str R⟩
  · obtain ⟨⟨c1, c2, c3, c4, c5⟩, rfl⟩ := ck_some e
    obtain ⟨x, rfl, dx⟩ := d.one
    have hd := dx.dp c2
    have hx : ∃ a, x = V.ref a := by
      rename_i y
      cases y <;> first | (simp [isDisp] at c1; done) | skip
      · obtain ⟨a, _, q, _⟩ := dx.tup
        exact ⟨a, q⟩
      · obtain ⟨a, _, q, _⟩ := dx.lst
        exact ⟨a, q⟩
    obtain ⟨a, rfl⟩ := hx
    cases rv with
    | cons r1 r2 =>
      cases r2
      cases r1
      obtain ⟨as, rd⟩ := Dp.reads I _ _ _ hd (show RelV (V.ref a) (Value.ref a) from rfl)
      refine repr_of_reads' rd c3 (PyData.noDict_hsm ?_) hg (by omega) (fun _ _ q => q) (fun h' u tk hk => ?_) c5
      · exact noDict_of_dp _ _ hd
      · exact ⟨.str _, H, I.kept (t' := tk) hk, ⟨u, rfl⟩, k.str R⟩
  · cases e
    obtain ⟨x, rfl, dx⟩ := d.one
    obtain ⟨a, vs, rfl, h1, h2⟩ := dx.seq (.inl rfl)
    exact L2.call_list_of pins s σ H _ us Q I rv ⟨a, vs, rfl, h1, fun p hp => k.newL R h2 hp⟩
  · cases e
    obtain ⟨x, rfl, dx⟩ := d.one
    obtain ⟨a, vs, rfl, h1, h2⟩ := dx.seq (.inr rfl)
    exact L2.call_list_of pins s σ H _ us Q I rv ⟨a, vs, rfl, h1, fun p hp => k.newL R h2 hp⟩
  · cases e
    obtain ⟨x, rfl, dx⟩ := d.one
    obtain ⟨a, vs, rfl, h1, h2⟩ := dx.lst
    exact L2.call_tuple_of pins s σ H _ us Q I rv ⟨a, vs, rfl, .inl ⟨.inl (.inl h1), fun p hp => k.newT R h2 hp⟩⟩
  · cases e
    obtain ⟨x, rfl, dx⟩ := d.one
    obtain ⟨a, vs, rfl, h1, h2⟩ := dx.tup
    refine L2.call_tuple_of pins s σ H _ us Q I rv ⟨a, vs, rfl, .inr ⟨h1, k.val R ?_⟩⟩
    simp only [Den]
    exact ⟨a, vs, rfl, h1, h2⟩
  · cases e
    obtain ⟨x, w', rfl, dx, dy⟩ := d.two
    exact L2.call_min2 hc pins s σ H _ us Q I rv ⟨_, _, by rw [dx.int, dy.int], k.int R⟩
  · cases e
    obtain ⟨x, w', rfl, dx, dy⟩ := d.two
    exact L2.call_max2 hc pins s σ H _ us Q I rv ⟨_, _, by rw [dx.int, dy.int], k.int R⟩
  · cases e
end
end Ev
/-! # Ev, part 5: readings by the evaluator; expressions, one construct at a time. -/
namespace Ev
open PySem PySem.Spec
open L2 (V Hp HO upd SqL SqT Rd Cx Inv PE PT PW PA PS PSs PG PGs PI PK VK TE TT TA TS TG TGs TI Ends RelV Vals It Dp DpAll OpR UnR CallR TruR IxR SlR MtR EP TP AP SP)

/-- what holds behind a run of the evaluator, in any layer's state that fits its own -/
def Sat {α : Type} (K : PySem.W.Frag) (F : Fm) (σ : L2.St) (Z : Addr → Prop) (ms : List Addr) (H : Hp) (r : R α) (P : α → (Addr → Prop) → List Addr → G → Hp → Prop) : Prop := match r with
  | .ok a g => ∀ Z' ms' H', Le Z ms H Z' ms' H' → Rel K F Z' ms' g σ H' → P a Z' ms' g H'
  | .bad => False
section
variable {α β : Type} {K : PySem.W.Frag} {F : Fm} {σ : L2.St} {Z Z' : Addr → Prop} {ms ms' : List Addr} {H H' : Hp} {P : α → (Addr → Prop) → List Addr → G → Hp → Prop}
theorem Sat.mk {r : R α} {a : α} {g : G} (e : r = .ok a g) (h : ∀ Z' ms' H', Le Z ms H Z' ms' H' → Rel K F Z' ms' g σ H' → P a Z' ms' g H') : Sat K F σ Z ms H r P := by
  rw [e]
  exact h
theorem Sat.step {r : R β} {f : β → M α} (S : Sat K F σ Z ms H (r.bind f) P) : ∃ a g, r = .ok a g ∧ Sat K F σ Z ms H (f a g) P := by
  cases r with
  | ok a g => exact ⟨a, g, rfl, S⟩
  | bad => exact S.elim
theorem Sat.le {r : R α} (S : Sat K F σ Z ms H r P) (l : Le Z ms H Z' ms' H') : Sat K F σ Z' ms' H' r P := by
  cases r with
  | ok a g => exact fun Z2 ms2 H2 l2 R2 => S Z2 ms2 H2 (l.trans l2) R2
  | bad => exact S.elim
theorem Sat.lift {o : Option α} {g : G} (S : Sat K F σ Z ms H (lift o g) P) : ∃ a, o = some a ∧ Sat K F σ Z ms H (.ok a g) P := by
  cases o with
  | some a => exact ⟨a, rfl, S⟩
  | none => exact S.elim
theorem Sat.stepL {o : Option β} {f : β → M α} {g : G} (S : Sat K F σ Z ms H ((Ev.lift o g).bind f) P) : ∃ a, o = some a ∧ Sat K F σ Z ms H (f a g) P := by
  cases o with
  | some a => exact ⟨a, rfl, S⟩
  | none => exact S.elim
end
theorem Sat.here {α : Type} {K : PySem.W.Frag} {F : Fm} {σ : L2.St} {Z : Addr → Prop} {ms : List Addr} {H : Hp} {a : α} {g : G} {P : α → (Addr → Prop) → List Addr → G → Hp → Prop} (R : Rel K F Z ms g σ H) (S : Sat K F σ Z ms H (.ok a g) P) : P a Z ms g H := S Z ms H .refl R
/-- an operand as the layer sees it -/
def OpdOk (K : PySem.W.Frag) (Z : Addr → Prop) (ms : List Addr) (σ : L2.St) (H : Hp) : Opd → V → Prop
  | .v y, x => Den K Z ms H y x
  | .s i, x => σ[i]? = some (some x)
theorem OpdOk.mono {K : PySem.W.Frag} {Z Z' : Addr → Prop} {ms ms' : List Addr} {σ : L2.St} {H H' : Hp} {o : Opd} {x : V} (l : Le Z ms H Z' ms' H') (h : OpdOk K Z ms σ H o x) : OpdOk K Z' ms' σ H' o x := by
  cases o with
  | v y => exact Den.mono l _ _ h
  | s i => exact h
inductive OpdsOk (K : PySem.W.Frag) (Z : Addr → Prop) (ms : List Addr) (σ : L2.St) (H : Hp) : List Opd → List V → Prop
  | nil : OpdsOk K Z ms σ H [] []
  | cons {o : Opd} {os : List Opd} {x : V} {xs : List V} : OpdOk K Z ms σ H o x → OpdsOk K Z ms σ H os xs → OpdsOk K Z ms σ H (o :: os) (x :: xs)
theorem peek_ok {K : PySem.W.Frag} {F : Fm} {Z : Addr → Prop} {ms : List Addr} {g g' : G} {σ : L2.St} {H : Hp} {i : Nat} {v : PV} (R : Rel K F Z ms g σ H) (e : peek i g = .ok v g') : g' = g ∧ ∃ x, σ[i]? = some (some x) ∧ DenW K Z ms H v x := by
  unfold peek at e
  split at e
  · rename_i w h
    cases e
    obtain ⟨x, h1, h2⟩ := R.vl i v h
    exact ⟨rfl, x, h1, .inl h2⟩
  · rename_i xs h
    cases e
    obtain ⟨a, vs, h1, h2, h3, _⟩ := R.ow i xs h
    exact ⟨rfl, _, h1, .inr ⟨a, vs, xs, rfl, rfl, h2, h3⟩⟩
  · cases e
theorem look_ok {K : PySem.W.Frag} {F : Fm} {Z : Addr → Prop} {ms : List Addr} {g g' : G} {σ : L2.St} {H : Hp} {o : Opd} {v : PV} {x : V} (R : Rel K F Z ms g σ H) (ok : OpdOk K Z ms σ H o x) (e : look o g = .ok v g') : g' = g ∧ DenW K Z ms H v x := by
  cases o with
  | v y =>
    cases e
    exact ⟨rfl, .inl ok⟩
  | s i =>
    obtain ⟨h1, y, h2, h3⟩ := peek_ok R e
    have ok' : σ[i]? = some (some x) := ok
    rw [h2] at ok'
    cases ok'
    exact ⟨h1, h3⟩
theorem lookAll_ok {K : PySem.W.Frag} {F : Fm} {Z : Addr → Prop} {ms : List Addr} {g g' : G} {σ : L2.St} {H : Hp} : ∀ {os : List Opd} {vs : List PV} {xs : List V}, Rel K F Z ms g σ H → OpdsOk K Z ms σ H os xs → lookAll os g = .ok vs g' → g' = g ∧ DenWs K Z ms H vs xs
  | [], vs, xs, R, ok, e => by
    cases ok
    cases e
    exact ⟨rfl, .nil⟩
  | o :: os, vs, xs, R, ok, e => by
    cases ok with
    | cons o1 o2 =>
      unfold lookAll at e
      cases h1 : look o g with
      | bad => rw [h1] at e; cases e
      | ok v g1 =>
        rw [h1] at e
        obtain ⟨rfl, d1⟩ := look_ok R o1 h1
        simp only [Ev.R.bind_ok] at e
        cases h2 : lookAll os g1 with
        | bad => rw [h2] at e; cases e
        | ok ws g2 =>
          rw [h2] at e
          obtain ⟨rfl, d2⟩ := lookAll_ok R o2 h2
          cases e
          exact ⟨rfl, .cons d1 d2⟩

/-! ### the readings -/
def tE (K : PySem.W.Frag) (F : Fm) (f : M Res) : TE := fun σ H Q => ∃ Z ms g, Rel K F Z ms g σ H ∧ Sat K F σ Z ms H (f g) fun r Z' ms' g' H' => ∀ x, ResOk K F Z' ms' g' σ H' r x → Q x H'
/-- .. the result made common -/
def tV (K : PySem.W.Frag) (F : Fm) (f : M Res) : TE := fun σ H Q => ∃ Z ms g, Rel K F Z ms g σ H ∧ Sat K F σ Z ms H (f g) fun r Z' ms' g' H' => ∀ x, Den K Z' ms' H' r.pv x → Q x H'
def tO (K : PySem.W.Frag) (F : Fm) (f : M Opd) : TE := fun σ H Q => ∃ Z ms g, Rel K F Z ms g σ H ∧ Sat K F σ Z ms H (f g) fun o Z' ms' g' H' => ∀ x, OpdOk K Z' ms' σ H' o x → Q x H'
def tVs (K : PySem.W.Frag) (F : Fm) (f : M (List PV)) : TA := fun σ H Q => ∃ Z ms g, Rel K F Z ms g σ H ∧ Sat K F σ Z ms H (f g) fun vs Z' ms' g' H' => ∀ xs, Dens K Z' ms' H' vs xs → Q xs H'
def tOs (K : PySem.W.Frag) (F : Fm) (f : M (List Opd)) : TA := fun σ H Q => ∃ Z ms g, Rel K F Z ms g σ H ∧ Sat K F σ Z ms H (f g) fun os Z' ms' g' H' => ∀ xs, OpdsOk K Z' ms' σ H' os xs → Q xs H'
def tT (K : PySem.W.Frag) (F : Fm) (f : M Bool) : TT := fun σ H Q => ∃ Z ms g, Rel K F Z ms g σ H ∧ Sat K F σ Z ms H (f g) fun b Z' ms' g' H' => Q b H'
def tI (K : PySem.W.Frag) (F : Fm) (f : M (Option Int)) : L2.TO := fun σ H Q => ∃ Z ms g, Rel K F Z ms g σ H ∧ Sat K F σ Z ms H (f g) fun o Z' ms' g' H' => Q o H'
theorem tE_of {K : PySem.W.Frag} {F : Fm} {f : M Res} {σ : L2.St} {H : Hp} {Q : VK} (h : tV K F f σ H Q) : tE K F f σ H Q := by
  obtain ⟨Z, ms, g, R, S⟩ := h
  refine ⟨Z, ms, g, R, ?_⟩
  cases e : f g with
  | bad => rw [e] at S; exact S.elim
  | ok r g1 =>
    rw [e] at S
    intro Z1 ms1 H1 l1 R1 x rx
    obtain ⟨Z2, l2, R2, d⟩ := R1.force rx
    exact S Z2 ms1 H1 (l1.trans l2) R2 x d

theorem PE.imp {X : Cx} {e : Expr} {t t' : TE} (h : PE X e t) (k : ∀ σ H Q, t' σ H Q → t σ H Q) : PE X e t' := ⟨fun pins s σ H Q I q => h.run pins s σ H Q I (k σ H Q q)⟩
theorem PT.imp {X : Cx} {e : Expr} {t t' : TT} (h : PT X e t) (k : ∀ σ H Q, t' σ H Q → t σ H Q) : PT X e t' := ⟨fun pins s σ H Q I q => h.run pins s σ H Q I (k σ H Q q)⟩
theorem PW.imp {X : Cx} {e : Expr} {t t' : TT} (h : PW X e t) (k : ∀ σ H Q, t' σ H Q → t σ H Q) : PW X e t' := ⟨fun w pins s σ H Q I q => h.run w pins s σ H Q I (k σ H Q q)⟩
theorem PA.imp {X : Cx} {es : List Expr} {t t' : TA} (h : PA X es t) (k : ∀ σ H Q, t' σ H Q → t σ H Q) : PA X es t' := ⟨fun p pins s σ H Q I q => h.run p pins s σ H Q I (k σ H Q q)⟩
theorem PO.imp {X : Cx} {e : Option Expr} {t t' : L2.TO} (h : L2.PO X e t) (k : ∀ σ H Q, t' σ H Q → t σ H Q) : L2.PO X e t' := ⟨fun pins s σ H Q I q => h.run pins s σ H Q I (k σ H Q q)⟩
theorem PS.imp {X : Cx} {st : Stmt} {t t' : TS} (h : PS X st t) (k : ∀ D σ H, t' D σ H → t D σ H) : PS X st t' := ⟨fun pins s σ H D I q => h.run pins s σ H D I (k D σ H q)⟩
theorem PSs.imp {X : Cx} {st : List Stmt} {t t' : TS} (h : PSs X st t) (k : ∀ D σ H, t' D σ H → t D σ H) : PSs X st t' := ⟨fun pins s σ H D I q => h.run pins s σ H D I (k D σ H q)⟩
theorem PE.v {X : Cx} {e : Expr} {F : Fm} {f : M Res} (h : PE X e (tE X.K F f)) : PE X e (tV X.K F f) := PE.imp h fun _ _ _ => tE_of

section
variable {X : Cx} {F : Fm} {pos : Pos}
/-! ### names and constants -/
theorem e_int {c : Call} {i : Int} {j : Nat} : PE X (.Constant (.int i) j pos) (tE X.K F (ev c (.cst (.int i)))) := PE.imp L2.pe_int fun σ H Q ⟨Z, ms, g, R, S⟩ => Sat.here R S _ (by simp only [ResOk, Den])
theorem e_bl {c : Call} {i : Bool} {j : Nat} : PE X (.Constant (.bool i) j pos) (tE X.K F (ev c (.cst (.bl i)))) := PE.imp L2.pe_bl fun σ H Q ⟨Z, ms, g, R, S⟩ => Sat.here R S _ (by simp only [ResOk, Den])
theorem e_non {c : Call} {j : Nat} : PE X (.Constant .none j pos) (tE X.K F (ev c (.cst .non))) := PE.imp L2.pe_non fun σ H Q ⟨Z, ms, g, R, S⟩ => Sat.here R S _ (by simp only [ResOk, Den])
theorem e_str {c : Call} {i : Str} {j : Nat} : PE X (.Constant (.str i) j pos) (tE X.K F (ev c (.cst (.str i)))) := PE.imp L2.pe_str fun σ H Q ⟨Z, ms, g, R, S⟩ => Sat.here R S _ (by simp only [ResOk, Den])
/-- a slot made common -/
theorem Rel.share {K : PySem.W.Frag} {Z : Addr → Prop} {ms : List Addr} {g : G} {σ : L2.St} {H : Hp} {i : Nat} {xs : List PV} (R : Rel K F Z ms g σ H) (e : g.sl[i]? = some (.own xs)) :
    ∃ Z' x, σ[i]? = some (some x) ∧ Le Z ms H Z' ms H ∧ Rel K F Z' ms { g with sl := g.sl.set i (.val (.lst xs)) } σ H ∧ Den K Z' ms H (.lst xs) x := by
  obtain ⟨a, vs, h1, h2, h3, h4, h5, h6⟩ := R.ow i xs e
  have l : Le Z ms H (fun b => Z b ∨ b = a) ms H := ⟨fun _ z => .inl z, fun _ _ _ e => e, fun _ _ e => e, fun _ _ _ e => e, [], by simp⟩
  have d : Den K (fun b => Z b ∨ b = a) ms H (.lst xs) (.ref a) := by
    simp only [Den]
    exact ⟨a, vs, rfl, .inr rfl, h2, Dens.mono l _ _ h3⟩
  have hi : i < g.sl.length := (List.getElem?_eq_some_iff.mp e).1
  refine ⟨_, _, h1, l, ⟨by simpa using R.len, fun j v q => ?_, fun j ys q => ?_, fun j k ys zs b q1 q2 q3 q4 => ?_, R.cn, fun n c b e1 e2 => (R.cl n c b e1 e2).mono l rfl, R.nd, fun b hb => ⟨?_, (R.mz b hb).2⟩, fun b z => z.elim (R.zf b) fun q => .inr (q ▸ h6), fun b z => .inl (R.zz b z), fun b z => ?_, R.fr⟩, d⟩
  · by_cases hj : i = j
    · subst hj
      rw [List.getElem?_set_self hi] at q
      cases q
      exact ⟨_, h1, d⟩
    · rw [List.getElem?_set_ne hj] at q
      obtain ⟨x, e1, e2⟩ := R.vl j v q
      exact ⟨x, e1, Den.mono l _ _ e2⟩
  · by_cases hj : i = j
    · subst hj
      rw [List.getElem?_set_self hi] at q
      cases q
    · rw [List.getElem?_set_ne hj] at q
      obtain ⟨b, ws, e1, e2, e3, e4, e5, e6⟩ := R.ow j ys q
      refine ⟨b, ws, e1, e2, Dens.mono l _ _ e3, ?_, e5, e6⟩
      rintro (z | rfl)
      · exact e4 z
      · exact hj (R.un i j xs ys b e q h1 e1)
  · by_cases hj : i = j
    · subst hj
      rw [List.getElem?_set_self hi] at q1
      cases q1
    · by_cases hk : i = k
      · subst hk
        rw [List.getElem?_set_self hi] at q2
        cases q2
      · rw [List.getElem?_set_ne hj] at q1
        rw [List.getElem?_set_ne hk] at q2
        exact R.un j k ys zs b q1 q2 q3 q4
  · rintro (z | rfl)
    · exact (R.mz b hb).1 z
    · exact h5 hb
  · rcases z with z | rfl
    · exact R.zs b z
    · exact ⟨vs, h2⟩
theorem e_var {c : Call} {i : Nat} {x : Str} (hN : X.N[i]? = some x) (hv : L2.Vis X.env.scope x) (hd : (x == ("__debug__" : Str)) = false) (hcd : (x == ("__classdict__" : Str)) = false) : PE X (.Name x pos) (tE X.K F (ev c (.var i))) := by
  refine PE.imp (L2.pe_var hN hv hd hcd) fun σ H Q ⟨Z, ms, g, R, S⟩ => ?_
  rw [ev_var] at S
  unfold rdVar at S
  split at S
  · rename_i v h
    obtain ⟨y, h1, h2⟩ := R.vl i v h
    exact ⟨y, h1, S Z ms H .refl R y h2⟩
  · rename_i xs h
    obtain ⟨Z', y, h1, l, R', d⟩ := R.share h
    exact ⟨y, h1, S Z' ms H l R' y d⟩
  · exact S.elim
theorem o_var {c : Call} {i : Nat} {x : Str} (hN : X.N[i]? = some x) (hv : L2.Vis X.env.scope x) (hd : (x == ("__debug__" : Str)) = false) (hcd : (x == ("__classdict__" : Str)) = false) : PE X (.Name x pos) (tO X.K F (opd c (.var i))) := by
  refine PE.imp (L2.pe_var hN hv hd hcd) fun σ H Q ⟨Z, ms, g, R, S⟩ => ?_
  simp only [opd_var] at S
  obtain ⟨v, g1, e1, S1⟩ := S.step
  obtain ⟨rfl, y, h1, h2⟩ := peek_ok R e1
  exact ⟨y, h1, S1 Z ms H .refl R y h1⟩
/-- an operand that is no name -/
theorem o_of {e : Expr} {f : M Res} (h : PE X e (tE X.K F f)) : PE X e (tO X.K F fun g => (f g).bind fun r g1 => .ok (.v r.pv) g1) := by
  refine PE.imp (PE.v h) fun σ H Q ⟨Z, ms, g, R, S⟩ => ?_
  obtain ⟨r, g1, e1, S1⟩ := S.step
  exact ⟨Z, ms, g, R, Sat.mk e1 fun Z' ms' H' l R' x d => S1 Z' ms' H' l R' x d⟩

/-! ### argument lists -/
theorem as_nil {c : Call} : PA X [] (tVs X.K F (evs c .nil)) := PA.imp L2.pa_nil fun σ H Q ⟨Z, ms, g, R, S⟩ => Sat.here R S [] .nil
theorem as_cons {c : Call} {m : ME} {r : MEs} {e : Expr} {es : List Expr} (h : PE X e (tE X.K F (ev c m))) (t : PA X es (tVs X.K F (evs c r))) (hs : starEach (e :: es) X.env = (false, eval e X.env) :: starEach es X.env) : PA X (e :: es) (tVs X.K F (evs c (.cons m r))) := by
  refine PA.imp (L2.pa_cons (PE.v h) t hs) fun σ H Q ⟨Z, ms, g, R, S⟩ => ?_
  simp only [evs_cons] at S
  obtain ⟨v, g1, e1, S1⟩ := S.step
  refine ⟨Z, ms, g, R, Sat.mk e1 fun Z1 ms1 H1 l1 R1 x d1 => ?_⟩
  obtain ⟨vs, g2, e2, S2⟩ := (S1.le l1).step
  refine ⟨Z1, ms1, g1, R1, Sat.mk e2 fun Z2 ms2 H2 l2 R2 xs d2 => ?_⟩
  exact S2 Z2 ms2 H2 l2 R2 (x :: xs) (.cons (Den.mono l2 _ _ d1) d2)
theorem os_nil {c : Call} : PA X [] (tOs X.K F (opds c .nil)) := PA.imp L2.pa_nil fun σ H Q ⟨Z, ms, g, R, S⟩ => Sat.here R S [] .nil
theorem OpdsOk.mono {K : PySem.W.Frag} {Z Z' : Addr → Prop} {ms ms' : List Addr} {σ : L2.St} {H H' : Hp} (l : Le Z ms H Z' ms' H') {os : List Opd} {xs : List V} (h : OpdsOk K Z ms σ H os xs) : OpdsOk K Z' ms' σ H' os xs := by
  induction h with
  | nil => exact .nil
  | cons h _ ih => exact .cons (h.mono l) ih
theorem os_cons {c : Call} {m : ME} {r : MEs} {e : Expr} {es : List Expr} (h : PE X e (tO X.K F (opd c m))) (t : PA X es (tOs X.K F (opds c r))) (hs : starEach (e :: es) X.env = (false, eval e X.env) :: starEach es X.env) : PA X (e :: es) (tOs X.K F (opds c (.cons m r))) := by
  refine PA.imp (L2.pa_cons h t hs) fun σ H Q ⟨Z, ms, g, R, S⟩ => ?_
  simp only [opds_cons] at S
  obtain ⟨v, g1, e1, S1⟩ := S.step
  refine ⟨Z, ms, g, R, Sat.mk e1 fun Z1 ms1 H1 l1 R1 x d1 => ?_⟩
  obtain ⟨vs, g2, e2, S2⟩ := (S1.le l1).step
  refine ⟨Z1, ms1, g1, R1, Sat.mk e2 fun Z2 ms2 H2 l2 R2 xs d2 => ?_⟩
  exact S2 Z2 ms2 H2 l2 R2 (x :: xs) (.cons (d1.mono l2) d2)

/-! ### displays, operators -/
theorem e_tup {c : Call} {ms : MEs} {es : List Expr} {k : Nat} (h : PA X es (tVs X.K F (evs c ms))) : PE X (.Tuple es k pos) (tE X.K F (ev c (.tup ms))) := by
  refine PE.imp (L2.pe_tup h) fun σ H Q ⟨Z, as, g, R, S⟩ => ?_
  simp only [ev_tup] at S
  obtain ⟨vs, g1, e1, S1⟩ := S.step
  refine ⟨Z, as, g, R, Sat.mk e1 fun Z1 ms1 H1 l1 R1 xs d1 => ?_⟩
  have hl := d1.length
  split at S1
  · rename_i hz
    refine ⟨by omega, fun p hp => ?_⟩
    exact S1 Z1 ms1 _ (l1.trans (Le.upd hp)) (R1.laid hp) _ (R1.newT hp d1)
  · exact S1.elim
theorem e_lst {c : Call} {ms : MEs} {es : List Expr} (h : PA X es (tVs X.K F (evs c ms))) : PE X (.List es pos) (tE X.K F (ev c (.lst ms))) := by
  refine PE.imp (L2.pe_lst h) fun σ H Q ⟨Z, as, g, R, S⟩ => ?_
  simp only [ev_lst] at S
  obtain ⟨vs, g1, e1, S1⟩ := S.step
  refine ⟨Z, as, g, R, Sat.mk e1 fun Z1 ms1 H1 l1 R1 xs d1 => ?_⟩
  have hl := d1.length
  split at S1
  · rename_i hz
    refine ⟨by omega, fun p hp => ?_⟩
    exact S1 Z1 ms1 _ (l1.trans (Le.upd hp)) (R1.laid hp) _ (R1.newL hp d1)
  · exact S1.elim
/-- two operands, looked at behind both -/
theorem two {c : Call} {a b : ME} {α : Type} {k : PV → PV → M α} {σ : L2.St} {H : Hp} {Z : Addr → Prop} {ms : List Addr} {g : G} {P : α → (Addr → Prop) → List Addr → G → Hp → Prop} {T : V → V → Hp → Prop} (R : Rel X.K F Z ms g σ H)
    (S : Sat X.K F σ Z ms H ((opd c a g).bind fun x g1 => (opd c b g1).bind fun y g2 => (look x g2).bind fun xv g3 => (look y g3).bind fun yv g4 => k xv yv g4) P)
    (h : ∀ Z2 ms2 H2 g2 x y xv yv, Rel X.K F Z2 ms2 g2 σ H2 → DenW X.K Z2 ms2 H2 xv x → DenW X.K Z2 ms2 H2 yv y → Sat X.K F σ Z2 ms2 H2 (k xv yv g2) P → T x y H2) :
    tO X.K F (opd c a) σ H fun x H1 => tO X.K F (opd c b) σ H1 fun y H2 => T x y H2 := by
  obtain ⟨o1, g1, e1, S1⟩ := S.step
  refine ⟨Z, ms, g, R, Sat.mk e1 fun Z1 ms1 H1 l1 R1 x d1 => ?_⟩
  obtain ⟨o2, g2, e2, S2⟩ := (S1.le l1).step
  refine ⟨Z1, ms1, g1, R1, Sat.mk e2 fun Z2 ms2 H2 l2 R2 y d2 => ?_⟩
  obtain ⟨xv, g3, e3, S3⟩ := (S2.le l2).step
  obtain ⟨rfl, w1⟩ := look_ok R2 (d1.mono l2) e3
  obtain ⟨yv, g4, e4, S4⟩ := S3.step
  obtain ⟨rfl, w2⟩ := look_ok R2 d2 e4
  exact h Z2 ms2 H2 _ x y xv yv R2 w1 w2 S4
theorem After.of {K : PySem.W.Frag} {σ : L2.St} {Z : Addr → Prop} {ms : List Addr} {g : G} {H : Hp} {r : Res} {Q : VK} (S : Sat K F σ Z ms H (.ok r g) fun r Z' ms' g' H' => ∀ x, ResOk K F Z' ms' g' σ H' r x → Q x H') : After K F Z ms g σ H r Q :=
  fun Z' ms' H' v l R d => S Z' ms' H' l R v d
theorem e_bin {c : Call} {o : BO} {a b : ME} {x y : Expr} (ha : PE X x (tO X.K F (opd c a))) (hb : PE X y (tO X.K F (opd c b))) : PE X (.BinOp x (bop o) y pos) (tE X.K F (ev c (.bin o a b))) := by
  refine ⟨fun pins s σ H Q I q => ?_⟩
  refine (PE.imp (L2.pe_op (op_bin (σ' := σ) (F := F) o) ha hb) fun σ1 H1 Q1 (h : σ1 = σ ∧ tE X.K F (ev c (.bin o a b)) σ1 H1 Q1) => ?_).run pins s σ H Q I ⟨rfl, q⟩
  obtain ⟨rfl, Z, ms, g, R, S⟩ := h
  simp only [ev_bin] at S
  refine two R S fun Z2 ms2 H2 g2 x y xv yv R2 w1 w2 S2 => ?_
  obtain ⟨r, e, S3⟩ := S2.lift
  exact ⟨Z2, ms2, g2, xv, yv, r, R2, w1, w2, e, After.of S3⟩
theorem cmp_sat {c : Call} {o : CO} {a b : ME} {σ : L2.St} {H : Hp} {Q : VK} (h : tE X.K F (ev c (.cmp o a b)) σ H Q) : tO X.K F (opd c a) σ H fun x H1 => tO X.K F (opd c b) σ H1 fun y H2 => rC X.K o x y H2 Q := by
  obtain ⟨Z, ms, g, R, S⟩ := h
  simp only [ev_cmp] at S
  refine two R S fun Z2 ms2 H2 g2 x y xv yv R2 w1 w2 S2 => ?_
  obtain ⟨r, e, S3⟩ := S2.stepL
  exact ⟨Z2, ms2, xv, yv, r, w1, w2, e, S3 Z2 ms2 H2 .refl R2 _ (by simp only [ResOk, Den])⟩
theorem e_cmp {c : Call} {o : CO} {a b : ME} {x y : Expr} (hu : X.A.units + 64 < cLine) (ha : PE X x (tO X.K F (opd c a))) (hb : PE X y (tO X.K F (opd c b))) (hm : behindInMarks (cop o) y = false) : PE X (.Compare x [cop o] [y] pos) (tE X.K F (ev c (.cmp o a b))) :=
  PE.imp (L2.pe_cmpR (op_cmp hu o) ha hb hm) fun σ H Q h => cmp_sat h
theorem e_neg {c : Call} {a : ME} {x : Expr} (ha : PE X x (tE X.K F (ev c a))) : PE X (.UnaryOp .USub x pos) (tE X.K F (ev c (.neg a))) := by
  refine PE.imp (L2.pe_un L2.un_neg (PE.v ha)) fun σ H Q ⟨Z, ms, g, R, S⟩ => ?_
  simp only [ev_neg] at S
  obtain ⟨r, g1, e1, S1⟩ := S.step
  refine ⟨Z, ms, g, R, Sat.mk e1 fun Z1 ms1 H1 l1 R1 x d1 => ?_⟩
  obtain ⟨i, e2, S2⟩ := S1.stepL
  have hi : r.pv = .int i := by
    unfold asInt at e2
    split at e2
    · cases e2
      assumption
    · cases e2
  rw [hi] at d1
  exact ⟨i, by simpa only [Den] using d1, S2 Z1 ms1 H1 l1 R1 _ (by simp only [ResOk, Den])⟩
theorem e_nt {c : Call} {a : ME} {x : Expr} (ha : PE X x (tE X.K F (ev c a))) : PE X (.UnaryOp .Not x pos) (tE X.K F (ev c (.nt a))) := by
  refine PE.imp (L2.pe_notT (PE.v ha)) fun σ H Q ⟨Z, ms, g, R, S⟩ => ?_
  simp only [ev_nt] at S
  obtain ⟨r, g1, e1, S1⟩ := S.step
  refine ⟨Z, ms, g, R, Sat.mk e1 fun Z1 ms1 H1 l1 R1 x d1 => ?_⟩
  obtain ⟨b, e2, S2⟩ := S1.stepL
  exact ⟨b, tru_V (.inl d1) e2, S2 Z1 ms1 H1 l1 R1 _ (by simp only [ResOk, Den])⟩
theorem e_an {c : Call} {a b : ME} {x y : Expr} {rest : List Expr} (ha : PE X x (tE X.K F (ev c a))) (hb : PE X (.BoolOp .And (y :: rest) pos) (tE X.K F (ev c b))) : PE X (.BoolOp .And (x :: y :: rest) pos) (tE X.K F (ev c (.an a b))) := by
  refine PE.imp (L2.pe_andT (PE.v ha) (PE.v hb)) fun σ H Q ⟨Z, ms, g, R, S⟩ => ?_
  simp only [ev_an] at S
  obtain ⟨r, g1, e1, S1⟩ := S.step
  refine ⟨Z, ms, g, R, Sat.mk e1 fun Z1 ms1 H1 l1 R1 x d1 => ?_⟩
  obtain ⟨t, e2, S2⟩ := S1.stepL
  refine ⟨t, tru_V (.inl d1) e2, ?_⟩
  cases t with
  | true =>
    rw [if_pos rfl] at S2 ⊢
    obtain ⟨r2, g2, e3, S3⟩ := (S2.le l1).step
    exact ⟨Z1, ms1, g1, R1, Sat.mk e3 fun Z2 ms2 H2 l2 R2 y d2 => S3 Z2 ms2 H2 l2 R2 y d2⟩
  | false =>
    rw [if_neg Bool.false_ne_true] at S2 ⊢
    exact S2 Z1 ms1 H1 l1 R1 x d1
theorem e_or {c : Call} {a b : ME} {x y : Expr} {rest : List Expr} (ha : PE X x (tE X.K F (ev c a))) (hb : PE X (.BoolOp .Or (y :: rest) pos) (tE X.K F (ev c b))) : PE X (.BoolOp .Or (x :: y :: rest) pos) (tE X.K F (ev c (.orr a b))) := by
  refine PE.imp (L2.pe_orT (PE.v ha) (PE.v hb)) fun σ H Q ⟨Z, ms, g, R, S⟩ => ?_
  simp only [ev_orr] at S
  obtain ⟨r, g1, e1, S1⟩ := S.step
  refine ⟨Z, ms, g, R, Sat.mk e1 fun Z1 ms1 H1 l1 R1 x d1 => ?_⟩
  obtain ⟨t, e2, S2⟩ := S1.stepL
  refine ⟨t, tru_V (.inl d1) e2, ?_⟩
  cases t with
  | true =>
    rw [if_pos rfl] at S2 ⊢
    exact S2 Z1 ms1 H1 l1 R1 x d1
  | false =>
    rw [if_neg Bool.false_ne_true] at S2 ⊢
    obtain ⟨r2, g2, e3, S3⟩ := (S2.le l1).step
    exact ⟨Z1, ms1, g1, R1, Sat.mk e3 fun Z2 ms2 H2 l2 R2 y d2 => S3 Z2 ms2 H2 l2 R2 y d2⟩
theorem e_ite {c : Call} {t a b : ME} {z x y : Expr} (ht : PT X z (tT X.K F (tst c t))) (ha : PE X x (tE X.K F (ev c a))) (hb : PE X y (tE X.K F (ev c b))) : PE X (.IfExp z x y pos) (tE X.K F (ev c (.ite t a b))) := by
  refine PE.imp (L2.pe_ifExp ht ha hb) fun σ H Q ⟨Z, ms, g, R, S⟩ => ?_
  simp only [ev_ite] at S
  obtain ⟨k, g1, e1, S1⟩ := S.step
  refine ⟨Z, ms, g, R, Sat.mk e1 fun Z1 ms1 H1 l1 R1 => ?_⟩
  replace S1 := S1.le l1
  show if k = true then _ else _
  cases k with
  | true =>
    rw [if_pos rfl] at S1 ⊢
    exact ⟨Z1, ms1, g1, R1, S1⟩
  | false =>
    rw [if_neg Bool.false_ne_true] at S1 ⊢
    exact ⟨Z1, ms1, g1, R1, S1⟩

/-! ### tests -/
theorem t_val {c : Call} {m : ME} {e : Expr} (h : PE X e (tE X.K F (ev c m))) (he : ∀ whole, isTrue e X.env whole = (do let v ← whole; standAt e.pos; holding [v] (truthy v))) : PT X e (tT X.K F fun g => (ev c m g).bind fun r g1 => lift (truV r.pv) g1) := by
  refine PT.imp (L2.pt_truthR (PE.v h) tru_ev he) fun σ H Q ⟨Z, ms, g, R, S⟩ => ?_
  obtain ⟨r, g1, e1, S1⟩ := S.step
  refine ⟨Z, ms, g, R, Sat.mk e1 fun Z1 ms1 H1 l1 R1 x d1 => ?_⟩
  obtain ⟨b, e2, S2⟩ := S1.lift
  exact ⟨Z1, ms1, r.pv, b, .inl d1, e2, S2 Z1 ms1 H1 l1 R1⟩
theorem t_cmp {c : Call} {o : CO} {a b : ME} {x y : Expr} (hu : X.A.units + 64 < cLine) (ha : PE X x (tO X.K F (opd c a))) (hb : PE X y (tO X.K F (opd c b))) (hm : behindInMarks (cop o) y = false) : PT X (.Compare x [cop o] [y] pos) (tT X.K F fun g => (ev c (.cmp o a b) g).bind fun r g1 => lift (truV r.pv) g1) := by
  refine PT.imp (L2.pt_cmpR (op_cmp hu o) ha hb hm) fun σ H Q ⟨Z, ms, g, R, S⟩ => ?_
  have h : tE X.K F (ev c (.cmp o a b)) σ H (fun x H1 => ∃ k, x = .bl k ∧ Q k H1) := by
    obtain ⟨r, g1, e1, S1⟩ := S.step
    refine ⟨Z, ms, g, R, Sat.mk e1 fun Z1 ms1 H1 l1 R1 x d1 => ?_⟩
    obtain ⟨t, e2, S2⟩ := S1.lift
    have hr : r = .val (.bl t) := by
      have e1' := e1
      simp only [ev_cmp] at e1'
      revert e1'
      cases opd c a g with
      | bad => intro q; cases q
      | ok x1 g1' =>
        simp only [Ev.R.bind_ok]
        cases opd c b g1' with
        | bad => intro q; cases q
        | ok y1 g2' =>
          simp only [Ev.R.bind_ok]
          cases look x1 g2' with
          | bad => intro q; cases q
          | ok xv g3' =>
            simp only [Ev.R.bind_ok]
            cases look y1 g3' with
            | bad => intro q; cases q
            | ok yv g4' =>
              simp only [Ev.R.bind_ok]
              cases cmpV o xv yv with
              | none => intro q; cases q
              | some k =>
                intro q
                cases q
                cases e2
                rfl
    subst hr
    exact ⟨t, by simpa only [ResOk, Den] using d1, S2 Z1 ms1 H1 l1 R1⟩
  exact cmp_sat h
theorem t_nt {f : M Bool} {x : Expr} (h : PT X x (tT X.K F f)) : PT X (.UnaryOp .Not x pos) (tT X.K F fun g => (f g).bind fun b g1 => .ok (!b) g1) := by
  refine PT.imp (L2.pt_not h) fun σ H Q ⟨Z, ms, g, R, S⟩ => ?_
  obtain ⟨r, g1, e1, S1⟩ := S.step
  exact ⟨Z, ms, g, R, Sat.mk e1 fun Z1 ms1 H1 l1 R1 => S1 Z1 ms1 H1 l1 R1⟩
theorem w_an {f1 f2 : M Bool} {x y : Expr} {rest : List Expr} (h : PT X x (tT X.K F f1)) (h2 : PW X (.BoolOp .And (y :: rest) pos) (tT X.K F f2)) : PW X (.BoolOp .And (x :: y :: rest) pos) (tT X.K F fun g => (f1 g).bind fun t g1 => if t = true then f2 g1 else .ok false g1) := by
  refine PW.imp (L2.pw_and h h2) fun σ H Q ⟨Z, ms, g, R, S⟩ => ?_
  obtain ⟨r, g1, e1, S1⟩ := S.step
  refine ⟨Z, ms, g, R, Sat.mk e1 fun Z1 ms1 H1 l1 R1 => ?_⟩
  cases r with
  | true =>
    rw [if_pos rfl] at S1 ⊢
    exact ⟨Z1, ms1, g1, R1, S1.le l1⟩
  | false =>
    rw [if_neg Bool.false_ne_true] at S1 ⊢
    exact S1 Z1 ms1 H1 l1 R1
theorem w_or {f1 f2 : M Bool} {x y : Expr} {rest : List Expr} (h : PT X x (tT X.K F f1)) (h2 : PW X (.BoolOp .Or (y :: rest) pos) (tT X.K F f2)) : PW X (.BoolOp .Or (x :: y :: rest) pos) (tT X.K F fun g => (f1 g).bind fun t g1 => if t = true then .ok true g1 else f2 g1) := by
  refine PW.imp (L2.pw_or h h2) fun σ H Q ⟨Z, ms, g, R, S⟩ => ?_
  obtain ⟨r, g1, e1, S1⟩ := S.step
  refine ⟨Z, ms, g, R, Sat.mk e1 fun Z1 ms1 H1 l1 R1 => ?_⟩
  cases r with
  | true =>
    rw [if_pos rfl] at S1 ⊢
    exact S1 Z1 ms1 H1 l1 R1
  | false =>
    rw [if_neg Bool.false_ne_true] at S1 ⊢
    exact ⟨Z1, ms1, g1, R1, S1.le l1⟩
theorem t_ite {f0 f1 f2 : M Bool} {z x y : Expr} (h0 : PT X z (tT X.K F f0)) (h1 : PT X x (tT X.K F f1)) (h2 : PT X y (tT X.K F f2)) : PT X (.IfExp z x y pos) (tT X.K F fun g => (f0 g).bind fun t g1 => if t = true then f1 g1 else f2 g1) := by
  refine ⟨fun pins s σ H Q I ⟨Z, ms, g, R, S⟩ => ?_⟩
  obtain ⟨r, g1, e1, S1⟩ := S.step
  unfold PySem.isTrue
  refine wpAny_bind (L2.thn (h0.run pins s σ H (fun b H1 => if b = true then tT X.K F f1 σ H1 Q else tT X.K F f2 σ H1 Q) I ⟨Z, ms, g, R, Sat.mk e1 fun Z1 ms1 H1 l1 R1 => ?_⟩) fun b s1 ⟨H1, I1, q1⟩ => ?_)
  · cases r with
    | true =>
      rw [if_pos rfl] at S1 ⊢
      exact ⟨Z1, ms1, g1, R1, S1.le l1⟩
    | false =>
      rw [if_neg Bool.false_ne_true] at S1 ⊢
      exact ⟨Z1, ms1, g1, R1, S1.le l1⟩
  · cases b with
    | true =>
      rw [if_pos rfl] at q1 ⊢
      exact h1.run pins s1 σ H1 Q I1 q1
    | false =>
      rw [if_neg Bool.false_ne_true] at q1 ⊢
      exact h2.run pins s1 σ H1 Q I1 q1
end
end Ev
/-! # Ev, part 6: subscripts, slices, calls of built-ins, methods, f-strings, dicts. -/
namespace Ev
open PySem PySem.Spec
open L2 (V Hp HO upd SqL SqT Rd Cx Inv PE PT PW PA PS PSs PG PGs PI PK VK TE TT TA TS TG TGs TI Ends RelV Vals It Dp DpAll OpR UnR CallR TruR IxR SlR MtR EP TP AP SP)
section
variable {X : Cx} {F : Fm} {pos : Pos}

/-! ### dict cells -/
theorem getK_V {K : PySem.W.Frag} {Z : Addr → Prop} {ms : List Addr} {H : Hp} {k : Key} : ∀ {kvs : List (Key × PV)} {ws : List (Key × V)} {v : PV}, DenKV K Z ms H kvs ws → getK kvs k = some v → ∃ x, L2.valV ws k = some x ∧ Den K Z ms H v x
  | [], _, _, _, e => by simp [getK] at e
  | (j, y) :: r, ws, v, d, e => by
    simp only [DenKV] at d
    obtain ⟨x, s, rfl, h1, h2⟩ := d
    by_cases hj : j = k
    · have e1 : getK ((j, y) :: r) k = some y := by simp [getK, hj]
      rw [e1] at e
      cases e
      exact ⟨x, L2.valV_pos hj, h1⟩
    · have e1 : getK ((j, y) :: r) k = getK r k := by simp [getK, hj]
      rw [e1] at e
      obtain ⟨z, e2, d2⟩ := getK_V h2 e
      exact ⟨z, (L2.valV_neg (p := (j, x)) hj).trans e2, d2⟩
theorem anyK_V {K : PySem.W.Frag} {Z : Addr → Prop} {ms : List Addr} {H : Hp} {k : Key} : ∀ {kvs : List (Key × PV)} {ws : List (Key × V)}, DenKV K Z ms H kvs ws → (ws.any fun kv => decide (kv.1 = k)) = kvs.any fun kv => decide (kv.1 = k)
  | [], _, d => by
    simp only [DenKV] at d
    subst d
    rfl
  | (j, y) :: r, ws, d => by
    simp only [DenKV] at d
    obtain ⟨x, s, rfl, h1, h2⟩ := d
    simp only [List.any_cons, anyK_V h2]
theorem mapK_V {K : PySem.W.Frag} {Z : Addr → Prop} {ms : List Addr} {H : Hp} {k : Key} {v : PV} {x : V} (dv : Den K Z ms H v x) : ∀ {kvs : List (Key × PV)} {ws : List (Key × V)}, DenKV K Z ms H kvs ws →
    DenKV K Z ms H (kvs.map fun kv => if kv.1 = k then (kv.1, v) else kv) (ws.map fun kv => if kv.1 = k then (kv.1, x) else kv)
  | [], _, d => by
    simp only [DenKV] at d
    subst d
    simp [DenKV]
  | (j, y) :: r, ws, d => by
    simp only [DenKV] at d
    obtain ⟨z, s, rfl, h1, h2⟩ := d
    by_cases hj : j = k
    · simp only [List.map_cons, if_pos hj, DenKV]
      exact ⟨x, _, rfl, dv, mapK_V dv h2⟩
    · simp only [List.map_cons, if_neg hj, DenKV]
      exact ⟨z, _, rfl, h1, mapK_V dv h2⟩
theorem appK_V {K : PySem.W.Frag} {Z : Addr → Prop} {ms : List Addr} {H : Hp} {k : Key} {v : PV} {x : V} (dv : Den K Z ms H v x) : ∀ {kvs : List (Key × PV)} {ws : List (Key × V)}, DenKV K Z ms H kvs ws → DenKV K Z ms H (kvs ++ [(k, v)]) (ws ++ [(k, x)])
  | [], _, d => by
    simp only [DenKV] at d
    subst d
    simp only [List.nil_append, DenKV]
    exact ⟨x, [], rfl, dv, rfl⟩
  | (j, y) :: r, ws, d => by
    simp only [DenKV] at d
    obtain ⟨z, s, rfl, h1, h2⟩ := d
    simp only [List.cons_append, DenKV]
    exact ⟨z, _, rfl, h1, appK_V dv h2⟩
theorem putK_V {K : PySem.W.Frag} {Z : Addr → Prop} {ms : List Addr} {H : Hp} {k : Key} {v : PV} {x : V} {kvs : List (Key × PV)} {ws : List (Key × V)} (dv : Den K Z ms H v x) (d : DenKV K Z ms H kvs ws) : DenKV K Z ms H (putK kvs k v) (L2.putK ws k x) := by
  unfold putK L2.putK
  rw [anyK_V d]
  split
  · exact mapK_V dv d
  · exact appK_V dv d
theorem DenKV.length {K : PySem.W.Frag} {Z : Addr → Prop} {ms : List Addr} {H : Hp} : ∀ {kvs : List (Key × PV)} {ws : List (Key × V)}, DenKV K Z ms H kvs ws → ws.length = kvs.length
  | [], _, d => by
    simp only [DenKV] at d
    subst d
    rfl
  | (j, y) :: r, ws, d => by
    simp only [DenKV] at d
    obtain ⟨x, s, rfl, h1, h2⟩ := d
    simp [DenKV.length h2]
theorem keyOf_V {K : PySem.W.Frag} {Z : Addr → Prop} {ms : List Addr} {H : Hp} {y : PV} {x : V} {k : Key} (d : DenW K Z ms H y x) (e : keyOf y = some k) : x = L2.kV k := by
  unfold keyOf at e
  split at e
  · cases e
    exact d.int
  · cases e
    exact d.str
  · cases e

/-! ### o[i] -/
theorem e_idx {c : Call} {a b : ME} {x y : Expr} (hu : X.A.units + 64 < cLine) (ha : PE X x (tO X.K F (opd c a))) (hb : PE X y (tO X.K F (opd c b))) (hs : ∀ lo hi st p, y ≠ .Slice lo hi st p) : PE X (.Subscript x y pos) (tE X.K F (ev c (.idx a b))) := by
  have pl : L2.PlainIx y := fun o i => by
    unfold subscripted
    cases y <;> first | rfl | exact absurd rfl (hs _ _ _ _)
  have ns : L2.NoSl y := fun o i => pl o i
  refine ⟨fun pins s σ H Q I ⟨Z, ms, g, R, S⟩ => ?_⟩
  simp only [ev_idx] at S
  -- which of the two rules: told by the evaluator ahead
  obtain ⟨o1, g1, e1, S1⟩ := id S.step
  obtain ⟨o2, g2, e2, S2⟩ := id S1.step
  obtain ⟨xv, g3, e3, S3⟩ := id S2.step
  by_cases hr : ∃ n, xv = .ref n
  · obtain ⟨n, rfl⟩ := hr
    refine (L2.pe_dget (by omega) ha hb ns).run pins s σ H Q I ?_
    refine ⟨Z, ms, g, R, Sat.mk e1 fun Z1 ms1 H1 l1 R1 x d1 => ⟨Z1, ms1, g1, R1, Sat.mk e2 fun Z2 ms2 H2 l2 R2 y d2 => ?_⟩⟩
    obtain ⟨rfl, w1⟩ := look_ok R2 (d1.mono l2) e3
    obtain ⟨yv, g4, e4, S4⟩ := S3.step
    obtain ⟨rfl, w2⟩ := look_ok R2 d2 e4
    obtain ⟨z, g5, e5, S5⟩ := S4.step
    obtain ⟨p, rfl, hp⟩ := w1.ref
    unfold idxG at e5
    simp only at e5
    split at e5
    · rename_i kvs hc
      split at e5
      · rename_i v hv
        cases e5
        obtain ⟨k, hk, hg⟩ := Option.bind_eq_some_iff.mp hv
        obtain ⟨ws, h1, h2⟩ := R2.cl n _ p hc hp
        obtain ⟨q, h3, h4⟩ := getK_V h2 hg
        refine ⟨p, q, rfl, ?_, S5 Z2 ms2 H2 (l1.trans l2) R2 q h4⟩
        rw [keyOf_V w2 hk, ← h3]
        exact L2.DGet.k h1
      · cases e5
    · cases e5
  · refine (L2.pe_ix ix_ev ha hb pl).run pins s σ H Q I ?_
    refine ⟨Z, ms, g, R, Sat.mk e1 fun Z1 ms1 H1 l1 R1 x d1 => ⟨Z1, ms1, g1, R1, Sat.mk e2 fun Z2 ms2 H2 l2 R2 y d2 => ?_⟩⟩
    obtain ⟨rfl, w1⟩ := look_ok R2 (d1.mono l2) e3
    obtain ⟨yv, g4, e4, S4⟩ := S3.step
    obtain ⟨rfl, w2⟩ := look_ok R2 d2 e4
    have S5 : Sat X.K F σ Z ms H ((lift (idxV xv yv) g4).bind fun z g5 => .ok (.val z) g5) fun r Z' ms' g' H' => ∀ x, ResOk X.K F Z' ms' g' σ H' r x → Q x H' := by
      have e6 : idxG xv yv g4 = lift (idxV xv yv) g4 := by
        unfold idxG
        split
        · exact absurd ⟨_, rfl⟩ hr
        · rfl
      rw [← e6]
      exact S4
    obtain ⟨z, e5, S6⟩ := S5.stepL
    exact ⟨Z2, ms2, xv, yv, z, w1, w2, e5, fun q dq => S6 Z2 ms2 H2 (l1.trans l2) R2 q dq⟩

/-! ### slices -/
theorem i_no {c : Call} : L2.PO X none (tI X.K F (evo c .no)) := PO.imp L2.po_none fun σ H Q ⟨Z, ms, g, R, S⟩ => Sat.here R S
theorem asInt_some {v : PV} {i : Int} (e : asInt v = some i) : v = .int i := by
  unfold asInt at e
  split at e
  · cases e
    rfl
  · cases e
theorem i_so {c : Call} {m : ME} {e : Expr} (h : PE X e (tE X.K F (ev c m))) : L2.PO X (some e) (tI X.K F (evo c (.so m))) := by
  refine PO.imp (L2.po_some (PE.v h)) fun σ H Q ⟨Z, ms, g, R, S⟩ => ?_
  simp only [evo_so] at S
  obtain ⟨r, g1, e1, S1⟩ := S.step
  refine ⟨Z, ms, g, R, Sat.mk e1 fun Z1 ms1 H1 l1 R1 x d1 => ?_⟩
  obtain ⟨i, e2, S2⟩ := S1.stepL
  rw [asInt_some e2] at d1
  exact ⟨i, by simpa only [Den] using d1, S2 Z1 ms1 H1 l1 R1⟩
theorem e_slc {c : Call} {a : ME} {lo hi : MO} {x : Expr} {l h : Option Expr} {p2 : Pos} (ha : PE X x (tO X.K F (opd c a))) (hl : L2.PO X l (tI X.K F (evo c lo))) (hh : L2.PO X h (tI X.K F (evo c hi))) : PE X (.Subscript x (.Slice l h none p2) pos) (tE X.K F (ev c (.slc a lo hi))) := by
  refine ⟨fun pins s σ H Q I q => ?_⟩
  refine (PE.imp (L2.pe_slice (sl_ev (σ' := σ) (F := F)) ha hl hh) fun σ1 H1 Q1 (h : σ1 = σ ∧ tE X.K F (ev c (.slc a lo hi)) σ1 H1 Q1) => ?_).run pins s σ H Q I ⟨rfl, q⟩
  obtain ⟨rfl, Z, ms, g, R, S⟩ := h
  simp only [ev_slc] at S
  obtain ⟨o1, g1, e1, S1⟩ := S.step
  refine ⟨Z, ms, g, R, Sat.mk e1 fun Z1 ms1 H1 l1 R1 x d1 => ?_⟩
  obtain ⟨o2, g2, e2, S2⟩ := (S1.le l1).step
  refine ⟨Z1, ms1, g1, R1, Sat.mk e2 fun Z2 ms2 H2 l2 R2 => ?_⟩
  obtain ⟨o3, g3, e3, S3⟩ := (S2.le l2).step
  refine ⟨Z2, ms2, g2, R2, Sat.mk e3 fun Z3 ms3 H3 l3 R3 => ?_⟩
  obtain ⟨xv, g4, e4, S4⟩ := (S3.le l3).step
  obtain ⟨rfl, w1⟩ := look_ok R3 (d1.mono (l2.trans l3)) e4
  obtain ⟨r, e5, S5⟩ := S4.lift
  exact ⟨Z3, ms3, g4, xv, r, R3, w1, e5, After.of S5⟩
theorem e_rev {c : Call} {a : ME} {x : Expr} {k : Nat} {p1 p2 p3 : Pos} (ha : PE X x (tO X.K F (opd c a))) : PE X (.Subscript x (.Slice none none (some (.UnaryOp .USub (.Constant (.int 1) k p1) p2)) p3) pos) (tE X.K F (ev c (.rev a))) := by
  refine ⟨fun pins s σ H Q I ⟨Z, ms, g, R, S⟩ => ?_⟩
  simp only [ev_rev] at S
  obtain ⟨o1, g1, e1, S1⟩ := S.step
  obtain ⟨xv, g2, e2, S2⟩ := S1.step
  obtain ⟨r, e3, S3⟩ := S2.lift
  unfold revV at e3
  split at e3
  · cases e3
    refine (L2.pe_revL ha).run pins s σ H Q I ⟨Z, ms, g, R, Sat.mk e1 fun Z1 ms1 H1 l1 R1 x d1 => ?_⟩
    obtain ⟨rfl, w1⟩ := look_ok R1 d1 e2
    obtain ⟨b, vs, rfl, h1, h2⟩ := w1.lst
    exact ⟨b, vs, rfl, .inl (.inl h1), fun p hp => (After.of (S3.le l1)).newL R1 h2.reverse hp⟩
  · cases e3
    refine (pe_revT ha).run pins s σ H Q I ⟨Z, ms, g, R, Sat.mk e1 fun Z1 ms1 H1 l1 R1 x d1 => ?_⟩
    obtain ⟨rfl, w1⟩ := look_ok R1 d1 e2
    obtain ⟨b, vs, rfl, h1, h2⟩ := w1.tup
    exact ⟨b, vs, rfl, h1, fun p hp => (After.of (S3.le l1)).newT R1 h2.reverse hp⟩
  · cases e3

/-! ### built-ins -/
theorem bi_sat {c : Call} {f : BI} {es : MEs} {σ : L2.St} {H : Hp} {Q : VK} (h : tE X.K F (ev c (.bi f es)) σ H Q) : tOs X.K F (opds c es) σ H fun vs H1 => rBI X.K F σ f vs H1 Q := by
  obtain ⟨Z, ms, g, R, S⟩ := h
  simp only [ev_bi] at S
  obtain ⟨os, g1, e1, S1⟩ := S.step
  refine ⟨Z, ms, g, R, Sat.mk e1 fun Z1 ms1 H1 l1 R1 xs d1 => ?_⟩
  obtain ⟨vs, g2, e2, S2⟩ := (S1.le l1).step
  obtain ⟨rfl, w1⟩ := lookAll_ok R1 d1 e2
  obtain ⟨r, e3, S3⟩ := S2.lift
  exact ⟨Z1, ms1, g2, vs, r, R1, w1, e3, After.of S3⟩
theorem boot_bi (f : BI) : bootBuiltins f.name = some f.value := by cases f <;> decide +kernel
theorem e_bi {c : Call} {f : BI} {m : ME} {es : MEs} {e : Expr} {as : List Expr} {p : Pos} (hc : X.calm = true) (hgd : X.A.guards = some []) (hu : X.A.units + 200 < cLine) (hg : L2.Gl X f.name) (hm : X.mg f.name = none) (ha : PA X (e :: as) (tOs X.K F (opds c (.cons m es))))
    (he : starEach (e :: as) X.env = (false, eval e X.env) :: starEach as X.env) (hpl : (backTo pos (starEach as X.env)).any (·.1) = false) : PE X (.Call (.Name f.name p) (e :: as) [] pos) (tE X.K F (ev c (.bi f (.cons m es)))) := by
  refine ⟨fun pins s σ H Q I q => ?_⟩
  have hn : f.name ≠ ("__name__" : Str) := by cases f <;> decide +kernel
  have hd : (f.name == ("__debug__" : Str)) = false := by cases f <;> decide +kernel
  have hb := boot_bi f
  have hcall := call_bi (X := X) (F := F) (σ' := σ) hc hgd hu f
  have hq : L2.tCB (rBI X.K F σ f) (tOs X.K F (opds c (.cons m es))) σ H Q := bi_sat q
  have hB : ∀ id, f.value = .builtin id → wpAny (model X.prog X.w) X.A (eval (.Call (.Name f.name p) (e :: as) [] pos) X.env) (EP X pins σ Q) X.xe s := fun id h => by
    rw [h] at hcall hb
    exact (L2.pe_callB hcall hg hm hb ha hn hd he hpl).run pins s σ H Q I hq
  have hT : ∀ id, f.value = .type id → wpAny (model X.prog X.w) X.A (eval (.Call (.Name f.name p) (e :: as) [] pos) X.env) (EP X pins σ Q) X.xe s := fun id h => by
    rw [h] at hcall hb
    exact (L2.pe_callTy hcall hg hm hb ha hn hd he hpl).run pins s σ H Q I hq
  cases f with
  | len => exact hB _ rfl
  | int => exact hT _ rfl
  | str => exact hT _ rfl
  | repr => exact hB _ rfl
  | list => exact hT _ rfl
  | tuple => exact hT _ rfl
  | min2 => exact hB _ rfl
  | max2 => exact hB _ rfl

/-! ### s.join(xs) -/
theorem txts_V {K : PySem.W.Frag} {Z : Addr → Prop} {ms : List Addr} {H : Hp} : ∀ {ys : List PV} {vs : List V} {ts : List Str}, Dens K Z ms H ys vs → txts ys = some ts → vs = ts.map V.str
  | [], vs, ts, d, e => by
    simp only [Dens] at d
    simp only [txts] at e
    cases e
    exact d
  | y :: ys, vs, ts, d, e => by
    simp only [Dens] at d
    obtain ⟨v, r, rfl, h1, h2⟩ := d
    cases y with
    | str x =>
      simp only [txts] at e
      obtain ⟨us, e1, e2⟩ := Option.map_eq_some_iff.mp e
      subst e2
      simp only [Den] at h1
      subst h1
      rw [txts_V h2 e1]
      rfl
    | _ => simp [txts] at e
theorem e_join {c : Call} {o a : ME} {x y : Expr} {ap : Pos} (ho : PE X x (tE X.K F (ev c o))) (ha : PE X y (tO X.K F (opd c a))) (hs : starEach [y] X.env = [(false, eval y X.env)]) (hb : attributeBase x "join" X.env (eval x X.env) = eval x X.env) (hl : (ap.endLine == pos.line) = true) :
    PE X (.Call (.Attribute x "join" ap) [y] [] pos) (tE X.K F (ev c (.join o a))) := by
  refine PE.imp (L2.pe_join (PE.v ho) ha hs hb hl) fun σ H Q ⟨Z, ms, g, R, S⟩ => ?_
  simp only [ev_join] at S
  obtain ⟨r, g1, e1, S1⟩ := S.step
  obtain ⟨o2, g2, e2, S2⟩ := S1.step
  obtain ⟨yv, g3, e3, S3⟩ := S2.step
  obtain ⟨z, e4, S4⟩ := S3.stepL
  have hr : ∃ t, r.pv = .str t := by
    revert e4
    generalize r.pv = w
    intro e4
    unfold joinV at e4
    split at e4
    · exact ⟨_, rfl⟩
    · exact ⟨_, rfl⟩
    · cases e4
  obtain ⟨t, ht⟩ := hr
  rw [ht] at e4
  refine ⟨Z, ms, g, R, Sat.mk e1 fun Z1 ms1 H1 l1 R1 x d1 => ?_⟩
  rw [ht] at d1
  have hx : x = .str t := by simpa only [Den] using d1
  refine ⟨⟨t, hx⟩, Z1, ms1, g1, R1, Sat.mk e2 fun Z2 ms2 H2 l2 R2 y d2 => ?_⟩
  obtain ⟨rfl, w2⟩ := look_ok R2 d2 e3
  have core : ∀ ys, (yv = .lst ys ∨ yv = .tup ys) → ((txts ys).bind fun us => ck ((us.map (·.length)).sum + us.length * t.length ≤ 16777216) (PV.str (Txt.join t us))) = some z →
      ∃ a p, ∃ us : List Str, x = .str a ∧ [y] = [V.ref p] ∧ (SqL X.K H2 p (us.map V.str) ∨ SqT X.K H2 p (us.map V.str)) ∧ (us.map (·.length)).sum + us.length * a.length ≤ 16777216 ∧ Q (.str (Txt.join a us)) H2 := fun ys hy e5 => by
    obtain ⟨ts, h1, h2⟩ := Option.bind_eq_some_iff.mp e5
    obtain ⟨hz, rfl⟩ := ck_some h2
    obtain ⟨p, vs, rfl, h3, h4⟩ := w2.seq hy
    rw [txts_V h4 h1] at h3
    exact ⟨t, p, ts, hx, rfl, h3, hz, S4 Z2 ms2 H2 (l1.trans l2) R2 _ (by simp only [ResOk, Den])⟩
  unfold joinV at e4
  split at e4
  · rename_i q
    cases q
    exact core _ (.inl rfl) e4
  · rename_i q
    cases q
    exact core _ (.inr rfl) e4
  · cases e4

/-! ### a name's own list grows -/
theorem Rel.grow {K : PySem.W.Frag} {F : Fm} {Z : Addr → Prop} {ms : List Addr} {g : G} {σ : L2.St} {H : Hp} {i : Nat} {xs ys : List PV} {ws : List V} (R : Rel K F Z ms g σ H) (e : g.sl[i]? = some (.own xs)) (d : Dens K Z ms H ys ws) :
    ∃ a vs, σ[i]? = some (some (.ref a)) ∧ H a = some (.lst vs) ∧ Dens K Z ms H xs vs ∧ Le Z ms H Z ms (upd H a (.lst (vs ++ ws))) ∧ Rel K F Z ms { g with sl := g.sl.set i (.own (xs ++ ys)) } σ (upd H a (.lst (vs ++ ws))) := by
  obtain ⟨a, vs, h1, h2, h3, h4, h5, h6⟩ := R.ow i xs e
  have hi : i < g.sl.length := (List.getElem?_eq_some_iff.mp e).1
  have neZ : ∀ b, Z b → b ≠ a := fun b z q => h4 (q ▸ z)
  have l : Le Z ms H Z ms (upd H a (.lst (vs ++ ws))) := by
    refine ⟨fun _ z => z, fun b us z q => by rw [L2.upd_ne (neZ b z)]; exact q, fun b us q => ?_, fun b o u q => ?_, [], by simp⟩
    · rw [L2.upd_ne]
      · exact q
      · rintro rfl
        rw [h2] at q
        cases q
    · rw [L2.upd_ne]
      · exact q
      · rintro rfl
        rw [h2] at q
        cases q
  refine ⟨a, vs, h1, h2, h3, l, ⟨by simpa using R.len, fun j v q => ?_, fun j us q => ?_, fun j k us zs b q1 q2 q3 q4 => ?_, R.cn, fun n c b e1 e2 => ?_, R.nd, R.mz, R.zf, R.zz, fun b z => ?_, fun b o q => ?_⟩⟩
  · by_cases hj : i = j
    · subst hj
      rw [List.getElem?_set_self hi] at q
      cases q
    · rw [List.getElem?_set_ne hj] at q
      obtain ⟨x, e1, e2⟩ := R.vl j v q
      exact ⟨x, e1, Den.mono l _ _ e2⟩
  · by_cases hj : i = j
    · subst hj
      rw [List.getElem?_set_self hi] at q
      cases q
      exact ⟨a, _, h1, L2.upd_same, (Dens.mono l _ _ h3).append (Dens.mono l _ _ d), h4, h5, h6⟩
    · rw [List.getElem?_set_ne hj] at q
      obtain ⟨b, us', e1, e2, e3, e4⟩ := R.ow j us q
      refine ⟨b, us', e1, ?_, Dens.mono l _ _ e3, e4⟩
      rw [L2.upd_ne]
      · exact e2
      · rintro rfl
        exact hj (R.un i j xs us b e q h1 e1)
  · have key : ∀ (j : Nat) (us : List PV), (g.sl.set i (Slot.own (xs ++ ys)))[j]? = some (Slot.own us) → ∃ us', g.sl[j]? = some (Slot.own us') := fun j us q => by
      by_cases hj : i = j
      · subst hj
        exact ⟨_, e⟩
      · rw [List.getElem?_set_ne hj] at q
        exact ⟨_, q⟩
    obtain ⟨_, k1⟩ := key j us q1
    obtain ⟨_, k2⟩ := key k zs q2
    exact R.un j k _ _ b k1 k2 q3 q4
  · refine (R.cl n c b e1 e2).mono l (L2.upd_ne ?_)
    rintro rfl
    exact h5 (List.mem_of_getElem? e2)
  · obtain ⟨us, q⟩ := R.zs b z
    exact ⟨us, by rw [L2.upd_ne (neZ b z)]; exact q⟩
  · rw [L2.upd_ne]
    · exact R.fr b o q
    · rintro rfl
      rw [h6] at q
      cases q
theorem appV_ok {i : Nat} {more : List PV} {g g' : G} {r : Res} (e : appV i more g = .ok r g') : ∃ xs, g.sl[i]? = some (.own xs) ∧ xs.length + more.length ≤ sizeLine ∧ r = .val .non ∧ g' = { g with sl := g.sl.set i (.own (xs ++ more)) } := by
  unfold appV at e
  split at e
  · split at e
    · cases e
      exact ⟨_, by assumption, by assumption, rfl, rfl⟩
    · cases e
  · cases e
theorem ownAt_ok {i : Nat} {g g' : G} {u : Unit} (e : ownAt i g = .ok u g') : g' = g ∧ ∃ xs, g.sl[i]? = some (.own xs) := by
  unfold ownAt at e
  split at e
  · cases e
    exact ⟨rfl, _, by assumption⟩
  · cases e
theorem e_app {c : Call} {i : Nat} {a : ME} {x : Str} {y : Expr} {ap xp : Pos} (hx : PE X (.Name x xp) (L2.tVar i)) (ha : PE X y (tE X.K F (ev c a))) (hl : (ap.endLine == pos.line) = true) (hs : starEach [y] X.env = [(false, eval y X.env)]) :
    PE X (.Call (.Attribute (.Name x xp) "append" ap) [y] [] pos) (tE X.K F (ev c (.app i a))) := by
  have hA : PA X [y] (L2.tCons (tV X.K F (ev c a)) L2.tNil) := L2.pa_cons (PE.v ha) L2.pa_nil hs
  refine PE.imp (L2.pe_bm (cpos := pos) PySem.F.plainAttrs_list PySem.F.slot_list_append PySem.F.type_list_append L2.mt_append hx hA rfl (by rw [hs]; rfl) hl (by rw [hs]; rfl) rfl) fun σ H Q ⟨Z, ms, g, R, S⟩ => ?_
  simp only [ev_app] at S
  obtain ⟨_, g0, e0, S0⟩ := S.step
  clear S
  obtain ⟨rfl, xs0, h0⟩ := ownAt_ok e0
  obtain ⟨p, vs0, k1, k2, _⟩ := R.ow i xs0 h0
  obtain ⟨r, g1, e1, S1⟩ := S0.step
  refine ⟨.ref p, k1, .inl ⟨rfl, vs0, .inl (.inl k2)⟩, Z, ms, g0, R, Sat.mk e1 fun Z1 ms1 H1 l1 R1 x d1 => ?_⟩
  replace S1 := S1.le l1
  cases e2 : appV i [r.pv] g1 with
  | bad => rw [e2] at S1; exact S1.elim
  | ok r2 g2 =>
    rw [e2] at S1
    obtain ⟨xs, h1, h2, rfl, rfl⟩ := appV_ok e2
    obtain ⟨q, vs, j1, j2, j3, j4, j5⟩ := R1.grow h1 (ys := [r.pv]) (ws := [x]) (.cons d1 .nil)
    rw [k1] at j1
    cases j1
    have hlen := j3.length
    exact ⟨p, vs, x, rfl, rfl, j2, by simp at h2; omega, S1 Z1 ms1 _ j4 j5 _ (by simp only [ResOk, Den])⟩
theorem e_ext {c : Call} {i : Nat} {a : ME} {x : Str} {y : Expr} {ap xp : Pos} (hx : PE X (.Name x xp) (L2.tVar i)) (ha : PE X y (tE X.K F (ev c a))) (hl : (ap.endLine == pos.line) = true) (hs : starEach [y] X.env = [(false, eval y X.env)]) :
    PE X (.Call (.Attribute (.Name x xp) "extend" ap) [y] [] pos) (tE X.K F (ev c (.ext i a))) := by
  have hA : PA X [y] (L2.tCons (tV X.K F (ev c a)) L2.tNil) := L2.pa_cons (PE.v ha) L2.pa_nil hs
  refine PE.imp (L2.pe_bm (cpos := pos) PySem.F.plainAttrs_list PySem.F.slot_list_extend PySem.F.type_list_extend L2.mt_extend hx hA rfl (by rw [hs]; rfl) hl (by rw [hs]; rfl) rfl) fun σ H Q ⟨Z, ms, g, R, S⟩ => ?_
  simp only [ev_ext] at S
  obtain ⟨_, g0, e0, S0⟩ := S.step
  clear S
  obtain ⟨rfl, xs0, h0⟩ := ownAt_ok e0
  obtain ⟨p, vs0, k1, k2, _⟩ := R.ow i xs0 h0
  obtain ⟨r, g1, e1, S1⟩ := S0.step
  refine ⟨.ref p, k1, .inl ⟨rfl, vs0, .inl (.inl k2)⟩, Z, ms, g0, R, Sat.mk e1 fun Z1 ms1 H1 l1 R1 x d1 => ?_⟩
  replace S1 := S1.le l1
  have hr : ∃ ys, r.pv = .lst ys ∧ extV i r = appV i ys := by
    cases r with
    | new ys => exact ⟨ys, rfl, rfl⟩
    | val v =>
      cases v with
      | lst ys => exact ⟨ys, rfl, rfl⟩
      | _ => exact S1.elim
  obtain ⟨ys, hy, he⟩ := hr
  rw [he] at S1
  rw [hy] at d1
  simp only [Den] at d1
  obtain ⟨b, ws, rfl, _, hb, dy⟩ := d1
  cases e2 : appV i ys g1 with
  | bad => rw [e2] at S1; exact S1.elim
  | ok r2 g2 =>
    rw [e2] at S1
    obtain ⟨xs, h1, h2, rfl, rfl⟩ := appV_ok e2
    obtain ⟨q, vs, j1, j2, j3, j4, j5⟩ := R1.grow h1 dy
    rw [k1] at j1
    cases j1
    have hl1 := j3.length
    have hl2 := dy.length
    exact ⟨p, b, vs, ws, rfl, rfl, j2, hb, by omega, S1 Z1 ms1 _ j4 j5 _ (by simp only [ResOk, Den])⟩

/-! ### f-strings -/
/-- one part's reading -/
def tPart (K : PySem.W.Frag) (F : Fm) (f : M Res) : TE := fun σ H Q => ∃ Z ms g, Rel K F Z ms g σ H ∧ Sat K F σ Z ms H ((f g).bind fun r g1 => lift (fmtV r.pv) g1) fun x Z' ms' g' H' => Q (.str x) H'
def tParts (K : PySem.W.Frag) (F : Fm) (c : Call) : MEs → List TE
  | .nil => []
  | .cons e es => tPart K F (ev c e) :: tParts K F c es
theorem part_fmt {f : M Res} {e : Expr} (h : PE X e (tE X.K F f)) : PE X (.FormattedValue e (-1) none pos) (tPart X.K F f) := by
  refine PE.imp (L2.pe_fmt (PE.v h)) fun σ H Q ⟨Z, ms, g, R, S⟩ => ?_
  obtain ⟨r, g1, e1, S1⟩ := S.step
  refine ⟨Z, ms, g, R, Sat.mk e1 fun Z1 ms1 H1 l1 R1 x d1 => ?_⟩
  obtain ⟨t, e2, S2⟩ := S1.lift
  have q := S2 Z1 ms1 H1 l1 R1
  revert e2 d1
  generalize r.pv = w
  intro d1 e2
  unfold fmtV at e2
  split at e2
  · obtain ⟨hz, rfl⟩ := ck_some e2
    exact .inl ⟨_, by simpa only [Den] using d1, hz, q⟩
  · obtain ⟨hz, rfl⟩ := ck_some e2
    exact .inr ⟨_, by simpa only [Den] using d1, hz, q⟩
  · cases e2
theorem part_str {c : Call} {i : Str} {j : Nat} : PE X (.Constant (.str i) j pos) (tPart X.K F (ev c (.cst (.str i)))) := by
  refine PE.imp L2.pe_str fun σ H Q ⟨Z, ms, g, R, S⟩ => ?_
  simp only [ev_cst, Ev.R.bind_ok] at S
  obtain ⟨t, e2, S2⟩ := S.lift
  obtain ⟨hz, rfl⟩ := ck_some e2
  exact S2 Z ms H .refl R
theorem parts_ok {K : PySem.W.Frag} {c : Call} {σ : L2.St} {Q : Str → Hp → Prop} : ∀ (es : MEs) (acc : Str) (Z : Addr → Prop) (ms : List Addr) (g : G) (H : Hp), Rel K F Z ms g σ H → Sat K F σ Z ms H (evf c es acc g) (fun x Z' ms' g' H' => Q x H') → L2.tJs (tParts K F c es) acc σ H Q
  | .nil, acc, Z, ms, g, H, R, S => by
    rw [evf_nil] at S
    exact Sat.here R S
  | .cons e es, acc, Z, ms, g, H, R, S => by
    simp only [evf_cons] at S
    obtain ⟨r, g1, e1, S1⟩ := S.step
    obtain ⟨t, e2, S2⟩ := S1.stepL
    have e3 : ((ev c e g).bind fun r g1 => lift (fmtV r.pv) g1) = .ok t g1 := by rw [e1, Ev.R.bind_ok, e2, lift_some]
    refine ⟨Z, ms, g, R, Sat.mk e3 fun Z1 ms1 H1 l1 R1 => ?_⟩
    split at S2
    · rename_i hz
      exact ⟨t, rfl, hz, parts_ok es (acc ++ t) Z1 ms1 g1 H1 R1 (S2.le l1)⟩
    · exact S2.elim
theorem e_fs {c : Call} {es : MEs} {e1 e2 : Expr} {rest : List Expr} (h : L2.PJ X (e1 :: e2 :: rest) (tParts X.K F c es)) : PE X (.JoinedStr (e1 :: e2 :: rest) pos) (tE X.K F (ev c (.fs es))) := by
  refine PE.imp (L2.pe_joined h) fun σ H Q ⟨Z, ms, g, R, S⟩ => ?_
  simp only [ev_fs] at S
  obtain ⟨x, g1, e1, S1⟩ := S.step
  exact parts_ok es Str.empty Z ms g H R (Sat.mk e1 fun Z1 ms1 H1 l1 R1 => S1 Z1 ms1 H1 l1 R1 _ (by simp only [ResOk, Den]))
end
end Ev
/-! # Ev, part 7: dict displays, targets, what is walked, comprehensions. -/
namespace Ev
open PySem PySem.Spec
open L2 (V Hp HO upd SqL SqT Rd Cx Inv PE PT PW PA PS PSs PG PGs PI PK VK TE TT TA TS TG TGs TI Ends RelV Vals It Dp DpAll OpR UnR CallR TruR IxR SlR MtR EP TP AP SP)

/-! ### frames -/
/-- one object more is to stay -/
def Fm.with (F : Fm) (p : Addr) (o : HO) : Fm := ⟨upd F.F p o, F.Z0⟩
section
variable {K : PySem.W.Frag} {F : Fm} {Z : Addr → Prop} {ms : List Addr} {g : G} {σ : L2.St} {H : Hp} {p : Addr} {o : HO}
theorem Rel.pin (R : Rel K F Z ms g σ H) (h : H p = some o) (hz : ¬ Z p) (hm : p ∉ ms) (ho : ∀ (i : Nat) ys, g.sl[i]? = some (.own ys) → σ[i]? ≠ some (some (.ref p))) : Rel K (F.with p o) Z ms g σ H := by
  have ne : ∀ a, a ≠ p → (F.with p o).F a = F.F a := fun a q => L2.upd_ne q
  refine ⟨R.len, R.vl, fun i xs e => ?_, R.un, R.cn, R.cl, R.nd, fun a ha => ⟨(R.mz a ha).1, ?_⟩, fun a z => ?_, R.zz, R.zs, fun a u e => ?_⟩
  · obtain ⟨a, vs, e1, e2, e3, e4, e5, e6⟩ := R.ow i xs e
    refine ⟨a, vs, e1, e2, e3, e4, e5, ?_⟩
    rw [ne a fun q => ho i xs e (q ▸ e1)]
    exact e6
  · rw [ne a fun q => hm (q ▸ ha)]
    exact (R.mz a ha).2
  · rcases R.zf a z with q | q
    · exact .inl q
    · right
      rw [ne a fun e => hz (e ▸ z)]
      exact q
  · by_cases q : a = p
    · subst q
      have e' : upd F.F a o a = some u := e
      rw [L2.upd_same] at e'
      cases e'
      exact h
    · rw [ne a q] at e
      exact R.fr a u e
/-- .. a new one -/
theorem Rel.pinNew (R : Rel K F Z ms g σ H) (h : H p = none) : Rel K (F.with p o) Z ms g σ (upd H p o) := by
  refine (R.laid h).pin L2.upd_same (R.freeZ h) (R.freeM h) fun i ys e q => ?_
  obtain ⟨a, ws, e1, e2, _⟩ := R.ow i ys e
  rw [q] at e1
  cases e1
  rw [h] at e2
  cases e2
theorem Rel.pinned (R : Rel K (F.with p o) Z ms g σ H) : H p = some o := R.fr p o L2.upd_same
theorem Rel.unpin (R : Rel K (F.with p o) Z ms g σ H) (hf : F.F p = none) : Rel K F Z ms g σ H := by
  have ne : ∀ a, (F.with p o).F a = none → F.F a = none := fun a q => by
    by_cases e : a = p
    · subst e
      exact hf
    · exact (L2.upd_ne (H := F.F) (o := o) e).symm.trans q
  refine ⟨R.len, R.vl, fun i xs e => ?_, R.un, R.cn, R.cl, R.nd, fun a ha => ⟨(R.mz a ha).1, ne a (R.mz a ha).2⟩, fun a z => ?_, R.zz, R.zs, fun a u e => ?_⟩
  · obtain ⟨a, vs, e1, e2, e3, e4, e5, e6⟩ := R.ow i xs e
    exact ⟨a, vs, e1, e2, e3, e4, e5, ne a e6⟩
  · rcases R.zf a z with q | q
    · exact .inl q
    · exact .inr (ne a q)
  · refine R.fr a u ?_
    show upd F.F p o a = some u
    rw [L2.upd_ne]
    · exact e
    · rintro rfl
      rw [hf] at e
      cases e
theorem Rel.pinM (R : Rel K (F.with p o) Z ms g σ H) : p ∉ ms := fun h => by
  have q := (R.mz p h).2
  have e : upd F.F p o p = none := q
  rw [L2.upd_same] at e
  cases e
theorem Rel.pinZ (R : Rel K (F.with p o) Z ms g σ H) (h : ¬ F.Z0 p) : ¬ Z p := fun z => by
  rcases R.zf p z with q | q
  · exact h q
  · have e : upd F.F p o p = none := q
    rw [L2.upd_same] at e
    cases e
theorem Rel.pinO (R : Rel K (F.with p o) Z ms g σ H) (i : Nat) (ys : List PV) (e : g.sl[i]? = some (.own ys)) : σ[i]? ≠ some (some (.ref p)) := fun q => by
  obtain ⟨a, vs, e1, _, _, _, _, e6⟩ := R.ow i ys e
  rw [q] at e1
  cases e1
  have e : upd F.F p o p = none := e6
  rw [L2.upd_same] at e
  cases e
theorem Rel.noZ0 (R : Rel K F Z ms g σ H) (h : H p = none) : ¬ F.Z0 p := fun z => R.freeZ h (R.zz p z)
/-- the pinned object is written -/
theorem Rel.rewrite {xs ys : List V} (R : Rel K (F.with p (.lst xs)) Z ms g σ H) (hz : ¬ F.Z0 p) (hf : F.F p = none) : Le Z ms H Z ms (upd H p (.lst ys)) ∧ Rel K (F.with p (.lst ys)) Z ms g σ (upd H p (.lst ys)) := by
  have nz := R.pinZ hz
  have nm := R.pinM
  have hp := R.pinned
  have l : Le Z ms H Z ms (upd H p (.lst ys)) := by
    refine ⟨fun _ z => z, fun b us z q => by rw [L2.upd_ne fun e => nz (by rw [← e]; exact z)]; exact q, fun b us q => ?_, fun b o u q => ?_, [], by simp⟩
    · rw [L2.upd_ne]
      · exact q
      · rintro rfl
        rw [hp] at q
        cases q
    · rw [L2.upd_ne]
      · exact q
      · rintro rfl
        rw [hp] at q
        cases q
  have neF : ∀ a, (F.with p (.lst xs)).F a = none → (F.with p (.lst ys)).F a = none := fun a q => by
    have q' : upd F.F p (.lst xs) a = none := q
    show upd F.F p (.lst ys) a = none
    by_cases e : a = p
    · subst e
      rw [L2.upd_same] at q'
      cases q'
    · rw [L2.upd_ne e] at q' ⊢
      exact q'
  refine ⟨l, ⟨R.len, fun i v e => ?_, fun i us e => ?_, R.un, R.cn, fun n c a e1 e2 => ?_, R.nd, fun a ha => ⟨(R.mz a ha).1, neF a (R.mz a ha).2⟩, fun a z => (R.zf a z).imp id (neF a), R.zz, fun a z => ?_, fun a u e => ?_⟩⟩
  · obtain ⟨x, e1, e2⟩ := R.vl i v e
    exact ⟨x, e1, Den.mono l _ _ e2⟩
  · obtain ⟨a, vs, e1, e2, e3, e4, e5, e6⟩ := R.ow i us e
    have na : a ≠ p := fun q => R.pinO i us e (q ▸ e1)
    exact ⟨a, vs, e1, by rw [L2.upd_ne na]; exact e2, Dens.mono l _ _ e3, e4, e5, neF a e6⟩
  · refine (R.cl n c a e1 e2).mono l (L2.upd_ne ?_)
    rintro rfl
    exact nm (List.mem_of_getElem? e2)
  · obtain ⟨vs, e⟩ := R.zs a z
    exact ⟨vs, by rw [L2.upd_ne fun q => nz (by rw [← q]; exact z)]; exact e⟩
  · have e' : upd F.F p (.lst ys) a = some u := e
    by_cases q : a = p
    · subst q
      rw [L2.upd_same] at e' ⊢
      exact e'
    · rw [L2.upd_ne q] at e' ⊢
      refine R.fr a u ?_
      show upd F.F p (.lst xs) a = some u
      rw [L2.upd_ne q]
      exact e'
/-- the pinned object becomes a cell -/
theorem Rel.cellNew {ws ws' : List (Key × V)} {kvs : List (Key × PV)} (R : Rel K (F.with p (.dK ws)) Z ms g σ H) (hz : ¬ F.Z0 p) (hf : F.F p = none) (d : DenKV K Z ms H kvs ws') :
    Le Z ms H Z (ms ++ [p]) (upd H p (.dK ws')) ∧ Rel K F Z (ms ++ [p]) { g with hp := g.hp ++ [.dk kvs] } σ (upd H p (.dK ws')) := by
  have nz := R.pinZ hz
  have nm := R.pinM
  have hp := R.pinned
  have l : Le Z ms H Z (ms ++ [p]) (upd H p (.dK ws')) := by
    refine ⟨fun _ z => z, fun b us z q => by rw [L2.upd_ne fun e => nz (by rw [← e]; exact z)]; exact q, fun b us q => ?_, fun b o u q => ?_, [p], rfl⟩
    · rw [L2.upd_ne]
      · exact q
      · rintro rfl
        rw [hp] at q
        cases q
    · rw [L2.upd_ne]
      · exact q
      · rintro rfl
        rw [hp] at q
        cases q
  have R0 := R.unpin hf
  refine ⟨l, ⟨R.len, fun i v e => ?_, fun i us e => ?_, R.un, by simp [R.cn], fun n c a e1 e2 => ?_, ?_, fun a ha => ?_, R0.zf, R0.zz, fun a z => ?_, fun a u e => ?_⟩⟩
  · obtain ⟨x, e1, e2⟩ := R.vl i v e
    exact ⟨x, e1, Den.mono l _ _ e2⟩
  · obtain ⟨a, vs, e1, e2, e3, e4, e5, e6⟩ := R0.ow i us e
    have na : a ≠ p := fun q => R.pinO i us e (q ▸ e1)
    exact ⟨a, vs, e1, by rw [L2.upd_ne na]; exact e2, Dens.mono l _ _ e3, e4, by simp [e5, na], e6⟩
  · by_cases hn : n < g.hp.length
    · rw [List.getElem?_append_left hn] at e1
      rw [List.getElem?_append_left (by rw [R.cn]; exact hn)] at e2
      refine (R.cl n c a e1 e2).mono l (L2.upd_ne ?_)
      rintro rfl
      exact nm (List.mem_of_getElem? e2)
    · rw [List.getElem?_append_right (by omega)] at e1
      rw [List.getElem?_append_right (by rw [R.cn]; omega), R.cn] at e2
      have h0 : n - g.hp.length = 0 := by
        have := (List.getElem?_eq_some_iff.mp e1).1
        simp at this
        omega
      rw [h0] at e1 e2
      simp at e1 e2
      subst e1 e2
      exact ⟨ws', L2.upd_same, DenKV.mono l _ _ d⟩
  · rw [List.nodup_append]
    exact ⟨R.nd, by simp, fun a ha b hb => by
      simp at hb
      subst hb
      exact fun q => nm (q ▸ ha)⟩
  · rcases List.mem_append.mp ha with h | h
    · exact R0.mz a h
    · simp at h
      subst h
      exact ⟨nz, hf⟩
  · obtain ⟨vs, e⟩ := R.zs a z
    exact ⟨vs, by rw [L2.upd_ne fun q => nz (by rw [← q]; exact z)]; exact e⟩
  · rw [L2.upd_ne]
    · exact R0.fr a u e
    · rintro rfl
      rw [hf] at e
      cases e
end

/-! ### {k: v, ..} -/
/-- a reading at some frame -/
def tVx (K : PySem.W.Frag) (f : M Res) : TE := fun σ H Q => ∃ F, tV K F f σ H Q
def tEx (K : PySem.W.Frag) (f : M Res) : TE := fun σ H Q => ∃ F, tE K F f σ H Q
def tTx (K : PySem.W.Frag) (f : M Bool) : TT := fun σ H Q => ∃ F, tT K F f σ H Q
theorem PE.vx {X : Cx} {e : Expr} {f : M Res} (h : ∀ F, PE X e (tE X.K F f)) : PE X e (tVx X.K f) := ⟨fun pins s σ H Q I ⟨F, q⟩ => (PE.v (h F)).run pins s σ H Q I q⟩
theorem PE.ex {X : Cx} {e : Expr} {f : M Res} (h : ∀ F, PE X e (tE X.K F f)) : PE X e (tEx X.K f) := ⟨fun pins s σ H Q I ⟨F, q⟩ => (h F).run pins s σ H Q I q⟩
def dTrs (K : PySem.W.Frag) (c : Call) : List Str → MEs → List (TE × TE)
  | k :: ks, .cons v vs => (L2.tC (.str k), tVx K (ev c v)) :: dTrs K c ks vs
  | _, _ => []
theorem pairs_ok {K : PySem.W.Frag} {F : Fm} {c : Call} {σ : L2.St} : ∀ (ks : List Str) (vs : MEs) (Z : Addr → Prop) (ms : List Addr) (g g' : G) (H : Hp) (ws : List PV) (Q : List (V × V) → Hp → Prop), Rel K F Z ms g σ H → evs c vs g = .ok ws g' → ks.length = ws.length →
    (∀ Z' ms' H' xs, Le Z ms H Z' ms' H' → Rel K F Z' ms' g' σ H' → Dens K Z' ms' H' ws xs → Q ((ks.map V.str).zip xs) H') → L2.tPairs (dTrs K c ks vs) σ H Q
  | [], .nil, Z, ms, g, g', H, ws, Q, R, e, hl, k => by
    rw [evs_nil] at e
    cases e
    exact k Z ms H [] .refl R .nil
  | [], .cons v vs, Z, ms, g, g', H, ws, Q, R, e, hl, k => by
    simp only [evs_cons] at e
    cases h1 : ev c v g with
    | bad => rw [h1] at e; cases e
    | ok r g1 =>
      rw [h1, Ev.R.bind_ok] at e
      cases h2 : evs c vs g1 with
      | bad => rw [h2] at e; cases e
      | ok us g2 =>
        rw [h2, Ev.R.bind_ok] at e
        cases e
        simp at hl
  | k0 :: ks, .nil, Z, ms, g, g', H, ws, Q, R, e, hl, k => by
    rw [evs_nil] at e
    cases e
    simp at hl
  | k0 :: ks, .cons v vs, Z, ms, g, g', H, ws, Q, R, e, hl, k => by
    simp only [evs_cons] at e
    cases h1 : ev c v g with
    | bad => rw [h1] at e; cases e
    | ok r g1 =>
      rw [h1, Ev.R.bind_ok] at e
      cases h2 : evs c vs g1 with
      | bad => rw [h2] at e; cases e
      | ok us g2 =>
        rw [h2, Ev.R.bind_ok] at e
        cases e
        refine ⟨F, Z, ms, g, R, Sat.mk h1 fun Z1 ms1 H1 l1 R1 x d1 => ?_⟩
        refine pairs_ok ks vs Z1 ms1 g1 _ H1 us _ R1 h2 (by simpa using hl) fun Z2 ms2 H2 xs l2 R2 d2 => ?_
        exact k Z2 ms2 H2 (x :: xs) (l1.trans l2) R2 (.cons (Den.mono l2 _ _ d1) d2)
theorem dictGo_V {K : PySem.W.Frag} {Z : Addr → Prop} {ms : List Addr} {H : Hp} : ∀ (ks : List Str) (ws : List PV) (xs : List V) (acc : List (Key × PV)) (acc' : List (Key × V)), ks.length = ws.length → Dens K Z ms H ws xs → DenKV K Z ms H acc acc' →
    DenKV K Z ms H (dictGo ks ws acc) (L2.mergeK acc' ((ks.map fun k => (Sum.inr k : Key)).zip xs))
  | [], [], xs, acc, acc', _, d, a => by
    simp only [Dens] at d
    subst d
    exact a
  | [], _ :: _, _, _, _, h, _, _ => by simp at h
  | _ :: _, [], _, _, _, h, _, _ => by simp at h
  | k :: ks, w :: ws, xs, acc, acc', h, d, a => by
    simp only [Dens] at d
    obtain ⟨v, r, rfl, h1, h2⟩ := d
    exact dictGo_V ks ws r _ _ (by simpa using h) h2 (putK_V h1 a)
theorem zip_kV : ∀ (ks : List Str) (xs : List V), (ks.map V.str).zip xs = ((ks.map fun k => (Sum.inr k : Key)).zip xs).map fun kv => (L2.kV kv.1, kv.2)
  | [], xs => rfl
  | k :: ks, [] => rfl
  | k :: ks, x :: xs => by
    show (V.str k, x) :: (ks.map V.str).zip xs = _
    rw [zip_kV ks xs]
    rfl
theorem e_dct {X : Cx} {F : Fm} {pos : Pos} {c : Call} {ks : List Str} {vs : MEs} {keys : List (Option Expr)} {values : List Expr} (h : L2.PPs X pos keys values (dTrs X.K c ks vs)) (hall : keys.all (·.isSome) = true) (hl : keys.length = values.length) (h0 : keys ≠ [])
    (h15 : keys.length ≤ 15) : PE X (.Dict keys values pos) (tE X.K F (ev c (.dct ks vs))) := by
  refine PE.imp (L2.pe_disp h hall hl h0 h15) fun σ H Q ⟨Z, ms, g, R, S⟩ => ?_
  simp only [ev_dct] at S
  obtain ⟨ws, g1, e1, S1⟩ := S.step
  split at S1
  · rename_i hw
    intro p hp
    have nz0 := R.noZ0 hp
    have nf := R.freeF hp
    refine pairs_ok (F := F.with p (.dK [])) ks vs Z ms g g1 _ ws _ (R.pinNew hp) e1 hw.1 fun Z2 ms2 H2 xs l2 R2 d2 => ?_
    refine ⟨R2.pinned, (ks.map fun k => (Sum.inr k : Key)).zip xs, zip_kV ks xs, ?_, ?_⟩
    · rw [List.length_zip, List.length_map]
      omega
    · obtain ⟨l3, R3⟩ := R2.cellNew nz0 nf (dictGo_V ks ws xs [] [] hw.1 d2 (by simp [DenKV]))
      refine S1 Z2 _ _ ((Le.upd hp).trans (l2.trans l3)) R3 (.ref p) ?_
      simp only [ResOk, Den]
      refine ⟨p, rfl, ?_⟩
      rw [← R2.cn, List.getElem?_append_right (Nat.le_refl _)]
      simp
  · exact S1.elim

/-! ### targets -/
theorem Rel.set {K : PySem.W.Frag} {F : Fm} {Z : Addr → Prop} {ms : List Addr} {g : G} {σ : L2.St} {H : Hp} {i : Nat} {r : Res} {x : V} (R : Rel K F Z ms g σ H) (ok : ResOk K F Z ms g σ H r x) (hi : i < g.sl.length) :
    Rel K F Z ms { g with sl := g.sl.set i r.slot } (σ.set i (some x)) H := by
  have hσ : i < σ.length := by rw [R.len]; exact hi
  refine ⟨by simpa using R.len, fun j v e => ?_, fun j xs e => ?_, fun j k xs ys a e1 e2 e3 e4 => ?_, R.cn, R.cl, R.nd, R.mz, R.zf, R.zz, R.zs, R.fr⟩
  · by_cases hj : i = j
    · subst hj
      rw [List.getElem?_set_self hi] at e
      cases r with
      | val w =>
        cases e
        exact ⟨x, List.getElem?_set_self hσ, ok⟩
      | new xs => cases e
    · rw [List.getElem?_set_ne hj] at e ⊢
      exact R.vl j v e
  · by_cases hj : i = j
    · subst hj
      rw [List.getElem?_set_self hi] at e
      cases r with
      | val w => cases e
      | new ys =>
        cases e
        obtain ⟨a, vs, rfl, h1, h2, h3, h4, h5, _⟩ := ok
        exact ⟨a, vs, List.getElem?_set_self hσ, h1, h2, h3, h4, h5⟩
    · rw [List.getElem?_set_ne hj] at e ⊢
      exact R.ow j xs e
  · by_cases hj : i = j
    · subst hj
      rw [List.getElem?_set_self hi] at e1
      rw [List.getElem?_set_self hσ] at e3
      cases r with
      | val w => cases e1
      | new zs =>
        obtain ⟨b, vs, rfl, h1, h2, h3, h4, h5, h6⟩ := ok
        cases e3
        by_cases hk : i = k
        · exact hk
        · rw [List.getElem?_set_ne hk] at e2 e4
          exact absurd e4 (h6 k ys e2)
    · rw [List.getElem?_set_ne hj] at e1 e3
      by_cases hk : i = k
      · subst hk
        rw [List.getElem?_set_self hi] at e2
        rw [List.getElem?_set_self hσ] at e4
        cases r with
        | val w => cases e2
        | new zs =>
          obtain ⟨b, vs, rfl, h1, h2, h3, h4, h5, h6⟩ := ok
          cases e4
          exact absurd e3 (h6 j xs e1)
      · rw [List.getElem?_set_ne hk] at e2 e4
        exact R.un j k xs ys a e1 e2 e3 e4
theorem setVar_ok {i : Nat} {r : Res} {g g' : G} {u : Unit} (e : setVar i r g = .ok u g') : i < g.sl.length ∧ g' = { g with sl := g.sl.set i r.slot } := by
  unfold setVar at e
  split at e
  · cases e
    exact ⟨by assumption, rfl⟩
  · cases e
def gNms : List Nat → TGs
  | [] => L2.gNil
  | i :: is => L2.gCons (L2.gName i) (gNms is)
def gT (K : PySem.W.Frag) : MT → TG
  | .nm i => L2.gName i
  | .tp is => L2.gTup K is.length (gNms is)
theorem wipe_set {σ : L2.St} {i : Nat} {x : Option V} : ∀ {is : List Nat}, i ∈ is → L2.wipe (σ.set i x) is = L2.wipe σ is
  | [], h => by cases h
  | j :: is, h => by
    unfold L2.wipe
    by_cases hm : i ∈ is
    · rw [wipe_set hm]
    · have hj : i = j := by
        rcases List.mem_cons.mp h with e | e
        · exact e
        · exact absurd e hm
      subst hj
      have go : ∀ ks : List Nat, i ∉ ks → L2.wipe (σ.set i x) ks = (L2.wipe σ ks).set i x := by
        intro ks
        induction ks with
        | nil => intro _; rfl
        | cons k ks ih =>
          intro hk
          simp only [List.mem_cons, not_or] at hk
          unfold L2.wipe
          rw [ih hk.2, List.set_comm _ _ hk.1]
      rw [go is hm, List.set_set]
theorem setVars_ok {K : PySem.W.Frag} {F : Fm} {Z : Addr → Prop} {ms : List Addr} {H : Hp} {Q : L2.St → Hp → Prop} {all : List Nat} {σ0 : L2.St} : ∀ (is : List Nat) (vs : List PV) (xs : List V) (g g' : G) (σ : L2.St) (u : Unit), Rel K F Z ms g σ H → Dens K Z ms H vs xs → setVars is vs g = .ok u g' →
    (∀ i ∈ is, i ∈ all) → L2.wipe σ all = σ0 → (∀ σ', Rel K F Z ms g' σ' H → L2.wipe σ' all = σ0 → Q σ' H) → gNms is xs σ H Q
  | [], [], xs, g, g', σ, u, R, d, e, _, hw, k => by
    simp only [setVars] at e
    cases e
    simp only [Dens] at d
    exact ⟨d, k σ R hw⟩
  | [], _ :: _, _, _, _, _, _, _, _, e, _, _, _ => by simp only [setVars] at e; cases e
  | _ :: _, [], _, _, _, _, _, _, _, e, _, _, _ => by simp only [setVars] at e; cases e
  | i :: is, v :: vs, xs, g, g', σ, u, R, d, e, hm, hw, k => by
    simp only [setVars] at e
    simp only [Dens] at d
    obtain ⟨x, r, rfl, h1, h2⟩ := d
    cases q : setVar i (.val v) g with
    | bad => rw [q] at e; cases e
    | ok u1 g1 =>
      rw [q, Ev.R.bind_ok] at e
      obtain ⟨hi, rfl⟩ := setVar_ok q
      refine ⟨x, r, rfl, ?_⟩
      have R1 := R.set (r := .val v) h1 hi
      exact setVars_ok is vs r _ g' _ u R1 h2 e (fun j hj => hm j (List.mem_cons_of_mem _ hj)) (by rw [wipe_set (hm i List.mem_cons_self)]; exact hw) k
theorem bind_ok {K : PySem.W.Frag} {F : Fm} {Z : Addr → Prop} {ms : List Addr} {H : Hp} {Q : L2.St → Hp → Prop} {t : MT} {r : Res} {x : V} {g g' : G} {σ : L2.St} {u : Unit} (R : Rel K F Z ms g σ H) (ok : ResOk K F Z ms g σ H r x) (e : bindT t r g = .ok u g')
    (k : ∀ σ', Rel K F Z ms g' σ' H → L2.wipe σ' t.slots = L2.wipe σ t.slots → Q σ' H) : gT K t x σ H Q := by
  cases t with
  | nm i =>
    obtain ⟨hi, rfl⟩ := setVar_ok e
    exact k _ (R.set ok hi) (wipe_set (List.mem_singleton.mpr rfl))
  | tp is =>
    cases r with
    | new xs => cases e
    | val v =>
      cases v with
      | tup xs =>
        have e' : setVars is xs g = .ok u g' := e
        have ok' : Den K Z ms H (.tup xs) x := ok
        simp only [Den] at ok'
        obtain ⟨a, vs, rfl, h1, h2⟩ := ok'
        have hl : is.length = xs.length := by
          have go : ∀ (is : List Nat) (xs : List PV) (g g' : G) (u : Unit), setVars is xs g = .ok u g' → is.length = xs.length := by
            intro is
            induction is with
            | nil => intro xs g g' u e; cases xs with
              | nil => rfl
              | cons _ _ => simp only [setVars] at e; cases e
            | cons i is ih => intro xs g g' u e; cases xs with
              | nil => simp only [setVars] at e; cases e
              | cons y ys =>
                simp only [setVars] at e
                cases q : setVar i (.val y) g with
                | bad => rw [q] at e; cases e
                | ok u1 g1 =>
                  rw [q, Ev.R.bind_ok] at e
                  simp [ih _ _ _ _ e]
          exact go _ _ _ _ _ e'
        exact ⟨a, vs, rfl, h1, by rw [h2.length]; exact hl.symm, setVars_ok is xs vs g g' σ u R h2 e' (fun _ h => h) rfl k⟩
      | _ => cases e
end Ev
/-! # Ev, part 8: what is walked, comprehensions. -/
namespace Ev
open PySem PySem.Spec
open L2 (V Hp HO upd SqL SqT Rd Cx Inv PE PT PW PA PS PSs PG PGs PI PK VK TE TT TA TS TG TGs TI Ends RelV Vals It Dp DpAll OpR UnR CallR TruR IxR SlR MtR EP TP AP SP)

/-- J walks xs, in all heaps behind -/
def ItOk (K : PySem.W.Frag) (Z : Addr → Prop) (ms : List Addr) (H : Hp) (J : It) (xs : List PV) : Prop := ∀ Z' ms' H', Le Z ms H Z' ms' H' → ∀ i : Nat, (xs.length ≤ i → J.stop i H') ∧ ∀ y, xs[i]? = some y → J.go i H' ∧ ∀ x H'', J.yld i H' x H'' → H'' = H' ∧ Den K Z' ms' H' y x
def tIt (K : PySem.W.Frag) (F : Fm) (f : M (List PV)) : TI := fun σ H R => ∃ Z ms g, Rel K F Z ms g σ H ∧ Sat K F σ Z ms H (f g) fun xs Z' ms' g' H' => ∀ J, ItOk K Z' ms' H' J xs → R J H'
theorem itl_ok {K : PySem.W.Frag} {Z : Addr → Prop} {ms : List Addr} {H : Hp} {a : Addr} {xs : List PV} {vs : List V} (h : ∀ Z' ms' H', Le Z ms H Z' ms' H' → SqL K H' a vs) (d : Dens K Z ms H xs vs) : ItOk K Z ms H (L2.Itl K a) xs := by
  intro Z' ms' H' l i
  have h1 := h Z' ms' H' l
  have d' := Dens.mono l _ _ d
  refine ⟨fun hi => ⟨vs, h1, by rw [d.length]; exact hi⟩, fun y hy => ?_⟩
  obtain ⟨v, e1, e2⟩ := d'.get hy
  refine ⟨⟨vs, v, h1, e1⟩, fun x H'' q => ⟨q.1, ?_⟩⟩
  have q2 := q.2 vs h1
  rw [e1] at q2
  cases q2
  exact e2
theorem itt_ok {K : PySem.W.Frag} {Z : Addr → Prop} {ms : List Addr} {H : Hp} {a : Addr} {xs : List PV} {vs : List V} (h : ∀ Z' ms' H', Le Z ms H Z' ms' H' → SqT K H' a vs) (d : Dens K Z ms H xs vs) : ItOk K Z ms H (L2.Itt K a) xs := by
  intro Z' ms' H' l i
  have h1 := h Z' ms' H' l
  have d' := Dens.mono l _ _ d
  refine ⟨fun hi => ⟨vs, h1, by rw [d.length]; exact hi⟩, fun y hy => ?_⟩
  obtain ⟨v, e1, e2⟩ := d'.get hy
  refine ⟨⟨vs, v, h1, e1⟩, fun x H'' q => ⟨q.1, ?_⟩⟩
  have q2 := q.2 vs h1
  rw [e1] at q2
  cases q2
  exact e2
theorem itr_ok {K : PySem.W.Frag} {Z : Addr → Prop} {ms : List Addr} {H : Hp} {lo hi : Int} : ItOk K Z ms H (L2.Itr lo (hi - lo).toNat) (rgItems lo hi) := by
  intro Z' ms' H' l i
  have hl : (rgItems lo hi).length = (hi - lo).toNat := by simp [rgItems]
  refine ⟨fun h => by rw [hl] at h; exact h, fun y hy => ?_⟩
  have hi' : i < (hi - lo).toNat := by rw [← hl]; exact (List.getElem?_eq_some_iff.mp hy).1
  refine ⟨hi', fun x H'' q => ⟨q.1, ?_⟩⟩
  have e : (rgItems lo hi)[i]? = some (PV.int (lo + (i : Nat))) := by
    unfold rgItems
    rw [List.getElem?_map, List.getElem?_range hi']
    rfl
  rw [e] at hy
  cases hy
  simp only [Den]
  exact q.2

section
variable {X : Cx} {F : Fm} {tg : Expr}
theorem p_it {c : Call} {a : ME} {e : Expr} (h : PE X e (tE X.K F (ev c a))) : PI X tg e (tIt X.K F (evi c (.it a))) := by
  refine ⟨fun pins s σ H Rr I ⟨Z, ms, g, R, S⟩ => ?_⟩
  simp only [evi_it] at S
  obtain ⟨r, g1, e1, S1⟩ := S.step
  obtain ⟨xs, e2, S2⟩ := S1.lift
  unfold itemsOf at e2
  split at e2
  · rename_i hr
    cases e2
    refine (L2.pi_list (PE.v h)).run pins s σ H Rr I ⟨Z, ms, g, R, Sat.mk e1 fun Z1 ms1 H1 l1 R1 x d1 => ?_⟩
    rw [hr] at d1
    simp only [Den] at d1
    obtain ⟨b, vs, rfl, hz, hb, d⟩ := d1
    refine ⟨b, rfl, ⟨vs, .inl (.inl hb)⟩, S2 Z1 ms1 H1 l1 R1 _ (itl_ok (fun Z' ms' H' l => ?_) d)⟩
    exact .inl (.inl (l.zh b vs hz hb))
  · rename_i hr
    cases e2
    refine (L2.pi_tup (PE.v h)).run pins s σ H Rr I ⟨Z, ms, g, R, Sat.mk e1 fun Z1 ms1 H1 l1 R1 x d1 => ?_⟩
    rw [hr] at d1
    simp only [Den] at d1
    obtain ⟨b, vs, rfl, hb, d⟩ := d1
    exact ⟨b, rfl, ⟨vs, hb⟩, S2 Z1 ms1 H1 l1 R1 _ (itt_ok (fun Z' ms' H' l => l.sqT hb) d)⟩
  · rename_i ns hr
    cases e2
    refine (L2.pi_list (PE.v h)).run pins s σ H Rr I ⟨Z, ms, g, R, Sat.mk e1 fun Z1 ms1 H1 l1 R1 x d1 => ?_⟩
    rw [hr] at d1
    simp only [Den] at d1
    obtain ⟨b, rfl, hb⟩ := d1
    exact ⟨b, rfl, ⟨_, hb.sq⟩, S2 Z1 ms1 H1 l1 R1 _ (itl_ok (fun Z' ms' H' l => (l.fzL hb).sq) (Dens.ints ns))⟩
  · cases e2
theorem p_rg1 {c : Call} {a : ME} {e : Expr} {p pos : Pos} (hg : L2.Gl X "range") (hm : X.mg "range" = none) (h : PE X e (tE X.K F (ev c a))) (hs : starEach [e] X.env = [(false, eval e X.env)] := by rfl) : PI X tg (.Call (.Name "range" p) [e] [] pos) (tIt X.K F (evi c (.rg1 a))) := by
  refine ⟨fun pins s σ H Rr I ⟨Z, ms, g, R, S⟩ => ?_⟩
  simp only [evi_rg1] at S
  obtain ⟨r, g1, e1, S1⟩ := S.step
  obtain ⟨j, e2, S2⟩ := S1.stepL
  split at S2
  · rename_i hj
    refine (L2.pi_range1 hg hm (L2.pa_cons (PE.v h) L2.pa_nil hs) hs).run pins s σ H Rr I ⟨Z, ms, g, R, Sat.mk e1 fun Z1 ms1 H1 l1 R1 x d1 => ?_⟩
    rw [asInt_some e2] at d1
    simp only [Den] at d1
    subst d1
    refine ⟨j, rfl, hj.1, hj.2, S2 Z1 ms1 H1 l1 R1 _ ?_⟩
    have := itr_ok (K := X.K) (Z := Z1) (ms := ms1) (H := H1) (lo := 0) (hi := j)
    rw [Int.sub_zero] at this
    exact this
  · exact S2.elim
theorem p_rg2 {c : Call} {a b : ME} {e e' : Expr} {p pos : Pos} (hg : L2.Gl X "range") (hm : X.mg "range" = none) (h : PE X e (tE X.K F (ev c a))) (h' : PE X e' (tE X.K F (ev c b))) (hs : starEach [e, e'] X.env = [(false, eval e X.env), (false, eval e' X.env)] := by rfl)
    (hs2 : starEach [e'] X.env = [(false, eval e' X.env)] := by rfl) : PI X tg (.Call (.Name "range" p) [e, e'] [] pos) (tIt X.K F (evi c (.rg2 a b))) := by
  refine ⟨fun pins s σ H Rr I ⟨Z, ms, g, R, S⟩ => ?_⟩
  simp only [evi_rg2] at S
  obtain ⟨r, g1, e1, S1⟩ := S.step
  obtain ⟨r2, g2, e2, S2⟩ := S1.step
  obtain ⟨i, e3, S3⟩ := S2.stepL
  obtain ⟨j, e4, S4⟩ := S3.stepL
  split at S4
  · rename_i hj
    refine (L2.pi_range2 hg hm (L2.pa_cons (PE.v h) (L2.pa_cons (PE.v h') L2.pa_nil hs2) (by rw [hs, hs2])) hs hs2).run pins s σ H Rr I ⟨Z, ms, g, R, Sat.mk e1 fun Z1 ms1 H1 l1 R1 x d1 => ?_⟩
    refine ⟨Z1, ms1, g1, R1, Sat.mk e2 fun Z2 ms2 H2 l2 R2 y d2 => ?_⟩
    rw [asInt_some e3] at d1
    rw [asInt_some e4] at d2
    simp only [Den] at d1 d2
    subst d1 d2
    exact ⟨i, j, rfl, ⟨hj.1.1, hj.1.2, hj.2.1, hj.2.2⟩, S4 Z2 ms2 H2 (l1.trans l2) R2 _ itr_ok⟩
  · exact S4.elim
theorem s_no {c : Call} : L2.PTs X [] (tTx X.K (tsto c .no)) := ⟨fun pins s σ H Q I ⟨F, Z, ms, g, R, S⟩ => L2.pts_nil.run pins s σ H Q I (by
  simp only [tsto_no] at S
  exact Sat.here R S)⟩
theorem s_so {c : Call} {a : ME} {e : Expr} (h : ∀ F, PT X e (tT X.K F (tst c a))) : L2.PTs X [e] (tTx X.K (tsto c (.so a))) := L2.pts_one ⟨fun pins s σ H Q I ⟨F, q⟩ => (h F).run pins s σ H Q I q⟩
end

/-! ### slots wiped, put back -/
theorem wipe_out {sl : List Slot} {i : Nat} : ∀ {is : List Nat}, i ∉ is → (wipe sl is)[i]? = sl[i]?
  | [], _ => rfl
  | j :: is, h => by
    simp only [List.mem_cons, not_or] at h
    unfold wipe
    rw [List.getElem?_set_ne (fun e => h.1 e.symm)]
    exact wipe_out h.2
theorem wipe_in {sl : List Slot} {i : Nat} {s : Slot} : ∀ {is : List Nat}, i ∈ is → (wipe sl is)[i]? = some s → s = .no
  | [], h, _ => by cases h
  | j :: is, h, e => by
    unfold wipe at e
    by_cases q : j = i
    · subst q
      rw [List.getElem?_set] at e
      simp only [if_true] at e
      split at e
      · cases e
        rfl
      · cases e
    · rw [List.getElem?_set_ne q] at e
      exact wipe_in ((List.mem_cons.mp h).resolve_left fun z => q z.symm) e
theorem wipe_length {sl : List Slot} : ∀ {is : List Nat}, (wipe sl is).length = sl.length
  | [] => rfl
  | j :: is => by
    unfold wipe
    rw [List.length_set]
    exact wipe_length
theorem back_out {old sl : List Slot} {i : Nat} : ∀ {is : List Nat}, i ∉ is → (back old sl is)[i]? = sl[i]?
  | [], _ => rfl
  | j :: is, h => by
    simp only [List.mem_cons, not_or] at h
    unfold back
    rw [List.getElem?_set_ne (fun e => h.1 e.symm)]
    exact back_out h.2
theorem back_in {old sl : List Slot} {i : Nat} {s : Slot} : ∀ {is : List Nat}, i ∈ is → (back old sl is)[i]? = some s → s = old.getD i .no
  | [], h, _ => by cases h
  | j :: is, h, e => by
    unfold back at e
    by_cases q : j = i
    · subst q
      rw [List.getElem?_set] at e
      simp only [if_true] at e
      split at e
      · cases e
        rfl
      · cases e
    · rw [List.getElem?_set_ne q] at e
      exact back_in ((List.mem_cons.mp h).resolve_left fun z => q z.symm) e
theorem back_length {old sl : List Slot} : ∀ {is : List Nat}, (back old sl is).length = sl.length
  | [] => rfl
  | j :: is => by
    unfold back
    rw [List.length_set]
    exact back_length
theorem getD_val {sl : List Slot} {i : Nat} {s : Slot} (h : s = sl.getD i .no) (hs : s ≠ .no) : sl[i]? = some s := by
  rw [List.getD_eq_getElem?_getD] at h
  cases q : sl[i]? with
  | none =>
    rw [q] at h
    exact absurd h hs
  | some u =>
    rw [q] at h
    rw [h]
    rfl
theorem noOwn_in {sl : List Slot} {i : Nat} {xs : List PV} : ∀ {is : List Nat}, noOwn sl is = true → i ∈ is → sl[i]? ≠ some (.own xs)
  | [], _, h, _ => by cases h
  | j :: is, h, hm, e => by
    unfold noOwn at h
    simp only [Bool.and_eq_true] at h
    rcases List.mem_cons.mp hm with q | q
    · subst q
      rw [e] at h
      exact Bool.false_ne_true h.1
    · exact noOwn_in h.2 q e
theorem wipe_wipe {σ : L2.St} : ∀ {is : List Nat}, L2.wipe (L2.wipe σ is) is = L2.wipe σ is := by
  intro is
  have go : ∀ js : List Nat, (∀ j ∈ js, j ∈ is) → L2.wipe (L2.wipe σ js) is = L2.wipe σ is := by
    intro js
    induction js with
    | nil => intro _; rfl
    | cons j js ih =>
      intro h
      show L2.wipe ((L2.wipe σ js).set j none) is = _
      rw [wipe_set (h j List.mem_cons_self)]
      exact ih fun k hk => h k (List.mem_cons_of_mem _ hk)
  exact go is fun _ h => h
section
variable {K : PySem.W.Frag} {F F' : Fm} {Z Z1 : Addr → Prop} {ms ms1 : List Addr} {g g1 : G} {σ : L2.St} {H H1 : Hp} {is : List Nat}
theorem Rel.wipe (R : Rel K F Z ms g σ H) : Rel K F Z ms { g with sl := wipe g.sl is } (L2.wipe σ is) H := by
  have out : ∀ {i : Nat} {s : Slot}, (Ev.wipe g.sl is)[i]? = some s → s ≠ .no → i ∉ is ∧ g.sl[i]? = some s := fun {i s} e h => by
    by_cases q : i ∈ is
    · exact absurd (wipe_in q e) h
    · rw [wipe_out q] at e
      exact ⟨q, e⟩
  refine ⟨by rw [L2.wipe_length, R.len]; exact wipe_length.symm, fun i v e => ?_, fun i xs e => ?_, fun i j xs ys a e1 e2 e3 e4 => ?_, R.cn, R.cl, R.nd, R.mz, R.zf, R.zz, R.zs, R.fr⟩
  · obtain ⟨q, e'⟩ := out e (by simp)
    rw [L2.wipe_out q]
    exact R.vl i v e'
  · obtain ⟨q, e'⟩ := out e (by simp)
    rw [L2.wipe_out q]
    exact R.ow i xs e'
  · obtain ⟨q1, e1'⟩ := out e1 (by simp)
    obtain ⟨q2, e2'⟩ := out e2 (by simp)
    rw [L2.wipe_out q1] at e3
    rw [L2.wipe_out q2] at e4
    exact R.un i j xs ys a e1' e2' e3 e4
theorem back_own {old sl : List Slot} {i : Nat} {xs : List PV} (no : noOwn old is = true) (e : (back old sl is)[i]? = some (.own xs)) : i ∉ is ∧ sl[i]? = some (.own xs) := by
  by_cases q : i ∈ is
  · exact absurd (getD_val (back_in q e) (by simp)) (noOwn_in no q)
  · rw [back_out q] at e
    exact ⟨q, e⟩
theorem Rel.back (R : Rel K F Z ms g (L2.wipe σ is) H) (R1 : Rel K F' Z1 ms1 g1 σ H1) (no : noOwn g1.sl is = true) (l : Le Z1 ms1 H1 Z ms H) : Rel K F Z ms { g with sl := Ev.back g1.sl g.sl is } σ H := by
  refine ⟨?_, fun i v e => ?_, fun i xs e => ?_, fun i j xs ys a e1 e2 e3 e4 => ?_, R.cn, R.cl, R.nd, R.mz, R.zf, R.zz, R.zs, R.fr⟩
  · have := R.len
    rw [L2.wipe_length] at this
    rw [this]
    exact back_length.symm
  · by_cases q : i ∈ is
    · obtain ⟨x, h1, h2⟩ := R1.vl i v (getD_val (back_in q e) (by simp))
      exact ⟨x, h1, Den.mono l _ _ h2⟩
    · replace e : (Ev.back g1.sl g.sl is)[i]? = _ := e
      rw [back_out q] at e
      have := R.vl i v e
      rw [L2.wipe_out q] at this
      exact this
  · obtain ⟨q, e'⟩ := back_own no e
    have := R.ow i xs e'
    rw [L2.wipe_out q] at this
    exact this
  · obtain ⟨q1, e1'⟩ := back_own no e1
    obtain ⟨q2, e2'⟩ := back_own no e2
    exact R.un i j xs ys a e1' e2' (by rw [L2.wipe_out q1]; exact e3) (by rw [L2.wipe_out q2]; exact e4)
end

/-! ### [e for t in it if k] -/
theorem lc_sat {K : PySem.W.Frag} {F : Fm} {c : Call} {t : MT} {it : MI} {k : MO} {el : ME} {σ : L2.St} {H : Hp} {Q : VK} (h : tE K F (ev c (.lc t it k el)) σ H Q) :
    L2.tLc (tIt K F (evi c it)) (gT K t) (tTx K (tsto c k)) (tVx K (ev c el)) t.slots σ H Q := by
  obtain ⟨Z, ms, g, R, S⟩ := h
  simp only [ev_lc] at S
  obtain ⟨xs, g1, e1, S1⟩ := S.step
  refine ⟨Z, ms, g, R, Sat.mk e1 fun Z1 ms1 H1 l1 R1 J jo D hD => ?_⟩
  split at S1
  case isFalse => exact S1.elim
  rename_i no
  obtain ⟨ys, g2, e2, S2⟩ := (S1.le l1).step
  have nz0 := R1.noZ0 hD
  have nf := R1.freeF hD
  refine ⟨fun i m H2 => m = xs.length - i ∧ i ≤ xs.length ∧ ∃ Z2 ms2 g3 acc vs, Le Z1 ms1 (upd H1 D (.lst [])) Z2 ms2 H2 ∧ Rel K (F.with D (.lst vs)) Z2 ms2 g3 (L2.wipe σ t.slots) H2 ∧ Dens K Z2 ms2 H2 acc vs ∧ lcGo t.slots (bindT t) (tsto c k) (ev c el) (xs.drop i) acc g3 = .ok ys g2,
    ⟨_, rfl, Nat.zero_le _, Z1, ms1, _, [], [], .refl, (R1.pinNew (o := .lst []) hD).wipe, .nil, e2⟩, fun i m H2 ⟨hm, hi, Z2, ms2, g3, acc, vs, l2, R2, d2, e3⟩ => ?_⟩
  have l12 : Le Z1 ms1 H1 Z2 ms2 H2 := (Le.upd hD).trans l2
  obtain ⟨j1, j2⟩ := jo Z2 ms2 H2 l12 i
  by_cases hlt : i < xs.length
  · right
    rw [List.drop_eq_getElem_cons hlt] at e3
    unfold lcGo at e3
    obtain ⟨jgo, jy⟩ := j2 xs[i] (List.getElem?_eq_getElem hlt)
    refine ⟨jgo, fun H5 => ∃ Z2 ms2 g3 acc vs, Le Z1 ms1 (upd H1 D (.lst [])) Z2 ms2 H5 ∧ Rel K (F.with D (.lst vs)) Z2 ms2 g3 (L2.wipe σ t.slots) H5 ∧ Dens K Z2 ms2 H5 acc vs ∧ lcGo t.slots (bindT t) (tsto c k) (ev c el) (xs.drop (i + 1)) acc g3 = .ok ys g2,
      fun H5 w => ⟨xs.length - (i + 1), by omega, rfl, hlt, w⟩, fun x H3 yl => ?_⟩
    obtain ⟨rfl, dx⟩ := jy x H3 yl
    cases hb : bindT t (.val xs[i]) g3 with
    | bad => rw [hb] at e3; cases e3
    | ok u g4 =>
      rw [hb, Ev.R.bind_ok] at e3
      refine bind_ok R2 (r := .val xs[i]) dx hb fun σ4 R4 w4 => ?_
      rw [wipe_wipe] at w4
      refine ⟨w4, ?_⟩
      cases ht : tsto c k g4 with
      | bad => rw [ht] at e3; cases e3
      | ok b g5 =>
        rw [ht, Ev.R.bind_ok] at e3
        refine ⟨_, Z2, ms2, g4, R4, Sat.mk ht fun Z5 ms5 H5 l5 R5 => ?_⟩
        cases b with
        | false =>
          rw [if_neg Bool.false_ne_true] at e3 ⊢
          exact ⟨Z5, ms5, _, acc, vs, l2.trans l5, w4 ▸ R5.wipe, Dens.mono l5 _ _ d2, e3⟩
        | true =>
          rw [if_pos rfl] at e3 ⊢
          cases hv : ev c el g5 with
          | bad => rw [hv] at e3; cases e3
          | ok y g6 =>
            rw [hv, Ev.R.bind_ok] at e3
            split at e3
            case isFalse => cases e3
            rename_i hz
            refine ⟨_, Z5, ms5, g5, R5, Sat.mk hv fun Z6 ms6 H6 l6 R6 v dv => ?_⟩
            have d6 := Dens.mono l6 _ _ (Dens.mono l5 _ _ d2)
            refine ⟨vs, R6.pinned, by rw [d6.length]; exact hz, ?_⟩
            obtain ⟨l7, R7⟩ := R6.rewrite (ys := vs ++ [v]) nz0 nf
            refine ⟨Z6, ms6, _, acc ++ [y.pv], vs ++ [v], l2.trans (l5.trans (l6.trans l7)), w4 ▸ R7.wipe, ?_, e3⟩
            exact (Dens.mono l7 _ _ d6).append (.cons (Den.mono l7 _ _ dv) .nil)
  · left
    have hn : xs.drop i = [] := List.drop_eq_nil_of_le (by omega)
    rw [hn] at e3
    unfold lcGo at e3
    cases e3
    refine ⟨j1 (by omega), ?_⟩
    have R3 := R2.back R1 no l12
    refine S2 Z2 ms2 H2 l12 (R3.unpin nf) _ ⟨D, vs, rfl, R3.pinned, d2, R3.pinZ nz0, R3.pinM, nf, fun i ys e => R3.pinO i ys e⟩
theorem e_lc {X : Cx} {F : Fm} {elt tg iter : Expr} {ifs : List Expr} {scope : Scope} {own : List (Str × Nat)} {pos : Pos} {c : Call} {t : MT} {it : MI} {k : MO} {el : ME} (hc : X.calm = true) (hN : X.N.Nodup) (hi : PI X tg iter (tIt X.K F (evi c it))) (ok : L2.BlkOk X.N X.env.scope scope own) (ho : own.map (·.2) = t.slots)
    (hg : ∀ (s : Shared) (H : Hp) (C : Addr) (cl : List (Str × Addr)) (fp : List Addr), PG (X.blk s H scope (compEnvC scope cl C X.env) fp) tg (gT X.K t))
    (ht : ∀ (s : Shared) (H : Hp) (C : Addr) (cl : List (Str × Addr)) (fp : List Addr), L2.PTs (X.blk s H scope (compEnvC scope cl C X.env) fp) ifs (tTx X.K (tsto c k)))
    (he : ∀ (s : Shared) (H : Hp) (C : Addr) (cl : List (Str × Addr)) (fp : List Addr), PE (X.blk s H scope (compEnvC scope cl C X.env) fp) elt (tVx X.K (ev c el))) (hs : ∀ x, foldedSetIterable iter X.env x = pure x) :
    PE X (.ListComp elt [⟨tg, iter, ifs, 0⟩] scope pos) (tE X.K F (ev c (.lc t it k el))) := by
  refine PE.imp (L2.pe_lc hc hN hi ok hg ht he hs) fun σ H Q h => ?_
  rw [ho]
  exact lc_sat h
end Ev
/-! # Ev, part 9: statements. -/
namespace Ev
open PySem PySem.Spec
open L2 (V Hp HO upd SqL SqT Rd Cx Inv PE PT PW PA PS PSs PG PGs PI PK VK TE TT TA TS TG TGs TI Ends RelV Vals It Dp DpAll OpR UnR CallR TruR IxR SlR MtR EP TP AP SP)

/-- what holds behind a statement's run -/
def FlOk (K : PySem.W.Frag) (F : Fm) (D : Ends) (Z : Addr → Prop) (ms : List Addr) (g : G) (σ : L2.St) (H : Hp) : Fl → Prop
  | .nx => D.nx σ H
  | .brk => D.bk σ H
  | .cnt => D.ct σ H
  | .ret r => ∀ x, ResOk K F Z ms g σ H r x → D.rt x H
def Fin (K : PySem.W.Frag) (F : Fm) (D : Ends) (Z : Addr → Prop) (ms : List Addr) (H : Hp) : R Fl → Prop
  | .ok f g => ∀ σ' Z' ms' H', Le Z ms H Z' ms' H' → Rel K F Z' ms' g σ' H' → FlOk K F D Z' ms' g σ' H' f
  | .bad => False
def tS (K : PySem.W.Frag) (F : Fm) (f : M Fl) : TS := fun D σ H => ∃ Z ms g, Rel K F Z ms g σ H ∧ Fin K F D Z ms H (f g)
section
variable {K : PySem.W.Frag} {F : Fm} {D : Ends} {Z Z' : Addr → Prop} {ms ms' : List Addr} {H H' : Hp} {g : G} {σ : L2.St}
theorem Fin.step {β : Type} {r : R β} {f : β → M Fl} (S : Fin K F D Z ms H (r.bind f)) : ∃ a g, r = .ok a g ∧ Fin K F D Z ms H (f a g) := by
  cases r with
  | ok a g => exact ⟨a, g, rfl, S⟩
  | bad => exact S.elim
theorem Fin.le {r : R Fl} (S : Fin K F D Z ms H r) (l : Le Z ms H Z' ms' H') : Fin K F D Z' ms' H' r := by
  cases r with
  | ok a g => exact fun s Z2 ms2 H2 l2 R2 => S s Z2 ms2 H2 (l.trans l2) R2
  | bad => exact S.elim
theorem Fin.here {f : Fl} (S : Fin K F D Z ms H (.ok f g)) (R : Rel K F Z ms g σ H) : FlOk K F D Z ms g σ H f := S σ Z ms H .refl R
/-- a cell written -/
theorem Rel.cellSet {n : Nat} {p : Addr} {kvs kvs' : List (Key × PV)} {ws ws' : List (Key × V)} (R : Rel K F Z ms g σ H) (hn : g.hp[n]? = some (.dk kvs)) (hm : ms[n]? = some p) (hp : H p = some (.dK ws)) (d : DenKV K Z ms H kvs' ws') :
    Le Z ms H Z ms (upd H p (.dK ws')) ∧ Rel K F Z ms { g with hp := g.hp.set n (.dk kvs') } σ (upd H p (.dK ws')) := by
  have pm : p ∈ ms := List.mem_of_getElem? hm
  have nz := (R.mz p pm).1
  have l : Le Z ms H Z ms (upd H p (.dK ws')) := by
    refine ⟨fun _ z => z, fun b us z q => by rw [L2.upd_ne fun e => nz (by rw [← e]; exact z)]; exact q, fun b us q => ?_, fun b o u q => ?_, [], by simp⟩
    · rw [L2.upd_ne]
      · exact q
      · rintro rfl
        rw [hp] at q
        cases q
    · rw [L2.upd_ne]
      · exact q
      · rintro rfl
        rw [hp] at q
        cases q
  have hl : n < g.hp.length := (List.getElem?_eq_some_iff.mp hn).1
  refine ⟨l, ⟨R.len, fun i v e => ?_, fun i us e => ?_, R.un, by rw [List.length_set]; exact R.cn, fun m c a e1 e2 => ?_, R.nd, R.mz, R.zf, R.zz, fun a z => ?_, fun a u e => ?_⟩⟩
  · obtain ⟨x, e1, e2⟩ := R.vl i v e
    exact ⟨x, e1, Den.mono l _ _ e2⟩
  · obtain ⟨a, vs, e1, e2, e3, e4, e5, e6⟩ := R.ow i us e
    have na : a ≠ p := fun q => e5 (q ▸ pm)
    exact ⟨a, vs, e1, by rw [L2.upd_ne na]; exact e2, Dens.mono l _ _ e3, e4, e5, e6⟩
  · by_cases q : n = m
    · subst q
      rw [List.getElem?_set_self hl] at e1
      cases e1
      rw [hm] at e2
      cases e2
      exact ⟨ws', L2.upd_same, DenKV.mono l _ _ d⟩
    · rw [List.getElem?_set_ne q] at e1
      refine (R.cl m c a e1 e2).mono l (L2.upd_ne ?_)
      rintro rfl
      refine q ?_
      exact (List.getElem?_inj (List.getElem?_eq_some_iff.mp hm).1 R.nd).mp (hm.trans e2.symm)
  · obtain ⟨vs, e⟩ := R.zs a z
    exact ⟨vs, by rw [L2.upd_ne fun q => nz (by rw [← q]; exact z)]; exact e⟩
  · rw [L2.upd_ne]
    · exact R.fr a u e
    · rintro rfl
      have := (R.mz a pm).2
      rw [this] at e
      cases e
end

section
variable (c : Call)
theorem ex_asg (t e) : ex c (.asg t e) = fun g => (ev c e g).bind fun r g1 => (bindT t r g1).bind fun _ g2 => .ok .nx g2 := rfl
theorem ex_par (is es) : ex c (.par is es) = fun g => (evs c es g).bind fun vs g1 => (setPar is (vs.map Res.val) g1).bind fun _ g2 => .ok .nx g2 := rfl
theorem ex_put (o k e) : ex c (.put o k e) = fun g => (ev c e g).bind fun r g1 => (opd c o g1).bind fun x g2 => (opd c k g2).bind fun y g3 => (look x g3).bind fun xv g4 => (look y g4).bind fun yv g5 => (putG xv yv r.pv g5).bind fun _ g6 => .ok .nx g6 := rfl
theorem ex_ex (e) : ex c (.ex e) = fun g => (ev c e g).bind fun _ g1 => .ok .nx g1 := rfl
theorem ex_iff (t a b) : ex c (.iff t a b) = fun g => (tst c t g).bind fun k g1 => if k = true then exs c a g1 else exs c b g1 := rfl
theorem ex_for (t it b) : ex c (.for_ t it b) = fun g => (evi c it g).bind fun xs g1 => forGo (bindT t) (exs c b) xs g1 := rfl
theorem ex_ret (e) : ex c (.ret e) = fun g => (retF e (ev c e) g).bind fun r g1 => .ok (.ret r) g1 := rfl
theorem ex_retN : ex c .retN = fun g => .ok (.ret (.val .non)) g := rfl
theorem ex_pas : ex c .pas = fun g => .ok .nx g := rfl
theorem ex_brk : ex c .brk = fun g => .ok .brk g := rfl
theorem ex_cnt : ex c .cnt = fun g => .ok .cnt g := rfl
theorem ex_nvr : ex c .nvr = fun _ => .bad := rfl
theorem exs_nil : exs c .nil = fun g => .ok .nx g := rfl
theorem exs_cons (s r) : exs c (.cons s r) = fun g => (ex c s g).bind fun f g1 => match f with
    | .nx => exs c r g1
    | f => .ok f g1 := rfl
end

section
variable {X : Cx} {F : Fm} {pos : Pos} {c : Call}
theorem s_asg {t : MT} {m : ME} {tg e : Expr} (he : PE X e (tE X.K F (ev c m))) (hg : PG X tg (gT X.K t)) (hs : swapsWithSole [tg] e pos.line X.env = pure false) (hw : swappedStores [tg] e X.env = pure none) (h1 : (assignEach [tg] X.env).map (·.2) = [assign tg X.env]) :
    PS X (.Assign [tg] e pos) (tS X.K F (ex c (.asg t m))) := by
  refine PS.imp (L2.ps_asg he hg hs hw h1) fun D σ H ⟨Z, ms, g, R, S⟩ => ?_
  simp only [ex_asg] at S
  obtain ⟨r, g1, e1, S1⟩ := S.step
  obtain ⟨u, g2, e2, S2⟩ := S1.step
  exact ⟨Z, ms, g, R, Sat.mk e1 fun Z1 ms1 H1 l1 R1 x rx => bind_ok R1 rx e2 fun σ' R2 _ => (S2.le l1).here R2⟩
theorem s_setLc {i : Nat} {y : Str} {py : Pos} {elt tg iter : Expr} {ifs : List Expr} {scope : Scope} {own : List (Str × Nat)} {pos spos : Pos} {t : MT} {it : MI} {k : MO} {el : ME} (hc : X.calm = true) (hN : X.N.Nodup) (hy : X.N[i]? = some y) (hyl : X.env.scope.names.lookup y = some .local)
    (hsw : swapsWith (.ListComp elt [⟨tg, iter, ifs, 0⟩] scope pos) (some (.Name y py)) spos.line X.env = pure true) (hi : PI X tg iter (tIt X.K F (evi c it))) (ok : L2.BlkOk X.N X.env.scope scope own) (ho : own.map (·.2) = t.slots)
    (hg : ∀ (s : Shared) (H : Hp) (C : Addr) (cl : List (Str × Addr)) (fp : List Addr), PG (X.blk s H scope (compEnvC scope cl C X.env) fp) tg (gT X.K t))
    (ht : ∀ (s : Shared) (H : Hp) (C : Addr) (cl : List (Str × Addr)) (fp : List Addr), L2.PTs (X.blk s H scope (compEnvC scope cl C X.env) fp) ifs (tTx X.K (tsto c k)))
    (he : ∀ (s : Shared) (H : Hp) (C : Addr) (cl : List (Str × Addr)) (fp : List Addr), PE (X.blk s H scope (compEnvC scope cl C X.env) fp) elt (tVx X.K (ev c el))) (hs : ∀ x, foldedSetIterable iter X.env x = pure x) :
    PS X (.Assign [.Name y py] (.ListComp elt [⟨tg, iter, ifs, 0⟩] scope pos) spos) (tS X.K F (ex c (.asg (.nm i) (.lc t it k el)))) := by
  refine PS.imp (L2.ps_setLc hc hN hy hyl hsw hi ok hg ht he hs) fun D σ H ⟨Z, ms, g, R, S⟩ => ?_
  rw [ho]
  refine lc_sat ?_
  simp only [ex_asg] at S
  obtain ⟨r, g1, e1, S1⟩ := S.step
  obtain ⟨u, g2, e2, S2⟩ := S1.step
  exact ⟨Z, ms, g, R, Sat.mk e1 fun Z1 ms1 H1 l1 R1 x rx => bind_ok (t := .nm i) R1 rx e2 fun σ' R2 _ => (S2.le l1).here R2⟩
theorem s_par {i j : Nat} {x y : Str} {a b : Expr} {es : MEs} {px py pt : Pos} {kt k2 pt2} (hc : X.calm = true) (hN : X.N.Nodup) (hi : X.N[i]? = some x) (hj : X.N[j]? = some y) (hij : i ≠ j)
    (hx : X.env.scope.names.lookup x = some .local) (hy : X.env.scope.names.lookup y = some .local) (ha : PA X [a, b] (tVs X.K F (evs c es)))
    (hw : swappedStores [.Tuple [.Name x px, .Name y py] kt pt] (.Tuple [a, b] k2 pt2) X.env = pure (some [x, y]))
    (hs : swapsWithSole [.Tuple [.Name x px, .Name y py] kt pt] (.Tuple [a, b] k2 pt2) pos.line X.env = pure false) :
    PS X (.Assign [.Tuple [.Name x px, .Name y py] kt pt] (.Tuple [a, b] k2 pt2) pos) (tS X.K F (ex c (.par [i, j] es))) := by
  refine PS.imp (L2.ps_par hc hN hi hj hij hx hy ha hw hs) fun D σ H ⟨Z, ms, g, R, S⟩ => ?_
  simp only [ex_par] at S
  obtain ⟨vs, g1, e1, S1⟩ := S.step
  obtain ⟨u, g2, e2, S2⟩ := S1.step
  refine ⟨Z, ms, g, R, Sat.mk e1 fun Z1 ms1 H1 l1 R1 xs d1 => ?_⟩
  match vs, e2, d1 with
  | [], e2, _ => simp [setPar] at e2
  | [_], e2, _ =>
    simp only [List.map_cons, List.map_nil, setPar] at e2
    cases e2
  | _ :: _ :: _ :: _, e2, _ =>
    simp only [List.map_cons, setPar] at e2
    cases e2
  | [v, w], e2, d1 =>
    simp only [List.map_cons, List.map_nil, setPar, Ev.R.bind_ok] at e2
    simp only [Dens] at d1
    obtain ⟨v', r1, rfl, dv, w', r2, rfl, dw, rfl⟩ := d1
    cases q1 : setVar j (.val w) g1 with
    | bad => rw [q1] at e2; cases e2
    | ok u1 g3 =>
      rw [q1, Ev.R.bind_ok] at e2
      obtain ⟨h1, rfl⟩ := setVar_ok q1
      obtain ⟨h2, rfl⟩ := setVar_ok e2
      have R2 := R1.set (r := .val w) dw h1
      have R3 := R2.set (r := .val v) dv h2
      refine ⟨v', w', rfl, ?_⟩
      rw [List.set_comm _ _ hij]
      exact (S2.le l1).here R3
theorem s_par3 {i j k : Nat} {x y z : Str} {a b d : Expr} {es : MEs} {px py pz pt : Pos} {kt k2 pt2} (hc : X.calm = true) (hN : X.N.Nodup) (hi : X.N[i]? = some x) (hj : X.N[j]? = some y) (hk : X.N[k]? = some z) (hij : i ≠ j) (hik : i ≠ k) (hjk : j ≠ k)
    (hx : X.env.scope.names.lookup x = some .local) (hy : X.env.scope.names.lookup y = some .local) (hz : X.env.scope.names.lookup z = some .local) (ha : PA X [a, b, d] (tVs X.K F (evs c es)))
    (hw : swappedStores [.Tuple [.Name x px, .Name y py, .Name z pz] kt pt] (.Tuple [a, b, d] k2 pt2) X.env = pure (some [x, y, z]))
    (hs : swapsWithSole [.Tuple [.Name x px, .Name y py, .Name z pz] kt pt] (.Tuple [a, b, d] k2 pt2) pos.line X.env = pure false) :
    PS X (.Assign [.Tuple [.Name x px, .Name y py, .Name z pz] kt pt] (.Tuple [a, b, d] k2 pt2) pos) (tS X.K F (ex c (.par [i, j, k] es))) := by
  refine PS.imp (L2.ps_par3 hc hN hi hj hk hij hik hjk hx hy hz ha hw hs) fun D σ H ⟨Z, ms, g, R, S⟩ => ?_
  simp only [ex_par] at S
  obtain ⟨vs, g1, e1, S1⟩ := S.step
  obtain ⟨u, g2, e2, S2⟩ := S1.step
  refine ⟨Z, ms, g, R, Sat.mk e1 fun Z1 ms1 H1 l1 R1 xs d1 => ?_⟩
  match vs, e2, d1 with
  | [], e2, _ => simp [setPar] at e2
  | [_], e2, _ =>
    simp only [List.map_cons, List.map_nil, setPar] at e2
    cases e2
  | [_, _], e2, _ =>
    simp only [List.map_cons, List.map_nil, setPar] at e2
    cases e2
  | _ :: _ :: _ :: _ :: _, e2, _ =>
    simp only [List.map_cons, setPar] at e2
    cases e2
  | [v, w, t], e2, d1 =>
    simp only [List.map_cons, List.map_nil, setPar, Ev.R.bind_ok] at e2
    simp only [Dens] at d1
    obtain ⟨v', r1, rfl, dv, w', r2, rfl, dw, t', r3, rfl, dt, rfl⟩ := d1
    cases q1 : setVar k (.val t) g1 with
    | bad => rw [q1] at e2; cases e2
    | ok u1 g3 =>
      rw [q1, Ev.R.bind_ok] at e2
      cases q2 : setVar j (.val w) g3 with
      | bad => rw [q2] at e2; cases e2
      | ok u2 g4 =>
        rw [q2, Ev.R.bind_ok] at e2
        obtain ⟨h1, rfl⟩ := setVar_ok q1
        obtain ⟨h2, rfl⟩ := setVar_ok q2
        obtain ⟨h3, rfl⟩ := setVar_ok e2
        have R2 := R1.set (r := .val t) dt h1
        have R3 := R2.set (r := .val w) dw h2
        have R4 := R3.set (r := .val v) dv h3
        refine ⟨v', w', t', rfl, ?_⟩
        rw [List.set_comm (i := j) (j := k) _ _ hjk, List.set_comm (i := i) (j := k) _ _ hik, List.set_comm (i := i) (j := j) _ _ hij] at *
        exact (S2.le l1).here R4
theorem s_put {o k m : ME} {oe ke e : Expr} {pos' : Pos} (hu : X.A.units + 1 < cLine) (ho : PE X oe (tO X.K F (opd c o))) (hk : PE X ke (tO X.K F (opd c k))) (he : PE X e (tE X.K F (ev c m))) (hs : swapsWith e (some (.Subscript oe ke pos')) pos.line X.env = pure false) :
    PS X (.Assign [.Subscript oe ke pos'] e pos) (tS X.K F (ex c (.put o k m))) := by
  refine PS.imp (L2.ps_dput hu ho hk (PE.v he) hs) fun D σ H ⟨Z, ms, g, R, S⟩ => ?_
  simp only [ex_put] at S
  obtain ⟨r, g1, e1, S1⟩ := S.step
  obtain ⟨o1, g2, e2, S2⟩ := S1.step
  obtain ⟨o2, g3, e3, S3⟩ := S2.step
  obtain ⟨xv, g4, e4, S4⟩ := S3.step
  obtain ⟨yv, g5, e5, S5⟩ := S4.step
  obtain ⟨u, g6, e6, S6⟩ := S5.step
  refine ⟨Z, ms, g, R, Sat.mk e1 fun Z1 ms1 H1 l1 R1 v dv => ?_⟩
  refine ⟨Z1, ms1, g1, R1, Sat.mk e2 fun Z2 ms2 H2 l2 R2 x d2 => ?_⟩
  refine ⟨Z2, ms2, g2, R2, Sat.mk e3 fun Z3 ms3 H3 l3 R3 y d3 => ?_⟩
  obtain ⟨rfl, w1⟩ := look_ok R3 (d2.mono l3) e4
  obtain ⟨rfl, w2⟩ := look_ok R3 d3 e5
  unfold putG at e6
  split at e6
  · rename_i n
    obtain ⟨p, rfl, hp⟩ := w1.ref
    split at e6
    · rename_i kvs hc
      split at e6
      · rename_i key hk
        split at e6
        · rename_i hz
          cases e6
          obtain ⟨ws, h1, h2⟩ := R3.cl n _ p hc hp
          have dv3 := Den.mono (l2.trans l3) _ _ dv
          obtain ⟨l4, R4⟩ := R3.cellSet hc hp h1 (putK_V (k := key) dv3 h2)
          refine ⟨p, _, rfl, ?_, (S6.le (l1.trans (l2.trans (l3.trans l4)))).here R4⟩
          rw [keyOf_V w2 hk]
          exact L2.DPut.k h1 (by rw [h2.length]; exact hz)
        · cases e6
      · cases e6
    · cases e6
  · cases e6
theorem s_ex {m : ME} {e : Expr} (he : PE X e (tE X.K F (ev c m))) (hs : swapsWith e none pos.line X.env = pure false) : PS X (.Expr e pos) (tS X.K F (ex c (.ex m))) := by
  refine PS.imp (L2.ps_expr (PE.v he) hs) fun D σ H ⟨Z, ms, g, R, S⟩ => ?_
  simp only [ex_ex] at S
  obtain ⟨r, g1, e1, S1⟩ := S.step
  exact ⟨Z, ms, g, R, Sat.mk e1 fun Z1 ms1 H1 l1 R1 x rx => (S1.le l1).here R1⟩
theorem s_doc {x j pos'} : PS X (.Expr (.Constant (.str x) j pos) pos') (tS X.K F (ex c .pas)) := PS.imp L2.ps_doc fun D σ H ⟨Z, ms, g, R, S⟩ => S.here R
theorem s_iff {t : ME} {a b : MSs} {e : Expr} {p q : List Stmt} (he : PT X e (tT X.K F (tst c t))) (ha : PSs X p (tS X.K F (exs c a))) (hb : PSs X q (tS X.K F (exs c b))) : PS X (.If e p q pos) (tS X.K F (ex c (.iff t a b))) := by
  refine PS.imp (L2.ps_if he ha hb) fun D σ H ⟨Z, ms, g, R, S⟩ => ?_
  simp only [ex_iff] at S
  obtain ⟨k, g1, e1, S1⟩ := S.step
  refine ⟨Z, ms, g, R, Sat.mk e1 fun Z1 ms1 H1 l1 R1 => ?_⟩
  cases k with
  | true =>
    rw [if_pos rfl] at S1 ⊢
    exact ⟨Z1, ms1, g1, R1, S1.le l1⟩
  | false =>
    rw [if_neg Bool.false_ne_true] at S1 ⊢
    exact ⟨Z1, ms1, g1, R1, S1.le l1⟩
theorem s_for {t : MT} {it : MI} {b : MSs} {tg iter : Expr} {body : List Stmt} (hp : PassesOwn (model X.prog X.w) X.A X.env X.xe) (hc : X.calm = true) (hi : PI X tg iter (tIt X.K F (evi c it))) (hg : PG X tg (gT X.K t)) (hb : PSs X body (tS X.K F (exs c b)))
    (hs : ∀ x, foldedSetIterable iter X.env x = pure x) : PS X (.For tg iter body [] pos) (tS X.K F (ex c (.for_ t it b))) := by
  refine PS.imp (L2.ps_for hp hc hi hg hb hs) fun D σ H ⟨Z, ms, g, R, S⟩ => ?_
  simp only [ex_for] at S
  obtain ⟨xs, g1, e1, S1⟩ := S.step
  refine ⟨Z, ms, g, R, Sat.mk e1 fun Z1 ms1 H1 l1 R1 J jo => ?_⟩
  refine ⟨fun i m σ2 H2 => m = xs.length - i ∧ i ≤ xs.length ∧ ∃ Z2 ms2 g2, Le Z1 ms1 H1 Z2 ms2 H2 ∧ Rel X.K F Z2 ms2 g2 σ2 H2 ∧ Fin X.K F D Z2 ms2 H2 (forGo (bindT t) (exs c b) (xs.drop i) g2),
    ⟨_, rfl, Nat.zero_le _, Z1, ms1, g1, .refl, R1, S1.le l1⟩, fun i m σ2 H2 ⟨hm, hi, Z2, ms2, g2, l2, R2, S2⟩ => ?_⟩
  obtain ⟨j1, j2⟩ := jo Z2 ms2 H2 l2 i
  by_cases hlt : i < xs.length
  · right
    rw [List.drop_eq_getElem_cons hlt] at S2
    unfold forGo at S2
    obtain ⟨jgo, jy⟩ := j2 xs[i] (List.getElem?_eq_getElem hlt)
    refine ⟨jgo, fun σ5 H5 => ∃ Z2 ms2 g2, Le Z1 ms1 H1 Z2 ms2 H5 ∧ Rel X.K F Z2 ms2 g2 σ5 H5 ∧ Fin X.K F D Z2 ms2 H5 (forGo (bindT t) (exs c b) (xs.drop (i + 1)) g2),
      fun σ5 H5 w => ⟨xs.length - (i + 1), by omega, rfl, hlt, w⟩, fun x H3 yl => ?_⟩
    obtain ⟨rfl, dx⟩ := jy x H3 yl
    obtain ⟨u, g3, e3, S3⟩ := S2.step
    obtain ⟨f, g4, e4, S4⟩ := S3.step
    refine bind_ok R2 (r := .val xs[i]) dx e3 fun σ4 R4 _ => ⟨Z2, ms2, g3, R4, ?_⟩
    rw [e4]
    intro σ5 Z5 ms5 H5 l5 R5
    cases f with
    | nx => exact ⟨Z5, ms5, g4, l2.trans l5, R5, S4.le l5⟩
    | cnt => exact ⟨Z5, ms5, g4, l2.trans l5, R5, S4.le l5⟩
    | brk => exact (S4.le l5).here R5
    | ret r => exact (S4.le l5).here R5
  · left
    have hn : xs.drop i = [] := List.drop_eq_nil_of_le (by omega)
    rw [hn] at S2
    unfold forGo at S2
    exact ⟨j1 (by omega), S2.here R2⟩
theorem retF_ne {m : ME} {f : M Res} (h : ∀ i, m ≠ .var i) : retF m f = f := by
  cases m <;> first | rfl | exact absurd rfl (h _)
theorem e_ret {m : ME} {e : Expr} (he : PE X e (tE X.K F (ev c m))) (h : ∀ i, m ≠ .var i) : PE X e (tE X.K F (retF m (ev c m))) := by
  rw [retF_ne h]
  exact he
theorem e_retV {i : Nat} {x : Str} (hN : X.N[i]? = some x) (hv : L2.Vis X.env.scope x) (hd : (x == ("__debug__" : Str)) = false) (hcd : (x == ("__classdict__" : Str)) = false) : PE X (.Name x pos) (tE X.K F (retF (.var i) (ev c (.var i)))) := by
  refine ⟨fun pins s σ H Q I h => ?_⟩
  obtain ⟨Z, ms, g, R, S⟩ := id h
  by_cases q : ∃ xs, g.sl[i]? = some (.own xs)
  · obtain ⟨xs, q⟩ := q
    have e : retF (.var i) (ev c (.var i)) g = .ok (.new xs) { g with sl := g.sl.set i .no } := by
      unfold retF
      simp only [q]
    rw [e] at S
    refine (L2.pe_var hN hv hd hcd).run pins s σ H Q I ?_
    obtain ⟨a, vs, h1, h2, h3, h4, h5, h6⟩ := R.ow i xs q
    refine ⟨_, h1, ?_⟩
    have hi : i < g.sl.length := (List.getElem?_eq_some_iff.mp q).1
    have out : ∀ {j : Nat} {s : Slot}, (g.sl.set i .no)[j]? = some s → s ≠ .no → i ≠ j ∧ g.sl[j]? = some s := fun {j s} e h => by
      by_cases q : i = j
      · subst q
        rw [List.getElem?_set_self hi] at e
        cases e
        exact absurd rfl h
      · rw [List.getElem?_set_ne q] at e
        exact ⟨q, e⟩
    have R2 : Rel X.K F Z ms { g with sl := g.sl.set i .no } σ H := by
      refine ⟨by rw [List.length_set]; exact R.len, fun j v e => R.vl j v (out e (by simp)).2, fun j ys e => R.ow j ys (out e (by simp)).2, fun j k ys zs b e1 e2 e3 e4 => R.un j k ys zs b (out e1 (by simp)).2 (out e2 (by simp)).2 e3 e4, R.cn, R.cl, R.nd, R.mz, R.zf, R.zz, R.zs, R.fr⟩
    refine S Z ms H .refl R2 _ ⟨a, vs, rfl, h2, h3, h4, h5, h6, fun j ys e z => ?_⟩
    obtain ⟨n, e'⟩ := out e (by simp)
    exact n (R.un i j xs ys a q e' h1 z)
  · have e : retF (.var i) (ev c (.var i)) g = ev c (.var i) g := by
      unfold retF
      simp only
      split
      · rename_i xs z
        exact absurd ⟨xs, z⟩ q
      · rfl
    rw [e] at S
    exact (e_var hN hv hd hcd).run pins s σ H Q I ⟨Z, ms, g, R, S⟩
theorem s_ret {m : ME} {e : Expr} (he : PE X e (tE X.K F (retF m (ev c m)))) : PS X (.Return (some e) pos) (tS X.K F (ex c (.ret m))) := by
  refine PS.imp (L2.ps_ret he) fun D σ H ⟨Z, ms, g, R, S⟩ => ?_
  simp only [ex_ret] at S
  obtain ⟨r, g1, e1, S1⟩ := S.step
  exact ⟨Z, ms, g, R, Sat.mk e1 fun Z1 ms1 H1 l1 R1 x rx => (S1.le l1).here R1 x rx⟩
theorem s_retN : PS X (.Return none pos) (tS X.K F (ex c .retN)) := PS.imp L2.ps_retN fun D σ H ⟨Z, ms, g, R, S⟩ => S.here R _ (by simp only [ResOk, Den])
theorem s_pas : PS X (.Pass pos) (tS X.K F (ex c .pas)) := PS.imp L2.ps_pass fun D σ H ⟨Z, ms, g, R, S⟩ => S.here R
theorem s_brk : PS X (.Break pos) (tS X.K F (ex c .brk)) := PS.imp L2.ps_break fun D σ H ⟨Z, ms, g, R, S⟩ => S.here R
theorem s_cnt : PS X (.Continue pos) (tS X.K F (ex c .cnt)) := PS.imp L2.ps_continue fun D σ H ⟨Z, ms, g, R, S⟩ => S.here R
theorem s_nvr {st : Stmt} : PS X st (tS X.K F (ex c .nvr)) := PS.imp L2.ps_never fun D σ H ⟨Z, ms, g, R, S⟩ => S.elim
theorem ss_nil : PSs X [] (tS X.K F (exs c .nil)) := PSs.imp L2.pss_nil fun D σ H ⟨Z, ms, g, R, S⟩ => S.here R
theorem ss_cons {s : MS} {r : MSs} {st : Stmt} {rest : List Stmt} (h : PS X st (tS X.K F (ex c s))) (t : PSs X rest (tS X.K F (exs c r))) : PSs X (st :: rest) (tS X.K F (exs c (.cons s r))) := by
  refine PSs.imp (L2.pss_cons h t) fun D σ H ⟨Z, ms, g, R, S⟩ => ?_
  simp only [exs_cons] at S
  obtain ⟨f, g1, e1, S1⟩ := S.step
  refine ⟨Z, ms, g, R, ?_⟩
  rw [e1]
  intro σ1 Z1 ms1 H1 l1 R1
  cases f with
  | nx => exact ⟨Z1, ms1, g1, R1, S1.le l1⟩
  | brk => exact (S1.le l1).here R1
  | cnt => exact (S1.le l1).here R1
  | ret x => exact (S1.le l1).here R1
end
end Ev
/-! # Ev, part 10: calls of defs. -/
namespace Ev
open PySem PySem.Spec
open L2 (V Hp HO upd SqL SqT Rd Cx Inv PE PT PW PA PS PSs PG PGs PI PK VK TE TT TA TS TG TGs TI Ends RelV Vals It Dp DpAll OpR UnR CallR TruR IxR SlR MtR EP TP AP SP Room Env0 CE)

/-- the cells stand in the heap -/
structure HpOk (K : PySem.W.Frag) (Z : Addr → Prop) (ms : List Addr) (hp : List Cell) (H : Hp) : Prop where
  cn : ms.length = hp.length
  cl : ∀ (n : Nat) c a, hp[n]? = some c → ms[n]? = some a → CellOk K Z ms H c a
  nd : ms.Nodup
  mz : ∀ a ∈ ms, ¬ Z a
  zs : ∀ a, Z a → ∃ vs, H a = some (.lst vs)
/-- what a call hands back -/
structure Pay (K : PySem.W.Frag) (Z : Addr → Prop) (ms : List Addr) (H : Hp) (Z' : Addr → Prop) (ms' : List Addr) (hp' : List Cell) (H' : Hp) (r : Res) (x : V) : Prop where
  le : Le Z ms H Z' ms' H'
  kp : ∀ a o, H a = some o → a ∉ ms → H' a = some o
  z : ∀ a, Z' a → Z a ∨ H a = none
  m : ∀ a ∈ ms', a ∈ ms ∨ H a = none
  ok : HpOk K Z' ms' hp' H'
  rs : match r with
    | .val v => Den K Z' ms' H' v x
    | .new xs => ∃ a vs, x = .ref a ∧ H' a = some (.lst vs) ∧ Dens K Z' ms' H' xs vs ∧ ¬ Z' a ∧ a ∉ ms' ∧ H a = none
/-- a call's form: the def's name, how many arguments stand in their places, the keywords -/
structure Tg where
  name : Str
  p : Nat
  ks : List Str
/-- calls of this form do what the evaluator says -/
structure CallOk (P : Program) (w : World) (K : PySem.W.Frag) (mg : Str → Option Value) (base : Heap) (k : Nat) (t : Tg) (cf : List PV → List PV → List Cell → Option (Res × List Cell)) : Prop where
  ex : ∃ f : Addr, mg t.name = some (.ref f) ∧ PySem.W.keepIn K (.ref f) = true ∧ ∀ (A : Around) (outer : List Env) (s : Shared) (H : Hp) (us ws : List Value) (vs zs : List V) (as bs : List PV) (Z : Addr → Prop) (ms : List Addr) (hp : List Cell) (r : Res) (hp' : List Cell),
    Room k A → A.guards = some [] → Env0 P w K mg base A outer s H → us.length = t.p → ws.length = t.ks.length → Vals vs us → Vals zs ws → Dens K Z ms H as vs → Dens K Z ms H bs zs → HpOk K Z ms hp H → cf as bs hp = some (r, hp') →
    codeAny (model P w) A (.call (.ref f) ⟨us, t.ks.zip ws⟩) (fun res s' => ∃ u, res = .ok (.ret u) ∧ CE outer P w H s (fun v H' => ∃ Z' ms', Pay K Z ms H Z' ms' hp' H' r v) u s') s

section
variable {K : PySem.W.Frag} {F : Fm} {Z : Addr → Prop} {ms : List Addr} {g : G} {σ : L2.St} {H : Hp}
theorem Rel.hpOk (R : Rel K F Z ms g σ H) : HpOk K Z ms g.hp H := ⟨R.cn, R.cl, R.nd, fun a h => (R.mz a h).1, R.zs⟩
theorem Rel.paid (R : Rel K F Z ms g σ H) {Z' : Addr → Prop} {ms' : List Addr} {hp' : List Cell} {H' : Hp} {r : Res} {x : V} (p : Pay K Z ms H Z' ms' hp' H' r x) : Rel K F Z' ms' { g with hp := hp' } σ H' ∧ ResOk K F Z' ms' { g with hp := hp' } σ H' r x := by
  have nz : ∀ {a : Addr} {o : HO}, H a = some o → ¬ Z a → ¬ Z' a := fun {a o} e n z => (p.z a z).elim n fun q => by rw [q] at e; cases e
  have nm : ∀ {a : Addr} {o : HO}, H a = some o → a ∉ ms → a ∉ ms' := fun {a o} e n z => (p.m a z).elim n fun q => by rw [q] at e; cases e
  have ow : ∀ (i : Nat) (xs : List PV), g.sl[i]? = some (.own xs) → ∃ a vs, σ[i]? = some (some (.ref a)) ∧ H a = some (.lst vs) ∧ H' a = some (.lst vs) ∧ Dens K Z' ms' H' xs vs ∧ ¬ Z' a ∧ a ∉ ms' ∧ F.F a = none := fun i xs e => by
    obtain ⟨a, vs, e1, e2, e3, e4, e5, e6⟩ := R.ow i xs e
    exact ⟨a, vs, e1, e2, p.kp a _ e2 e5, Dens.mono p.le _ _ e3, nz e2 e4, nm e2 e5, e6⟩
  refine ⟨⟨R.len, fun i v e => ?_, fun i xs e => ?_, R.un, p.ok.cn, p.ok.cl, p.ok.nd, fun a ha => ⟨p.ok.mz a ha, ?_⟩, fun a z => ?_, fun a z => p.le.z a (R.zz a z), p.ok.zs, fun a o e => ?_⟩, ?_⟩
  · obtain ⟨x, e1, e2⟩ := R.vl i v e
    exact ⟨x, e1, Den.mono p.le _ _ e2⟩
  · obtain ⟨a, vs, e1, _, e2, e3, e4, e5, e6⟩ := ow i xs e
    exact ⟨a, vs, e1, e2, e3, e4, e5, e6⟩
  · rcases p.m a ha with h | h
    · exact (R.mz a h).2
    · exact R.freeF h
  · rcases p.z a z with h | h
    · exact R.zf a h
    · exact .inr (R.freeF h)
  · have e1 := R.fr a o e
    refine p.kp a o e1 fun h => ?_
    rw [(R.mz a h).2] at e
    cases e
  · cases r with
    | val v => exact p.rs
    | new xs =>
      obtain ⟨a, vs, h1, h2, h3, h4, h5, h6⟩ := p.rs
      refine ⟨a, vs, h1, h2, h3, h4, h5, R.freeF h6, fun i ys e q => ?_⟩
      obtain ⟨b, ws, e1, e2, _⟩ := ow i ys e
      rw [q] at e1
      cases e1
      rw [h6] at e2
      cases e2
end

/-- plain: no star -/
def noSt : Expr → Bool
  | .Starred _ _ => false
  | _ => true
theorem star_cons {e : Expr} {es : List Expr} {env : Env} (h : noSt e = true) : starEach (e :: es) env = (false, eval e env) :: starEach es env := by
  cases e <;> first | rfl | cases h
theorem backTo_any {pos : Pos} (l : List (Bool × Sem Value)) : (backTo pos l).any (·.1) = l.any (·.1) := by
  unfold backTo
  rw [List.any_map]
  rfl
theorem star_any {pos : Pos} {env : Env} : ∀ {es : List Expr}, es.all noSt = true → (backTo pos (starEach es env)).any (·.1) = false := by
  intro es h
  rw [backTo_any]
  induction es with
  | nil => rfl
  | cons e r ih =>
    simp only [List.all_cons, Bool.and_eq_true] at h
    rw [star_cons h.1, List.any_cons, ih h.2]
    rfl
/-- the keywords' names -/
def kwNames : List Keyword → List (Option Str)
  | [] => []
  | ⟨n, _, _⟩ :: r => n :: kwNames r
theorem kw_names {pos : Pos} {env : Env} : ∀ (kws : List Keyword), (backToKw pos (keywordEach kws env)).map (·.1) = kwNames kws
  | [] => by first | rfl | simp [keywordEach, backToKw, kwNames]
  | ⟨n, v, p⟩ :: r => by
    have ih := kw_names (pos := pos) (env := env) r
    show n :: _ = n :: _
    exact congrArg _ ih
theorem kw_all {pos : Pos} {env : Env} {kws : List Keyword} {ks : List Str} (h : kwNames kws = ks.map some) : (backToKw pos (keywordEach kws env)).all (·.1.isSome) = true ∧ (backToKw pos (keywordEach kws env)).filterMap (·.1) = ks ∧ (backToKw pos (keywordEach kws env)).any (·.1.isNone) = false := by
  have e := kw_names (pos := pos) (env := env) kws
  rw [h] at e
  generalize backToKw pos (keywordEach kws env) = l at e ⊢
  clear h
  induction l generalizing ks with
  | nil =>
    cases ks with
    | nil => exact ⟨rfl, rfl, rfl⟩
    | cons _ _ => cases e
  | cons a r ih =>
    cases ks with
    | nil => cases e
    | cons k ks =>
      simp only [List.map_cons, List.cons.injEq] at e
      obtain ⟨h1, h2, h3⟩ := ih e.2
      refine ⟨?_, ?_, ?_⟩
      · simp only [List.all_cons, h1, e.1]
        rfl
      · rw [List.filterMap_cons, e.1]
        simp only [h2]
      · simp only [List.any_cons, h3, e.1]
        rfl
section
variable {X : Cx} {F : Fm} {pos : Pos} {c : Call}
theorem PK.imp {kws : List Keyword} {t t' : TA} (h : PK X kws t) (k : ∀ σ H Q, t' σ H Q → t σ H Q) : PK X kws t' := ⟨fun p pins s σ H Q I q => h.run p pins s σ H Q I (k σ H Q q)⟩
theorem ks_nil : PK X [] (tVs X.K F (evs c .nil)) := PK.imp L2.pk_nil fun σ H Q ⟨Z, ms, g, R, S⟩ => Sat.here R S [] .nil
theorem ks_cons {m : ME} {r : MEs} {e : Expr} {n : Option Str} {p : Pos} {es : List Keyword} (h : PE X e (tE X.K F (ev c m))) (t : PK X es (tVs X.K F (evs c r))) : PK X (⟨n, e, p⟩ :: es) (tVs X.K F (evs c (.cons m r))) := by
  refine PK.imp (L2.pk_cons (PE.v h) t) fun σ H Q ⟨Z, ms, g, R, S⟩ => ?_
  simp only [evs_cons] at S
  obtain ⟨v, g1, e1, S1⟩ := S.step
  refine ⟨Z, ms, g, R, Sat.mk e1 fun Z1 ms1 H1 l1 R1 x d1 => ?_⟩
  obtain ⟨vs, g2, e2, S2⟩ := (S1.le l1).step
  refine ⟨Z1, ms1, g1, R1, Sat.mk e2 fun Z2 ms2 H2 l2 R2 xs d2 => ?_⟩
  exact S2 Z2 ms2 H2 l2 R2 (x :: xs) (.cons (Den.mono l2 _ _ d1) d2)
def MEs.len : MEs → Nat
  | .nil => 0
  | .cons _ r => r.len + 1
/-- the callee runs -/
theorem call_run {k : Nat} {i : Nat} {t : Tg} {f : Addr} {pins : List (Addr × Obj)} {σ : L2.St} {H : Hp} {s : Shared} {Q : VK} {us ws : List Value} {vs zs : List V} {as bs : List PV} {Z : Addr → Prop} {ms : List Addr} {g : G}
    (C : ∀ (A : Around) (outer : List Env) (s : Shared) (H : Hp) (us ws : List Value) (vs zs : List V) (as bs : List PV) (Z : Addr → Prop) (ms : List Addr) (hp : List Cell) (r : Res) (hp' : List Cell),
      Room k A → A.guards = some [] → Env0 X.prog X.w X.K X.mg X.base A outer s H → us.length = t.p → ws.length = t.ks.length → Vals vs us → Vals zs ws → Dens X.K Z ms H as vs → Dens X.K Z ms H bs zs → HpOk X.K Z ms hp H → c i as bs hp = some (r, hp') →
      codeAny (model X.prog X.w) A (.call (.ref f) ⟨us, t.ks.zip ws⟩) (fun res s' => ∃ u, res = .ok (.ret u) ∧ CE outer X.prog X.w H s (fun v H' => ∃ Z' ms', Pay X.K Z ms H Z' ms' hp' H' r v) u s') s)
    (hr : Room k X.A) (hgd : X.A.guards = some []) (I : Inv X pins σ H s) (hu : us.length = t.p) (hw : ws.length = t.ks.length) (r1 : Vals vs us) (r2 : Vals zs ws) (R : Rel X.K F Z ms g σ H) (d1 : Dens X.K Z ms H as vs) (d2 : Dens X.K Z ms H bs zs)
    (S : Sat X.K F σ Z ms H (callC c i as bs g) fun r Z' ms' g' H' => ∀ x, ResOk X.K F Z' ms' g' σ H' r x → Q x H') : wpAny (model X.prog X.w) X.A (call (.ref f) us (t.ks.zip ws)) (EP X pins σ Q) X.xe s := by
  unfold callC at S
  split at S
  · rename_i r hp' e
    refine wpAny_call (codeAny_mono (C X.A X.stack s H us ws vs zs as bs Z ms g.hp r hp' hr hgd I.env0 hu hw r1 r2 d1 d2 R.hpOk e) fun res s' h => ?_)
    obtain ⟨u, rfl, h⟩ := h
    show EP X pins σ Q u s'
    obtain ⟨v, H', I', rv, Z', ms', py⟩ := I.after h
    obtain ⟨R', ok⟩ := R.paid py
    exact ⟨v, H', I', rv, S Z' ms' H' py.le R' v ok⟩
  · exact S.elim
theorem evs_length {c : Call} : ∀ (es : MEs) (g g' : G) (vs : List PV), evs c es g = .ok vs g' → vs.length = es.len
  | .nil, g, g', vs, e => by
    rw [evs_nil] at e
    cases e
    rfl
  | .cons m r, g, g', vs, e => by
    simp only [evs_cons] at e
    cases h1 : ev c m g with
    | bad => rw [h1] at e; cases e
    | ok a g1 =>
      rw [h1, Ev.R.bind_ok] at e
      cases h2 : evs c r g1 with
      | bad => rw [h2] at e; cases e
      | ok b g2 =>
        rw [h2, Ev.R.bind_ok] at e
        cases e
        show b.length + 1 = r.len + 1
        rw [evs_length r _ _ b h2]
theorem call_sat {i : Nat} {es ks : MEs} {σ : L2.St} {H : Hp} {Q : VK} (h : tE X.K F (ev c (.call i es ks)) σ H Q) : tVs X.K F (evs c es) σ H fun vs H1 => tVs X.K F (evs c ks) σ H1 fun zs H2 =>
    ∃ Z ms g as bs, Rel X.K F Z ms g σ H2 ∧ Dens X.K Z ms H2 as vs ∧ Dens X.K Z ms H2 bs zs ∧ as.length = es.len ∧ bs.length = ks.len ∧ Sat X.K F σ Z ms H2 (callC c i as bs g) fun r Z' ms' g' H' => ∀ x, ResOk X.K F Z' ms' g' σ H' r x → Q x H' := by
  obtain ⟨Z, ms, g, R, S⟩ := h
  simp only [ev_call] at S
  obtain ⟨as, g1, e1, S1⟩ := S.step
  obtain ⟨bs, g2, e2, S2⟩ := S1.step
  refine ⟨Z, ms, g, R, Sat.mk e1 fun Z1 ms1 H1 l1 R1 vs d1 => ?_⟩
  refine ⟨Z1, ms1, g1, R1, Sat.mk e2 fun Z2 ms2 H2 l2 R2 zs d2 => ?_⟩
  exact ⟨Z2, ms2, g2, as, bs, R2, Dens.mono l2 _ _ d1, d2, evs_length es _ _ _ e1, evs_length ks _ _ _ e2, S2.le (l1.trans l2)⟩
theorem nil_out {σ : L2.St} {H : Hp} {Q : List V → Hp → Prop} (h : tVs X.K F (evs c .nil) σ H Q) : Q [] H := by
  obtain ⟨Z, ms, g, R, S⟩ := h
  exact Sat.here R S [] .nil
/-- f(e, .., k = v, ..) -/
theorem e_call {k i : Nat} {t : Tg} {x : Str} {p : Pos} {as : List Expr} {kws : List Keyword} {es ks : MEs} (C : CallOk X.prog X.w X.K X.mg X.base k t (c i)) (hr : Room k X.A) (hgd : X.A.guards = some []) (hx : x = t.name) (hg : L2.Gl X x) (hdb : (x == ("__debug__" : Str)) = false)
    (ha : PA X as (tVs X.K F (evs c es))) (hk : PK X kws (tVs X.K F (evs c ks))) (hst : as.all noSt = true) (hn : kwNames kws = t.ks.map some) (hp : es.len = t.p) (hq : ks.len = t.ks.length) (h1 : as = [] → es = .nil) (h2 : kws = [] → ks = .nil) :
    PE X (.Call (.Name x p) as kws pos) (tE X.K F (ev c (.call i es ks))) := by
  obtain ⟨f, hm, hkp, C⟩ := C.ex
  subst hx
  refine ⟨fun pins s σ H Q I h => ?_⟩
  have h := call_sat h
  refine wpAny_Call_Name_kw (L2.ld_glob I hg hm ?_ hdb)
  obtain ⟨k1, k2, k3⟩ := kw_all (pos := pos) (env := X.env) hn
  have go : ∀ {s2 : Shared} {H2 : Hp} {us ws : List Value} {vs zs : List V}, Inv X pins σ H2 s2 → Vals vs us → Vals zs ws → (∃ Z ms g as bs, Rel X.K F Z ms g σ H2 ∧ Dens X.K Z ms H2 as vs ∧ Dens X.K Z ms H2 bs zs ∧ as.length = es.len ∧ bs.length = ks.len ∧ Sat X.K F σ Z ms H2 (callC c i as bs g) fun r Z' ms' g' H' => ∀ x, ResOk X.K F Z' ms' g' σ H' r x → Q x H') →
      wpAny (model X.prog X.w) X.A (call (.ref f) us (t.ks.zip ws)) (EP X pins σ Q) X.xe s2 := fun {s2 H2 us ws vs zs} I2 r1 r2 q => by
    obtain ⟨Z, ms, g, as, bs, R, d1, d2, l1, l2, S⟩ := q
    exact call_run C hr hgd I2 (by rw [← r1.length, d1.length, l1, hp]) (by rw [← r2.length, d2.length, l2, hq]) r1 r2 R d1 d2 S
  have noK : kws = [] → t.ks = [] := fun e => by
    subst e
    cases q : t.ks with
    | nil => rfl
    | cons a r => rw [q] at hn; cases hn
  cases as with
  | nil =>
    obtain rfl := h1 rfl
    have h := nil_out h
    cases kws with
    | nil =>
      obtain rfl := h2 rfl
      have h := nil_out h
      refine PySem.W.callWith_K0 I.kIn hkp ?_
      have := go (us := []) (ws := []) I .nil .nil h
      rw [noK rfl] at this
      exact this
    | cons kv kr =>
      refine PySem.W.callWith_KW0 (h₀ := X.base) I.ok.mod.kin hkp k1 (L2.thn (hk.run pos pins s σ H _ I h) fun ws s2 ⟨zs, H2, I2, rz, q2⟩ => ⟨I2.kIn, ?_⟩) (by rw [k3]; rfl)
      rw [k2]
      exact go (us := []) I2 .nil rz q2
  | cons e es =>
    simp only [List.all_cons, Bool.and_eq_true] at hst
    have he := star_cons (e := e) (es := es) (env := X.env) hst.1
    have hpl := star_any (pos := pos) (env := X.env) hst.2
    cases kws with
    | nil =>
      refine PySem.W.callWith_K (h₀ := X.base) I.ok.mod.kin hkp (L2.thn (ha.run pos pins s σ H _ I h) fun us s1 ⟨vs, H1, I1, r, q⟩ => ⟨I1.kIn, ?_⟩) he hpl
      obtain rfl := h2 rfl
      have q := nil_out q
      have := go (ws := []) I1 r .nil q
      rw [noK rfl] at this
      exact this
    | cons kv kr =>
      refine PySem.W.callWith_KW (h₀ := X.base) I.ok.mod.kin hkp k1 (L2.thn (ha.run pos pins s σ H _ I h) fun us s1 ⟨vs, H1, I1, r, q⟩ => ?_) ?_ he
      · refine L2.thn (hk.run pos pins s1 σ H1 _ I1 q) fun ws s2 ⟨zs, H2, I2, rz, q2⟩ => ⟨I2.kIn, ?_⟩
        rw [k2]
        exact go I2 r rz q2
      · rw [k3, he, backTo_any, List.any_cons, ← backTo_any (pos := pos), hpl]
        rfl
end
end Ev
/-! # Ev, part 11: the check that an expression of the text is the evaluator's; its soundness. -/
namespace Ev
open PySem PySem.Spec
open L2 (V Hp HO upd SqL SqT Rd Cx Inv PE PT PW PA PS PSs PG PGs PI PK VK TE TT TA TS TG TGs TI Ends RelV Vals It Dp DpAll OpR UnR CallR TruR IxR SlR MtR EP TP AP SP Room Env0 CE)

/-! ### names -/
def seq (a b : Str) : Bool := a.cps.toList == b.cps.toList
theorem seq_eq {a b : Str} (h : seq a b = true) : a = b := by
  unfold seq at h
  rw [beq_iff_eq] at h
  cases a
  cases b
  exact congrArg Str.mk (Array.toList_inj.mp h)
theorem seq_self (a : Str) : seq a a = true := by
  unfold seq
  exact beq_self_eq_true _
theorem seq_ne {a b : Str} (h : seq a b = false) : a ≠ b := fun e => by
  subst e
  rw [seq_self] at h
  cases h
def lk : List (Str × NameKind) → Str → Option NameKind
  | [], _ => none
  | (y, k) :: r, x => if seq y x = true then some k else lk r x
theorem lk_eq : ∀ (l : List (Str × NameKind)) (x : Str), lk l x = l.lookup x
  | [], x => rfl
  | (y, k) :: r, x => by
    unfold lk
    rw [List.lookup_cons]
    by_cases h : x = y
    · subst h
      rw [seq_self]
      simp
    · have h1 : seq y x = false := by
        cases q : seq y x with
        | false => rfl
        | true => exact absurd (seq_eq q).symm h
      rw [h1]
      have h2 : (x == y) = false := by simpa using h
      rw [h2]
      simpa using lk_eq r x
def nth (N : List Str) (i : Nat) (x : Str) : Bool := match N[i]? with
  | some y => seq y x
  | none => false
theorem nth_eq {N : List Str} {i : Nat} {x : Str} (h : nth N i x = true) : N[i]? = some x := by
  unfold nth at h
  split at h
  · rename_i y e
    rw [e, seq_eq h]
  · cases h
def okName (x : Str) : Bool := !seq x "__debug__" && !seq x "__classdict__"
def visC (N : List Str) (sc : Scope) (i : Nat) (x : Str) : Bool := nth N i x && okName x && match lk sc.names x with
  | some .local => true
  | some .cell => true
  | some .free => true
  | _ => false
def locC (N : List Str) (sc : Scope) (fb : Str → Bool) (i : Nat) (x : Str) : Bool := nth N i x && match lk sc.names x with
  | some .local => true
  | some .cell => fb x
  | _ => false
def globC (sc : Scope) (x : Str) : Bool := !seq x "__debug__" && match lk sc.names x with
  | some .globalImplicit => true
  | _ => false
def bltNames : List Str := ["len", "int", "str", "repr", "list", "tuple", "min", "max", "range"]

/-- the place of a run: calls, names, scope -/
structure EC (T : List Tg) (c : Call) (k : Nat) (N : List Str) (sc : Scope) (fb : Str → Bool) (X : Cx) : Prop where
  calm : X.calm = true
  hN : X.N = N
  nd : N.Nodup
  hs : X.env.scope = sc
  hf : X.fn = fb
  gd : X.A.guards = some []
  room : Room k X.A
  blt : ∀ x ∈ bltNames, X.mg x = none
  tg : ∀ (i : Nat) t, T[i]? = some t → CallOk X.prog X.w X.K X.mg X.base k t (c i)
def fbOf (scope : Scope) : Str → Bool := fun x => scope.names.lookup x == some .cell
section
variable {T : List Tg} {c : Call} {k : Nat} {N : List Str} {sc : Scope} {fb : Str → Bool} {X : Cx}
theorem EC.blk (E : EC T c k N sc fb X) (s : Shared) (H : Hp) (scope : Scope) (cl : List (Str × Addr)) (C : Addr) (fp : List Addr) : EC T c k N (L2.relS scope sc) (fbOf scope) (X.blk s H scope (compEnvC scope cl C X.env) fp) :=
  ⟨E.calm, E.hN, E.nd, by rw [← E.hs]; rfl, rfl, E.gd, E.room, E.blt, E.tg⟩
theorem EC.ndX (E : EC T c k N sc fb X) : X.N.Nodup := E.hN ▸ E.nd
theorem EC.u64 (E : EC T c k N sc fb X) : X.A.units + 64 < cLine := by have := E.room.un; omega
theorem EC.u200 (E : EC T c k N sc fb X) : X.A.units + 200 < cLine := by have := E.room.un; omega
theorem EC.vis (E : EC T c k N sc fb X) {i : Nat} {x : Str} (h : visC N sc i x = true) : X.N[i]? = some x ∧ L2.Vis X.env.scope x ∧ (x == ("__debug__" : Str)) = false ∧ (x == ("__classdict__" : Str)) = false := by
  unfold visC okName at h
  simp only [Bool.and_eq_true, Bool.not_eq_true'] at h
  obtain ⟨⟨h1, h2, h3⟩, h4⟩ := h
  refine ⟨by rw [E.hN]; exact nth_eq h1, ?_, by simpa using seq_ne h2, by simpa using seq_ne h3⟩
  rw [E.hs]
  unfold L2.Vis
  rw [lk_eq] at h4
  split at h4
  · exact .inl (by assumption)
  · exact .inr (.inl (by assumption))
  · exact .inr (.inr (by assumption))
  · cases h4
theorem EC.loc (E : EC T c k N sc fb X) {i : Nat} {x : Str} (h : locC N sc fb i x = true) : X.N[i]? = some x ∧ L2.Loc X.env.scope x ∧ (X.fn x = true ∨ X.env.scope.names.lookup x = some .local) := by
  unfold locC at h
  simp only [Bool.and_eq_true] at h
  obtain ⟨h1, h4⟩ := h
  refine ⟨by rw [E.hN]; exact nth_eq h1, ?_⟩
  rw [E.hs, E.hf]
  unfold L2.Loc
  rw [lk_eq] at h4
  split at h4
  · exact ⟨.inl (by assumption), .inr (by assumption)⟩
  · exact ⟨.inr (by assumption), .inl h4⟩
  · cases h4
theorem EC.glob (E : EC T c k N sc fb X) {x : Str} (h : globC sc x = true) : L2.Gl X x ∧ (x == ("__debug__" : Str)) = false := by
  unfold globC at h
  simp only [Bool.and_eq_true, Bool.not_eq_true'] at h
  obtain ⟨h1, h4⟩ := h
  refine ⟨?_, by simpa using seq_ne h1⟩
  show X.env.scope.names.lookup x = _
  rw [E.hs]
  rw [lk_eq] at h4
  split at h4
  · assumption
  · cases h4
end

/-! ### targets -/
def chLs (N : List Str) (sc : Scope) (fb : Str → Bool) : List Nat → List Expr → Bool
  | [], [] => true
  | i :: is, e :: es => (match e with
    | .Name x _ => locC N sc fb i x
    | _ => false) && chLs N sc fb is es
  | _, _ => false
def chT (N : List Str) (sc : Scope) (fb : Str → Bool) : MT → Expr → Bool
  | .nm i => fun e => match e with
    | .Name x _ => locC N sc fb i x
    | _ => false
  | .tp is => fun e => match e with
    | .Tuple es _ _ => chLs N sc fb is es
    | _ => false
def tgNames : Expr → List Str
  | .Name x _ => [x]
  | .Tuple es _ _ => es.filterMap fun e => match e with
    | .Name x _ => some x
    | _ => none
  | _ => []
section
variable {T : List Tg} {c : Call} {k : Nat} {N : List Str} {sc : Scope} {fb : Str → Bool} {X : Cx}
theorem chLs_ok (E : EC T c k N sc fb X) : ∀ {is : List Nat} {es : List Expr}, chLs N sc fb is es = true → PGs X es (gNms is) ∧ (assignEach es X.env).length = is.length ∧ (assignEach es X.env).findIdx? (·.1) = none ∧ (assignEach es X.env).any (·.1) = false
  | [], [], _ => ⟨L2.pgs_nil, rfl, rfl, rfl⟩
  | [], _ :: _, h => by simp [chLs] at h
  | _ :: _, [], h => by simp [chLs] at h
  | i :: is, e :: es, h => by
    simp only [chLs, Bool.and_eq_true] at h
    obtain ⟨h1, h2⟩ := h
    obtain ⟨i1, i2, i3, i4⟩ := chLs_ok E h2
    split at h1
    · obtain ⟨n1, n2, n3⟩ := E.loc h1
      refine ⟨L2.pgs_cons (L2.pg_name E.ndX n1 n2 n3) i1 rfl, ?_, ?_, ?_⟩
      · show (_ :: assignEach es X.env).length = _
        simp [i2]
      · show ((false, _) :: assignEach es X.env).findIdx? (·.1) = none
        rw [List.findIdx?_cons]
        simp [i3]
      · show ((false, _) :: assignEach es X.env).any (·.1) = false
        rw [List.any_cons, i4]
        rfl
    · cases h1
theorem chT_ok (E : EC T c k N sc fb X) {t : MT} {e : Expr} (h : chT N sc fb t e = true) : PG X e (gT X.K t) := by
  cases t with
  | nm i =>
    simp only [chT] at h
    split at h
    · obtain ⟨n1, n2, n3⟩ := E.loc h
      exact L2.pg_name E.ndX n1 n2 n3
    · cases h
  | tp is =>
    simp only [chT] at h
    split at h
    · obtain ⟨i1, i2, i3, _⟩ := chLs_ok E h
      exact L2.pg_tup E.calm i1 i2 i3
    · cases h
end

/-! ### expressions -/
def chC : PV → Expr → Bool
  | .int i => fun e => match e with
    | .Constant (.int j) _ _ => decide (i = j)
    | _ => false
  | .bl i => fun e => match e with
    | .Constant (.bool j) _ _ => decide (i = j)
    | _ => false
  | .non => fun e => match e with
    | .Constant .none _ _ => true
    | _ => false
  | .str i => fun e => match e with
    | .Constant (.str j) _ _ => seq i j
    | _ => false
  | _ => fun _ => false
def isSl : Expr → Bool
  | .Slice .. => true
  | _ => false
def isSet : Expr → Bool
  | .Set .. => true
  | _ => false
def isCall : Expr → Bool
  | .Call .. => true
  | _ => false
/-- and, or: what stands behind the first -/
def rest1 (o : BoolOp) (y : Expr) (r : List Expr) (pos : Pos) : Expr := match r with
  | [] => y
  | z :: r => .BoolOp o (y :: z :: r) pos
def kwC : List Keyword → List Str → Bool
  | [], [] => true
  | ⟨n, _, _⟩ :: r, k :: ks => (match n with
    | some n => seq n k
    | none => false) && kwC r ks
  | _, _ => false
theorem kwC_ok : ∀ {kws : List Keyword} {ks : List Str}, kwC kws ks = true → kwNames kws = ks.map some
  | [], [], _ => rfl
  | [], _ :: _, h => by simp [kwC] at h
  | _ :: _, [], h => by simp [kwC] at h
  | ⟨n, v, p⟩ :: r, k :: ks, h => by
    simp only [kwC, Bool.and_eq_true] at h
    obtain ⟨h1, h2⟩ := h
    split at h1
    · simp only [kwNames, List.map_cons, seq_eq h1, kwC_ok h2]
    · cases h1
section
variable (T : List Tg) (N : List Str)
mutual
def chE : Scope → (Str → Bool) → ME → Expr → Bool
  | sc, fb, .cst v => fun e => chC v e
  | sc, fb, .var i => fun e => match e with
    | .Name x _ => visC N sc i x
    | _ => false
  | sc, fb, .tup es => fun e => match e with
    | .Tuple xs _ _ => chEs sc fb es xs
    | _ => false
  | sc, fb, .lst es => fun e => match e with
    | .List xs _ => chEs sc fb es xs
    | _ => false
  | sc, fb, .bin o a b => fun e => match e with
    | .BinOp x p y _ => decide (bop o = p) && chE sc fb a x && chE sc fb b y
    | _ => false
  | sc, fb, .cmp o a b => fun e => match e with
    | .Compare x [p] [y] _ => decide (cop o = p) && chE sc fb a x && chE sc fb b y && !behindInMarks p y
    | _ => false
  | sc, fb, .neg a => fun e => match e with
    | .UnaryOp .USub x _ => chE sc fb a x
    | _ => false
  | sc, fb, .nt a => fun e => match e with
    | .UnaryOp .Not x _ => chE sc fb a x
    | _ => false
  | sc, fb, .an a b => fun e => match e with
    | .BoolOp .And (x :: y :: r) pos => chE sc fb a x && chE sc fb b (rest1 .And y r pos)
    | _ => false
  | sc, fb, .orr a b => fun e => match e with
    | .BoolOp .Or (x :: y :: r) pos => chE sc fb a x && chE sc fb b (rest1 .Or y r pos)
    | _ => false
  | sc, fb, .ite t a b => fun e => match e with
    | .IfExp z x y _ => chE sc fb t z && chE sc fb a x && chE sc fb b y
    | _ => false
  | sc, fb, .idx a b => fun e => match e with
    | .Subscript x y _ => !isSl y && chE sc fb a x && chE sc fb b y
    | _ => false
  | sc, fb, .slc a lo hi => fun e => match e with
    | .Subscript x (.Slice l h none _) _ => chE sc fb a x && chO sc fb lo l && chO sc fb hi h
    | _ => false
  | sc, fb, .rev a => fun e => match e with
    | .Subscript x (.Slice none none (some (.UnaryOp .USub (.Constant (.int 1) _ _) _)) _) _ => chE sc fb a x
    | _ => false
  | sc, fb, .call i es ks => fun e => match e with
    | .Call (.Name x _) as kws _ => (match T[i]? with
      | some t => seq x t.name && globC sc x && chEs sc fb es as && chKs sc fb ks kws && kwC kws t.ks && decide (es.len = t.p) && decide (ks.len = t.ks.length)
      | none => false)
    | _ => false
  | sc, fb, .bi f es => fun e => match e with
    | .Call (.Name x _) as [] _ => seq x f.name && globC sc x && !as.isEmpty && chEs sc fb es as
    | _ => false
  | sc, fb, .join o a => fun e => match e with
    | .Call (.Attribute x m ap) [y] [] pos => seq m "join" && (ap.endLine == pos.line) && !isCall x && noSt y && chE sc fb o x && chE sc fb a y
    | _ => false
  | sc, fb, .app i a => fun e => match e with
    | .Call (.Attribute (.Name x _) m ap) [y] [] pos => seq m "append" && (ap.endLine == pos.line) && visC N sc i x && noSt y && chE sc fb a y
    | _ => false
  | sc, fb, .ext i a => fun e => match e with
    | .Call (.Attribute (.Name x _) m ap) [y] [] pos => seq m "extend" && (ap.endLine == pos.line) && visC N sc i x && noSt y && chE sc fb a y
    | _ => false
  | sc, fb, .lc t it k el => fun e => match e with
    | .ListComp elt [⟨tg, iter, ifs, 0⟩] scope _ => L2.blkC N sc scope ((tgNames tg).zip t.slots) && decide ((tgNames tg).length = t.slots.length) && chI sc fb it iter && chT N (L2.relS scope sc) (fbOf scope) t tg && chF (L2.relS scope sc) (fbOf scope) k ifs &&
      chE (L2.relS scope sc) (fbOf scope) el elt
    | _ => false
  | sc, fb, .fs es => fun e => match e with
    | .JoinedStr (e1 :: e2 :: r) _ => chP sc fb es (e1 :: e2 :: r)
    | _ => false
  | sc, fb, .dct ks vs => fun e => match e with
    | .Dict keys values _ => chD sc fb vs ks keys values && !keys.isEmpty && decide (keys.length ≤ 15)
    | _ => false
def chEs : Scope → (Str → Bool) → MEs → List Expr → Bool
  | sc, fb, .nil => fun es => es.isEmpty
  | sc, fb, .cons m r => fun es => match es with
    | e :: es => noSt e && chE sc fb m e && chEs sc fb r es
    | [] => false
def chKs : Scope → (Str → Bool) → MEs → List Keyword → Bool
  | sc, fb, .nil => fun es => es.isEmpty
  | sc, fb, .cons m r => fun es => match es with
    | ⟨_, e, _⟩ :: es => chE sc fb m e && chKs sc fb r es
    | [] => false
def chP : Scope → (Str → Bool) → MEs → List Expr → Bool
  | sc, fb, .nil => fun es => es.isEmpty
  | sc, fb, .cons m r => fun es => match es with
    | e :: es => (match e with
      | .FormattedValue x (-1) none _ => chE sc fb m x
      | .Constant (.str s) _ _ => (match m with
        | .cst (.str t) => seq t s
        | _ => false)
      | _ => false) && chP sc fb r es
    | [] => false
def chD : Scope → (Str → Bool) → MEs → List Str → List (Option Expr) → List Expr → Bool
  | sc, fb, .nil => fun ks keys values => ks.isEmpty && keys.isEmpty && values.isEmpty
  | sc, fb, .cons m r => fun ks keys values => match ks, keys, values with
    | s :: ks, some (.Constant (.str s') _ _) :: keys, v :: values => seq s s' && chE sc fb m v && chD sc fb r ks keys values
    | _, _, _ => false
def chO : Scope → (Str → Bool) → MO → Option Expr → Bool
  | sc, fb, .no => fun e => e.isNone
  | sc, fb, .so m => fun e => match e with
    | some e => chE sc fb m e
    | none => false
def chF : Scope → (Str → Bool) → MO → List Expr → Bool
  | sc, fb, .no => fun es => es.isEmpty
  | sc, fb, .so m => fun es => match es with
    | [e] => chE sc fb m e
    | _ => false
def chI : Scope → (Str → Bool) → MI → Expr → Bool
  | sc, fb, .it m => fun e => !isSet e && chE sc fb m e
  | sc, fb, .rg1 a => fun e => match e with
    | .Call (.Name x _) [y] [] _ => seq x "range" && globC sc x && noSt y && chE sc fb a y
    | _ => false
  | sc, fb, .rg2 a b => fun e => match e with
    | .Call (.Name x _) [y, z] [] _ => seq x "range" && globC sc x && noSt y && noSt z && chE sc fb a y && chE sc fb b z
    | _ => false
end
end
end Ev
/-! # Ev, part 12: the check is sound: expressions. -/
namespace Ev
open PySem PySem.Spec
open L2 (V Hp HO upd SqL SqT Rd Cx Inv PE PT PW PA PS PSs PG PGs PI PK VK TE TT TA TS TG TGs TI Ends RelV Vals It Dp DpAll OpR UnR CallR TruR IxR SlR MtR EP TP AP SP Room Env0 CE)
section
variable {T : List Tg} {c : Call} {k : Nat} {N : List Str}
def Tri (c : Call) (X : Cx) (m : ME) (e : Expr) : Prop := (∀ F, PE X e (tE X.K F (ev c m))) ∧ (∀ F, PT X e (tT X.K F (tst c m))) ∧ ∀ o ys pos, e = .BoolOp o ys pos → ∀ F, PW X e (tT X.K F (tst c m))
theorem tri_val {X : Cx} {m : ME} {e : Expr} (h : ∀ F, PE X e (tE X.K F (ev c m))) (ht : tst c m = fun g => (ev c m g).bind fun r g1 => lift (truV r.pv) g1) (he : ∀ whole, isTrue e X.env whole = (do let v ← whole; standAt e.pos; holding [v] (truthy v))) (nb : ∀ o ys pos, e ≠ .BoolOp o ys pos) : Tri c X m e := by
  refine ⟨h, fun F => ?_, fun o ys pos q => absurd q (nb o ys pos)⟩
  rw [ht]
  exact t_val (h F) he
theorem chC_ok {X : Cx} {v : PV} {e : Expr} (h : chC v e = true) : Tri c X (.cst v) e := by
  cases v with
  | int i =>
    simp only [chC] at h
    split at h
    · obtain rfl := of_decide_eq_true h
      exact tri_val (fun F => e_int) rfl (fun _ => rfl) (by intros; simp)
    · cases h
  | bl i =>
    simp only [chC] at h
    split at h
    · obtain rfl := of_decide_eq_true h
      exact tri_val (fun F => e_bl) rfl (fun _ => rfl) (by intros; simp)
    · cases h
  | non =>
    simp only [chC] at h
    split at h
    · exact tri_val (fun F => e_non) rfl (fun _ => rfl) (by intros; simp)
    · cases h
  | str i =>
    simp only [chC] at h
    split at h
    · obtain rfl := seq_eq h
      exact tri_val (fun F => e_str) rfl (fun _ => rfl) (by intros; simp)
    · cases h
  | _ => simp [chC] at h
theorem op_ok {sc : Scope} {fb : Str → Bool} {X : Cx} {m : ME} {e : Expr} (E : EC T c k N sc fb X) (h : chE T N sc fb m e = true) (hp : Tri c X m e) : ∀ F, PE X e (tO X.K F (opd c m)) := by
  intro F
  cases m with
  | var i =>
    simp only [chE] at h
    split at h
    · obtain ⟨h1, h2, h3, h4⟩ := E.vis h
      exact o_var h1 h2 h3 h4
    · cases h
  | _ => exact o_of (hp.1 F)
theorem pe_bool1 {X : Cx} {o : BoolOp} {y : Expr} {pos : Pos} {t : TE} (h : PE X y t) : PE X (.BoolOp o [y] pos) t := by
  refine ⟨fun pins s σ H Q I q => ?_⟩
  have e : eval (.BoolOp o [y] pos) X.env = eval y X.env := by
    first | rfl | simp [eval, boolOp, evalEach]
  rw [e]
  exact h.run pins s σ H Q I q
theorem rest_pe {X : Cx} {o : BoolOp} {y : Expr} {r : List Expr} {pos : Pos} {t : TE} (h : PE X (rest1 o y r pos) t) : PE X (.BoolOp o (y :: r) pos) t := by
  cases r with
  | nil => exact pe_bool1 h
  | cons z r => exact h
theorem rest_and {X : Cx} {y : Expr} {r : List Expr} {pos : Pos} {m : ME} (h : Tri c X m (rest1 .And y r pos)) (F : Fm) : PW X (.BoolOp .And (y :: r) pos) (tT X.K F (tst c m)) := by
  cases r with
  | nil => exact L2.pw_and1 (h.2.1 F)
  | cons z r => exact h.2.2 _ _ _ rfl F
theorem rest_or {X : Cx} {y : Expr} {r : List Expr} {pos : Pos} {m : ME} (h : Tri c X m (rest1 .Or y r pos)) (F : Fm) : PW X (.BoolOp .Or (y :: r) pos) (tT X.K F (tst c m)) := by
  cases r with
  | nil => exact L2.pw_or1 (h.2.1 F)
  | cons z r => exact h.2.2 _ _ _ rfl F
theorem noJoin {x : Expr} {a : Str} {env : Env} {w : Sem Value} (h : isCall x = false) : attributeBase x a env w = w := by
  unfold attributeBase
  cases x <;> first | rfl | cases h
theorem noSl {y : Expr} (h : isSl y = false) : ∀ lo hi st p, y ≠ .Slice lo hi st p := by
  rintro lo hi st p rfl
  cases h
theorem noSet {e : Expr} {env : Env} (h : isSet e = false) (x : Value) : foldedSetIterable e env x = pure x := by
  unfold foldedSetIterable
  cases e <;> first | rfl | cases h
theorem blt_in (f : BI) : f.name ∈ bltNames := by cases f <;> decide +kernel
mutual
theorem sndE : ∀ (m : ME) (sc : Scope) (fb : Str → Bool) (X : Cx) (e : Expr), EC T c k N sc fb X → chE T N sc fb m e = true → Tri c X m e
  | .cst v, sc, fb, X, e, E, h => chC_ok (by simpa only [chE] using h)
  | .var i, sc, fb, X, e, E, h => by
    simp only [chE] at h
    split at h
    · obtain ⟨h1, h2, h3, h4⟩ := E.vis h
      exact tri_val (fun F => e_var h1 h2 h3 h4) rfl (fun _ => rfl) (by intros; simp)
    · cases h
  | .tup es, sc, fb, X, e, E, h => by
    simp only [chE] at h
    split at h
    · exact tri_val (fun F => e_tup ((sndEs es sc fb X _ E h).1 F)) rfl (fun _ => rfl) (by intros; simp)
    · cases h
  | .lst es, sc, fb, X, e, E, h => by
    simp only [chE] at h
    split at h
    · exact tri_val (fun F => e_lst ((sndEs es sc fb X _ E h).1 F)) rfl (fun _ => rfl) (by intros; simp)
    · cases h
  | .bin o a b, sc, fb, X, e, E, h => by
    simp only [chE] at h
    split at h
    · simp only [Bool.and_eq_true] at h
      obtain ⟨⟨h0, h1⟩, h2⟩ := h
      obtain rfl := of_decide_eq_true h0
      exact tri_val (fun F => e_bin (op_ok E h1 (sndE a sc fb X _ E h1) F) (op_ok E h2 (sndE b sc fb X _ E h2) F)) rfl (fun _ => rfl) (by intros; simp)
    · cases h
  | .cmp o a b, sc, fb, X, e, E, h => by
    simp only [chE] at h
    split at h
    · simp only [Bool.and_eq_true, Bool.not_eq_true'] at h
      obtain ⟨⟨⟨h0, h1⟩, h2⟩, h3⟩ := h
      obtain rfl := of_decide_eq_true h0
      have p1 := op_ok E h1 (sndE a sc fb X _ E h1)
      have p2 := op_ok E h2 (sndE b sc fb X _ E h2)
      exact ⟨fun F => e_cmp E.u64 (p1 F) (p2 F) h3, fun F => t_cmp E.u64 (p1 F) (p2 F) h3, by intros; simp at *⟩
    · cases h
  | .neg a, sc, fb, X, e, E, h => by
    simp only [chE] at h
    split at h
    · exact tri_val (fun F => e_neg ((sndE a sc fb X _ E h).1 F)) rfl (fun _ => rfl) (by intros; simp)
    · cases h
  | .nt a, sc, fb, X, e, E, h => by
    simp only [chE] at h
    split at h
    · exact ⟨fun F => e_nt ((sndE a sc fb X _ E h).1 F), fun F => t_nt ((sndE a sc fb X _ E h).2.1 F), by intros; simp at *⟩
    · cases h
  | .an a b, sc, fb, X, e, E, h => by
    simp only [chE] at h
    split at h
    · simp only [Bool.and_eq_true] at h
      obtain ⟨h1, h2⟩ := h
      have p1 := sndE a sc fb X _ E h1
      have p2 := sndE b sc fb X _ E h2
      have w : ∀ F, PW X _ _ := fun F => w_an (p1.2.1 F) (rest_and p2 F)
      refine ⟨fun F => e_an (p1.1 F) (rest_pe (p2.1 F)), fun F => L2.PW.pt (w F), fun o ys pos q F => ?_⟩
      exact w F
    · cases h
  | .orr a b, sc, fb, X, e, E, h => by
    simp only [chE] at h
    split at h
    · simp only [Bool.and_eq_true] at h
      obtain ⟨h1, h2⟩ := h
      have p1 := sndE a sc fb X _ E h1
      have p2 := sndE b sc fb X _ E h2
      have w : ∀ F, PW X _ _ := fun F => w_or (p1.2.1 F) (rest_or p2 F)
      refine ⟨fun F => e_or (p1.1 F) (rest_pe (p2.1 F)), fun F => L2.PW.pt (w F), fun o ys pos q F => ?_⟩
      exact w F
    · cases h
  | .ite t a b, sc, fb, X, e, E, h => by
    simp only [chE] at h
    split at h
    · simp only [Bool.and_eq_true] at h
      obtain ⟨⟨h0, h1⟩, h2⟩ := h
      have p0 := sndE t sc fb X _ E h0
      have p1 := sndE a sc fb X _ E h1
      have p2 := sndE b sc fb X _ E h2
      exact ⟨fun F => e_ite (p0.2.1 F) (p1.1 F) (p2.1 F), fun F => t_ite (p0.2.1 F) (p1.2.1 F) (p2.2.1 F), by intros; simp at *⟩
    · cases h
  | .idx a b, sc, fb, X, e, E, h => by
    simp only [chE] at h
    split at h
    · simp only [Bool.and_eq_true, Bool.not_eq_true'] at h
      obtain ⟨⟨h0, h1⟩, h2⟩ := h
      exact tri_val (fun F => e_idx E.u64 (op_ok E h1 (sndE a sc fb X _ E h1) F) (op_ok E h2 (sndE b sc fb X _ E h2) F) (noSl h0)) rfl (fun _ => rfl) (by intros; simp)
    · cases h
  | .slc a lo hi, sc, fb, X, e, E, h => by
    simp only [chE] at h
    split at h
    · simp only [Bool.and_eq_true] at h
      obtain ⟨⟨h0, h1⟩, h2⟩ := h
      exact tri_val (fun F => e_slc (op_ok E h0 (sndE a sc fb X _ E h0) F) (sndO lo sc fb X _ E h1 F) (sndO hi sc fb X _ E h2 F)) rfl (fun _ => rfl) (by intros; simp)
    · cases h
  | .rev a, sc, fb, X, e, E, h => by
    simp only [chE] at h
    split at h
    · exact tri_val (fun F => e_rev (op_ok E h (sndE a sc fb X _ E h) F)) rfl (fun _ => rfl) (by intros; simp)
    · cases h
  | .call i es ks, sc, fb, X, e, E, h => by
    simp only [chE] at h
    split at h
    · split at h
      · rename_i t ht
        simp only [Bool.and_eq_true] at h
        obtain ⟨⟨⟨⟨⟨⟨h0, h1⟩, h2⟩, h3⟩, h4⟩, h5⟩, h6⟩ := h
        obtain ⟨g1, g2⟩ := E.glob h1
        have p := sndEs es sc fb X _ E h2
        refine tri_val (fun F => e_call (E.tg i t ht) E.room E.gd (seq_eq h0) g1 g2 (p.1 F) (sndKs ks sc fb X _ E h3 F) p.2.2 (kwC_ok h4) (of_decide_eq_true h5) (of_decide_eq_true h6) (fun q => ?_) (fun q => ?_)) rfl (fun _ => rfl) (by intros; simp)
        · subst q
          cases es with
          | nil => rfl
          | cons _ _ => simp [chEs] at h2
        · subst q
          cases ks with
          | nil => rfl
          | cons _ _ => simp [chKs] at h3
      · cases h
    · cases h
  | .bi f es, sc, fb, X, e, E, h => by
    simp only [chE] at h
    split at h
    · simp only [Bool.and_eq_true, Bool.not_eq_true'] at h
      obtain ⟨⟨⟨h0, h1⟩, h2⟩, h3⟩ := h
      obtain rfl := seq_eq h0
      obtain ⟨g1, g2⟩ := E.glob h1
      have p := sndEs es sc fb X _ E h3
      rename_i as _
      cases as with
      | nil => cases h2
      | cons y ys =>
        cases es with
        | nil => simp [chEs] at h3
        | cons m r =>
          have st := p.2.2
          simp only [List.all_cons, Bool.and_eq_true] at st
          exact tri_val (fun F => e_bi E.calm E.gd E.u200 g1 (E.blt _ (blt_in f)) (p.2.1 F) (star_cons st.1) (star_any st.2)) rfl (fun _ => rfl) (by intros; simp)
    · cases h
  | .join o a, sc, fb, X, e, E, h => by
    simp only [chE] at h
    split at h
    · simp only [Bool.and_eq_true, Bool.not_eq_true'] at h
      obtain ⟨⟨⟨⟨⟨h0, h1⟩, h2⟩, h3⟩, h4⟩, h5⟩ := h
      obtain rfl := seq_eq h0
      exact tri_val (fun F => e_join ((sndE o sc fb X _ E h4).1 F) (op_ok E h5 (sndE a sc fb X _ E h5) F) (star_cons h3) (noJoin h2) h1) rfl (fun _ => rfl) (by intros; simp)
    · cases h
  | .app i a, sc, fb, X, e, E, h => by
    simp only [chE] at h
    split at h
    · simp only [Bool.and_eq_true] at h
      obtain ⟨⟨⟨⟨h0, h1⟩, h2⟩, h3⟩, h4⟩ := h
      obtain rfl := seq_eq h0
      obtain ⟨v1, v2, v3, v4⟩ := E.vis h2
      exact tri_val (fun F => e_app (L2.pe_var v1 v2 v3 v4) ((sndE a sc fb X _ E h4).1 F) h1 (star_cons h3)) rfl (fun _ => rfl) (by intros; simp)
    · cases h
  | .ext i a, sc, fb, X, e, E, h => by
    simp only [chE] at h
    split at h
    · simp only [Bool.and_eq_true] at h
      obtain ⟨⟨⟨⟨h0, h1⟩, h2⟩, h3⟩, h4⟩ := h
      obtain rfl := seq_eq h0
      obtain ⟨v1, v2, v3, v4⟩ := E.vis h2
      exact tri_val (fun F => e_ext (L2.pe_var v1 v2 v3 v4) ((sndE a sc fb X _ E h4).1 F) h1 (star_cons h3)) rfl (fun _ => rfl) (by intros; simp)
    · cases h
  | .lc t it kk el, sc, fb, X, e, E, h => by
    simp only [chE] at h
    split at h
    · simp only [Bool.and_eq_true] at h
      obtain ⟨⟨⟨⟨⟨h0, h1⟩, h2⟩, h3⟩, h4⟩, h5⟩ := h
      have hi := sndI it sc fb X _ E h2
      refine tri_val (fun F => e_lc E.calm E.ndX (hi.1 F _) (by rw [E.hN, E.hs]; exact L2.blkOk_by h0) (List.map_snd_zip (by rw [of_decide_eq_true h1]; exact Nat.le_refl _)) (fun s H C cl fp => chT_ok (E.blk s H _ cl C fp) h3)
        (fun s H C cl fp => sndF kk _ _ _ _ (E.blk s H _ cl C fp) h4) (fun s H C cl fp => PE.vx (sndE el _ _ _ _ (E.blk s H _ cl C fp) h5).1) hi.2) rfl (fun _ => rfl) (by intros; simp)
    · cases h
  | .fs es, sc, fb, X, e, E, h => by
    simp only [chE] at h
    split at h
    · exact tri_val (fun F => e_fs (sndP es sc fb X _ E h F)) rfl (fun _ => rfl) (by intros; simp)
    · cases h
  | .dct ks vs, sc, fb, X, e, E, h => by
    simp only [chE] at h
    split at h
    · simp only [Bool.and_eq_true, Bool.not_eq_true'] at h
      obtain ⟨⟨h0, h1⟩, h2⟩ := h
      rename_i pos
      have p := sndD vs ks sc fb X _ _ pos E h0
      refine tri_val (fun F => e_dct p.1 p.2.1 p.2.2 (fun q => ?_) (of_decide_eq_true h2)) rfl (fun _ => rfl) (by intros; simp)
      subst q
      cases h1
    · cases h
theorem sndEs : ∀ (ms : MEs) (sc : Scope) (fb : Str → Bool) (X : Cx) (es : List Expr), EC T c k N sc fb X → chEs T N sc fb ms es = true → (∀ F, PA X es (tVs X.K F (evs c ms))) ∧ (∀ F, PA X es (tOs X.K F (opds c ms))) ∧ es.all noSt = true
  | .nil, sc, fb, X, es, E, h => by
    simp only [chEs, List.isEmpty_iff] at h
    subst h
    exact ⟨fun F => as_nil, fun F => os_nil, rfl⟩
  | .cons m r, sc, fb, X, es, E, h => by
    simp only [chEs] at h
    split at h
    · simp only [Bool.and_eq_true] at h
      obtain ⟨⟨h0, h1⟩, h2⟩ := h
      have p1 := sndE m sc fb X _ E h1
      have p2 := sndEs r sc fb X _ E h2
      refine ⟨fun F => as_cons (p1.1 F) (p2.1 F) (star_cons h0), fun F => os_cons (op_ok E h1 p1 F) (p2.2.1 F) (star_cons h0), ?_⟩
      simp only [List.all_cons, h0, p2.2.2, Bool.and_self]
    · cases h
theorem sndKs : ∀ (ms : MEs) (sc : Scope) (fb : Str → Bool) (X : Cx) (es : List Keyword), EC T c k N sc fb X → chKs T N sc fb ms es = true → ∀ F, PK X es (tVs X.K F (evs c ms))
  | .nil, sc, fb, X, es, E, h => by
    simp only [chKs, List.isEmpty_iff] at h
    subst h
    exact fun F => ks_nil
  | .cons m r, sc, fb, X, es, E, h => by
    simp only [chKs] at h
    split at h
    · simp only [Bool.and_eq_true] at h
      obtain ⟨h1, h2⟩ := h
      have p1 := sndE m sc fb X _ E h1
      have p2 := sndKs r sc fb X _ E h2
      exact fun F => ks_cons (p1.1 F) (p2 F)
    · cases h
theorem sndP : ∀ (ms : MEs) (sc : Scope) (fb : Str → Bool) (X : Cx) (es : List Expr), EC T c k N sc fb X → chP T N sc fb ms es = true → ∀ F, L2.PJ X es (tParts X.K F c ms)
  | .nil, sc, fb, X, es, E, h => by
    simp only [chP, List.isEmpty_iff] at h
    subst h
    exact fun F => .nil
  | .cons m r, sc, fb, X, es, E, h => by
    simp only [chP] at h
    split at h
    · simp only [Bool.and_eq_true] at h
      obtain ⟨h1, h2⟩ := h
      have p2 := sndP r sc fb X _ E h2
      split at h1
      · have p1 := sndE m sc fb X _ E h1
        exact fun F => .cons (part_fmt (p1.1 F)) (p2 F)
      · split at h1
        · obtain rfl := seq_eq h1
          exact fun F => .cons part_str (p2 F)
        · cases h1
      · cases h1
    · cases h
theorem sndD : ∀ (ms : MEs) (ks : List Str) (sc : Scope) (fb : Str → Bool) (X : Cx) (keys : List (Option Expr)) (values : List Expr) (pos : Pos), EC T c k N sc fb X → chD T N sc fb ms ks keys values = true →
    L2.PPs X pos keys values (dTrs X.K c ks ms) ∧ keys.all (·.isSome) = true ∧ keys.length = values.length
  | .nil, ks, sc, fb, X, keys, values, pos, E, h => by
    simp only [chD, Bool.and_eq_true, List.isEmpty_iff] at h
    obtain ⟨⟨rfl, rfl⟩, rfl⟩ := h
    exact ⟨L2.pps_nil, rfl, rfl⟩
  | .cons m r, ks, sc, fb, X, keys, values, pos, E, h => by
    simp only [chD] at h
    split at h
    · simp only [Bool.and_eq_true] at h
      obtain ⟨⟨h0, h1⟩, h2⟩ := h
      obtain rfl := seq_eq h0
      have p1 := sndE m sc fb X _ E h1
      have p2 := sndD r _ sc fb X _ _ pos E h2
      refine ⟨L2.pps_cons L2.pe_str (PE.vx p1.1) p2.1, ?_, ?_⟩
      · simp only [List.all_cons, p2.2.1, Option.isSome_some, Bool.and_self]
      · simp only [List.length_cons, p2.2.2]
    · cases h
theorem sndO : ∀ (m : MO) (sc : Scope) (fb : Str → Bool) (X : Cx) (e : Option Expr), EC T c k N sc fb X → chO T N sc fb m e = true → ∀ F, L2.PO X e (tI X.K F (evo c m))
  | .no, sc, fb, X, e, E, h => by
    simp only [chO, Option.isNone_iff_eq_none] at h
    subst h
    exact fun F => i_no
  | .so m, sc, fb, X, e, E, h => by
    simp only [chO] at h
    split at h
    · exact fun F => i_so ((sndE m sc fb X _ E h).1 F)
    · cases h
theorem sndF : ∀ (m : MO) (sc : Scope) (fb : Str → Bool) (X : Cx) (es : List Expr), EC T c k N sc fb X → chF T N sc fb m es = true → L2.PTs X es (tTx X.K (tsto c m))
  | .no, sc, fb, X, es, E, h => by
    simp only [chF, List.isEmpty_iff] at h
    subst h
    exact s_no
  | .so m, sc, fb, X, es, E, h => by
    simp only [chF] at h
    split at h
    · exact s_so (sndE m sc fb X _ E h).2.1
    · cases h
theorem sndI : ∀ (m : MI) (sc : Scope) (fb : Str → Bool) (X : Cx) (e : Expr), EC T c k N sc fb X → chI T N sc fb m e = true → (∀ F tg, PI X tg e (tIt X.K F (evi c m))) ∧ ∀ x, foldedSetIterable e X.env x = pure x
  | .it m, sc, fb, X, e, E, h => by
    simp only [chI, Bool.and_eq_true, Bool.not_eq_true'] at h
    exact ⟨fun F tg => p_it ((sndE m sc fb X _ E h.2).1 F), noSet h.1⟩
  | .rg1 a, sc, fb, X, e, E, h => by
    simp only [chI] at h
    split at h
    · simp only [Bool.and_eq_true] at h
      obtain ⟨⟨⟨h0, h1⟩, h2⟩, h3⟩ := h
      obtain rfl := seq_eq h0
      obtain ⟨g1, g2⟩ := E.glob h1
      exact ⟨fun F tg => p_rg1 g1 (E.blt _ (by decide +kernel)) ((sndE a sc fb X _ E h3).1 F) (star_cons h2), fun _ => rfl⟩
    · cases h
  | .rg2 a b, sc, fb, X, e, E, h => by
    simp only [chI] at h
    split at h
    · simp only [Bool.and_eq_true] at h
      obtain ⟨⟨⟨⟨⟨h0, h1⟩, h2⟩, h3⟩, h4⟩, h5⟩ := h
      obtain rfl := seq_eq h0
      obtain ⟨g1, g2⟩ := E.glob h1
      exact ⟨fun F tg => p_rg2 g1 (E.blt _ (by decide +kernel)) ((sndE a sc fb X _ E h4).1 F) ((sndE b sc fb X _ E h5).1 F) (by rw [star_cons h2, star_cons h3]; rfl) (by rw [star_cons h3]; rfl), fun _ => rfl⟩
    · cases h
end
end
end Ev
/-! # Ev, part 13: the check of statements; its soundness. -/
namespace Ev
open PySem PySem.Spec
open L2 (V Hp HO upd SqL SqT Rd Cx Inv PE PT PW PA PS PSs PG PGs PI PK VK TE TT TA TS TG TGs TI Ends RelV Vals It Dp DpAll OpR UnR CallR TruR IxR SlR MtR EP TP AP SP Room Env0 CE)

/-! ### stores -/
def isComp : Expr → Bool
  | .ListComp .. => true
  | .SetComp .. => true
  | .DictComp .. => true
  | _ => false
theorem swapsWith_no {e : Expr} {t : Option Expr} {l : Nat} {env : Env} (h : isComp e = false) : swapsWith e t l env = pure false := by
  unfold swapsWith
  cases e <;> first | rfl | cases h
def swB (sc : Scope) (y : Str) (py : Pos) (scope : Scope) (pos : Pos) : Bool := (match lk sc.names y with
  | some .local => true
  | _ => false) && py.line == pos.line && !(scope.names.any fun (n, k) => n == y && (k == .local || k == .cell))
def swT (sc : Scope) (ts vs : List Expr) : Option (Option (List Str)) :=
  if !(ts.length == 2 || ts.length == 3) || vs.length != ts.length then some none
  else if (vs.any fun | .Starred .. => true | _ => false) = true then some none
  else
    let line := (ts.head?.map (·.pos.line)).getD 0
    let names := ts.filterMap fun
      | .Name id pos => if lk sc.names id == some .local && pos.line == line then some id else none
      | _ => none
    if names.length != ts.length || names.eraseDups.length != names.length then some none
    else if vs.all (foldedForSure 8) = true then some none
    else if vs.all (constantsAlone 8) = true then none
    else some (some names)
def swS (sc : Scope) (targets : List Expr) (value : Expr) : Option (Option (List Str)) := match targets, value with
  | [.Tuple ts _ _], .Tuple vs _ _ => swT sc ts vs
  | [.List ts _], .Tuple vs _ _ => swT sc ts vs
  | _, _ => some none
theorem swT_ok {sc : Scope} {env : Env} (hk : ∀ y, env.kindOf y = lk sc.names y) (hb : env.blockKind = .function) {ts vs : List Expr} {r : Option (List Str)} (h : swT sc ts vs = some r) :
    (do
      if !(ts.length == 2 || ts.length == 3) || vs.length != ts.length || env.blockKind != .function then return none
      if vs.any fun | .Starred .. => true | _ => false then return none
      let line := (ts.head?.map (·.pos.line)).getD 0
      let names := ts.filterMap fun
        | .Name id pos => if env.kindOf id == some .local && pos.line == line then some id else none
        | _ => none
      if names.length != ts.length || names.eraseDups.length != names.length then return none
      if vs.all (foldedForSure 8) then return none
      if vs.all (constantsAlone 8) then unsupported "assign.tuple-of-constant-expressions:order-of-the-stores"
      return some names : Sem (Option (List Str))) = pure r := by
  unfold swT at h
  have e1 : (env.blockKind != .function) = false := by rw [hb]; rfl
  simp only [hk, e1, Bool.or_false]
  split at h
  · rename_i q
    cases h
    rw [if_pos q]
  · rename_i q
    rw [if_neg q]
    split at h
    · rename_i q
      cases h
      rw [if_pos q]
    · rename_i q
      rw [if_neg q]
      simp only at h
      split at h
      · rename_i q
        cases h
        simp only [q]
        rfl
      · rename_i q
        simp only [q]
        split at h
        · rename_i q
          cases h
          simp only [q]
          rfl
        · rename_i q
          simp only [q]
          split at h
          · cases h
          · rename_i q
            cases h
            simp only [q]
            rfl
theorem swS_ok {sc : Scope} {env : Env} (hk : ∀ y, env.kindOf y = lk sc.names y) (hb : env.blockKind = .function) {targets : List Expr} {value : Expr} {r : Option (List Str)} (h : swS sc targets value = some r) : swappedStores targets value env = pure r := by
  unfold swS at h
  split at h
  · exact swT_ok hk hb h
  · exact swT_ok hk hb h
  · rename_i h1 h2
    cases h
    unfold swappedStores
    split
    · rename_i ts vs q
      split at q
      · exact absurd rfl (h1 _ _ _ _ _ _ rfl)
      · exact absurd rfl (h2 _ _ _ _ _ rfl)
      · cases q
    · rfl
def seqs : List Str → List Str → Bool
  | [], [] => true
  | a :: r, b :: s => seq a b && seqs r s
  | _, _ => false
theorem seqs_eq : ∀ {a b : List Str}, seqs a b = true → a = b
  | [], [], _ => rfl
  | [], _ :: _, h => by simp [seqs] at h
  | _ :: _, [], h => by simp [seqs] at h
  | a :: r, b :: s, h => by
    simp only [seqs, Bool.and_eq_true] at h
    rw [seq_eq h.1, seqs_eq h.2]
def swNone (sc : Scope) (t e : Expr) : Bool := match swS sc [t] e with
  | some none => true
  | _ => false
def swSome (sc : Scope) (t e : Expr) (ns : List Str) : Bool := match swS sc [t] e with
  | some (some ms) => seqs ms ns
  | _ => false
def lclC (N : List Str) (sc : Scope) (i : Nat) (x : Str) : Bool := nth N i x && match lk sc.names x with
  | some .local => true
  | _ => false
/-- name = [..] on one line, the name a local: stored ahead of the block's end -/
def swLc (sc : Scope) (t : Expr) (e : Expr) : Bool := match t, e with
  | .Name y py, .ListComp _ _ scope pos => swB sc y py scope pos
  | .Name y py, .SetComp _ _ scope pos => swB sc y py scope pos
  | .Name y py, .DictComp _ _ _ scope pos => swB sc y py scope pos
  | _, _ => false
def isLc : ME → Bool
  | .lc .. => true
  | _ => false
section
variable (T : List Tg) (N : List Str)
def chAsg (sc : Scope) (fb : Str → Bool) (t : MT) (m : ME) (tg e : Expr) : Bool := chT N sc fb t tg && chE T N sc fb m e && (if swLc sc tg e = true then isLc m && (match t with
  | .nm _ => true
  | _ => false) else swNone sc tg e)
def chPar (sc : Scope) (fb : Str → Bool) (is : List Nat) (ms : MEs) (tg e : Expr) : Bool := match is, tg, e with
  | [i, j], .Tuple [.Name x _, .Name y _] _ _, .Tuple [a, b] _ _ => decide (i ≠ j) && lclC N sc i x && lclC N sc j y && chEs T N sc fb ms [a, b] && swSome sc tg e [x, y]
  | [i, j, l], .Tuple [.Name x _, .Name y _, .Name z _] _ _, .Tuple [a, b, d] _ _ => decide (i ≠ j) && decide (i ≠ l) && decide (j ≠ l) && lclC N sc i x && lclC N sc j y && lclC N sc l z && chEs T N sc fb ms [a, b, d] && swSome sc tg e [x, y, z]
  | _, _, _ => false
mutual
def chS (sc : Scope) (fb : Str → Bool) : MS → Stmt → Bool
  | .asg t m => fun st => match st with
    | .Assign [tg] e _ => chAsg T N sc fb t m tg e
    | _ => false
  | .par is ms => fun st => match st with
    | .Assign [tg] e _ => chPar T N sc fb is ms tg e
    | _ => false
  | .put o k m => fun st => match st with
    | .Assign [.Subscript oe ke _] e _ => !isComp e && chE T N sc fb o oe && chE T N sc fb k ke && chE T N sc fb m e
    | _ => false
  | .ex m => fun st => match st with
    | .Expr e _ => !isComp e && chE T N sc fb m e
    | _ => false
  | .iff t a b => fun st => match st with
    | .If e p q _ => chE T N sc fb t e && chSs sc fb a p && chSs sc fb b q
    | _ => false
  | .for_ t it b => fun st => match st with
    | .For tg iter body [] _ => chT N sc fb t tg && chI T N sc fb it iter && chSs sc fb b body
    | _ => false
  | .ret m => fun st => match st with
    | .Return (some e) _ => chE T N sc fb m e
    | _ => false
  | .retN => fun st => match st with
    | .Return none _ => true
    | _ => false
  | .pas => fun st => match st with
    | .Pass _ => true
    | .Expr (.Constant (.str _) _ _) _ => true
    | _ => false
  | .brk => fun st => match st with
    | .Break _ => true
    | _ => false
  | .cnt => fun st => match st with
    | .Continue _ => true
    | _ => false
  | .nvr => fun _ => true
def chSs (sc : Scope) (fb : Str → Bool) : MSs → List Stmt → Bool
  | .nil => fun sts => sts.isEmpty
  | .cons s r => fun sts => match sts with
    | st :: sts => chS sc fb s st && chSs sc fb r sts
    | [] => false
end
end
section
variable {T : List Tg} {c : Call} {k : Nat} {N : List Str} {sc : Scope} {fb : Str → Bool} {X : Cx}
theorem EC.kd (E : EC T c k N sc fb X) : ∀ y, X.env.kindOf y = lk sc.names y := fun y => by
  rw [lk_eq]
  show X.env.scope.names.lookup y = _
  rw [E.hs]
theorem EC.bk (E : EC T c k N sc fb X) (hk : sc.kind = .function) : X.env.blockKind = .function := by
  unfold Env.blockKind
  rw [E.hs, hk]
  rfl
theorem swNone_ok (E : EC T c k N sc fb X) (hk : sc.kind = .function) {t e : Expr} (h : swNone sc t e = true) : swappedStores [t] e X.env = pure none := by
  unfold swNone at h
  split at h
  · exact swS_ok E.kd (E.bk hk) (by assumption)
  · cases h
theorem swSome_ok (E : EC T c k N sc fb X) (hk : sc.kind = .function) {t e : Expr} {ns : List Str} (h : swSome sc t e ns = true) : swappedStores [t] e X.env = pure (some ns) := by
  unfold swSome at h
  split at h
  · rw [← seqs_eq h]
    exact swS_ok E.kd (E.bk hk) (by assumption)
  · cases h
theorem EC.lcl (E : EC T c k N sc fb X) {i : Nat} {x : Str} (h : lclC N sc i x = true) : X.N[i]? = some x ∧ X.env.scope.names.lookup x = some .local := by
  unfold lclC at h
  simp only [Bool.and_eq_true] at h
  obtain ⟨h1, h4⟩ := h
  refine ⟨by rw [E.hN]; exact nth_eq h1, ?_⟩
  rw [E.hs]
  rw [lk_eq] at h4
  split at h4
  · assumption
  · cases h4
theorem tgOne {t : MT} {tg : Expr} {env : Env} (h : chT N sc fb t tg = true) : (assignEach [tg] env).map (·.2) = [assign tg env] := by
  cases tg <;> first | rfl | (cases t <;> simp [chT] at h)
theorem swLc_no {t : MT} {tg e : Expr} {l : Nat} (E : EC T c k N sc fb X) (hk : sc.kind = .function) (h : chT N sc fb t tg = true) (hn : swLc sc tg e = false) : swapsWith e (some tg) l X.env = pure false := by
  by_cases hc : isComp e = false
  · exact swapsWith_no hc
  · have hb := E.bk hk
    cases t with
    | tp is =>
      cases tg with
      | Tuple es kk p =>
        cases e <;> first | rfl | exact absurd rfl hc
      | _ => simp [chT] at h
    | nm i =>
      cases tg with
      | Name y py =>
        have go : ∀ (scope : Scope) (pos : Pos), swB sc y py scope pos = false → (pure (X.env.blockKind == .function && X.env.kindOf y == some .local && py.line == pos.line && !(scope.names.any fun (n, k) => n == y && (k == .local || k == .cell))) : Sem Bool) = pure false := fun scope pos hn => by
          have z : (X.env.blockKind == .function && X.env.kindOf y == some .local && py.line == pos.line && !(scope.names.any fun (n, k) => n == y && (k == .local || k == .cell))) = false := by
            rw [← hn]
            unfold swB
            rw [hb, E.kd y]
            cases lk sc.names y with
            | none => rfl
            | some k => cases k <;> rfl
          rw [z]
        cases e with
        | ListComp elt gs scope pos => exact go scope pos hn
        | SetComp elt gs scope pos => exact go scope pos hn
        | DictComp kk vv gs scope pos => exact go scope pos hn
        | _ => exact absurd rfl hc
      | _ => simp [chT] at h
theorem chAsg_ok (E : EC T c k N sc fb X) (hk : sc.kind = .function) {t : MT} {m : ME} {tg e : Expr} {pos : Pos} (h : chAsg T N sc fb t m tg e = true) (F : Fm) : PS X (.Assign [tg] e pos) (tS X.K F (ex c (.asg t m))) := by
  unfold chAsg at h
  simp only [Bool.and_eq_true] at h
  obtain ⟨⟨h1, h2⟩, h3⟩ := h
  by_cases hw : swLc sc tg e = true
  · rw [if_pos hw] at h3
    simp only [Bool.and_eq_true] at h3
    obtain ⟨h4, h5⟩ := h3
    split at h5
    · rename_i i
      unfold isLc at h4
      split at h4
      · rename_i t it kk el
        simp only [chE] at h2
        split at h2
        · rename_i elt tg2 iter ifs scope p2
          simp only [chT] at h1
          split at h1
          · rename_i y py
            have hw : swB sc y py scope p2 = true := hw
            unfold swB at hw
            simp only [Bool.and_eq_true, Bool.not_eq_true'] at hw
            obtain ⟨⟨w1, w2⟩, w3⟩ := hw
            have hyl : X.env.scope.names.lookup y = some .local := by
              have := E.kd y
              have k2 : X.env.scope.names.lookup y = lk sc.names y := this
              rw [k2]
              split at w1
              · assumption
              · cases w1
            simp only [Bool.and_eq_true] at h2
            obtain ⟨⟨⟨⟨⟨a0, a1⟩, a2⟩, a3⟩, a4⟩, a5⟩ := h2
            have hi := sndI it sc fb X _ E a2
            refine s_setLc E.calm E.ndX (E.loc h1).1 hyl (L2.sw_true (by rw [E.hs]; exact hk) hyl w2 w3) (hi.1 F _) (by rw [E.hN, E.hs]; exact L2.blkOk_by a0) (List.map_snd_zip (by rw [of_decide_eq_true a1]; exact Nat.le_refl _)) (fun s H C cl fp => chT_ok (E.blk s H _ cl C fp) a3)
              (fun s H C cl fp => sndF kk _ _ _ _ (E.blk s H _ cl C fp) a4) (fun s H C cl fp => PE.vx (sndE el _ _ _ _ (E.blk s H _ cl C fp) a5).1) hi.2
          · cases h1
        · cases h2
      · cases h4
    · cases h5
  · rw [if_neg hw] at h3
    have hw' : swLc sc tg e = false := by simpa using hw
    exact s_asg ((sndE m sc fb X _ E h2).1 F) (chT_ok E h1) (swLc_no E hk h1 hw') (swNone_ok E hk h3) (tgOne h1)
theorem chPar_ok (E : EC T c k N sc fb X) (hk : sc.kind = .function) {is : List Nat} {ms : MEs} {tg e : Expr} {pos : Pos} (h : chPar T N sc fb is ms tg e = true) (F : Fm) : PS X (.Assign [tg] e pos) (tS X.K F (ex c (.par is ms))) := by
  unfold chPar at h
  split at h
  · simp only [Bool.and_eq_true] at h
    obtain ⟨⟨⟨⟨h1, h2⟩, h3⟩, h4⟩, h5⟩ := h
    exact s_par E.calm E.ndX (E.lcl h2).1 (E.lcl h3).1 (of_decide_eq_true h1) (E.lcl h2).2 (E.lcl h3).2 ((sndEs ms sc fb X _ E h4).1 F) (swSome_ok E hk h5) rfl
  · simp only [Bool.and_eq_true] at h
    obtain ⟨⟨⟨⟨⟨⟨⟨h1, h2⟩, h3⟩, h4⟩, h5⟩, h6⟩, h7⟩, h8⟩ := h
    exact s_par3 E.calm E.ndX (E.lcl h4).1 (E.lcl h5).1 (E.lcl h6).1 (of_decide_eq_true h1) (of_decide_eq_true h2) (of_decide_eq_true h3) (E.lcl h4).2 (E.lcl h5).2 (E.lcl h6).2 ((sndEs ms sc fb X _ E h7).1 F) (swSome_ok E hk h8) rfl
  · cases h
mutual
theorem sndS (hk : sc.kind = .function) (hp : PassesOwn (model X.prog X.w) X.A X.env X.xe) (E : EC T c k N sc fb X) (F : Fm) : ∀ (s : MS) (st : Stmt), chS T N sc fb s st = true → PS X st (tS X.K F (ex c s))
  | .asg t m, st, h => by
    simp only [chS] at h
    split at h
    · exact chAsg_ok E hk h F
    · cases h
  | .par is ms, st, h => by
    simp only [chS] at h
    split at h
    · exact chPar_ok E hk h F
    · cases h
  | .put o kk m, st, h => by
    simp only [chS] at h
    split at h
    · simp only [Bool.and_eq_true, Bool.not_eq_true'] at h
      obtain ⟨⟨⟨h0, h1⟩, h2⟩, h3⟩ := h
      have := E.u64
      exact s_put (by omega) (op_ok E h1 (sndE o sc fb X _ E h1) F) (op_ok E h2 (sndE kk sc fb X _ E h2) F) ((sndE m sc fb X _ E h3).1 F) (swapsWith_no h0)
    · cases h
  | .ex m, st, h => by
    simp only [chS] at h
    split at h
    · simp only [Bool.and_eq_true, Bool.not_eq_true'] at h
      exact s_ex ((sndE m sc fb X _ E h.2).1 F) (swapsWith_no h.1)
    · cases h
  | .iff t a b, st, h => by
    simp only [chS] at h
    split at h
    · simp only [Bool.and_eq_true] at h
      obtain ⟨⟨h0, h1⟩, h2⟩ := h
      exact s_iff ((sndE t sc fb X _ E h0).2.1 F) (sndSs hk hp E F a _ h1) (sndSs hk hp E F b _ h2)
    · cases h
  | .for_ t it b, st, h => by
    simp only [chS] at h
    split at h
    · simp only [Bool.and_eq_true] at h
      obtain ⟨⟨h0, h1⟩, h2⟩ := h
      have hi := sndI it sc fb X _ E h1
      exact s_for hp E.calm (hi.1 F _) (chT_ok E h0) (sndSs hk hp E F b _ h2) hi.2
    · cases h
  | .ret m, st, h => by
    simp only [chS] at h
    split at h
    · refine s_ret ?_
      by_cases hv : ∃ i, m = .var i
      · obtain ⟨i, rfl⟩ := hv
        simp only [chE] at h
        split at h
        · obtain ⟨h1, h2, h3, h4⟩ := E.vis h
          exact e_retV h1 h2 h3 h4
        · cases h
      · exact e_ret ((sndE m sc fb X _ E h).1 F) fun i q => hv ⟨i, q⟩
    · cases h
  | .retN, st, h => by
    simp only [chS] at h
    split at h
    · exact s_retN
    · cases h
  | .pas, st, h => by
    simp only [chS] at h
    split at h
    · exact s_pas
    · exact s_doc
    · cases h
  | .brk, st, h => by
    simp only [chS] at h
    split at h
    · exact s_brk
    · cases h
  | .cnt, st, h => by
    simp only [chS] at h
    split at h
    · exact s_cnt
    · cases h
  | .nvr, st, h => s_nvr
theorem sndSs (hk : sc.kind = .function) (hp : PassesOwn (model X.prog X.w) X.A X.env X.xe) (E : EC T c k N sc fb X) (F : Fm) : ∀ (s : MSs) (sts : List Stmt), chSs T N sc fb s sts = true → PSs X sts (tS X.K F (exs c s))
  | .nil, sts, h => by
    simp only [chSs, List.isEmpty_iff] at h
    subst h
    exact ss_nil
  | .cons s r, sts, h => by
    simp only [chSs] at h
    split at h
    · simp only [Bool.and_eq_true] at h
      exact ss_cons (sndS hk hp E F s _ h.1) (sndSs hk hp E F r _ h.2)
    · cases h
end
end
end Ev
/-! # Ev, part 14: defs by their bodies; the table of the defs. -/
namespace Ev
open PySem PySem.Spec
open L2 (V Hp HO upd SqL SqT Rd Cx Inv PE PT PW PA PS PSs PG PGs PI PK VK TE TT TA TS TG TGs TI Ends RelV Vals It Dp DpAll OpR UnR CallR TruR IxR SlR MtR EP TP AP SP Room Env0 CE)

/-! ### a def's start -/
theorem start_slots {K : PySem.W.Frag} {Z : Addr → Prop} {ms : List Addr} {H : Hp} {as : List PV} {xs : List V} (d : Dens K Z ms H as xs) {n i : Nat} {v : PV} (e : (as.map Slot.val ++ List.replicate n .no)[i]? = some (.val v)) :
    ∀ N : List Str, (L2.start N xs)[i]? = ((xs[i]?).map some).map id ∧ ∃ x, xs[i]? = some x ∧ Den K Z ms H v x := by
  intro N
  by_cases hi : i < as.length
  · rw [List.getElem?_append_left (by simpa using hi), List.getElem?_map] at e
    cases q : as[i]? with
    | none => rw [q] at e; cases e
    | some a =>
      rw [q] at e
      cases e
      obtain ⟨x, e1, e2⟩ := d.get q
      refine ⟨?_, x, e1, e2⟩
      unfold L2.start
      rw [List.getElem?_append_left (by rw [List.length_map, d.length]; exact hi), List.getElem?_map, e1]
      rfl
  · rw [List.getElem?_append_right (by simpa using hi), List.getElem?_replicate] at e
    split at e <;> cases e
theorem start_own {as : List PV} {n i : Nat} {ys : List PV} : (as.map Slot.val ++ List.replicate n .no)[i]? ≠ some (.own ys) := by
  intro e
  by_cases hi : i < as.length
  · rw [List.getElem?_append_left (by simpa using hi), List.getElem?_map] at e
    cases q : as[i]? with
    | none => rw [q] at e; cases e
    | some a => rw [q] at e; cases e
  · rw [List.getElem?_append_right (by simpa using hi), List.getElem?_replicate] at e
    split at e <;> cases e
/-- the frame of a def's body: all but the cells -/
noncomputable def fm0 (Z : Addr → Prop) (ms : List Addr) (H : Hp) : Fm := ⟨fun a => if a ∈ ms then none else H a, Z⟩
theorem start_rel {K : PySem.W.Frag} {Z : Addr → Prop} {ms : List Addr} {H : Hp} {hp : List Cell} {as : List PV} {xs : List V} {N : List Str} (ok : HpOk K Z ms hp H) (d : Dens K Z ms H as xs) (hl : as.length ≤ N.length) :
    Rel K (fm0 Z ms H) Z ms ⟨as.map Slot.val ++ List.replicate (N.length - as.length) .no, hp⟩ (L2.start N xs) H := by
  refine ⟨?_, fun i v e => ?_, fun i ys e => absurd e start_own, fun i j ys zs a e => absurd e start_own, ok.cn, ok.cl, ok.nd, fun a ha => ⟨ok.mz a ha, if_pos ha⟩, fun a z => .inl z, fun a z => z, ok.zs, fun a o e => ?_⟩
  · unfold L2.start
    simp [d.length]
  · obtain ⟨h1, x, h2, h3⟩ := start_slots d e N
    rw [h2] at h1
    exact ⟨x, h1, h3⟩
  · have e' : (if a ∈ ms then none else H a) = some o := e
    split at e'
    · cases e'
    · exact e'
theorem pay_of {K : PySem.W.Frag} {Z Z' : Addr → Prop} {ms ms' : List Addr} {H H' : Hp} {g : G} {σ : L2.St} {r : Res} {x : V} (l : Le Z ms H Z' ms' H') (R : Rel K (fm0 Z ms H) Z' ms' g σ H') (ok : ResOk K (fm0 Z ms H) Z' ms' g σ H' r x) : Pay K Z ms H Z' ms' g.hp H' r x := by
  have fn : ∀ {a : Addr}, (fm0 Z ms H).F a = none → a ∈ ms ∨ H a = none := fun {a} e => by
    have e' : (if a ∈ ms then none else H a) = none := e
    split at e'
    · exact .inl (by assumption)
    · exact .inr e'
  have sub : ∀ {a : Addr}, a ∈ ms → a ∈ ms' := fun {a} h => by
    obtain ⟨r, rfl⟩ := l.m
    exact List.mem_append_left _ h
  refine ⟨l, fun a o e n => R.fr a o ?_, fun a z => ?_, fun a h => fn (R.mz a h).2, R.hpOk, ?_⟩
  · show (if a ∈ ms then none else H a) = some o
    rw [if_neg n]
    exact e
  · rcases R.zf a z with h | h
    · exact .inl h
    · rcases fn h with q | q
      · exact absurd z (R.mz a (sub q)).1
      · exact .inr q
  · cases r with
    | val v => exact ok
    | new xs =>
      obtain ⟨a, vs, h1, h2, h3, h4, h5, h6, _⟩ := ok
      refine ⟨a, vs, h1, h2, h3, h4, h5, ?_⟩
      rcases fn h6 with q | q
      · exact absurd (sub q) h5
      · exact q

/-! ### the rule -/
/-- where a parameter's value comes from -/
inductive As where
  | pos (i : Nat) | kw (i : Nat) | df (v : PV)
def asm (ord : List As) (as bs : List PV) : List PV := ord.map fun
  | .pos i => as.getD i .non
  | .kw i => bs.getD i .non
  | .df v => v
/-- an entry of the table: the form of the call, the def, where its parameters' values come from -/
structure En where
  tg : Tg
  fd : FD
  ord : List As
def calls (D : List En) : Nat → Call
  | 0 => fun _ _ _ _ => none
  | k + 1 => fun i as bs hp => match D[i]? with
    | some e => run (calls D k) e.fd (asm e.ord as bs) hp
    | none => none
/-- what a def must be, to stand in the table -/
structure DefOk (K : PySem.W.Frag) (mg : Str → Option Value) (T : List Tg) (e : En) : Prop where
  ex : ∃ (f : Addr) (name qual : Str) (params : Arguments) (body : List Stmt) (scope : Scope) (dV kV doc pm cdv ct oc : Value) (an od : Option Addr) (osl : Array (Option Value)) (N ps : List Str),
    K.lookup f = some ⟨oc, od, .func (PySem.W.fnOf name qual params body scope dV kV doc pm an cdv ct), osl⟩ ∧ PySem.W.codeIn K cdv qual = true ∧ mg e.tg.name = some (.ref f) ∧ L2.FnScope N ps scope ∧ e.fd.n = ps.length ∧ e.fd.m = N.length ∧
    chSs T N scope (fun _ => true) e.fd.body body = true ∧
    ∀ (s : Shared) (us ws : List Value) (vs zs : List V) (as bs : List PV) (Z : Addr → Prop) (ms : List Addr) (H : Hp), K.In s.heap → us.length = e.tg.p → ws.length = e.tg.ks.length → Vals vs us → Vals zs ws → Dens K Z ms H as vs → Dens K Z ms H bs zs →
      ∃ (ys : List Value) (xs : List V), BindsTo s (PySem.W.fnOf name qual params body scope dV kV doc pm an cdv ct) ⟨us, e.tg.ks.zip ws⟩ (ps.zip ys) ∧ Vals xs ys ∧ Dens K Z ms H (asm e.ord as bs) xs
theorem def_ok {P : Program} {w : World} {K : PySem.W.Frag} {mg : Str → Option Value} {base : Heap} {k : Nat} {T : List Tg} {c : Call} {e : En} (D : DefOk K mg T e) (hmb : ∀ x ∈ bltNames, mg x = none)
    (C : ∀ (i : Nat) t, T[i]? = some t → CallOk P w K mg base k t (c i)) : CallOk P w K mg base (k + 1) e.tg (fun as bs hp => run c e.fd (asm e.ord as bs) hp) := by
  obtain ⟨f, name, qual, params, body, scope, dV, kV, doc, pm, cdv, ct, oc, an, od, osl, N, ps, lk, hcd, hm, S, hn, hM, hch, hb⟩ := D.ex
  refine ⟨f, hm, ?_, fun A outer s H us ws vs zs as bs Z ms hp r hp' hr hgd e0 hu hw r1 r2 d1 d2 ok hrun => ?_⟩
  · unfold PySem.W.keepIn
    simp only [lk]
  have KX : K.In s.heap := e0.mod.kin.keeps fun b o e => (e0.bs b o e).1
  have lim : s.heap.NoLimit := e0.mod.nolimit.keeps fun b o e => (e0.bs b o e).1
  obtain ⟨ys, xs, hbd, rv, dx⟩ := hb s us ws vs zs as bs Z ms H KX hu hw r1 r2 d1 d2
  generalize ha : asm e.ord as bs = as' at *
  unfold run at hrun
  split at hrun
  case isFalse => cases hrun
  rename_i hlen
  have hl : xs.length = ps.length := by rw [dx.length, hlen, hn]
  have hpl : ps.length ≤ N.length := by have := congrArg List.length S.pre; rw [List.length_take] at this; omega
  have hkind : ∀ y ∈ ps.zip ys, scope.names.lookup y.1 = some .local ∨ (scope.names.lookup y.1 = some .cell ∧ ((cellsFrom (s.heap.objs.size + 1) scope.names []).lookup y.1).isSome = true) := fun ⟨n, v⟩ hy => by
    rcases S.par n (List.of_mem_zip hy).1 with q | q
    · exact .inl q
    · exact .inr ⟨q, PySem.W.cellsFrom_some _ _ _ (.inl q)⟩
  refine codeAny_call_function hr.depth (KX _ _ lk) rfl S.co S.gen rfl (PySem.W.codeRec_of KX hcd) (hbd _ _ _ _ ?_)
  refine wpAny_newFunctionEnv_cells S.kind hkind fun env he s1 x => ?_
  subst he
  refine ⟨lim.keeps x.toInCall.keep, codeAny_func ?_⟩
  generalize hX : L2.cxOf (fun _ _ _ _ _ _ => False) P w K mg base N qual scope f cdv A outer s H (fun _ _ _ => False) = X
  have I : Inv X [] (L2.start N xs) H s1 := by
    rw [← hX]
    exact L2.inv_start S hr.hd e0 hl rv x
  have E : EC T c k N scope (fun _ => true) X := by
    subst hX
    exact ⟨rfl, rfl, S.nd, rfl, rfl, hgd, hr.deeper _, hmb, C⟩
  have pown : PassesOwn (model X.prog X.w) X.A X.env X.xe := by
    subst hX
    exact L2.passes_of rfl
  have run := (sndSs S.kind pown E (fm0 Z ms H) e.fd.body body hch).run [] s1 (L2.start N xs) H { nx := fun _ H' => ∃ Z' ms', Pay X.K Z ms H Z' ms' hp' H' r .non, rt := fun v H' => ∃ Z' ms', Pay X.K Z ms H Z' ms' hp' H' r v } I (by
    subst hX
    refine ⟨Z, ms, _, start_rel ok dx (by rw [hlen, hn]; exact hpl), ?_⟩
    rw [hM] at hrun
    revert hrun
    cases hx : exs c e.fd.body ⟨as'.map Slot.val ++ List.replicate (N.length - as'.length) .no, hp⟩ with
    | bad => intro q; cases q
    | ok fl g =>
      intro hrun σ' Z' ms' H' l R
      cases fl with
      | ret r' =>
        cases hrun
        exact fun x ok => ⟨Z', ms', pay_of l R ok⟩
      | nx =>
        cases hrun
        exact ⟨Z', ms', pay_of (r := .val .non) l R (by simp only [ResOk, Den])⟩
      | brk => cases hrun
      | cnt => cases hrun)
  subst hX
  refine wpAny_mono run (fun fl s' hs => ?_) fun e s' hs => wpAny_mono hs (fun _ _ z => False.elim z) fun _ _ z => False.elim z
  cases fl with
  | ret u =>
    obtain ⟨v, σ', H', J, rv, q⟩ := hs
    exact ⟨u, rfl, v, H', J.os, J.bare, J.base, J.hok, rv, q⟩
  | next =>
    obtain ⟨σ', H', J, q⟩ := hs
    exact ⟨.none, rfl, V.non, H', J.os, J.bare, J.base, J.hok, rfl, q⟩
  | brk =>
    obtain ⟨_, _, _, q⟩ := hs
    exact False.elim q
  | cont =>
    obtain ⟨_, _, _, q⟩ := hs
    exact False.elim q
theorem table_ok {P : Program} {w : World} {K : PySem.W.Frag} {mg : Str → Option Value} {base : Heap} {D : List En} (hD : ∀ e ∈ D, DefOk K mg (D.map (·.tg)) e) (hmb : ∀ x ∈ bltNames, mg x = none) :
    ∀ (k i : Nat) t, (D.map (·.tg))[i]? = some t → CallOk P w K mg base k t (calls D k i)
  | 0, i, t, h => by
    rw [List.getElem?_map] at h
    obtain ⟨e, he, rfl⟩ := Option.map_eq_some_iff.mp h
    obtain ⟨f, name, qual, params, body, scope, dV, kV, doc, pm, cdv, ct, oc, an, od, osl, N, ps, lk, hcd, hm, _⟩ := (hD e (List.mem_of_getElem? he)).ex
    refine ⟨f, hm, ?_, fun A outer s H us ws vs zs as bs Z ms hp r hp' hr hgd e0 hu hw r1 r2 d1 d2 ok hrun => ?_⟩
    · unfold PySem.W.keepIn
      simp only [lk]
    · cases hrun
  | k + 1, i, t, h => by
    rw [List.getElem?_map] at h
    obtain ⟨e, he, rfl⟩ := Option.map_eq_some_iff.mp h
    have := def_ok (P := P) (w := w) (base := base) (hD e (List.mem_of_getElem? he)) hmb (table_ok hD hmb k)
    have q : calls D (k + 1) i = fun as bs hp => run (calls D k) e.fd (asm e.ord as bs) hp := by
      funext as bs hp
      show (match D[i]? with
        | some e => run (calls D k) e.fd (asm e.ord as bs) hp
        | none => none) = _
      rw [he]
    rw [q]
    exact this
end Ev
/-! # Ev, part 15: a law's end. -/
namespace Ev
open PySem PySem.Spec PyProof.Rows
open L2 (V Hp HO upd SqL SqT Rd Cx Inv PE PT PW PA PS PSs PG PGs PI PK VK TE TT TA TS TG TGs TI Ends RelV Vals It Dp DpAll OpR UnR CallR TruR IxR SlR MtR EP TP AP SP Room Env0 CE Mod HOk hidT hidT_get hidT_size of_hidT Un defArgs defBody defScope)

/-- the heap that a law's call starts from: the script alone is told of, and that only where the text has not written it -/
noncomputable def scriptH (K : PySem.W.Frag) (a : Addr) (vs : List Value) (ns : List Int) : Hp := fun b =>
  if b = a ∧ K.lookup a = none then some (.frz { cls := .type "list", data := .seq vs.toArray } (.lst (ns.map V.int))) else none
section
variable {P : Program} {w : World} {K : PySem.W.Frag} {mg mb : Str → Option Value} {a : Addr} {s : Shared} {vs : List Value} {ns : List Int}
theorem scriptH_some {b : Addr} {u : HO} (h : scriptH K a vs ns b = some u) : b = a ∧ K.lookup a = none ∧ u = .frz { cls := .type "list", data := .seq vs.toArray } (.lst (ns.map V.int)) := by
  unfold scriptH at h
  split at h
  · rename_i q
    exact ⟨q.1, q.2, (Option.some.inj h).symm⟩
  · cases h
theorem scriptH_dict (ha : s.heap.get? a = some { cls := .type "list", data := .seq vs.toArray }) {b : Addr} {o : Obj} {es : Array DictEntry} {n : Nat} (e : s.heap.get? b = some o) (d : o.data = .dict es n) : scriptH K a vs ns b = none := by
  cases h : scriptH K a vs ns b with
  | none => rfl
  | some u =>
    obtain ⟨rfl, _, _⟩ := scriptH_some h
    have e2 := congrArg (Option.map Obj.data) (e.symm.trans ha)
    simp only [Option.map_some, Option.some.injEq] at e2
    rw [d] at e2
    cases e2
theorem script_ok (ha : s.heap.get? a = some { cls := .type "list", data := .seq vs.toArray }) (hi : IntsAre vs ns) (hl : ns.length ≤ sizeLine) : HOk P w (scriptH K a vs ns) s.heap := by
  intro b u h
  obtain ⟨rfl, _, rfl⟩ := scriptH_some h
  exact ⟨ha, by simpa using hl, vs, _, L2.vals_ints hi, ha⟩
theorem script_fz (KX : K.In s.heap) (ha : s.heap.get? a = some { cls := .type "list", data := .seq vs.toArray }) (hi : IntsAre vs ns) (hl : ns.length ≤ sizeLine) : FzL K (scriptH K a vs ns) a (ns.map V.int) := by
  cases hk : K.lookup a with
  | none => exact .inl ⟨_, if_pos ⟨rfl, hk⟩⟩
  | some o =>
    right
    obtain rfl : _ = o := Option.some.inj (ha.symm.trans (KX a o hk))
    refine ⟨_, vs.toArray, _, hk, rfl, rfl, rfl, ?_, by simpa using L2.vals_ints hi⟩
    rw [List.size_toArray, hi.length]
    exact hl
theorem script_env (KX : K.In s.heap) (hns : s.heap.Ns mainGlobals mg) (hb : s.heap.Ns builtinsNs mb) (hbb : ∀ x : Str, x ≠ "__name__" → mb x = bootBuiltins x) (hlim : s.heap.NoLimit) (hg : s.gens = #[])
    (ha : s.heap.get? a = some { cls := .type "list", data := .seq vs.toArray }) (hi : IntsAre vs ns) (hl : ns.length ≤ sizeLine) : Env0 P w K mg (hidT s.heap (scriptH K a vs ns)) callerA [] s (scriptH K a vs ns) := by
  have keep : ∀ {b : Addr} {m : Str → Option Value}, s.heap.Ns b m → (hidT s.heap (scriptH K a vs ns)).Ns b m := by
    rintro b m ⟨o, es, n, e, d, r⟩
    exact ⟨o, es, n, hidT_get e (scriptH_dict ha e d), d, r⟩
  obtain ⟨mc, c1, c2⟩ := hlim
  have inK : K.In (hidT s.heap (scriptH K a vs ns)) := by
    intro b o e
    refine hidT_get (KX b o e) ?_
    cases h : scriptH K a vs ns b with
    | none => rfl
    | some u =>
      obtain ⟨rfl, h0, _⟩ := scriptH_some h
      rw [h0] at e
      cases e
  exact { frames := rfl, mod := ⟨inK, keep hns, ⟨mb, keep hb, hbb⟩, mc, keep c1, c2⟩, bs := fun _ _ => of_hidT, bsz := Nat.le_of_eq (hidT_size _ _), funs := trivial, frf := nofun, hok := script_ok ha hi hl, bare := .of_eq hg }
end
/-- the law's promise, at the heap behind the top -/
theorem law_end {P : Program} {w : World} {K : PySem.W.Frag} {mg mb : Str → Option Value} {k : Nat} {t : Tg} {cf : List PV → List PV → List Cell → Option (Res × List Cell)} {fa a : Addr} {s : Shared} {vs : List Value} {ns : List Int} {hp' : List Cell}
    (KX : K.In s.heap) (hns : s.heap.Ns mainGlobals mg) (hb : s.heap.Ns builtinsNs mb) (hbb : ∀ x : Str, x ≠ "__name__" → mb x = bootBuiltins x) (hlim : s.heap.NoLimit) (hg : s.gens = #[])
    (ha : s.heap.get? a = some { cls := .type "list", data := .seq vs.toArray }) (hi : IntsAre vs ns) (hl : ns.length ≤ sizeLine) (hr : Room k callerA) (hf : mg t.name = some (.ref fa)) (hp : t.p = 1) (hk : t.ks = [])
    (F : ∀ base : Heap, CallOk P w K mg base k t cf) (hc : cf [.fz ns] [] [] = some (.val (.bl true), hp')) :
    codeAny (model P w) callerA (.call (.ref fa) ⟨[.ref a], []⟩) (fun r s' => r = .ok (.ret (.bool true)) ∧ OldK s.heap s'.heap ∧ s'.os = s.os ∧ AllBare s'.gens) s := by
  obtain ⟨f, hm, _, C⟩ := (F (hidT s.heap (scriptH K a vs ns))).ex
  obtain rfl : fa = f := by
    rw [hf] at hm
    cases hm
    rfl
  have go := C callerA [] s (scriptH K a vs ns) [.ref a] [] [.ref a] [] [.fz ns] [] (fun _ => False) [] [] _ _ hr rfl (script_env KX hns hb hbb hlim hg ha hi hl) (by rw [hp]; rfl) (by rw [hk]; rfl) (.cons rfl .nil) .nil
    (.cons (by simp only [Den]; exact ⟨a, rfl, script_fz KX ha hi hl⟩) .nil) .nil ⟨rfl, fun n c b e => by simp at e, List.nodup_nil, fun b h => by simp at h, fun b h => h.elim⟩ hc
  rw [hk] at go
  refine codeAny_mono go ?_
  rintro _ s' ⟨u, rfl, v, H', os, bare, un, ok', rv, Z', ms', py⟩
  obtain rfl : v = .bl true := by simpa only [Den] using py.rs
  obtain rfl : u = Value.bool true := rv
  refine ⟨rfl, OldK.of_keep fun b o e => ?_, os, bare⟩
  cases q : scriptH K a vs ns b with
  | none => exact un.keep b o e q nofun nofun
  | some u =>
    obtain ⟨rfl, _, rfl⟩ := scriptH_some q
    obtain rfl : _ = o := Option.some.inj (ha.symm.trans e)
    exact (ok' b _ (un.frzs b _ _ q)).1
/-- the goal that the head leaves -/
theorem walk_ev {l : PySem.W.OpenLaw} {n k : Nat} {q : Program} {loose : List Str} {XP : (Str → Option Value) → Heap → Prop} {YP : World → Heap → Prop} {d : DefRec} {K : Params → PySem.W.Frag} {D : List En} {i : Nat} {e : En}
    (hn : l.most = some n) (hn2 : n ≤ sizeLine) (hdf : d.params.defaults = []) (hr : Room k callerA) (hY : ∀ (w : World) (h : Heap), YP w h → (K w.params).In h) (hi : D[i]? = some e) (hx : e.tg.name = d.name) (hp : e.tg.p = 1) (hk : e.tg.ks = [])
    (F : ∀ (w : World) (mg : Str → Option Value) (h : Heap), (K w.params).In h → h.Ns mainGlobals mg → (∀ e ∈ D, DefOk (K w.params) mg (D.map (·.tg)) e) ∧ ∀ x ∈ bltNames, mg x = none)
    (hc : ∀ ns : List Int, ns.length ≤ n → ∃ hp', calls D k i [.fz ns] [] [] = some (.val (.bl true), hp')) : PySem.W.WalkO q loose XP YP l.row.toRowW d [] (fun f vs => PySem.call f vs) := by
  refine Att.attach_call hn hdf fun w s₀ s₁ mg mb fa o pm cd doc a vs ns G Y ho hd hcd hmg hobj hints hlen hg => ?_
  have KX := hY w _ Y
  obtain ⟨hD, hb⟩ := F w mg _ KX G.T.g
  obtain ⟨hp', hc⟩ := hc ns hlen
  have ht : (D.map (·.tg))[i]? = some e.tg := by
    rw [List.getElem?_map, hi]
    rfl
  exact law_end (t := e.tg) KX G.T.g G.T.b G.T.builtins G.T.nolimit hg hobj hints (Nat.le_trans hlen hn2) hr (by rw [hx]; exact hmg) hp hk (fun base => table_ok hD hb k i e.tg ht) hc

/-- a text of pieces -/
def sj (l : List String) : Str := l.foldl (fun (a : Str) (s : String) => a ++ Str.ofString s) Str.empty
/-! ### entries -/
def asmU (ord : List As) (us ws : List Value) : List Value := ord.map fun
  | .pos i => us.getD i .none
  | .kw i => ws.getD i .none
  | .df _ => .none
def asmV (ord : List As) (vs zs : List V) : List V := ord.map fun
  | .pos i => vs.getD i .non
  | .kw i => zs.getD i .non
  | .df _ => .non
def ordC (p q : Nat) (ord : List As) : Bool := ord.all fun
  | .pos i => decide (i < p)
  | .kw i => decide (i < q)
  | .df _ => false
theorem vals_get {vs : List V} {us : List Value} (r : Vals vs us) : ∀ i : Nat, RelV (vs.getD i .non) (us.getD i .none) := by
  induction r with
  | nil => exact fun _ => rfl
  | cons h _ ih =>
    intro i
    cases i with
    | zero => exact h
    | succ i => exact ih i
theorem dens_get {K : PySem.W.Frag} {Z : Addr → Prop} {ms : List Addr} {H : Hp} : ∀ {as : List PV} {vs : List V}, Dens K Z ms H as vs → ∀ i : Nat, Den K Z ms H (as.getD i .non) (vs.getD i .non)
  | [], vs, d, i => by
    simp only [Dens] at d
    subst d
    simp only [List.getD_nil, Den]
  | a :: as, vs, d, i => by
    simp only [Dens] at d
    obtain ⟨v, r, rfl, h1, h2⟩ := d
    cases i with
    | zero => exact h1
    | succ i => exact dens_get h2 i
theorem asm_vals {ord : List As} {vs zs : List V} {us ws : List Value} (r1 : Vals vs us) (r2 : Vals zs ws) : Vals (asmV ord vs zs) (asmU ord us ws) := by
  induction ord with
  | nil => exact .nil
  | cons a r ih =>
    refine .cons ?_ ih
    cases a with
    | pos i => exact vals_get r1 i
    | kw i => exact vals_get r2 i
    | df v => rfl
theorem asm_dens {K : PySem.W.Frag} {Z : Addr → Prop} {ms : List Addr} {H : Hp} {p q : Nat} {ord : List As} {as bs : List PV} {vs zs : List V} (ho : ordC p q ord = true) (d1 : Dens K Z ms H as vs) (d2 : Dens K Z ms H bs zs) : Dens K Z ms H (asm ord as bs) (asmV ord vs zs) := by
  induction ord with
  | nil => exact .nil
  | cons a r ih =>
    unfold ordC at ho ih
    simp only [List.all_cons, Bool.and_eq_true] at ho
    refine .cons ?_ (ih ho.2)
    cases a with
    | pos i => exact dens_get d1 i
    | kw i => exact dens_get d2 i
    | df v => simp at ho
/-- a def without defaults, in the table -/
theorem DefOk.mk0 {K : PySem.W.Frag} {mg : Str → Option Value} {T : List Tg} {e : En} {st : Stmt} {x : Str} {N ps : List Str} {f : Addr} {oc : Value} {od an : Option Addr} {osl : Array (Option Value)} {kV doc pm cdv ct : Value}
    (l : K.lookup f = some ⟨oc, od, .func (PySem.W.fnOf x x (defArgs st) (defBody st) (defScope st) .none kV doc pm an cdv ct), osl⟩) (hcd : PySem.W.codeIn K cdv x = true) (hm : mg x = some (.ref f)) (hx : e.tg.name = x) (S : L2.FnScope N ps (defScope st)) (hn : e.fd.n = ps.length) (hM : e.fd.m = N.length)
    (hch : chSs T N (defScope st) (fun _ => true) e.fd.body (defBody st) = true) (ho : ordC e.tg.p e.tg.ks.length e.ord = true)
    (hb : ∀ (us ws : List Value), us.length = e.tg.p → ws.length = e.tg.ks.length → bindArgs (PySem.W.fnOf x x (defArgs st) (defBody st) (defScope st) .none kV doc pm an cdv ct) ⟨us, e.tg.ks.zip ws⟩ = pure (ps.zip (asmU e.ord us ws))) : DefOk K mg T e := by
  refine ⟨f, x, x, _, _, _, _, _, _, _, _, _, _, _, _, _, N, ps, l, hcd, by rw [hx]; exact hm, S, hn, hM, hch, fun s us ws vs zs as bs Z ms H _ hu hw r1 r2 d1 d2 => ?_⟩
  exact ⟨asmU e.ord us ws, asmV e.ord vs zs, .of_eq (hb us ws hu hw), asm_vals r1 r2, asm_dens ho d1 d2⟩
end Ev
/-! # Ev, part 16: what a run of the evaluator answers: plain Lean. -/
namespace Ev
open PySem

/-- the run ends well, with Q -/
def Ok {α : Type} (r : R α) (Q : α → G → Prop) : Prop := match r with
  | .ok a g => Q a g
  | .bad => False
section
variable {α β : Type}
theorem Ok_congr {r r' : R α} {Q : α → G → Prop} (h : r = r') : Ok r Q = Ok r' Q := by rw [h]
theorem bind_congr' {r r' : R β} {f : β → M α} (h : r = r') : r.bind f = r'.bind f := by rw [h]
theorem Ok_ok {a : α} {g : G} {Q : α → G → Prop} : Ok (.ok a g) Q = Q a g := rfl
theorem Ok_bad {Q : α → G → Prop} : Ok (.bad : R α) Q = False := rfl
theorem Ok_bind {r : R β} {f : β → M α} {Q : α → G → Prop} : Ok (r.bind f) Q = Ok r fun a g => Ok (f a g) Q := by
  cases r <;> rfl
theorem Ok_ck {c : Prop} [Decidable c] {x : α} {g : G} {Q : α → G → Prop} : Ok (lift (ck c x) g) Q = (c ∧ Q x g) := by
  unfold ck
  by_cases h : c
  · rw [if_pos h]
    simp [Ok, lift, h]
  · rw [if_neg h]
    simp [Ok, lift, h]
theorem Ok_if {c : Prop} [Decidable c] {x : R α} {Q : α → G → Prop} : Ok (if c then x else .bad) Q = (c ∧ Ok x Q) := by
  by_cases h : c
  · rw [if_pos h]
    simp [h]
  · rw [if_neg h]
    simp [Ok, h]
theorem Ok_ite {c : Prop} [Decidable c] {x y : R α} {Q : α → G → Prop} (h1 : c → Ok x Q) (h2 : ¬ c → Ok y Q) : Ok (if c then x else y) Q := by
  by_cases h : c
  · rw [if_pos h]
    exact h1 h
  · rw [if_neg h]
    exact h2 h
theorem Ok.imp {r : R α} {Q Q' : α → G → Prop} (h : Ok r Q) (k : ∀ a g, Q a g → Q' a g) : Ok r Q' := by
  cases r with
  | ok a g => exact k a g h
  | bad => exact h
end

/-! ### calls -/
/-- a call's answer -/
structure Gives (o : Option (Res × List Cell)) (P : Res → List Cell → Prop) : Prop where
  ex : ∃ r hp, o = some (r, hp) ∧ P r hp
theorem Gives.imp {o : Option (Res × List Cell)} {P P' : Res → List Cell → Prop} (h : Gives o P) (k : ∀ r hp, P r hp → P' r hp) : Gives o P' := by
  obtain ⟨r, hp, e, p⟩ := h.ex
  exact ⟨r, hp, e, k r hp p⟩
theorem Ok_call {c : Call} {f : Nat} {as ks : List PV} {g : G} {Q : Res → G → Prop} (h : Gives (c f as ks g.hp) fun r hp => Q r { g with hp := hp }) : Ok (callC c f as ks g) Q := by
  obtain ⟨r, hp, e, p⟩ := h.ex
  unfold callC
  rw [e]
  exact p
/-- a call of a known def -/
theorem Ok_callW {c : Call} {f : Nat} {as ks : List PV} {sl : List Slot} {hp : List Cell} {P : Res → List Cell → Prop} {Q : Res → G → Prop} (h : Gives (c f as ks hp) P) (k : ∀ r hp', P r hp' → Q r ⟨sl, hp'⟩) : Ok (callC c f as ks ⟨sl, hp⟩) Q := Ok_call (h.imp k)
theorem gives_eq {o : Option (Res × List Cell)} {r : Res} {hp : List Cell} (e : o = some (r, hp)) : Gives o fun x hp' => x = r ∧ hp' = hp := ⟨r, hp, e, rfl, rfl⟩
theorem gives_call {D : List En} {k i : Nat} {e : En} {as bs : List PV} {hp : List Cell} {P : Res → List Cell → Prop} (h : D[i]? = some e) (hr : Gives (run (calls D k) e.fd (asm e.ord as bs) hp) P) : Gives (calls D (k + 1) i as bs hp) P := by
  unfold calls
  rw [h]
  exact hr
/-- a def's body -/
def Fin' (P : Res → List Cell → Prop) : Fl → G → Prop
  | .ret r, g => P r g.hp
  | .nx, g => P (.val .non) g.hp
  | _, _ => False
theorem Fin'_ret {P : Res → List Cell → Prop} {r : Res} {g : G} : Fin' P (.ret r) g = P r g.hp := rfl
theorem Fin'_nx {P : Res → List Cell → Prop} {g : G} : Fin' P .nx g = P (.val .non) g.hp := rfl
theorem gives_run {c : Call} {d : FD} {as : List PV} {hp : List Cell} {P : Res → List Cell → Prop} (hl : as.length = d.n) (h : Ok (exs c d.body ⟨as.map Slot.val ++ List.replicate (d.m - as.length) .no, hp⟩) (Fin' P)) : Gives (run c d as hp) P := by
  unfold run
  rw [if_pos hl]
  revert h
  cases exs c d.body ⟨as.map Slot.val ++ List.replicate (d.m - as.length) .no, hp⟩ with
  | bad => exact fun h => h.elim
  | ok f g => cases f with
    | nx => exact fun h => ⟨_, _, rfl, h⟩
    | ret r => exact fun h => ⟨_, _, rfl, h⟩
    | brk => exact fun h => h.elim
    | cnt => exact fun h => h.elim

/-! ### loops -/
/-- what one turn is to reach -/
def Turn (P : G → Prop) (Q : Fl → G → Prop) : Fl → G → Prop
  | .nx, g => P g
  | .cnt, g => P g
  | .brk, g => Q .nx g
  | .ret r, g => Q (.ret r) g
theorem Turn_nx {P : G → Prop} {Q : Fl → G → Prop} {g : G} : Turn P Q .nx g = P g := rfl
theorem Turn_cnt {P : G → Prop} {Q : Fl → G → Prop} {g : G} : Turn P Q .cnt g = P g := rfl
theorem Turn_brk {P : G → Prop} {Q : Fl → G → Prop} {g : G} : Turn P Q .brk g = Q .nx g := rfl
theorem Turn_ret {P : G → Prop} {Q : Fl → G → Prop} {g : G} {r : Res} : Turn P Q (.ret r) g = Q (.ret r) g := rfl
theorem Ok_for {bd : Res → M Unit} {body : M Fl} {Q : Fl → G → Prop} (I : List PV → G → Prop) (step : ∀ x xs g, I (x :: xs) g → Ok ((bd (.val x) g).bind fun _ g1 => body g1) (Turn (I xs) Q)) (fin : ∀ g, I [] g → Q .nx g) :
    ∀ (xs : List PV) (g : G), I xs g → Ok (forGo bd body xs g) Q
  | [], g, h => by
    unfold forGo
    exact fin g h
  | x :: xs, g, h => by
    unfold forGo
    have s := step x xs g h
    rw [Ok_bind] at s ⊢
    refine s.imp fun u g1 s => ?_
    rw [Ok_bind]
    refine s.imp fun f g2 s => ?_
    cases f with
    | nx => exact Ok_for I step fin xs g2 s
    | cnt => exact Ok_for I step fin xs g2 s
    | brk => exact s
    | ret r => exact s
theorem Ok_lc {own : List Nat} {bd : Res → M Unit} {ts : M Bool} {el : M Res} {Q : List PV → G → Prop} (I : List PV → List PV → G → Prop)
    (step : ∀ x xs acc g, I (x :: xs) acc g → Ok ((bd (.val x) g).bind fun _ g1 => ts g1) fun b g2 => if b = true then acc.length < sizeLine ∧ Ok (el g2) fun y g3 => I xs (acc ++ [y.pv]) { g3 with sl := wipe g3.sl own } else I xs acc { g2 with sl := wipe g2.sl own })
    (fin : ∀ acc g, I [] acc g → Q acc g) : ∀ (xs acc : List PV) (g : G), I xs acc g → Ok (lcGo own bd ts el xs acc g) Q
  | [], acc, g, h => by
    unfold lcGo
    exact fin acc g h
  | x :: xs, acc, g, h => by
    unfold lcGo
    have s := step x xs acc g h
    rw [Ok_bind] at s ⊢
    refine s.imp fun u g1 s => ?_
    rw [Ok_bind]
    refine s.imp fun b g2 s => ?_
    cases b with
    | true =>
      rw [if_pos rfl] at s ⊢
      rw [Ok_bind]
      refine s.2.imp fun y g3 t => ?_
      rw [if_pos s.1]
      exact Ok_lc I step fin xs _ _ t
    | false =>
      rw [if_neg Bool.false_ne_true] at s ⊢
      exact Ok_lc I step fin xs _ _ s

/-! ### equations that a run is reckoned by -/
theorem q_ok {α : Type} {a : α} {g : G} {Q : α → G → Prop} : Ok (.ok a g) Q = Q a g := rfl
theorem q_some {α : Type} {a : α} {g : G} {Q : α → G → Prop} : Ok (lift (some a) g) Q = Q a g := rfl
/-- behind a comprehension; a cell more -/
def backG (g1 : G) (is : List Nat) (g2 : G) : G := { g2 with sl := back g1.sl g2.sl is }
def pushG (g : G) (c : Cell) : G := { g with hp := g.hp ++ [c] }
section
variable {c : Call} {sl : List Slot} {hp : List Cell} {Q : Res → G → Prop} {QO : Opd → G → Prop} {QB : Bool → G → Prop} {QF : Fl → G → Prop} {QV : PV → G → Prop} {QU : Unit → G → Prop}
theorem q_cst {v} : Ok (ev c (.cst v) ⟨sl, hp⟩) Q = Q (.val v) ⟨sl, hp⟩ := rfl
theorem q_var {i} : Ok (ev c (.var i) ⟨sl, hp⟩) Q = (match sl[i]? with
  | some (.val v) => Q (.val v) ⟨sl, hp⟩
  | some (.own xs) => Q (.val (.lst xs)) ⟨sl.set i (.val (.lst xs)), hp⟩
  | _ => False) := by
  show Ok (rdVar i ⟨sl, hp⟩) Q = _
  unfold rdVar
  simp only
  cases sl[i]? with
  | none => rfl
  | some s => cases s <;> rfl
theorem q_tup {es} : Ok (ev c (.tup es) ⟨sl, hp⟩) Q = Ok (evs c es ⟨sl, hp⟩) fun vs g => vs.length ≤ sizeLine ∧ Q (.val (.tup vs)) g := by
  rw [ev_tup]
  simp only [Ok_bind, Ok_if, Ok_ok]
theorem q_lst {es} : Ok (ev c (.lst es) ⟨sl, hp⟩) Q = Ok (evs c es ⟨sl, hp⟩) fun vs g => vs.length ≤ sizeLine ∧ Q (.new vs) g := by
  rw [ev_lst]
  simp only [Ok_bind, Ok_if, Ok_ok]
theorem q_bin {o a b} : Ok (ev c (.bin o a b) ⟨sl, hp⟩) Q = Ok (opd c a ⟨sl, hp⟩) fun x g1 => Ok (opd c b g1) fun y g2 => Ok (look x g2) fun xv g3 => Ok (look y g3) fun yv g4 => Ok (lift (binV o xv yv) g4) Q := by
  rw [ev_bin]
  simp only [Ok_bind]
theorem q_cmp {o a b} : Ok (ev c (.cmp o a b) ⟨sl, hp⟩) Q = Ok (opd c a ⟨sl, hp⟩) fun x g1 => Ok (opd c b g1) fun y g2 => Ok (look x g2) fun xv g3 => Ok (look y g3) fun yv g4 => Ok (lift (cmpV o xv yv) g4) fun t g5 => Q (.val (.bl t)) g5 := by
  rw [ev_cmp]
  simp only [Ok_bind, Ok_ok]
theorem q_neg {a} : Ok (ev c (.neg a) ⟨sl, hp⟩) Q = Ok (ev c a ⟨sl, hp⟩) fun r g1 => Ok (lift (asInt r.pv) g1) fun i g2 => Q (.val (.int (-i))) g2 := by
  rw [ev_neg]
  simp only [Ok_bind, Ok_ok]
theorem q_nt {a} : Ok (ev c (.nt a) ⟨sl, hp⟩) Q = Ok (ev c a ⟨sl, hp⟩) fun r g1 => Ok (lift (truV r.pv) g1) fun b g2 => Q (.val (.bl (!b))) g2 := by
  rw [ev_nt]
  simp only [Ok_bind, Ok_ok]
theorem Ok_iteT {k : Bool} {x y : R Res} : Ok (if k = true then x else y) Q = (if k = true then Ok x Q else Ok y Q) := by
  cases k <;> rfl
theorem q_an {a b} : Ok (ev c (.an a b) ⟨sl, hp⟩) Q = Ok (ev c a ⟨sl, hp⟩) fun r g1 => Ok (lift (truV r.pv) g1) fun t g2 => if t = true then Ok (ev c b g2) fun s g3 => Q (.val s.pv) g3 else Q (.val r.pv) g2 := by
  rw [ev_an]
  simp only [Ok_bind, Ok_ok, Ok_iteT]
theorem q_orr {a b} : Ok (ev c (.orr a b) ⟨sl, hp⟩) Q = Ok (ev c a ⟨sl, hp⟩) fun r g1 => Ok (lift (truV r.pv) g1) fun t g2 => if t = true then Q (.val r.pv) g2 else Ok (ev c b g2) fun s g3 => Q (.val s.pv) g3 := by
  rw [ev_orr]
  simp only [Ok_bind, Ok_ok, Ok_iteT]
theorem q_ite {t a b} : Ok (ev c (.ite t a b) ⟨sl, hp⟩) Q = Ok (tst c t ⟨sl, hp⟩) fun k g1 => if k = true then Ok (ev c a g1) Q else Ok (ev c b g1) Q := by
  rw [ev_ite]
  simp only [Ok_bind, Ok_iteT]
theorem q_idx {a b} : Ok (ev c (.idx a b) ⟨sl, hp⟩) Q = Ok (opd c a ⟨sl, hp⟩) fun x g1 => Ok (opd c b g1) fun y g2 => Ok (look x g2) fun xv g3 => Ok (look y g3) fun yv g4 => Ok (idxG xv yv g4) fun z g5 => Q (.val z) g5 := by
  rw [ev_idx]
  simp only [Ok_bind, Ok_ok]
theorem q_slc {a lo hi} : Ok (ev c (.slc a lo hi) ⟨sl, hp⟩) Q = Ok (opd c a ⟨sl, hp⟩) fun x g1 => Ok (evo c lo g1) fun l g2 => Ok (evo c hi g2) fun h g3 => Ok (look x g3) fun xv g4 => Ok (lift (slcV xv l h) g4) Q := by
  rw [ev_slc]
  simp only [Ok_bind]
theorem q_rev {a} : Ok (ev c (.rev a) ⟨sl, hp⟩) Q = Ok (opd c a ⟨sl, hp⟩) fun x g1 => Ok (look x g1) fun xv g2 => Ok (lift (revV xv) g2) Q := by
  rw [ev_rev]
  simp only [Ok_bind]
theorem q_call {f es ks} : Ok (ev c (.call f es ks) ⟨sl, hp⟩) Q = Ok (evs c es ⟨sl, hp⟩) fun vs g1 => Ok (evs c ks g1) fun ws g2 => Ok (callC c f vs ws g2) Q := by
  rw [ev_call]
  simp only [Ok_bind]
theorem q_bi {f es} : Ok (ev c (.bi f es) ⟨sl, hp⟩) Q = Ok (opds c es ⟨sl, hp⟩) fun xs g1 => Ok (lookAll xs g1) fun vs g2 => Ok (lift (biV f vs) g2) Q := by
  rw [ev_bi]
  simp only [Ok_bind]
theorem q_join {o a} : Ok (ev c (.join o a) ⟨sl, hp⟩) Q = Ok (ev c o ⟨sl, hp⟩) fun r g1 => Ok (opd c a g1) fun y g2 => Ok (look y g2) fun yv g3 => Ok (lift (joinV r.pv yv) g3) fun z g4 => Q (.val z) g4 := by
  rw [ev_join]
  simp only [Ok_bind, Ok_ok]
theorem q_app {i a} : Ok (ev c (.app i a) ⟨sl, hp⟩) Q = Ok (ownAt i ⟨sl, hp⟩) fun _ g0 => Ok (ev c a g0) fun r g1 => Ok (appV i [r.pv] g1) Q := by
  rw [ev_app]
  simp only [Ok_bind]
theorem q_ext {i a} : Ok (ev c (.ext i a) ⟨sl, hp⟩) Q = Ok (ownAt i ⟨sl, hp⟩) fun _ g0 => Ok (ev c a g0) fun r g1 => Ok (extV i r g1) Q := by
  rw [ev_ext]
  simp only [Ok_bind]
theorem q_lc {t it k el} : Ok (ev c (.lc t it k el) ⟨sl, hp⟩) Q = Ok (evi c it ⟨sl, hp⟩) fun xs g1 => noOwn g1.sl t.slots = true ∧ Ok (lcGo t.slots (bindT t) (tsto c k) (ev c el) xs [] { g1 with sl := wipe g1.sl t.slots }) fun ys g2 => Q (.new ys) (backG g1 t.slots g2) := by
  rw [ev_lc]
  simp only [Ok_bind, Ok_if, Ok_ok]
  rfl
theorem q_fs {es} : Ok (ev c (.fs es) ⟨sl, hp⟩) Q = Ok (evf c es Str.empty ⟨sl, hp⟩) fun x g1 => Q (.val (.str x)) g1 := by
  rw [ev_fs]
  simp only [Ok_bind, Ok_ok]
theorem q_dct {ks vs} : Ok (ev c (.dct ks vs) ⟨sl, hp⟩) Q = Ok (evs c vs ⟨sl, hp⟩) fun ws g1 => (ks.length = ws.length ∧ ks.length ≤ 15) ∧ Q (.val (.ref g1.hp.length)) (pushG g1 (.dk (dictGo ks ws []))) := by
  rw [ev_dct]
  simp only [Ok_bind, Ok_if, Ok_ok]
  rfl
theorem q_evs0 {QL : List PV → G → Prop} : Ok (evs c .nil ⟨sl, hp⟩) QL = QL [] ⟨sl, hp⟩ := rfl
theorem q_evs1 {e es} {QL : List PV → G → Prop} : Ok (evs c (.cons e es) ⟨sl, hp⟩) QL = Ok (ev c e ⟨sl, hp⟩) fun r g1 => Ok (evs c es g1) fun vs g2 => QL (r.pv :: vs) g2 := by
  rw [evs_cons]
  simp only [Ok_bind, Ok_ok]
theorem q_opds0 {QL : List Opd → G → Prop} : Ok (opds c .nil ⟨sl, hp⟩) QL = QL [] ⟨sl, hp⟩ := rfl
theorem q_opds1 {e es} {QL : List Opd → G → Prop} : Ok (opds c (.cons e es) ⟨sl, hp⟩) QL = Ok (opd c e ⟨sl, hp⟩) fun r g1 => Ok (opds c es g1) fun vs g2 => QL (r :: vs) g2 := by
  rw [opds_cons]
  simp only [Ok_bind, Ok_ok]
theorem q_no {QI : Option Int → G → Prop} : Ok (evo c .no ⟨sl, hp⟩) QI = QI none ⟨sl, hp⟩ := rfl
theorem q_so {e} {QI : Option Int → G → Prop} : Ok (evo c (.so e) ⟨sl, hp⟩) QI = Ok (ev c e ⟨sl, hp⟩) fun r g1 => Ok (lift (asInt r.pv) g1) fun i g2 => QI (some i) g2 := by
  rw [evo_so]
  simp only [Ok_bind, Ok_ok]
theorem q_it {a} {QL : List PV → G → Prop} : Ok (evi c (.it a) ⟨sl, hp⟩) QL = Ok (ev c a ⟨sl, hp⟩) fun r g1 => Ok (lift (itemsOf r.pv) g1) QL := by
  rw [evi_it]
  simp only [Ok_bind]
theorem q_rg1 {a} {QL : List PV → G → Prop} : Ok (evi c (.rg1 a) ⟨sl, hp⟩) QL = Ok (ev c a ⟨sl, hp⟩) fun r g1 => Ok (lift (asInt r.pv) g1) fun j g2 => rgOk j ∧ QL (rgItems 0 j) g2 := by
  rw [evi_rg1]
  simp only [Ok_bind, Ok_if, Ok_ok]
theorem q_rg2 {a b} {QL : List PV → G → Prop} : Ok (evi c (.rg2 a b) ⟨sl, hp⟩) QL = Ok (ev c a ⟨sl, hp⟩) fun r g1 => Ok (ev c b g1) fun s g2 => Ok (lift (asInt r.pv) g2) fun i g3 => Ok (lift (asInt s.pv) g3) fun j g4 => (rgOk i ∧ rgOk j) ∧ QL (rgItems i j) g4 := by
  rw [evi_rg2]
  simp only [Ok_bind, Ok_if, Ok_ok]
theorem q_tno : Ok (tsto c .no ⟨sl, hp⟩) QB = QB true ⟨sl, hp⟩ := rfl
theorem q_tso {e} : Ok (tsto c (.so e) ⟨sl, hp⟩) QB = Ok (tst c e ⟨sl, hp⟩) QB := rfl
theorem q_evf0 {acc : Str} {QS : Str → G → Prop} : Ok (evf c .nil acc ⟨sl, hp⟩) QS = QS acc ⟨sl, hp⟩ := rfl
theorem q_evf1 {e es} {acc : Str} {QS : Str → G → Prop} : Ok (evf c (.cons e es) acc ⟨sl, hp⟩) QS = Ok (ev c e ⟨sl, hp⟩) fun r g1 => Ok (lift (fmtV r.pv) g1) fun x g2 => (acc ++ x).length ≤ sizeLine ∧ Ok (evf c es (acc ++ x) g2) QS := by
  rw [evf_cons]
  simp only [Ok_bind, Ok_if]
-- tests
theorem q_tnt {a} : Ok (tst c (.nt a) ⟨sl, hp⟩) QB = Ok (tst c a ⟨sl, hp⟩) fun b g1 => QB (!b) g1 := by
  rw [tst_nt]
  simp only [Ok_bind, Ok_ok]
theorem Ok_iteB {k : Bool} {x y : R Bool} : Ok (if k = true then x else y) QB = (if k = true then Ok x QB else Ok y QB) := by
  cases k <;> rfl
theorem q_tan {a b} : Ok (tst c (.an a b) ⟨sl, hp⟩) QB = Ok (tst c a ⟨sl, hp⟩) fun t g1 => if t = true then Ok (tst c b g1) QB else QB false g1 := by
  rw [tst_an]
  simp only [Ok_bind, Ok_ok, Ok_iteB]
theorem q_tor {a b} : Ok (tst c (.orr a b) ⟨sl, hp⟩) QB = Ok (tst c a ⟨sl, hp⟩) fun t g1 => if t = true then QB true g1 else Ok (tst c b g1) QB := by
  rw [tst_orr]
  simp only [Ok_bind, Ok_ok, Ok_iteB]
theorem q_tite {t a b} : Ok (tst c (.ite t a b) ⟨sl, hp⟩) QB = Ok (tst c t ⟨sl, hp⟩) fun k g1 => if k = true then Ok (tst c a g1) QB else Ok (tst c b g1) QB := by
  rw [tst_ite]
  simp only [Ok_bind, Ok_iteB]
theorem q_tvar {i} : Ok (tst c (.var i) ⟨sl, hp⟩) QB = Ok (ev c (.var i) ⟨sl, hp⟩) fun r g1 => Ok (lift (truV r.pv) g1) QB := by
  show Ok ((ev c (.var i) ⟨sl, hp⟩).bind fun r g1 => lift (truV r.pv) g1) QB = _
  rw [Ok_bind]
theorem q_tcst {v} : Ok (tst c (.cst v) ⟨sl, hp⟩) QB = Ok (ev c (.cst v) ⟨sl, hp⟩) fun r g1 => Ok (lift (truV r.pv) g1) QB := by
  show Ok ((ev c (.cst v) ⟨sl, hp⟩).bind fun r g1 => lift (truV r.pv) g1) QB = _
  rw [Ok_bind]
theorem q_tcmp {o a b} : Ok (tst c (.cmp o a b) ⟨sl, hp⟩) QB = Ok (ev c (.cmp o a b) ⟨sl, hp⟩) fun r g1 => Ok (lift (truV r.pv) g1) QB := by
  show Ok ((ev c (.cmp o a b) ⟨sl, hp⟩).bind fun r g1 => lift (truV r.pv) g1) QB = _
  rw [Ok_bind]
theorem q_tidx {a b} : Ok (tst c (.idx a b) ⟨sl, hp⟩) QB = Ok (ev c (.idx a b) ⟨sl, hp⟩) fun r g1 => Ok (lift (truV r.pv) g1) QB := by
  show Ok ((ev c (.idx a b) ⟨sl, hp⟩).bind fun r g1 => lift (truV r.pv) g1) QB = _
  rw [Ok_bind]
theorem q_tcall {f es ks} : Ok (tst c (.call f es ks) ⟨sl, hp⟩) QB = Ok (ev c (.call f es ks) ⟨sl, hp⟩) fun r g1 => Ok (lift (truV r.pv) g1) QB := by
  show Ok ((ev c (.call f es ks) ⟨sl, hp⟩).bind fun r g1 => lift (truV r.pv) g1) QB = _
  rw [Ok_bind]
theorem q_tbi {f es} : Ok (tst c (.bi f es) ⟨sl, hp⟩) QB = Ok (ev c (.bi f es) ⟨sl, hp⟩) fun r g1 => Ok (lift (truV r.pv) g1) QB := by
  show Ok ((ev c (.bi f es) ⟨sl, hp⟩).bind fun r g1 => lift (truV r.pv) g1) QB = _
  rw [Ok_bind]
theorem q_tslc {a lo hi} : Ok (tst c (.slc a lo hi) ⟨sl, hp⟩) QB = Ok (ev c (.slc a lo hi) ⟨sl, hp⟩) fun r g1 => Ok (lift (truV r.pv) g1) QB := by
  show Ok ((ev c (.slc a lo hi) ⟨sl, hp⟩).bind fun r g1 => lift (truV r.pv) g1) QB = _
  rw [Ok_bind]
-- operands
theorem q_ovar {i} : Ok (opd c (.var i) ⟨sl, hp⟩) QO = Ok (peek i ⟨sl, hp⟩) fun _ g => QO (.s i) g := by
  rw [opd_var]
  simp only [Ok_bind, Ok_ok]
theorem q_ocst {v} : Ok (opd c (.cst v) ⟨sl, hp⟩) QO = QO (.v v) ⟨sl, hp⟩ := rfl
theorem q_otup {es} : Ok (opd c (.tup es) ⟨sl, hp⟩) QO = Ok (ev c (.tup es) ⟨sl, hp⟩) fun r g1 => QO (.v r.pv) g1 := by
  show Ok ((ev c (.tup es) ⟨sl, hp⟩).bind fun r g1 => .ok (.v r.pv) g1) QO = _
  simp only [Ok_bind, Ok_ok]
theorem q_olst {es} : Ok (opd c (.lst es) ⟨sl, hp⟩) QO = Ok (ev c (.lst es) ⟨sl, hp⟩) fun r g1 => QO (.v r.pv) g1 := by
  show Ok ((ev c (.lst es) ⟨sl, hp⟩).bind fun r g1 => .ok (.v r.pv) g1) QO = _
  simp only [Ok_bind, Ok_ok]
theorem q_obin {o a b} : Ok (opd c (.bin o a b) ⟨sl, hp⟩) QO = Ok (ev c (.bin o a b) ⟨sl, hp⟩) fun r g1 => QO (.v r.pv) g1 := by
  show Ok ((ev c (.bin o a b) ⟨sl, hp⟩).bind fun r g1 => .ok (.v r.pv) g1) QO = _
  simp only [Ok_bind, Ok_ok]
theorem q_ocmp {o a b} : Ok (opd c (.cmp o a b) ⟨sl, hp⟩) QO = Ok (ev c (.cmp o a b) ⟨sl, hp⟩) fun r g1 => QO (.v r.pv) g1 := by
  show Ok ((ev c (.cmp o a b) ⟨sl, hp⟩).bind fun r g1 => .ok (.v r.pv) g1) QO = _
  simp only [Ok_bind, Ok_ok]
theorem q_oneg {a} : Ok (opd c (.neg a) ⟨sl, hp⟩) QO = Ok (ev c (.neg a) ⟨sl, hp⟩) fun r g1 => QO (.v r.pv) g1 := by
  show Ok ((ev c (.neg a) ⟨sl, hp⟩).bind fun r g1 => .ok (.v r.pv) g1) QO = _
  simp only [Ok_bind, Ok_ok]
theorem q_ont {a} : Ok (opd c (.nt a) ⟨sl, hp⟩) QO = Ok (ev c (.nt a) ⟨sl, hp⟩) fun r g1 => QO (.v r.pv) g1 := by
  show Ok ((ev c (.nt a) ⟨sl, hp⟩).bind fun r g1 => .ok (.v r.pv) g1) QO = _
  simp only [Ok_bind, Ok_ok]
theorem q_oan {a b} : Ok (opd c (.an a b) ⟨sl, hp⟩) QO = Ok (ev c (.an a b) ⟨sl, hp⟩) fun r g1 => QO (.v r.pv) g1 := by
  show Ok ((ev c (.an a b) ⟨sl, hp⟩).bind fun r g1 => .ok (.v r.pv) g1) QO = _
  simp only [Ok_bind, Ok_ok]
theorem q_oorr {a b} : Ok (opd c (.orr a b) ⟨sl, hp⟩) QO = Ok (ev c (.orr a b) ⟨sl, hp⟩) fun r g1 => QO (.v r.pv) g1 := by
  show Ok ((ev c (.orr a b) ⟨sl, hp⟩).bind fun r g1 => .ok (.v r.pv) g1) QO = _
  simp only [Ok_bind, Ok_ok]
theorem q_oite {t a b} : Ok (opd c (.ite t a b) ⟨sl, hp⟩) QO = Ok (ev c (.ite t a b) ⟨sl, hp⟩) fun r g1 => QO (.v r.pv) g1 := by
  show Ok ((ev c (.ite t a b) ⟨sl, hp⟩).bind fun r g1 => .ok (.v r.pv) g1) QO = _
  simp only [Ok_bind, Ok_ok]
theorem q_oidx {a b} : Ok (opd c (.idx a b) ⟨sl, hp⟩) QO = Ok (ev c (.idx a b) ⟨sl, hp⟩) fun r g1 => QO (.v r.pv) g1 := by
  show Ok ((ev c (.idx a b) ⟨sl, hp⟩).bind fun r g1 => .ok (.v r.pv) g1) QO = _
  simp only [Ok_bind, Ok_ok]
theorem q_oslc {a lo hi} : Ok (opd c (.slc a lo hi) ⟨sl, hp⟩) QO = Ok (ev c (.slc a lo hi) ⟨sl, hp⟩) fun r g1 => QO (.v r.pv) g1 := by
  show Ok ((ev c (.slc a lo hi) ⟨sl, hp⟩).bind fun r g1 => .ok (.v r.pv) g1) QO = _
  simp only [Ok_bind, Ok_ok]
theorem q_orev {a} : Ok (opd c (.rev a) ⟨sl, hp⟩) QO = Ok (ev c (.rev a) ⟨sl, hp⟩) fun r g1 => QO (.v r.pv) g1 := by
  show Ok ((ev c (.rev a) ⟨sl, hp⟩).bind fun r g1 => .ok (.v r.pv) g1) QO = _
  simp only [Ok_bind, Ok_ok]
theorem q_ocall {f es ks} : Ok (opd c (.call f es ks) ⟨sl, hp⟩) QO = Ok (ev c (.call f es ks) ⟨sl, hp⟩) fun r g1 => QO (.v r.pv) g1 := by
  show Ok ((ev c (.call f es ks) ⟨sl, hp⟩).bind fun r g1 => .ok (.v r.pv) g1) QO = _
  simp only [Ok_bind, Ok_ok]
theorem q_obi {f es} : Ok (opd c (.bi f es) ⟨sl, hp⟩) QO = Ok (ev c (.bi f es) ⟨sl, hp⟩) fun r g1 => QO (.v r.pv) g1 := by
  show Ok ((ev c (.bi f es) ⟨sl, hp⟩).bind fun r g1 => .ok (.v r.pv) g1) QO = _
  simp only [Ok_bind, Ok_ok]
theorem q_ojoin {a b} : Ok (opd c (.join a b) ⟨sl, hp⟩) QO = Ok (ev c (.join a b) ⟨sl, hp⟩) fun r g1 => QO (.v r.pv) g1 := by
  show Ok ((ev c (.join a b) ⟨sl, hp⟩).bind fun r g1 => .ok (.v r.pv) g1) QO = _
  simp only [Ok_bind, Ok_ok]
theorem q_olc {t i k e} : Ok (opd c (.lc t i k e) ⟨sl, hp⟩) QO = Ok (ev c (.lc t i k e) ⟨sl, hp⟩) fun r g1 => QO (.v r.pv) g1 := by
  show Ok ((ev c (.lc t i k e) ⟨sl, hp⟩).bind fun r g1 => .ok (.v r.pv) g1) QO = _
  simp only [Ok_bind, Ok_ok]
theorem q_ofs {es} : Ok (opd c (.fs es) ⟨sl, hp⟩) QO = Ok (ev c (.fs es) ⟨sl, hp⟩) fun r g1 => QO (.v r.pv) g1 := by
  show Ok ((ev c (.fs es) ⟨sl, hp⟩).bind fun r g1 => .ok (.v r.pv) g1) QO = _
  simp only [Ok_bind, Ok_ok]
theorem q_odct {ks vs} : Ok (opd c (.dct ks vs) ⟨sl, hp⟩) QO = Ok (ev c (.dct ks vs) ⟨sl, hp⟩) fun r g1 => QO (.v r.pv) g1 := by
  show Ok ((ev c (.dct ks vs) ⟨sl, hp⟩).bind fun r g1 => .ok (.v r.pv) g1) QO = _
  simp only [Ok_bind, Ok_ok]
theorem q_lookv {x : PV} {g : G} : Ok (look (.v x) g) QV = QV x g := rfl
theorem q_looks {i : Nat} {g : G} : Ok (look (.s i) g) QV = Ok (peek i g) QV := rfl
theorem q_peek {i : Nat} : Ok (peek i ⟨sl, hp⟩) QV = (match sl[i]? with
  | some (.val v) => QV v ⟨sl, hp⟩
  | some (.own xs) => QV (.lst xs) ⟨sl, hp⟩
  | _ => False) := by
  unfold peek
  simp only
  cases sl[i]? with
  | none => rfl
  | some s => cases s <;> rfl
theorem q_look0 {QL : List PV → G → Prop} {g : G} : Ok (lookAll [] g) QL = QL [] g := rfl
theorem q_look1 {x : Opd} {xs : List Opd} {g : G} {QL : List PV → G → Prop} : Ok (lookAll (x :: xs) g) QL = Ok (look x g) fun v g1 => Ok (lookAll xs g1) fun vs g2 => QL (v :: vs) g2 := by
  show Ok ((look x g).bind fun v g1 => (lookAll xs g1).bind fun vs g2 => .ok (v :: vs) g2) QL = _
  simp only [Ok_bind, Ok_ok]
theorem q_set {i : Nat} {r : Res} : Ok (setVar i r ⟨sl, hp⟩) QU = (i < sl.length ∧ QU () ⟨sl.set i r.slot, hp⟩) := by
  show Ok (if i < sl.length then _ else _) QU = _
  rw [Ok_if]
  rfl
theorem q_bnm {i : Nat} {r : Res} {g : G} : Ok (bindT (.nm i) r g) QU = Ok (setVar i r g) QU := rfl
theorem q_btp {is : List Nat} {xs : List PV} {g : G} : Ok (bindT (.tp is) (.val (.tup xs)) g) QU = Ok (setVars is xs g) QU := rfl
theorem q_sets0 {g : G} : Ok (setVars [] [] g) QU = QU () g := rfl
theorem q_sets1 {i : Nat} {is : List Nat} {v : PV} {vs : List PV} {g : G} : Ok (setVars (i :: is) (v :: vs) g) QU = Ok (setVar i (.val v) g) fun _ g1 => Ok (setVars is vs g1) QU := by
  show Ok ((setVar i (.val v) g).bind fun _ => setVars is vs) QU = _
  rw [Ok_bind]
theorem q_par0 {g : G} : Ok (setPar [] [] g) QU = QU () g := rfl
theorem q_par1 {i : Nat} {is : List Nat} {v : Res} {vs : List Res} {g : G} : Ok (setPar (i :: is) (v :: vs) g) QU = Ok (setPar is vs g) fun _ g1 => Ok (setVar i v g1) QU := by
  show Ok ((setPar is vs g).bind fun _ g1 => setVar i v g1) QU = _
  rw [Ok_bind]
theorem q_own {i : Nat} : Ok (ownAt i ⟨sl, hp⟩) QU = (match sl[i]? with
  | some (.own _) => QU () ⟨sl, hp⟩
  | _ => False) := by
  unfold ownAt
  simp only
  cases sl[i]? with
  | none => rfl
  | some s => cases s <;> rfl
theorem q_appV {i : Nat} {more : List PV} : Ok (appV i more ⟨sl, hp⟩) Q = (match sl[i]? with
  | some (.own xs) => xs.length + more.length ≤ sizeLine ∧ Q (.val .non) ⟨sl.set i (.own (xs ++ more)), hp⟩
  | _ => False) := by
  unfold appV
  simp only
  cases sl[i]? with
  | none => rfl
  | some s =>
    cases s with
    | own xs =>
      simp only [Ok_if]
      rfl
    | _ => rfl
theorem q_extn {i : Nat} {xs : List PV} {g : G} : Ok (extV i (.new xs) g) Q = Ok (appV i xs g) Q := rfl
theorem q_extl {i : Nat} {xs : List PV} {g : G} : Ok (extV i (.val (.lst xs)) g) Q = Ok (appV i xs g) Q := rfl
theorem q_ixr {n : Nat} {k : PV} : Ok (idxG (.ref n) k ⟨sl, hp⟩) QV = (match hp[n]? with
    | some (.dk kvs) => match (keyOf k).bind (getK kvs) with
      | some v => QV v ⟨sl, hp⟩
      | none => False
    | none => False) := by
  unfold idxG
  simp only
  cases hp[n]? with
  | none => rfl
  | some s =>
    cases s with
    | dk kvs =>
      simp only
      cases (keyOf k).bind (getK kvs) <;> rfl
theorem q_ixt {xs : List PV} {k : PV} {g : G} : Ok (idxG (.tup xs) k g) QV = Ok (lift (idxV (.tup xs) k) g) QV := rfl
theorem q_ixl {xs : List PV} {k : PV} {g : G} : Ok (idxG (.lst xs) k g) QV = Ok (lift (idxV (.lst xs) k) g) QV := rfl
theorem q_ixs {xs : Str} {k : PV} {g : G} : Ok (idxG (.str xs) k g) QV = Ok (lift (idxV (.str xs) k) g) QV := rfl
theorem q_putG {n : Nat} {k v : PV} : Ok (putG (.ref n) k v ⟨sl, hp⟩) QU = (match hp[n]? with
    | some (.dk kvs) => match keyOf k with
      | some key => kvs.length < sizeLine ∧ QU () ⟨sl, hp.set n (.dk (putK kvs key v))⟩
      | none => False
    | none => False) := by
  unfold putG
  simp only
  cases hp[n]? with
  | none => rfl
  | some s =>
    cases s with
    | dk kvs =>
      simp only
      cases keyOf k with
      | none => rfl
      | some key =>
        simp only [Ok_if]
        rfl
-- operators
theorem q_add_int {i j : Int} {g : G} : Ok (lift (binV .add (.int i) (.int j)) g) Q = Q (.val (.int (i + j))) g := rfl
theorem q_add_str {x y : Str} {g : G} : Ok (lift (binV .add (.str x) (.str y)) g) Q = ((x.length + y.length ≤ sizeLine) ∧ Q (.val (.str (x ++ y))) g) := Ok_ck
theorem q_add_lst {x y : List PV} {g : G} : Ok (lift (binV .add (.lst x) (.lst y)) g) Q = ((x.length + y.length ≤ sizeLine) ∧ Q (.new (x ++ y)) g) := Ok_ck
theorem q_add_tup {x y : List PV} {g : G} : Ok (lift (binV .add (.tup x) (.tup y)) g) Q = ((x.length + y.length ≤ sizeLine) ∧ Q (.val (.tup (x ++ y))) g) := Ok_ck
theorem q_sub_int {i j : Int} {g : G} : Ok (lift (binV .sub (.int i) (.int j)) g) Q = Q (.val (.int (i - j))) g := rfl
theorem q_mul_int {i j : Int} {g : G} : Ok (lift (binV .mul (.int i) (.int j)) g) Q = (((-(2 ^ 64) < i ∧ i < 2 ^ 64) ∨ (-(2 ^ 64) < j ∧ j < 2 ^ 64)) ∧ Q (.val (.int (i * j))) g) := Ok_ck
theorem q_mul_lst {x : List PV} {k : Int} {g : G} : Ok (lift (binV .mul (.lst x) (.int k)) g) Q = ((-(2 ^ 63) ≤ k ∧ k < 2 ^ 63 ∧ x.length * k.toNat ≤ sizeLine) ∧ Q (.new (List.replicate k.toNat x).flatten) g) := Ok_ck
theorem q_mul_tup {x : List PV} {k : Int} {g : G} : Ok (lift (binV .mul (.tup x) (.int k)) g) Q = ((x.isEmpty = false ∧ 2 ≤ k ∧ k ≤ 1000 ∧ x.length ≤ 1000) ∧ Q (.val (.tup (List.replicate k.toNat x).flatten)) g) := Ok_ck
theorem q_fdiv_int {i j : Int} {g : G} : Ok (lift (binV .fdiv (.int i) (.int j)) g) Q = ((0 < j ∧ j.natAbs.log2 < 9000) ∧ Q (.val (.int (i / j))) g) := Ok_ck
theorem q_mod_int {i j : Int} {g : G} : Ok (lift (binV .mod (.int i) (.int j)) g) Q = ((0 < j) ∧ Q (.val (.int (i % j))) g) := Ok_ck
theorem q_pow_int {i j : Int} {g : G} : Ok (lift (binV .pow (.int i) (.int j)) g) Q = ((0 ≤ j ∧ j ≤ 1000000 ∧ i.natAbs < 2 ^ 64) ∧ Q (.val (.int (i ^ j.toNat))) g) := Ok_ck
theorem q_bint {i : Int} {g : G} : Ok (lift (biV .int [.int i]) g) Q = Q (.val (.int i)) g := rfl
theorem q_bintb {i : Bool} {g : G} : Ok (lift (biV .int [.bl i]) g) Q = Q (.val (.int (if i then 1 else 0))) g := rfl
theorem q_blenl {x : List PV} {g : G} : Ok (lift (biV .len [.lst x]) g) Q = Q (.val (.int x.length)) g := rfl
theorem q_blent {x : List PV} {g : G} : Ok (lift (biV .len [.tup x]) g) Q = Q (.val (.int x.length)) g := rfl
theorem q_blens {x : Str} {g : G} : Ok (lift (biV .len [.str x]) g) Q = (x.length ≤ sizeLine ∧ Q (.val (.int x.length)) g) := Ok_ck
theorem q_bstri {i : Int} {g : G} : Ok (lift (biV .str [.int i]) g) Q = (i.natAbs.log2 < 1920 ∧ Q (.val (.str (toString i : String))) g) := Ok_ck
theorem q_bstrs {x : Str} {g : G} : Ok (lift (biV .str [.str x]) g) Q = Q (.val (.str x)) g := rfl
theorem q_blistl {x : List PV} {g : G} : Ok (lift (biV .list [.lst x]) g) Q = Q (.new x) g := rfl
theorem q_blistt {x : List PV} {g : G} : Ok (lift (biV .list [.tup x]) g) Q = Q (.new x) g := rfl
theorem q_btupl {x : List PV} {g : G} : Ok (lift (biV .tuple [.lst x]) g) Q = Q (.val (.tup x)) g := rfl
theorem q_btupt {x : List PV} {g : G} : Ok (lift (biV .tuple [.tup x]) g) Q = Q (.val (.tup x)) g := rfl
theorem q_bmin {i j : Int} {g : G} : Ok (lift (biV .min2 [.int i, .int j]) g) Q = Q (.val (.int (if j < i then j else i))) g := rfl
theorem q_bmax {i j : Int} {g : G} : Ok (lift (biV .max2 [.int i, .int j]) g) Q = Q (.val (.int (if j > i then j else i))) g := rfl
theorem q_fmts {x : Str} {g : G} {QS : Str → G → Prop} : Ok (lift (fmtV (.str x)) g) QS = (x.length ≤ sizeLine ∧ QS x g) := Ok_ck
theorem q_fmti {i : Int} {g : G} {QS : Str → G → Prop} : Ok (lift (fmtV (.int i)) g) QS = (i.natAbs.log2 < 1920 ∧ QS ((toString i : String) : Str) g) := Ok_ck
-- statements
theorem q_asg {t e} : Ok (ex c (.asg t e) ⟨sl, hp⟩) QF = Ok (ev c e ⟨sl, hp⟩) fun r g1 => Ok (bindT t r g1) fun _ g2 => QF .nx g2 := by
  rw [ex_asg]
  simp only [Ok_bind, Ok_ok]
theorem q_parS {is es} : Ok (ex c (.par is es) ⟨sl, hp⟩) QF = Ok (evs c es ⟨sl, hp⟩) fun vs g1 => Ok (setPar is (vs.map Res.val) g1) fun _ g2 => QF .nx g2 := by
  rw [ex_par]
  simp only [Ok_bind, Ok_ok]
theorem q_put {o k e} : Ok (ex c (.put o k e) ⟨sl, hp⟩) QF = Ok (ev c e ⟨sl, hp⟩) fun r g1 => Ok (opd c o g1) fun x g2 => Ok (opd c k g2) fun y g3 => Ok (look x g3) fun xv g4 => Ok (look y g4) fun yv g5 => Ok (putG xv yv r.pv g5) fun _ g6 => QF .nx g6 := by
  rw [ex_put]
  simp only [Ok_bind, Ok_ok]
theorem q_ex {e} : Ok (ex c (.ex e) ⟨sl, hp⟩) QF = Ok (ev c e ⟨sl, hp⟩) fun _ g1 => QF .nx g1 := by
  rw [ex_ex]
  simp only [Ok_bind, Ok_ok]
theorem Ok_iteF {k : Bool} {x y : R Fl} : Ok (if k = true then x else y) QF = (if k = true then Ok x QF else Ok y QF) := by
  cases k <;> rfl
theorem q_iff {t a b} : Ok (ex c (.iff t a b) ⟨sl, hp⟩) QF = Ok (tst c t ⟨sl, hp⟩) fun k g1 => if k = true then Ok (exs c a g1) QF else Ok (exs c b g1) QF := by
  rw [ex_iff]
  simp only [Ok_bind, Ok_iteF]
theorem q_for {t it b} : Ok (ex c (.for_ t it b) ⟨sl, hp⟩) QF = Ok (evi c it ⟨sl, hp⟩) fun xs g1 => Ok (forGo (bindT t) (exs c b) xs g1) QF := by
  rw [ex_for]
  simp only [Ok_bind]
theorem q_retV {i} : Ok (ex c (.ret (.var i)) ⟨sl, hp⟩) QF = (match sl[i]? with
  | some (.val v) => QF (.ret (.val v)) ⟨sl, hp⟩
  | some (.own xs) => QF (.ret (.new xs)) ⟨sl.set i .no, hp⟩
  | _ => False) := by
  rw [ex_ret]
  simp only [Ok_bind, Ok_ok]
  show Ok (match sl[i]? with
    | some (.own xs) => R.ok (Res.new xs) ⟨sl.set i .no, hp⟩
    | _ => rdVar i ⟨sl, hp⟩) _ = _
  unfold rdVar
  simp only
  cases sl[i]? with
  | none => rfl
  | some s => cases s <;> rfl
theorem q_rcst {v} : Ok (ex c (.ret (.cst v)) ⟨sl, hp⟩) QF = Ok (ev c (.cst v) ⟨sl, hp⟩) fun r g1 => QF (.ret r) g1 := by
  show Ok ((ev c (.cst v) ⟨sl, hp⟩).bind fun r g1 => .ok (.ret r) g1) QF = _
  simp only [Ok_bind, Ok_ok]
theorem q_rtup {es} : Ok (ex c (.ret (.tup es)) ⟨sl, hp⟩) QF = Ok (ev c (.tup es) ⟨sl, hp⟩) fun r g1 => QF (.ret r) g1 := by
  show Ok ((ev c (.tup es) ⟨sl, hp⟩).bind fun r g1 => .ok (.ret r) g1) QF = _
  simp only [Ok_bind, Ok_ok]
theorem q_rlst {es} : Ok (ex c (.ret (.lst es)) ⟨sl, hp⟩) QF = Ok (ev c (.lst es) ⟨sl, hp⟩) fun r g1 => QF (.ret r) g1 := by
  show Ok ((ev c (.lst es) ⟨sl, hp⟩).bind fun r g1 => .ok (.ret r) g1) QF = _
  simp only [Ok_bind, Ok_ok]
theorem q_rbin {o a b} : Ok (ex c (.ret (.bin o a b)) ⟨sl, hp⟩) QF = Ok (ev c (.bin o a b) ⟨sl, hp⟩) fun r g1 => QF (.ret r) g1 := by
  show Ok ((ev c (.bin o a b) ⟨sl, hp⟩).bind fun r g1 => .ok (.ret r) g1) QF = _
  simp only [Ok_bind, Ok_ok]
theorem q_rcmp {o a b} : Ok (ex c (.ret (.cmp o a b)) ⟨sl, hp⟩) QF = Ok (ev c (.cmp o a b) ⟨sl, hp⟩) fun r g1 => QF (.ret r) g1 := by
  show Ok ((ev c (.cmp o a b) ⟨sl, hp⟩).bind fun r g1 => .ok (.ret r) g1) QF = _
  simp only [Ok_bind, Ok_ok]
theorem q_rneg {a} : Ok (ex c (.ret (.neg a)) ⟨sl, hp⟩) QF = Ok (ev c (.neg a) ⟨sl, hp⟩) fun r g1 => QF (.ret r) g1 := by
  show Ok ((ev c (.neg a) ⟨sl, hp⟩).bind fun r g1 => .ok (.ret r) g1) QF = _
  simp only [Ok_bind, Ok_ok]
theorem q_rnt {a} : Ok (ex c (.ret (.nt a)) ⟨sl, hp⟩) QF = Ok (ev c (.nt a) ⟨sl, hp⟩) fun r g1 => QF (.ret r) g1 := by
  show Ok ((ev c (.nt a) ⟨sl, hp⟩).bind fun r g1 => .ok (.ret r) g1) QF = _
  simp only [Ok_bind, Ok_ok]
theorem q_ran {a b} : Ok (ex c (.ret (.an a b)) ⟨sl, hp⟩) QF = Ok (ev c (.an a b) ⟨sl, hp⟩) fun r g1 => QF (.ret r) g1 := by
  show Ok ((ev c (.an a b) ⟨sl, hp⟩).bind fun r g1 => .ok (.ret r) g1) QF = _
  simp only [Ok_bind, Ok_ok]
theorem q_rorr {a b} : Ok (ex c (.ret (.orr a b)) ⟨sl, hp⟩) QF = Ok (ev c (.orr a b) ⟨sl, hp⟩) fun r g1 => QF (.ret r) g1 := by
  show Ok ((ev c (.orr a b) ⟨sl, hp⟩).bind fun r g1 => .ok (.ret r) g1) QF = _
  simp only [Ok_bind, Ok_ok]
theorem q_rite {t a b} : Ok (ex c (.ret (.ite t a b)) ⟨sl, hp⟩) QF = Ok (ev c (.ite t a b) ⟨sl, hp⟩) fun r g1 => QF (.ret r) g1 := by
  show Ok ((ev c (.ite t a b) ⟨sl, hp⟩).bind fun r g1 => .ok (.ret r) g1) QF = _
  simp only [Ok_bind, Ok_ok]
theorem q_ridx {a b} : Ok (ex c (.ret (.idx a b)) ⟨sl, hp⟩) QF = Ok (ev c (.idx a b) ⟨sl, hp⟩) fun r g1 => QF (.ret r) g1 := by
  show Ok ((ev c (.idx a b) ⟨sl, hp⟩).bind fun r g1 => .ok (.ret r) g1) QF = _
  simp only [Ok_bind, Ok_ok]
theorem q_rslc {a lo hi} : Ok (ex c (.ret (.slc a lo hi)) ⟨sl, hp⟩) QF = Ok (ev c (.slc a lo hi) ⟨sl, hp⟩) fun r g1 => QF (.ret r) g1 := by
  show Ok ((ev c (.slc a lo hi) ⟨sl, hp⟩).bind fun r g1 => .ok (.ret r) g1) QF = _
  simp only [Ok_bind, Ok_ok]
theorem q_rrev {a} : Ok (ex c (.ret (.rev a)) ⟨sl, hp⟩) QF = Ok (ev c (.rev a) ⟨sl, hp⟩) fun r g1 => QF (.ret r) g1 := by
  show Ok ((ev c (.rev a) ⟨sl, hp⟩).bind fun r g1 => .ok (.ret r) g1) QF = _
  simp only [Ok_bind, Ok_ok]
theorem q_rcall {f es ks} : Ok (ex c (.ret (.call f es ks)) ⟨sl, hp⟩) QF = Ok (ev c (.call f es ks) ⟨sl, hp⟩) fun r g1 => QF (.ret r) g1 := by
  show Ok ((ev c (.call f es ks) ⟨sl, hp⟩).bind fun r g1 => .ok (.ret r) g1) QF = _
  simp only [Ok_bind, Ok_ok]
theorem q_rbi {f es} : Ok (ex c (.ret (.bi f es)) ⟨sl, hp⟩) QF = Ok (ev c (.bi f es) ⟨sl, hp⟩) fun r g1 => QF (.ret r) g1 := by
  show Ok ((ev c (.bi f es) ⟨sl, hp⟩).bind fun r g1 => .ok (.ret r) g1) QF = _
  simp only [Ok_bind, Ok_ok]
theorem q_rjoin {a b} : Ok (ex c (.ret (.join a b)) ⟨sl, hp⟩) QF = Ok (ev c (.join a b) ⟨sl, hp⟩) fun r g1 => QF (.ret r) g1 := by
  show Ok ((ev c (.join a b) ⟨sl, hp⟩).bind fun r g1 => .ok (.ret r) g1) QF = _
  simp only [Ok_bind, Ok_ok]
theorem q_rlc {t i k e} : Ok (ex c (.ret (.lc t i k e)) ⟨sl, hp⟩) QF = Ok (ev c (.lc t i k e) ⟨sl, hp⟩) fun r g1 => QF (.ret r) g1 := by
  show Ok ((ev c (.lc t i k e) ⟨sl, hp⟩).bind fun r g1 => .ok (.ret r) g1) QF = _
  simp only [Ok_bind, Ok_ok]
theorem q_rfs {es} : Ok (ex c (.ret (.fs es)) ⟨sl, hp⟩) QF = Ok (ev c (.fs es) ⟨sl, hp⟩) fun r g1 => QF (.ret r) g1 := by
  show Ok ((ev c (.fs es) ⟨sl, hp⟩).bind fun r g1 => .ok (.ret r) g1) QF = _
  simp only [Ok_bind, Ok_ok]
theorem q_rdct {ks vs} : Ok (ex c (.ret (.dct ks vs)) ⟨sl, hp⟩) QF = Ok (ev c (.dct ks vs) ⟨sl, hp⟩) fun r g1 => QF (.ret r) g1 := by
  show Ok ((ev c (.dct ks vs) ⟨sl, hp⟩).bind fun r g1 => .ok (.ret r) g1) QF = _
  simp only [Ok_bind, Ok_ok]
theorem q_retN : Ok (ex c .retN ⟨sl, hp⟩) QF = QF (.ret (.val .non)) ⟨sl, hp⟩ := rfl
theorem q_pas : Ok (ex c .pas ⟨sl, hp⟩) QF = QF .nx ⟨sl, hp⟩ := rfl
theorem q_brk : Ok (ex c .brk ⟨sl, hp⟩) QF = QF .brk ⟨sl, hp⟩ := rfl
theorem q_cnt : Ok (ex c .cnt ⟨sl, hp⟩) QF = QF .cnt ⟨sl, hp⟩ := rfl
theorem q_exs0 : Ok (exs c .nil ⟨sl, hp⟩) QF = QF .nx ⟨sl, hp⟩ := rfl
/-- behind a statement -/
def Nxt (c : Call) (r : MSs) (QF : Fl → G → Prop) : Fl → G → Prop
  | .nx, g => Ok (exs c r g) QF
  | f, g => QF f g
theorem Nxt_nx {r : MSs} {g : G} : Nxt c r QF .nx g = Ok (exs c r g) QF := rfl
theorem Nxt_ret {r : MSs} {x : Res} {g : G} : Nxt c r QF (.ret x) g = QF (.ret x) g := rfl
theorem Nxt_brk {r : MSs} {g : G} : Nxt c r QF .brk g = QF .brk g := rfl
theorem Nxt_cnt {r : MSs} {g : G} : Nxt c r QF .cnt g = QF .cnt g := rfl
theorem q_exs1 {s r} : Ok (exs c (.cons s r) ⟨sl, hp⟩) QF = Ok (ex c s ⟨sl, hp⟩) (Nxt c r QF) := by
  rw [exs_cons]
  simp only
  cases ex c s ⟨sl, hp⟩ with
  | bad => rfl
  | ok f g => cases f <;> rfl
end
theorem sizeLine_eq : sizeLine = 16777216 := rfl
theorem backG_mk {sl1 sl2 : List Slot} {hp1 hp2 : List Cell} {is : List Nat} : backG ⟨sl1, hp1⟩ is ⟨sl2, hp2⟩ = ⟨back sl1 sl2 is, hp2⟩ := rfl
theorem pushG_mk {sl : List Slot} {hp : List Cell} {c : Cell} : pushG ⟨sl, hp⟩ c = ⟨sl, hp ++ [c]⟩ := rfl
theorem wipe_nil {sl : List Slot} : wipe sl [] = sl := rfl
theorem wipe_cons {sl : List Slot} {i : Nat} {is : List Nat} : wipe sl (i :: is) = (wipe sl is).set i .no := rfl
theorem back_nil {old sl : List Slot} : back old sl [] = sl := rfl
theorem back_cons {old sl : List Slot} {i : Nat} {is : List Nat} : back old sl (i :: is) = (back old sl is).set i (old.getD i .no) := rfl
theorem noOwn_nil {sl : List Slot} : noOwn sl [] = true := rfl
theorem noOwn_cons {sl : List Slot} {i : Nat} {is : List Nat} : noOwn sl (i :: is) = ((match sl[i]? with
    | some (.own _) => false
    | _ => true) && noOwn sl is) := rfl
theorem slots_nm {i : Nat} : (MT.nm i).slots = [i] := rfl
theorem slots_tp {is : List Nat} : (MT.tp is).slots = is := rfl
theorem pv_val {v : PV} : (Res.val v).pv = v := rfl
theorem pv_new {v : List PV} : (Res.new v).pv = .lst v := rfl
theorem slot_val {v : PV} : (Res.val v).slot = .val v := rfl
theorem slot_new {v : List PV} : (Res.new v).slot = .own v := rfl
theorem asInt_int {i : Int} : asInt (.int i) = some i := rfl
theorem truV_bl {b : Bool} : truV (.bl b) = some b := rfl
theorem truV_int {i : Int} : truV (.int i) = some (i != 0) := rfl
theorem cmpV_eq : cmpV .eq = eqV := rfl
theorem cmpV_ne : cmpV .ne = fun x y => (eqV x y).map (!·) := rfl
theorem cmpV_lt {i j : Int} : cmpV .lt (.int i) (.int j) = some (decide (i < j)) := rfl
theorem cmpV_le {i j : Int} : cmpV .le (.int i) (.int j) = some (decide (i ≤ j)) := rfl
theorem cmpV_gt {i j : Int} : cmpV .gt (.int i) (.int j) = some (decide (j < i)) := rfl
theorem cmpV_ge {i j : Int} : cmpV .ge (.int i) (.int j) = some (decide (j ≤ i)) := rfl
theorem eqV_int {i j : Int} : eqV (.int i) (.int j) = some (decide (i = j)) := rfl
theorem eqV_str {i j : Str} : eqV (.str i) (.str j) = some (decide (i = j)) := rfl
theorem items_l {x : List PV} : itemsOf (.lst x) = some x := rfl
theorem items_t {x : List PV} : itemsOf (.tup x) = some x := rfl
theorem items_f {x : List Int} : itemsOf (.fz x) = some (x.map PV.int) := rfl
theorem slcV_lst {x : List PV} {l h} : slcV (.lst x) l h = some (.new (cut x l h)) := rfl
theorem slcV_tup {x : List PV} {l h} : slcV (.tup x) l h = some (.val (.tup (cut x l h))) := rfl
theorem slcV_fz {x : List Int} {l h} : slcV (.fz x) l h = some (.new ((cut x l h).map PV.int)) := rfl
theorem revV_tup {x : List PV} : revV (.tup x) = some (.val (.tup x.reverse)) := rfl
theorem revV_lst {x : List PV} : revV (.lst x) = some (.new x.reverse) := rfl
theorem rgOk_eq {i : Int} : rgOk i = (-(2 ^ 62) ≤ i ∧ i < 2 ^ 62) := rfl
theorem idxV_lst {xs : List PV} {i : Int} : idxV (.lst xs) (.int i) = atI xs i := rfl
theorem idxV_tup {xs : List PV} {i : Int} : idxV (.tup xs) (.int i) = atI xs i := rfl
/-- xs[i] within -/
theorem atI_in {xs : List PV} {i : Int} (h0 : 0 ≤ i) (h : i < xs.length) : atI xs i = xs[i.toNat]? := by
  unfold atI ixN
  rw [if_pos h0, if_pos h]
  rfl
theorem Ok_at {xs : List PV} {i : Int} {g : G} {Q : PV → G → Prop} (h0 : 0 ≤ i) (h : i < xs.length) (k : ∀ y, xs[i.toNat]? = some y → Q y g) : Ok (lift (atI xs i) g) Q := by
  rw [atI_in h0 h, List.getElem?_eq_getElem (by omega)]
  exact k _ (List.getElem?_eq_getElem (by omega))
end Ev
/-! # Ev, part 17: texts and shown data within bounds. -/
namespace Ev
open PySem

/-! ### texts -/
def Asc (x : Str) : Prop := ∀ c ∈ x.cps.toList, c < 256
/-- a text of at most n signs, all below 256 -/
structure Tx (n : Nat) (x : Str) : Prop where
  asc : Asc x
  len : x.length ≤ n
def ascB (x : Str) : Bool := x.cps.toList.all fun c => decide (c < 256)
def txB (n : Nat) (x : Str) : Bool := ascB x && decide (x.cps.toList.length ≤ n)
theorem Tx.by {n : Nat} {x : Str} (h : txB n x = true) : Tx n x := by
  unfold txB ascB at h
  simp only [Bool.and_eq_true, List.all_eq_true, decide_eq_true_eq] at h
  exact ⟨h.1, by simpa [Str.length] using h.2⟩
theorem Tx.mono {n m : Nat} {x : Str} (h : Tx n x) (l : n ≤ m) : Tx m x := ⟨h.asc, Nat.le_trans h.len l⟩
theorem Tx.app {n m : Nat} {x y : Str} (h : Tx n x) (k : Tx m y) : Tx (n + m) (x ++ y) := by
  refine ⟨fun c hc => ?_, by rw [strLen_append]; exact Nat.add_le_add h.len k.len⟩
  have hc : c ∈ (x.cps ++ y.cps).toList := hc
  rw [Array.toList_append, List.mem_append] at hc
  rcases hc with q | q
  · exact h.asc c q
  · exact k.asc c q
theorem Tx.empty {n : Nat} : Tx n Str.empty := by
  refine ⟨fun c h => ?_, Nat.zero_le _⟩
  have h' : c ∈ ([] : List Nat) := h
  cases h'
theorem Tx.joinS {n m : Nat} {s : Str} (hs : Tx m s) : ∀ {ts : List Str}, (∀ t ∈ ts, Tx n t) → Tx (ts.length * (n + m)) (Str.join s ts)
  | [], _ => Tx.empty
  | [x], h => (h x (by simp)).mono (by simp)
  | x :: y :: r, h => by
    have ih := Tx.joinS (ts := y :: r) hs fun t ht => h t (List.mem_cons_of_mem _ ht)
    have := ((h x (by simp)).app hs).app ih
    refine this.mono ?_
    simp only [List.length_cons, Nat.succ_mul]
    omega
theorem join_eq {s : Str} {ts : List Str} : Txt.join s ts = Str.join s ts := StrLaws.glued_eq_join ..
theorem Tx.join {n m : Nat} {s : Str} (hs : Tx m s) {ts : List Str} (h : ∀ t ∈ ts, Tx n t) {k : Nat} (hk : ts.length ≤ k) : Tx (k * (n + m)) (Txt.join s ts) := by
  rw [join_eq]
  exact (Tx.joinS hs h).mono (Nat.mul_le_mul_right _ hk)
theorem sum_len {n : Nat} : ∀ {ts : List Str}, (∀ t ∈ ts, Tx n t) → (ts.map (·.length)).sum ≤ ts.length * n
  | [], _ => Nat.zero_le _
  | x :: r, h => by
    have := sum_len (ts := r) fun t ht => h t (List.mem_cons_of_mem _ ht)
    have h1 := (h x (by simp)).len
    simp only [List.map_cons, List.sum_cons, List.length_cons, Nat.succ_mul]
    omega
theorem txts_map (ts : List Str) : txts (ts.map PV.str) = some ts := by
  induction ts with
  | nil => rfl
  | cons x r ih =>
    show (txts (r.map PV.str)).map (x :: ·) = _
    rw [ih]
    rfl
/-- sep.join of texts -/
theorem join_l {n m k : Nat} {s : Str} (hs : Tx m s) {ts : List Str} (h : ∀ t ∈ ts, Tx n t) (hk : ts.length ≤ k) (hb : k * n + k * m ≤ 16777216) : joinV (.str s) (.lst (ts.map PV.str)) = some (.str (Txt.join s ts)) := by
  show (txts (ts.map PV.str)).bind _ = _
  rw [txts_map]
  show ck _ _ = _
  unfold ck
  rw [if_pos]
  have h1 := sum_len h
  have h2 := Nat.mul_le_mul_right n hk
  have h3 := Nat.mul_le_mul hk hs.len
  omega
theorem join_t {n m k : Nat} {s : Str} (hs : Tx m s) {ts : List Str} (h : ∀ t ∈ ts, Tx n t) (hk : ts.length ≤ k) (hb : k * n + k * m ≤ 16777216) : joinV (.str s) (.tup (ts.map PV.str)) = some (.str (Txt.join s ts)) := join_l hs h hk hb
theorem digit_lt (n : Nat) : ∀ c ∈ Nat.toDigits 10 n, c.toNat < 256 := by
  intro c hc
  have h := Nat.isDigit_of_mem_toDigits (by omega) (by omega) hc
  unfold Char.isDigit at h
  simp only [Bool.and_eq_true, decide_eq_true_eq] at h
  have := h.2
  have h2 : c.toNat ≤ 57 := this
  omega

/-! ### shown data -/
theorem digits16 : ∀ c : Nat, c < 256 → (Nat.toDigits 16 c).length ≤ 2 := by
  have h : ∀ c : _root_.Fin 256, (Nat.toDigits 16 c.val).length ≤ 2 := by decide +kernel
  exact fun c hc => h ⟨c, hc⟩
theorem reprChar_le (q c : Nat) (h : c < 256) : (Builtin.Str.reprChar q c).length ≤ 4 := by
  unfold Builtin.Str.reprChar
  have := digits16 c h
  split
  · simp
  · split
    · simp
    · split
      · simp
      · split
        · simp
        · split
          · simp
          · simp only [h, if_true]
            simp only [List.length_append, List.length_cons, List.length_nil, List.length_replicate, List.length_map]
            omega
theorem foldl_le (q : Nat) : ∀ (l : List Nat) (n : Nat), (∀ c ∈ l, c < 256) → l.foldl (fun n c => n + (Builtin.Str.reprChar q c).length) n ≤ n + 4 * l.length
  | [], n, _ => by simp
  | c :: r, n, h => by
    rw [List.foldl_cons]
    have h1 := foldl_le q r (n + (Builtin.Str.reprChar q c).length) fun c hc => h c (List.mem_cons_of_mem _ hc)
    have h2 := reprChar_le q c (h c List.mem_cons_self)
    simp only [List.length_cons]
    omega
theorem reprText_le {n : Nat} {x : Str} (h : Tx n x) : (reprText x).length ≤ 4 * n + 2 := by
  rw [← reprLen_eq, ← Array.foldl_toList]
  have h1 := foldl_le (reprQuote x) x.cps.toList 2 h.asc
  have h2 := h.len
  have h3 : x.cps.toList.length = x.length := by simp [Str.length]
  omega
/-- plain data whose shown text has at most b signs, no deeper than d -/
structure Fit (d b : Nat) (v : PV) : Prop where
  pure : v.pure = true
  can : v.d.canLay0 = true
  sh : v.d.showable = true
  dp : v.d.depth ≤ d
  sz : v.d.shown.length ≤ b
structure Fits (d b : Nat) (vs : List PV) : Prop where
  pure : PV.pures vs = true
  can : PyData.canLayAll0 (PV.ds vs) = true
  sh : PyData.showableAll (PV.ds vs) = true
  dp : PyData.depthAll (PV.ds vs) ≤ d
  len : (PyData.shownAll (PV.ds vs)).length = vs.length
  sz : ∀ t ∈ PyData.shownAll (PV.ds vs), t.length ≤ b
theorem Fit.mono {d b d' b' : Nat} {v : PV} (h : Fit d b v) (hd : d ≤ d') (hb : b ≤ b') : Fit d' b' v := ⟨h.pure, h.can, h.sh, Nat.le_trans h.dp hd, Nat.le_trans h.sz hb⟩
theorem Fits.nil {d b : Nat} : Fits d b [] := ⟨rfl, by simp [PV.ds, PyData.canLayAll0], by simp [PV.ds, PyData.showableAll], by simp [PV.ds, PyData.depthAll], by simp [PV.ds, PyData.shownAll], by simp [PV.ds, PyData.shownAll]⟩
theorem Fits.cons {d b : Nat} {v : PV} {vs : List PV} (h : Fit d b v) (t : Fits d b vs) : Fits d b (v :: vs) := by
  refine ⟨?_, ?_, ?_, ?_, ?_, ?_⟩
  · simp only [PV.pures, h.pure, t.pure, Bool.and_self]
  · simp only [PV.ds, PyData.canLayAll0, h.can, t.can, Bool.and_self]
  · simp only [PV.ds, PyData.showableAll, h.sh, t.sh, Bool.and_self]
  · simp only [PV.ds, PyData.depthAll]
    exact Nat.max_le.mpr ⟨h.dp, t.dp⟩
  · simp only [PV.ds, PyData.shownAll, List.length_cons, t.len]
  · intro x hx
    simp only [PV.ds, PyData.shownAll, List.mem_cons] at hx
    rcases hx with rfl | hx
    · exact h.sz
    · exact t.sz x hx
theorem Fits.of {d b : Nat} : ∀ {vs : List PV}, (∀ v ∈ vs, Fit d b v) → Fits d b vs
  | [], _ => .nil
  | v :: vs, h => .cons (h v List.mem_cons_self) (Fits.of fun w hw => h w (List.mem_cons_of_mem _ hw))
theorem textFrom_le {b : Nat} : ∀ (ts : List Str) (k : Nat) (acc : Str), (∀ t ∈ ts, t.length ≤ b) → (textFrom k acc ts).length ≤ acc.length + ts.length * (b + 2)
  | [], k, acc, _ => by simp [textFrom]
  | t :: r, k, acc, h => by
    show (textFrom (k + 1) (acc ++ (if k > 0 then ", " else "" : String) ++ t) r).length ≤ _
    have h1 := textFrom_le r (k + 1) (acc ++ (if k > 0 then ", " else "" : String) ++ t) fun t ht => h t (List.mem_cons_of_mem _ ht)
    have h2 := h t List.mem_cons_self
    rw [strLen_append, strLen_append] at h1
    have h3 : (((if k > 0 then ", " else "" : String) : Str)).length ≤ 2 := by split <;> decide +kernel
    simp only [List.length_cons, Nat.succ_mul]
    omega
theorem piled_le {b : Nat} : ∀ {ts : List Str}, (∀ t ∈ ts, t.length ≤ b) → (Str.join ", " ts).length ≤ ts.length * (b + 2)
  | [], _ => by
    show Str.empty.length ≤ _
    exact Nat.zero_le _
  | [x], h => by
    show x.length ≤ _
    have := h x (by simp)
    simp
    omega
  | x :: y :: r, h => by
    show (x ++ ", " ++ Str.join ", " (y :: r)).length ≤ _
    have ih := piled_le (ts := y :: r) fun t ht => h t (List.mem_cons_of_mem _ ht)
    have h1 := h x (by simp)
    rw [strLen_append, strLen_append]
    have e2 : ((", " : String) : Str).length = 2 := rfl
    simp only [List.length_cons, Nat.succ_mul] at ih ⊢
    omega
theorem Fit.lst {d b n : Nat} {vs : List PV} (h : Fits d b vs) (hn : vs.length ≤ n) : Fit (d + 1) (n * (b + 2) + 2) (.lst vs) := by
  refine ⟨by simp only [PV.pure, h.pure], by simp only [PV.d, PyData.canLay0, h.can], by simp only [PV.d, PyData.showable, h.sh], by simp only [PV.d, PyData.depth]; exact Nat.succ_le_succ h.dp, ?_⟩
  simp only [PV.d, PyData.shown]
  unfold listText
  have h1 := textFrom_le (PyData.shownAll (PV.ds vs)) 0 "[" h.sz
  rw [strLen_append]
  have e1 : (("[" : String) : Str).length = 1 := rfl
  have e2 : (("]" : String) : Str).length = 1 := rfl
  rw [h.len] at h1
  have h2 := Nat.mul_le_mul_right (b + 2) hn
  omega
theorem Fit.tup {d b n : Nat} {vs : List PV} (h : Fits d b vs) (hn : vs.length ≤ n) : Fit (d + 1) (n * (b + 2) + 3) (.tup vs) := by
  refine ⟨by simp only [PV.pure, h.pure], by simp only [PV.d, PyData.canLay0, h.can], by simp only [PV.d, PyData.showable, h.sh], by simp only [PV.d, PyData.depth]; exact Nat.succ_le_succ h.dp, ?_⟩
  simp only [PV.d, PyData.shown]
  unfold tupleText
  have h1 := piled_le h.sz
  rw [strLen_append, strLen_append]
  have e1 : (("(" : String) : Str).length = 1 := rfl
  have e2 : (((if (PyData.shownAll (PV.ds vs)).length == 1 then ",)" else ")" : String) : Str)).length ≤ 2 := by split <;> decide +kernel
  rw [h.len] at h1
  have h2 := Nat.mul_le_mul_right (b + 2) hn
  omega
theorem Fit.str {d n : Nat} {x : Str} (h : Tx n x) : Fit d (4 * n + 2) (.str x) := by
  refine ⟨rfl, ?_, by simp only [PV.d, PyData.showable], by simp only [PV.d, PyData.depth]; exact Nat.zero_le _, by simp only [PV.d, PyData.shown]; exact reprText_le h⟩
  simp only [PV.d, PyData.canLay0]
  unfold PyData.strOk
  rw [← Array.all_toList, List.all_eq_true]
  intro c hc
  have := h.asc c hc
  exact decide_eq_true (by omega)
theorem Fit.bl {d : Nat} {b : Bool} : Fit d 5 (.bl b) := ⟨rfl, by simp only [PV.d, PyData.canLay0], by simp only [PV.d, PyData.showable], by simp only [PV.d, PyData.depth]; exact Nat.zero_le _, by simp only [PV.d, PyData.shown]; cases b <;> decide +kernel⟩
theorem Fit.non {d : Nat} : Fit d 4 .non := ⟨rfl, by simp only [PV.d, PyData.canLay0], by simp only [PV.d, PyData.showable], by simp only [PV.d, PyData.depth]; exact Nat.zero_le _, by simp only [PV.d, PyData.shown]; decide +kernel⟩
/-- a number whose text is bounded -/
theorem Fit.int {d n : Nat} {i : Int} (h1 : i.natAbs.log2 < 1920) (h2 : ((toString i : String) : Str).length ≤ n) : Fit d n (.int i) := ⟨rfl, by simp only [PV.d, PyData.canLay0], by simp only [PV.d, PyData.showable]; exact decide_eq_true h1, by simp only [PV.d, PyData.depth]; exact Nat.zero_le _, by simp only [PV.d, PyData.shown]; exact h2⟩
theorem Fit.shaped {d b : Nat} {v : PV} (h : Fit d b v) (hd : d ≤ 64) : SeqAt.shaped v.d = true := by
  unfold SeqAt.shaped
  rw [h.can, decide_eq_true (Nat.le_trans h.dp hd)]
  rfl
/-- what repr asks -/
theorem Fit.repr {d b : Nat} {v : PV} (h : Fit d b v) (hv : isDisp v = true) (hd : d ≤ 100) (hb : b ≤ 16777216) : biV .repr [v] = some (.val (.str v.d.shown)) := by
  show ck _ _ = _
  unfold ck
  rw [if_pos ⟨hv, h.pure, h.sh, Nat.le_trans h.dp hd, Nat.le_trans h.sz hb⟩]
/-- xs == (), xs == [] -/
theorem eq_nil_t {xs : List PV} (hp : PV.pures xs = true) (hs : SeqAt.shaped (PV.tup xs).d = true) : eqV (.tup xs) (.tup []) = some xs.isEmpty := by
  show ck _ _ = _
  unfold ck
  rw [if_pos ⟨by simpa only [PV.pure] using hp, rfl, hs, by decide +kernel⟩]
  cases xs with
  | nil => simp [PV.d, PV.ds, PyData.eqv, PyData.eqvAll]
  | cons x r => simp [PV.d, PV.ds, PyData.eqv, PyData.eqvAll]
theorem eq_nil_l {xs : List PV} (hp : PV.pures xs = true) (hs : SeqAt.shaped (PV.lst xs).d = true) : eqV (.lst xs) (.lst []) = some xs.isEmpty := by
  show ck _ _ = _
  unfold ck
  rw [if_pos ⟨by simpa only [PV.pure] using hp, rfl, hs, by decide +kernel⟩]
  cases xs with
  | nil => simp [PV.d, PV.ds, PyData.eqv, PyData.eqvAll]
  | cons x r => simp [PV.d, PV.ds, PyData.eqv, PyData.eqvAll]
theorem Fit.eq_t {d b : Nat} {xs : List PV} (h : Fit d b (.tup xs)) (hd : d ≤ 64) : eqV (.tup xs) (.tup []) = some xs.isEmpty := eq_nil_t (by simpa only [PV.pure] using h.pure) (h.shaped hd)
theorem Fit.eq_l {d b : Nat} {xs : List PV} (h : Fit d b (.lst xs)) (hd : d ≤ 64) : eqV (.lst xs) (.lst []) = some xs.isEmpty := eq_nil_l (by simpa only [PV.pure] using h.pure) (h.shaped hd)
theorem ints_pure : ∀ ns : List Int, PV.pures (ns.map PV.int) = true ∧ PyData.canLayAll0 (PV.ds (ns.map PV.int)) = true ∧ PyData.depthAll (PV.ds (ns.map PV.int)) = 0
  | [] => ⟨rfl, by simp [PV.ds, PyData.canLayAll0], by simp [PV.ds, PyData.depthAll]⟩
  | n :: r => by
    obtain ⟨h1, h2, h3⟩ := ints_pure r
    refine ⟨?_, ?_, ?_⟩
    · simp only [List.map_cons, PV.pures, PV.pure, h1, Bool.and_self]
    · simp only [List.map_cons, PV.ds, PV.d, PyData.canLayAll0, PyData.canLay0, h2, Bool.and_self]
    · simp only [List.map_cons, PV.ds, PV.d, PyData.depthAll, PyData.depth, h3]
      rfl
theorem eq_ints (ns : List Int) : eqV (.lst (ns.map PV.int)) (.lst []) = some ns.isEmpty := by
  obtain ⟨h1, h2, h3⟩ := ints_pure ns
  rw [eq_nil_l h1]
  · cases ns <;> rfl
  · unfold SeqAt.shaped
    simp only [PV.d, PyData.canLay0, h2, PyData.depth, h3]
    decide
end Ev
/-! # Ev, part 18: comprehensions and loops by what stays. -/
namespace Ev
open PySem

/-- one by one -/
inductive Each {α β : Type} (P : α → β → Prop) : List α → List β → Prop
  | nil : Each P [] []
  | cons {x : α} {y : β} {xs : List α} {ys : List β} : P x y → Each P xs ys → Each P (x :: xs) (y :: ys)
section
variable {α β γ : Type}
theorem Each.length {P : α → β → Prop} {xs : List α} {ys : List β} (h : Each P xs ys) : ys.length = xs.length := by
  induction h with
  | nil => rfl
  | cons _ _ ih => simp [ih]
theorem Each.all {P : α → β → Prop} {xs : List α} {ys : List β} (h : Each P xs ys) : ∀ y ∈ ys, ∃ x ∈ xs, P x y := by
  induction h with
  | nil => exact nofun
  | cons p _ ih =>
    intro y hy
    rcases List.mem_cons.mp hy with rfl | hy
    · exact ⟨_, List.mem_cons_self, p⟩
    · obtain ⟨x, h1, h2⟩ := ih y hy
      exact ⟨x, List.mem_cons_of_mem _ h1, h2⟩
theorem Each.append {P : α → β → Prop} {xs xs' : List α} {ys ys' : List β} (h : Each P xs ys) (t : Each P xs' ys') : Each P (xs ++ xs') (ys ++ ys') := by
  induction h with
  | nil => exact t
  | cons p _ ih => exact .cons p ih
theorem Each.imp {P P' : α → β → Prop} {xs : List α} {ys : List β} (h : Each P xs ys) (k : ∀ x y, P x y → P' x y) : Each P' xs ys := by
  induction h with
  | nil => exact .nil
  | cons p _ ih => exact .cons (k _ _ p) ih
/-- each of the form f -/
theorem Each.map {P : α → β → Prop} {f : γ → β} {Q : γ → Prop} {xs : List α} {ys : List β} (h : Each P xs ys) (k : ∀ x y, P x y → ∃ z, y = f z ∧ Q z) : ∃ zs : List γ, ys = zs.map f ∧ zs.length = xs.length ∧ ∀ z ∈ zs, Q z := by
  induction h with
  | nil => exact ⟨[], rfl, rfl, nofun⟩
  | cons p _ ih =>
    obtain ⟨z, rfl, hz⟩ := k _ _ p
    obtain ⟨zs, rfl, hl, hq⟩ := ih
    refine ⟨z :: zs, rfl, by simp [hl], fun w hw => ?_⟩
    rcases List.mem_cons.mp hw with rfl | hw
    · exact hz
    · exact hq w hw
theorem Each.eq {f : α → β} {xs : List α} {ys : List β} (h : Each (fun x y => y = f x) xs ys) : ys = xs.map f := by
  induction h with
  | nil => rfl
  | cons p _ ih => rw [p, ih]; rfl
end
/-- a comprehension without a condition: J stays of the cells -/
theorem lc_each {own : List Nat} {bd : Res → M Unit} {ts : M Bool} {el : M Res} {sl : List Slot} {Q : List PV → G → Prop} (J : List Cell → Prop) (P : PV → PV → Prop) :
    ∀ (xs acc : List PV) (hp : List Cell) (zs : List PV), Each P zs acc → J hp → zs.length + xs.length ≤ 16777216 →
    (∀ x ∈ xs, ∀ hp, J hp → Ok (bd (.val x) ⟨sl, hp⟩) fun _ g1 => Ok (ts g1) fun b g2 => b = true ∧ Ok (el g2) fun y g3 => P x y.pv ∧ wipe g3.sl own = sl ∧ J g3.hp) →
    (∀ ys hp', J hp' → Each P (zs ++ xs) ys → Q ys ⟨sl, hp'⟩) → Ok (lcGo own bd ts el xs acc ⟨sl, hp⟩) Q
  | [], acc, hp, zs, e, j, hl, step, fin => by
    unfold lcGo
    exact fin acc hp j (by simpa using e)
  | x :: xs, acc, hp, zs, e, j, hl, step, fin => by
    unfold lcGo
    rw [Ok_bind]
    refine (step x List.mem_cons_self hp j).imp fun u g1 s => ?_
    rw [Ok_bind]
    refine s.imp fun b g2 ⟨hb, s⟩ => ?_
    subst hb
    rw [if_pos rfl, Ok_bind]
    refine s.imp fun y g3 ⟨hp3, hw, j3⟩ => ?_
    have hlen := e.length
    rw [Ok_if]
    refine ⟨by simp only [List.length_cons] at hl; rw [hlen, sizeLine_eq]; omega, ?_⟩
    obtain ⟨sl3, hq⟩ := g3
    subst hw
    refine lc_each J P xs (acc ++ [y.pv]) hq (zs ++ [x]) (e.append (.cons hp3 .nil)) j3 (by simp only [List.length_append, List.length_cons, List.length_nil] at hl ⊢; omega) (fun x hx => step x (List.mem_cons_of_mem _ hx)) fun ys hp' j' e' => fin ys hp' j' ?_
    simpa using e'
theorem lc_all {own : List Nat} {bd : Res → M Unit} {ts : M Bool} {el : M Res} {sl : List Slot} {Q : List PV → G → Prop} {xs : List PV} {hp : List Cell} (J : List Cell → Prop) (P : PV → PV → Prop) (j : J hp) (hl : xs.length ≤ 16777216)
    (step : ∀ x ∈ xs, ∀ hp, J hp → Ok (bd (.val x) ⟨sl, hp⟩) fun _ g1 => Ok (ts g1) fun b g2 => b = true ∧ Ok (el g2) fun y g3 => P x y.pv ∧ wipe g3.sl own = sl ∧ J g3.hp)
    (fin : ∀ ys hp', J hp' → Each P xs ys → Q ys ⟨sl, hp'⟩) : Ok (lcGo own bd ts el xs [] ⟨sl, hp⟩) Q := lc_each J P xs [] hp [] .nil j (by simpa using hl) step fin
/-- over items of a form, each to an item of a form -/
theorem lc_map {α : Type} {own : List Nat} {bd : Res → M Unit} {ts : M Bool} {el : M Res} {sl : List Slot} {Q : List PV → G → Prop} {f h : α → PV} (J : List Cell → Prop) :
    ∀ (as : List α) (acc : List PV) (hp : List Cell), J hp → acc.length + as.length ≤ 16777216 →
    (∀ a ∈ as, ∀ hp, J hp → Ok (bd (.val (f a)) ⟨sl, hp⟩) fun _ g1 => Ok (ts g1) fun b g2 => b = true ∧ Ok (el g2) fun y g3 => y.pv = h a ∧ wipe g3.sl own = sl ∧ J g3.hp) →
    (∀ hp', J hp' → Q (acc ++ as.map h) ⟨sl, hp'⟩) → Ok (lcGo own bd ts el (as.map f) acc ⟨sl, hp⟩) Q
  | [], acc, hp, j, hl, step, fin => by
    unfold lcGo
    have := fin hp j
    rw [List.map_nil, List.append_nil] at this
    exact this
  | a :: as, acc, hp, j, hl, step, fin => by
    rw [List.map_cons]
    unfold lcGo
    rw [Ok_bind]
    refine (step a List.mem_cons_self hp j).imp fun u g1 s => ?_
    rw [Ok_bind]
    refine s.imp fun b g2 ⟨hb, s⟩ => ?_
    subst hb
    rw [if_pos rfl, Ok_bind]
    refine s.imp fun y g3 ⟨hy, hw, j3⟩ => ?_
    rw [Ok_if]
    refine ⟨by simp only [List.length_cons] at hl; rw [sizeLine_eq]; omega, ?_⟩
    obtain ⟨sl3, hq⟩ := g3
    subst hw
    rw [hy]
    exact lc_map J as (acc ++ [h a]) hq j3 (by simp only [List.length_append, List.length_cons, List.length_nil] at hl ⊢; omega) (fun x hx => step x (List.mem_cons_of_mem _ hx)) (by simpa using fin)
theorem map_get {α : Type} {f : α → PV} {as : List α} {i : Nat} {x : PV} (h : (as.map f)[i]? = some x) : ∃ a, as[i]? = some a ∧ x = f a := by
  rw [List.getElem?_map] at h
  cases q : as[i]? with
  | none => rw [q] at h; cases h
  | some a =>
    rw [q] at h
    cases h
    exact ⟨a, rfl, rfl⟩
theorem take_succ' {α : Type} {as : List α} {i : Nat} {a : α} (h : as[i]? = some a) : as.take (i + 1) = as.take i ++ [a] := by
  rw [List.take_add_one, h]
  rfl
theorem empty_app (x : Str) : Str.empty ++ x = x := by
  show Str.append Str.empty x = x
  unfold Str.append Str.empty
  cases x
  simp
/-- the same where slots change: b tells of them -/
theorem lc_go {β : Type} {own : List Nat} {bd : Res → M Unit} {ts : M Bool} {el : M Res} {sl : List Slot} {Q : List PV → G → Prop} (upd : β → List Slot → List Slot) (I : Nat → β → List Cell → Prop) (P : PV → PV → Prop) :
    ∀ (xs acc : List PV) (b : β) (hp : List Cell) (zs : List PV), Each P zs acc → I zs.length b hp → zs.length + xs.length ≤ 16777216 →
    (∀ (i : Nat) x b hp, (zs ++ xs)[i]? = some x → I i b hp → Ok (bd (.val x) ⟨upd b sl, hp⟩) fun _ g1 => Ok (ts g1) fun t g2 => t = true ∧ Ok (el g2) fun y g3 => P x y.pv ∧ ∃ b', wipe g3.sl own = upd b' sl ∧ I (i + 1) b' g3.hp) →
    (∀ ys b hp', I (zs ++ xs).length b hp' → Each P (zs ++ xs) ys → Q ys ⟨upd b sl, hp'⟩) → Ok (lcGo own bd ts el xs acc ⟨upd b sl, hp⟩) Q
  | [], acc, b, hp, zs, e, j, hl, step, fin => by
    unfold lcGo
    exact fin acc b hp (by simpa using j) (by simpa using e)
  | x :: xs, acc, b, hp, zs, e, j, hl, step, fin => by
    unfold lcGo
    rw [Ok_bind]
    refine (step zs.length x b hp (by simp) j).imp fun u g1 s => ?_
    rw [Ok_bind]
    refine s.imp fun t g2 ⟨hb, s⟩ => ?_
    subst hb
    rw [if_pos rfl, Ok_bind]
    refine s.imp fun y g3 ⟨hp3, b', hw, j3⟩ => ?_
    have hlen := e.length
    rw [Ok_if]
    refine ⟨by simp only [List.length_cons] at hl; rw [hlen, sizeLine_eq]; omega, ?_⟩
    obtain ⟨sl3, hq⟩ := g3
    have hw' : wipe sl3 own = upd b' sl := hw
    rw [show ({ ({ sl := sl3, hp := hq } : G) with sl := wipe sl3 own } : G) = ⟨upd b' sl, hq⟩ by rw [hw']]
    have ea : zs ++ [x] ++ xs = zs ++ x :: xs := by simp
    refine lc_go upd I P xs (acc ++ [y.pv]) b' hq (zs ++ [x]) (e.append (.cons hp3 .nil)) (by simpa using j3) (by simp only [List.length_append, List.length_cons, List.length_nil] at hl ⊢; omega) (by rw [ea]; exact step) (by rw [ea]; exact fin)
theorem lc_up {β : Type} {own : List Nat} {bd : Res → M Unit} {ts : M Bool} {el : M Res} {sl : List Slot} {Q : List PV → G → Prop} {xs : List PV} {hp : List Cell} (upd : β → List Slot → List Slot) (I : Nat → β → List Cell → Prop) (P : PV → PV → Prop) (b0 : β) (h0 : upd b0 sl = sl) (j : I 0 b0 hp) (hl : xs.length ≤ 16777216)
    (step : ∀ (i : Nat) x b hp, xs[i]? = some x → I i b hp → Ok (bd (.val x) ⟨upd b sl, hp⟩) fun _ g1 => Ok (ts g1) fun t g2 => t = true ∧ Ok (el g2) fun y g3 => P x y.pv ∧ ∃ b', wipe g3.sl own = upd b' sl ∧ I (i + 1) b' g3.hp)
    (fin : ∀ ys b hp', I xs.length b hp' → Each P xs ys → Q ys ⟨upd b sl, hp'⟩) : Ok (lcGo own bd ts el xs [] ⟨sl, hp⟩) Q := by
  have := lc_go upd I P xs [] b0 hp [] .nil j (by simpa using hl) step fin
  rw [h0] at this
  exact this
/-- a loop: b tells of the slots that change; I by the turn -/
theorem for_go {β : Type} {bd : Res → M Unit} {body : M Fl} {sl : List Slot} {Q : Fl → G → Prop} {xs : List PV} (upd : β → List Slot → List Slot) (I : Nat → β → List Cell → Prop)
    (step : ∀ (i : Nat) x b hp, xs[i]? = some x → I i b hp → Ok (bd (.val x) ⟨upd b sl, hp⟩) fun _ g1 => Ok (body g1) (Turn (fun g => ∃ b', g.sl = upd b' sl ∧ I (i + 1) b' g.hp) Q))
    (fin : ∀ b hp, I xs.length b hp → Q .nx ⟨upd b sl, hp⟩) : ∀ (n i : Nat) (b : β) (hp : List Cell), i + n = xs.length → I i b hp → Ok (forGo bd body (xs.drop i) ⟨upd b sl, hp⟩) Q
  | 0, i, b, hp, e, h => by
    rw [List.drop_eq_nil_of_le (by omega)]
    unfold forGo
    have : i = xs.length := by omega
    subst this
    exact fin b hp h
  | n + 1, i, b, hp, e, h => by
    have hi : i < xs.length := by omega
    rw [List.drop_eq_getElem_cons hi]
    unfold forGo
    rw [Ok_bind]
    refine (step i _ b hp (List.getElem?_eq_getElem hi) h).imp fun u g1 s => ?_
    rw [Ok_bind]
    refine s.imp fun f g2 t => ?_
    have again : (∃ b', g2.sl = upd b' sl ∧ I (i + 1) b' g2.hp) → Ok (forGo bd body (xs.drop (i + 1)) g2) Q := by
      rintro ⟨b', e1, h'⟩
      obtain ⟨sl2, hp2⟩ := g2
      subst e1
      exact for_go upd I step fin n (i + 1) b' hp2 (by omega) h'
    cases f with
    | nx => exact again t
    | cnt => exact again t
    | brk => exact t
    | ret r => exact t
theorem for_sl {β : Type} {bd : Res → M Unit} {body : M Fl} {sl : List Slot} {hp : List Cell} {Q : Fl → G → Prop} {xs : List PV} (upd : β → List Slot → List Slot) (I : Nat → β → List Cell → Prop) (b0 : β) (h0 : upd b0 sl = sl) (hI : I 0 b0 hp)
    (step : ∀ (i : Nat) x b hp, xs[i]? = some x → I i b hp → Ok (bd (.val x) ⟨upd b sl, hp⟩) fun _ g1 => Ok (body g1) (Turn (fun g => ∃ b', g.sl = upd b' sl ∧ I (i + 1) b' g.hp) Q))
    (fin : ∀ b hp, I xs.length b hp → Q .nx ⟨upd b sl, hp⟩) : Ok (forGo bd body xs ⟨sl, hp⟩) Q := by
  have := for_go upd I step fin xs.length 0 b0 hp (by omega) hI
  rw [h0] at this
  exact this
/-- none is taken -/
theorem lc_none {own : List Nat} {bd : Res → M Unit} {ts : M Bool} {el : M Res} {sl : List Slot} {Q : List PV → G → Prop} (J : List Cell → Prop) :
    ∀ (xs acc : List PV) (hp : List Cell), J hp →
    (∀ x ∈ xs, ∀ hp, J hp → Ok (bd (.val x) ⟨sl, hp⟩) fun _ g1 => Ok (ts g1) fun b g2 => b = false ∧ wipe g2.sl own = sl ∧ J g2.hp) →
    (∀ hp', J hp' → Q acc ⟨sl, hp'⟩) → Ok (lcGo own bd ts el xs acc ⟨sl, hp⟩) Q
  | [], acc, hp, j, step, fin => by
    unfold lcGo
    exact fin hp j
  | x :: xs, acc, hp, j, step, fin => by
    unfold lcGo
    rw [Ok_bind]
    refine (step x List.mem_cons_self hp j).imp fun u g1 s => ?_
    rw [Ok_bind]
    refine s.imp fun b g2 ⟨hb, hw, j2⟩ => ?_
    subst hb
    rw [if_neg Bool.false_ne_true]
    obtain ⟨sl2, hq⟩ := g2
    subst hw
    exact lc_none J xs acc hq j2 (fun x hx => step x (List.mem_cons_of_mem _ hx)) fin
/-- items of a range -/
theorem rg_len (j : Int) : (rgItems 0 j).length = j.toNat := by simp [rgItems]
theorem rg_len2 (i j : Int) : (rgItems i j).length = (j - i).toNat := by simp [rgItems]
theorem rg_mem {i j : Int} {x : PV} (h : x ∈ rgItems i j) : ∃ n : Int, x = .int n ∧ i ≤ n ∧ n < j := by
  unfold rgItems at h
  obtain ⟨k, hk, rfl⟩ := List.mem_map.mp h
  rw [List.mem_range] at hk
  exact ⟨_, rfl, by omega, by omega⟩
theorem rg_get {lo hi : Int} {i : Nat} {x : PV} (h : (rgItems lo hi)[i]? = some x) : x = .int (lo + i) ∧ i < (hi - lo).toNat := by
  unfold rgItems at h
  rw [List.getElem?_map] at h
  cases q : (List.range (hi - lo).toNat)[i]? with
  | none => rw [q] at h; cases h
  | some k =>
    rw [q] at h
    obtain ⟨h1, h2⟩ := List.getElem?_eq_some_iff.mp q
    rw [List.getElem_range] at h2
    subst h2
    cases h
    exact ⟨rfl, by simpa using h1⟩
/-- x[i] of a text -/
theorem Ok_ats {x : Str} {i : Int} {g : G} {Q : PV → G → Prop} (h0 : 0 ≤ i) (h : i < x.length) (hx : x.length ≤ 16777216) (k : ∀ c ∈ x.cps.toList, Q (.str ⟨#[c]⟩) g) : Ok (lift (idxV (.str x) (.int i)) g) Q := by
  have e : idxV (.str x) (.int i) = (atI x.cps.toList i).map fun c => .str ⟨#[c]⟩ := by
    show (if x.length ≤ sizeLine then _ else _) = _
    rw [if_pos (by rw [sizeLine_eq]; exact hx)]
  have hl : x.cps.toList.length = x.length := by simp [Str.length]
  rw [e]
  unfold atI ixN
  rw [if_pos h0, if_pos (by omega)]
  show Ok (lift ((x.cps.toList[i.toNat]?).map _) g) Q
  rw [List.getElem?_eq_getElem (by omega)]
  exact k _ (List.getElem_mem _)
theorem Tx.one {x : Str} (h : Asc x) {c : Nat} (hc : c ∈ x.cps.toList) : Tx 1 ⟨#[c]⟩ := by
  refine ⟨fun d hd => ?_, Nat.le_refl _⟩
  have hd : d ∈ [c] := hd
  rw [List.mem_singleton] at hd
  subst hd
  exact h _ hc
/-- a text among some -/
def txP (n : Nat) : PV → Bool
  | .str w => txB n w
  | _ => false
theorem txP_of {n : Nat} {v : PV} (h : txP n v = true) : ∃ w, v = .str w ∧ Tx n w := by
  unfold txP at h
  split at h
  · exact ⟨_, rfl, Tx.by h⟩
  · cases h
theorem at_txP {n : Nat} {L : List PV} {v : PV} {i : Nat} (h : L.all (txP n) = true) (e : L[i]? = some v) : ∃ w, v = .str w ∧ Tx n w := txP_of (List.all_eq_true.mp h v (List.mem_of_getElem? e))
/-! ### places and slices -/
section
variable {α : Type} {x y z u : α} {xs : List α}
theorem at0 : atI (x :: xs) 0 = some x := by
  unfold atI ixN
  rw [if_pos (by omega), if_pos (by simp only [List.length_cons]; omega)]
  rfl
theorem at1 : atI (x :: y :: xs) 1 = some y := by
  unfold atI ixN
  rw [if_pos (by omega), if_pos (by simp only [List.length_cons]; omega)]
  rfl
theorem at2 : atI (x :: y :: z :: xs) 2 = some z := by
  unfold atI ixN
  rw [if_pos (by omega), if_pos (by simp only [List.length_cons]; omega)]
  rfl
theorem at3 : atI (x :: y :: z :: u :: xs) 3 = some u := by
  unfold atI ixN
  rw [if_pos (by omega), if_pos (by simp only [List.length_cons]; omega)]
  rfl
theorem cut_to {k : Int} (h : 0 ≤ k) : cut xs none (some k) = xs.take k.toNat := by
  obtain ⟨n, rfl⟩ := Int.eq_ofNat_of_zero_le h
  unfold cut
  rw [HT.sIx_none, HT.sIx_nat]
  simp only [Nat.zero_min, List.drop_zero, Nat.sub_zero, Int.toNat_natCast, Nat.min_zero]
  by_cases h : n ≤ xs.length
  · rw [Nat.min_eq_left h]
  · rw [Nat.min_eq_right (by omega), List.take_of_length_le (by omega), List.take_of_length_le (by omega)]
end
/-- texts all -/
def AllTx (n : Nat) (L : List PV) : Prop := ∀ y ∈ L, ∃ w, y = PV.str w ∧ Tx n w
theorem AllTx.app {n : Nat} {L M : List PV} (h : AllTx n L) (k : AllTx n M) : AllTx n (L ++ M) := fun y hy => (List.mem_append.mp hy).elim (h y) (k y)
theorem AllTx.map {n : Nat} {ws : List Str} (h : ∀ w ∈ ws, Tx n w) : AllTx n (ws.map PV.str) := fun y hy => by
  obtain ⟨w, h1, rfl⟩ := List.mem_map.mp hy
  exact ⟨w, rfl, h w h1⟩
theorem AllTx.lit {n : Nat} {L : List PV} (h : L.all (txP n) = true) : AllTx n L := fun y hy => txP_of (List.all_eq_true.mp h y hy)
theorem AllTx.take {n : Nat} {L : List PV} (h : AllTx n L) (k : Nat) : AllTx n (L.take k) := fun y hy => h y (List.mem_of_mem_take hy)
theorem AllTx.ex {n : Nat} : ∀ {L : List PV}, AllTx n L → ∃ ws : List Str, L = ws.map PV.str ∧ ∀ w ∈ ws, Tx n w
  | [], _ => ⟨[], rfl, nofun⟩
  | y :: L, h => by
    obtain ⟨w, rfl, hw⟩ := h y List.mem_cons_self
    obtain ⟨ws, rfl, hws⟩ := AllTx.ex fun z hz => h z (List.mem_cons_of_mem _ hz)
    refine ⟨w :: ws, rfl, fun v hv => ?_⟩
    rcases List.mem_cons.mp hv with rfl | hv
    · exact hw
    · exact hws v hv
end Ev
/-! # K09: its defs, as the evaluator's terms (printed by tr.py). -/
namespace K09
open PySem PySem.Spec Ev L2
def top (i : Nat) : Stmt := PySem.Challenge.pw_amidlinks_k09_texts_written.main.body.getD i (.Pass ⟨0, 0, 0, 0⟩)
/-- a long text -/
def s_0 : Str := sj ["make 1 open free", "\n", "names x,y", "\n", "read z x.next -", "\n", "write next.y z -"]
/-- a long text -/
def s_1 : Str := sj ["make 2 open last", "\n", "names x,y", "\n", "read a last.back.nex", "t x:is:none,x:not:y", "\n", "read b a -", "\n"]
/-- a long text -/
def s_2 : Str := sj ["write first none -", "\n", "write back.a b a:is:", "b", "\n", "write last x -"]
/-- a long text -/
def s_3 : Str := sj ["make 1 guard last", "\n", "names x", "\n", "write next.guard gua", "rd guard:not:none"]
/-- law -/
def d_law : FD := ⟨1, 7, (
  .cons (.asg (.nm 1) (.call 1 (.cons (.var 0) .nil) .nil)) <|
  .cons (.iff (.nt (.call 2 .nil .nil)) (
    .cons (.ret (.cst (.bl false))) <| .nil) .nil) <|
  .cons (.for_ (.nm 2) (.rg1 (.cst (.int 3))) (
    .cons (.par [3, 4] (.cons (.call 3 (.cons (.var 1) (.cons (.cst (.int 6)) .nil)) .nil) (.cons (.call 3 (.cons (.var 1) (.cons (.cst (.int 3)) .nil)) .nil) .nil))) <|
    .cons (.asg (.nm 5) (.lst (.cons (.var 3) (.cons (.var 4) (.cons (.tup (.cons (.idx (.var 4) (.cst (.int 0))) (.cons (.idx (.var 3) (.cst (.int 1))) (.cons (.idx (.var 3) (.cst (.int 2))) (.cons (.idx (.var 4) (.cst (.int 3))) .nil))))) (.cons (.tup (.cons (.idx (.var 3) (.cst (.int 0))) (.cons (.bin .mul (.idx (.var 3) (.cst (.int 1))) (.cst (.int 2))) (.cons (.bin .add (.idx (.var 4) (.cst (.int 2))) (.idx (.var 3) (.cst (.int 2)))) (.cons (.idx (.var 3) (.cst (.int 3))) .nil))))) .nil)))))) <|
    .cons (.asg (.nm 5) (.bin .add (.var 5) (.lst (.cons (.tup (.cons (.tup (.cons (.cst (.int 2)) (.cons (.cst (.bl true)) (.cons (.cst (.bl true)) .nil)))) (.cons (.bin .add (.idx (.var 3) (.cst (.int 1))) (.idx (.var 4) (.cst (.int 1)))) (.cons (.rev (.idx (.var 3) (.cst (.int 2)))) (.cons (.tup .nil) .nil))))) (.cons (.tup (.cons (.idx (.var 3) (.cst (.int 0))) (.cons (.idx (.var 4) (.cst (.int 1))) (.cons (.tup .nil) (.cons (.rev (.idx (.var 3) (.cst (.int 3)))) .nil))))) .nil))))) <|
    .cons (.iff (.orr (.cmp .ne (.lc (.nm 6) (.it (.var 5)) (.so (.nt (.call 5 (.cons (.var 6) .nil) .nil))) (.var 6)) (.lst .nil)) (.nt (.call 4 (.cons (.var 1) .nil) .nil))) (
      .cons (.ret (.cst (.bl false))) <| .nil) .nil) <| .nil)) <|
  .cons (.ret (.cst (.bl true))) <| .nil)⟩
/-- _law_feed -/
def d_l_feed : FD := ⟨1, 2, (
  .cons (.ret (.dct ["cells", "spot", "left", "drawn"] (.cons (.lc (.nm 1) (.it (.slc (.var 0) .no (.so (.cst (.int 63))))) .no (.bi .int (.cons (.var 1) .nil))) (.cons (.cst (.int 0)) (.cons (.cst (.int 0)) (.cons (.cst (.int 0)) .nil)))))) <| .nil)⟩
/-- _law_by_hand -/
def d_l_by_hand : FD := ⟨0, 7, (
  .cons (.asg (.nm 0) (.tup (.cons (.tup (.cons (.cst (.int 1)) (.cons (.cst (.bl false)) (.cons (.cst (.bl false)) .nil)))) (.cons (.tup (.cons (.cst (.str "x")) (.cons (.cst (.str "y")) .nil))) (.cons (.tup (.cons (.tup (.cons (.cst (.str "z")) (.cons (.tup (.cons (.cst (.str "x")) (.cons (.cst (.str "next")) .nil))) (.cons (.tup .nil) .nil)))) .nil)) (.cons (.tup (.cons (.tup (.cons (.tup (.cons (.cst (.str "next")) (.cons (.cst (.str "y")) .nil))) (.cons (.cst (.str "z")) (.cons (.tup .nil) .nil)))) .nil)) .nil)))))) <|
  .cons (.asg (.nm 1) (.tup (.cons (.tup (.cons (.cst (.str "a")) (.cons (.tup (.cons (.cst (.str "last")) (.cons (.cst (.str "back")) (.cons (.cst (.str "next")) .nil)))) (.cons (.tup (.cons (.tup (.cons (.cst (.str "x")) (.cons (.cst (.str "is")) (.cons (.cst (.str "none")) .nil)))) (.cons (.tup (.cons (.cst (.str "x")) (.cons (.cst (.str "not")) (.cons (.cst (.str "y")) .nil)))) .nil))) .nil)))) (.cons (.tup (.cons (.cst (.str "b")) (.cons (.tup (.cons (.cst (.str "a")) .nil)) (.cons (.tup .nil) .nil)))) .nil)))) <|
  .cons (.asg (.nm 2) (.tup (.cons (.tup (.cons (.tup (.cons (.cst (.str "first")) .nil)) (.cons (.cst (.str "none")) (.cons (.tup .nil) .nil)))) (.cons (.tup (.cons (.tup (.cons (.cst (.str "back")) (.cons (.cst (.str "a")) .nil))) (.cons (.cst (.str "b")) (.cons (.tup (.cons (.tup (.cons (.cst (.str "a")) (.cons (.cst (.str "is")) (.cons (.cst (.str "b")) .nil)))) .nil)) .nil)))) (.cons (.tup (.cons (.tup (.cons (.cst (.str "last")) .nil)) (.cons (.cst (.str "x")) (.cons (.tup .nil) .nil)))) .nil))))) <|
  .cons (.asg (.nm 3) (.tup (.cons (.tup (.cons (.cst (.int 2)) (.cons (.cst (.bl false)) (.cons (.cst (.bl true)) .nil)))) (.cons (.tup (.cons (.cst (.str "x")) (.cons (.cst (.str "y")) .nil))) (.cons (.var 1) (.cons (.var 2) .nil)))))) <|
  .cons (.asg (.nm 4) (.tup (.cons (.tup (.cons (.cst (.int 1)) (.cons (.cst (.bl true)) (.cons (.cst (.bl true)) .nil)))) (.cons (.tup (.cons (.cst (.str "x")) .nil)) (.cons (.tup .nil) (.cons (.tup (.cons (.tup (.cons (.tup (.cons (.cst (.str "next")) (.cons (.cst (.str "guard")) .nil))) (.cons (.cst (.str "guard")) (.cons (.tup (.cons (.tup (.cons (.cst (.str "guard")) (.cons (.cst (.str "not")) (.cons (.cst (.str "none")) .nil)))) .nil)) .nil)))) .nil)) .nil)))))) <|
  .cons (.asg (.nm 5) (.lst (.cons (.call 6 (.cons (.var 0) .nil) .nil) (.cons (.call 6 (.cons (.var 3) .nil) .nil) (.cons (.call 6 (.cons (.var 4) .nil) .nil) (.cons (.call 7 (.cons (.tup .nil) .nil) .nil) (.cons (.call 7 (.cons (.tup (.cons (.cst (.int 2)) (.cons (.cst (.int 0)) .nil))) .nil) .nil) .nil))))))) <|
  .cons (.asg (.nm 6) (.lst (.cons (.cst (.str s_0)) .nil))) <|
  .cons (.ex (.app 6 (.bin .add (.cst (.str s_1)) (.cst (.str s_2))))) <|
  .cons (.ex (.app 6 (.cst (.str s_3)))) <|
  .cons (.ret (.cmp .eq (.bi .repr (.cons (.bin .add (.var 5) (.lst (.cons (.call 8 (.cons (.tup (.cons (.cst (.str "to")) (.cons (.cst (.str "x")) (.cons (.cst (.str "y")) .nil)))) .nil) .nil) .nil))) .nil)) (.bi .repr (.cons (.bin .add (.var 6) (.lst (.cons (.cst (.str "-")) (.cons (.cst (.str "2,0")) (.cons (.cst (.str "to x y")) .nil))))) .nil)))) <| .nil)⟩
/-- _law_plan -/
def d_l_plan : FD := ⟨2, 12, (
  .cons (.asg (.nm 2) (.lst (.cons (.tup (.cons (.cst (.int 1)) (.cons (.cst (.bl false)) (.cons (.cst (.bl false)) .nil)))) (.cons (.tup (.cons (.cst (.int 1)) (.cons (.cst (.bl false)) (.cons (.cst (.bl true)) .nil)))) (.cons (.tup (.cons (.cst (.int 1)) (.cons (.cst (.bl true)) (.cons (.cst (.bl false)) .nil)))) (.cons (.tup (.cons (.cst (.int 1)) (.cons (.cst (.bl true)) (.cons (.cst (.bl true)) .nil)))) (.cons (.tup (.cons (.cst (.int 2)) (.cons (.cst (.bl false)) (.cons (.cst (.bl false)) .nil)))) .nil))))))) <|
  .cons (.asg (.nm 3) (.call 9 (.cons (.var 0) (.cons (.bin .add (.var 2) (.lst (.cons (.tup (.cons (.cst (.int 2)) (.cons (.cst (.bl false)) (.cons (.cst (.bl true)) .nil)))) (.cons (.tup (.cons (.cst (.int 2)) (.cons (.cst (.bl true)) (.cons (.cst (.bl false)) .nil)))) (.cons (.tup (.cons (.cst (.int 2)) (.cons (.cst (.bl false)) (.cons (.cst (.bl true)) .nil)))) (.cons (.tup (.cons (.cst (.int 2)) (.cons (.cst (.bl true)) (.cons (.cst (.bl false)) .nil)))) .nil)))))) .nil)) .nil)) <|
  .cons (.par [4, 5] (.cons (.call 10 (.cons (.var 0) (.cons (.bin .add (.var 1) (.cst (.int 1))) .nil)) .nil) (.cons (.tup .nil) .nil))) <|
  .cons (.asg (.nm 6) (.call 11 (.cons (.var 0) (.cons (.bin .add (.var 4) (.cst (.int 2))) .nil)) .nil)) <|
  .cons (.asg (.nm 7) (.slc (.var 6) .no (.so (.bin .add (.cst (.int 1)) (.call 10 (.cons (.var 0) (.cons (.cst (.int 2)) .nil)) .nil))))) <|
  .cons (.asg (.nm 8) (.bi .tuple (.cons (.var 7) .nil))) <|
  .cons (.for_ (.nm 9) (.rg1 (.var 4)) (
    .cons (.asg (.nm 5) (.bin .add (.var 5) (.tup (.cons (.call 12 (.cons (.var 0) (.cons (.var 3) (.cons (.var 7) (.cons (.idx (.var 6) (.bin .add (.cst (.int 2)) (.var 9))) .nil)))) .nil) .nil)))) <|
    .cons (.asg (.nm 7) (.bin .add (.var 7) (.lst (.cons (.idx (.var 6) (.bin .add (.cst (.int 2)) (.var 9))) .nil)))) <| .nil)) <|
  .cons (.asg (.nm 10) (.bi .tuple (.cons (.lc (.nm 11) (.rg1 (.call 10 (.cons (.var 0) (.cons (.bin .add (.bin .mul (.cst (.int 2)) (.var 1)) (.cst (.int 1))) .nil)) .nil)) .no (.call 13 (.cons (.var 0) (.cons (.var 3) (.cons (.var 7) .nil))) .nil)) .nil))) <|
  .cons (.ret (.tup (.cons (.var 3) (.cons (.var 8) (.cons (.var 5) (.cons (.var 10) .nil)))))) <| .nil)⟩
/-- _law_are_words_right -/
def d_l_are_words_right : FD := ⟨1, 10, (
  .cons (.asg (.nm 1) (.lst (.cons (.cst (.int 0)) (.cons (.cst (.int 1)) (.cons (.cst (.int 7)) (.cons (.cst (.int 10)) (.cons (.cst (.int 99)) (.cons (.cst (.int 123456)) (.cons (.bin .pow (.cst (.int 10)) (.cst (.int 59))) .nil))))))))) <|
  .cons (.asg (.nm 2) (.bi .tuple (.cons (.lc (.nm 8) (.rg1 (.call 10 (.cons (.var 0) (.cons (.cst (.int 12)) .nil)) .nil)) .no (.call 9 (.cons (.var 0) (.cons (.var 1) .nil)) .nil)) .nil))) <|
  .cons (.asg (.nm 3) (.ite (.cmp .ne (.var 2) (.tup .nil)) (.join (.cst (.str ",")) (.lc (.nm 9) (.it (.var 2)) .no (.bi .str (.cons (.var 9) .nil)))) (.cst (.str "-")))) <|
  .cons (.iff (.cmp .ne (.bi .repr (.cons (.lst (.cons (.call 7 (.cons (.var 2) .nil) .nil) (.cons (.call 14 .nil (.cons (.var 2) .nil)) .nil))) .nil)) (.bi .repr (.cons (.lst (.cons (.var 3) (.cons (.var 3) .nil))) .nil))) (
    .cons (.ret (.cst (.bl false))) <| .nil) .nil) <|
  .cons (.asg (.nm 4) (.call 11 (.cons (.var 0) (.cons (.cst (.int 2)) .nil)) .nil)) <|
  .cons (.for_ (.tp [5, 6]) (.it (.lst (.cons (.tup (.cons (.cst (.str "out")) (.cons (.cst (.int 1)) .nil))) (.cons (.tup (.cons (.cst (.str "ahead")) (.cons (.cst (.int 2)) .nil))) (.cons (.tup (.cons (.cst (.str "behind")) (.cons (.cst (.int 2)) .nil))) (.cons (.tup (.cons (.cst (.str "front")) (.cons (.cst (.int 1)) .nil))) (.cons (.tup (.cons (.cst (.str "end")) (.cons (.cst (.int 1)) .nil))) (.cons (.tup (.cons (.cst (.str "up")) (.cons (.cst (.int 1)) .nil))) (.cons (.tup (.cons (.cst (.str "to")) (.cons (.cst (.int 2)) .nil))) .nil))))))))) (
    .cons (.asg (.nm 7) (.bin .add (.tup (.cons (.var 5) .nil)) (.bi .tuple (.cons (.slc (.var 4) .no (.so (.var 6))) .nil)))) <|
    .cons (.iff (.cmp .ne (.bi .repr (.cons (.lst (.cons (.call 8 (.cons (.var 7) .nil) .nil) (.cons (.call 15 .nil (.cons (.var 7) .nil)) .nil))) .nil)) (.bi .repr (.cons (.bin .mul (.lst (.cons (.join (.cst (.str " ")) (.bi .list (.cons (.var 7) .nil))) .nil)) (.cst (.int 2))) .nil))) (
      .cons (.ret (.cst (.bl false))) <| .nil) .nil) <| .nil)) <|
  .cons (.ret (.cst (.bl true))) <| .nil)⟩
/-- _law_is_text_right -/
def d_l_is_text_right : FD := ⟨1, 4, (
  .cons (.par [1, 2] (.cons (.bi .repr (.cons (.var 0) .nil)) (.cons (.join (.cst (.str "\n")) (.call 16 (.cons (.var 0) .nil) .nil)) .nil))) <|
  .cons (.asg (.nm 3) (.lst (.cons (.call 6 (.cons (.var 0) .nil) .nil) (.cons (.call 17 .nil (.cons (.var 0) .nil)) (.cons (.call 6 (.cons (.var 0) .nil) .nil) .nil))))) <|
  .cons (.ret (.an (.cmp .eq (.bi .repr (.cons (.var 3) .nil)) (.bi .repr (.cons (.bin .mul (.lst (.cons (.var 2) .nil)) (.cst (.int 3))) .nil))) (.cmp .eq (.bi .repr (.cons (.var 0) .nil)) (.var 1)))) <| .nil)⟩
/-- routine_text -/
def d_routine_text : FD := ⟨1, 8, (
  .cons (.asg (.tp [1, 2, 3, 4]) (.var 0)) <|
  .cons (.asg (.nm 5) (.lst (.cons (.call 18 (.cons (.var 1) .nil) .nil) (.cons (.fs (.cons (.cst (.str "names ")) (.cons (.join (.cst (.str ",")) (.var 2)) .nil))) .nil)))) <|
  .cons (.ex (.ext 5 (.lc (.nm 6) (.it (.var 3)) .no (.call 19 (.cons (.var 6) .nil) .nil)))) <|
  .cons (.ex (.ext 5 (.lc (.nm 7) (.it (.var 4)) .no (.call 20 (.cons (.var 7) .nil) .nil)))) <|
  .cons (.ret (.join (.cst (.str "\n")) (.var 5))) <| .nil)⟩
/-- numbers_text -/
def d_numbers_text : FD := ⟨1, 2, (
  .cons (.ret (.ite (.cmp .gt (.bi .len (.cons (.var 0) .nil)) (.cst (.int 0))) (.join (.cst (.str ",")) (.lc (.nm 1) (.it (.var 0)) .no (.bi .str (.cons (.var 1) .nil)))) (.cst (.str "-")))) <| .nil)⟩
/-- task_text -/
def d_task_text : FD := ⟨1, 1, (
  .cons (.ret (.join (.cst (.str " ")) (.var 0))) <| .nil)⟩
/-- _law_any -/
def d_l_any : FD := ⟨2, 2, (
  .cons (.ret (.idx (.var 1) (.call 10 (.cons (.var 0) (.cons (.bi .len (.cons (.var 1) .nil)) .nil)) .nil))) <| .nil)⟩
/-- _law_draw -/
def d_l_draw : FD := ⟨2, 7, (
  .cons (.put (.var 0) (.cst (.str "drawn")) (.bin .add (.idx (.var 0) (.cst (.str "drawn"))) (.cst (.int 1)))) <|
  .cons (.iff (.cmp .gt (.idx (.var 0) (.cst (.str "left"))) (.cst (.int 0))) (
    .cons (.asg (.nm 2) (.bin .mod (.bi .int (.cons (.idx (.var 0) (.cst (.str "left"))) .nil)) (.var 1))) <|
    .cons (.put (.var 0) (.cst (.str "left")) (.bin .fdiv (.idx (.var 0) (.cst (.str "left"))) (.var 1))) <|
    .cons (.ret (.var 2)) <| .nil) .nil) <|
  .cons (.par [3, 4] (.cons (.idx (.var 0) (.cst (.str "cells"))) (.cons (.idx (.var 0) (.cst (.str "spot"))) .nil))) <|
  .cons (.put (.var 0) (.cst (.str "spot")) (.bin .add (.var 4) (.cst (.int 1)))) <|
  .cons (.asg (.nm 5) (.ite (.cmp .ne (.var 3) (.lst .nil)) (.idx (.var 3) (.bin .mod (.bi .int (.cons (.var 4) .nil)) (.bi .len (.cons (.var 3) .nil)))) (.cst (.int 9067)))) <|
  .cons (.iff (.an (.cmp .ge (.var 5) (.bin .pow (.cst (.int 10)) (.cst (.int 18)))) (.cmp .lt (.var 4) (.bi .len (.cons (.var 3) .nil)))) (
    .cons (.put (.var 0) (.cst (.str "left")) (.bin .fdiv (.var 5) (.var 1))) <|
    .cons (.ret (.bin .mod (.bi .int (.cons (.var 5) .nil)) (.var 1))) <| .nil) .nil) <|
  .cons (.asg (.nm 6) (.bin .mod (.bi .int (.cons (.bin .add (.bin .add (.bin .mod (.bi .int (.cons (.var 5) .nil)) (.cst (.int 1000000853))) (.bin .mul (.cst (.int 61121)) (.idx (.var 0) (.cst (.str "drawn"))))) (.cst (.int 367))) .nil)) (.cst (.int 2147483563)))) <|
  .cons (.asg (.nm 6) (.bin .mod (.bi .int (.cons (.bin .add (.bin .add (.bin .mul (.var 6) (.var 6)) (.bin .mul (.cst (.int 5500081)) (.idx (.var 0) (.cst (.str "drawn"))))) (.cst (.int 449))) .nil)) (.cst (.int 2147483497)))) <|
  .cons (.ret (.bin .mod (.bi .int (.cons (.bin .fdiv (.bin .mod (.bi .int (.cons (.bin .add (.bin .mul (.var 6) (.var 6)) (.bin .mul (.cst (.int 569)) (.var 6))) .nil)) (.cst (.int 2147483489))) (.cst (.int 16))) .nil)) (.var 1))) <| .nil)⟩
/-- _law_words -/
def d_l_words : FD := ⟨2, 9, (
  .cons (.asg (.nm 2) (.lst (.cons (.cst (.str "x")) (.cons (.cst (.str "y")) (.cons (.cst (.str "z")) (.cons (.cst (.str "a")) (.cons (.cst (.str "ab")) (.cons (.cst (.str "abc")) (.cons (.cst (.str "is")) (.cons (.cst (.str "not")) (.cons (.cst (.str "out")) (.cons (.cst (.str "to")) (.cons (.cst (.str "up")) (.cons (.cst (.str "read")) (.cons (.cst (.str "write")) (.cons (.cst (.str "make")) (.cons (.cst (.str "names")) (.cons (.cst (.str "open")) .nil)))))))))))))))))) <|
  .cons (.asg (.nm 2) (.bin .add (.var 2) (.lst (.cons (.cst (.str "free")) (.cons (.cst (.str "on")) (.cons (.cst (.str "off")) (.cons (.cst (.str "front")) (.cons (.cst (.str "end")) (.cons (.cst (.str "ahead")) (.cons (.cst (.str "behind")) (.cons (.cst (.str "forward")) (.cons (.cst (.str "nexta")) (.cons (.cst (.str "lastly")) (.cons (.cst (.str "nones")) .nil)))))))))))))) <|
  .cons (.asg (.nm 2) (.bin .add (.var 2) (.lst (.cons (.cst (.str "guards")) (.cons (.cst (.str "abcdefgh")) (.cons (.cst (.str "zzzzzzzz")) (.cons (.cst (.str "b")) .nil))))))) <|
  .cons (.asg (.tp [3, 4, 5, 6]) (.tup (.cons (.call 10 (.cons (.var 0) (.cons (.cst (.int 31)) .nil)) .nil) (.cons (.bin .add (.cst (.int 1)) (.call 10 (.cons (.var 0) (.cons (.cst (.int 30)) .nil)) .nil)) (.cons (.cst (.str "abcdefghijklmnopqrstuvwxyz")) (.cons (.cst (.str "")) .nil)))))) <|
  .cons (.iff (.orr (.cmp .gt (.call 10 (.cons (.var 0) (.cons (.cst (.int 4)) .nil)) .nil) (.cst (.int 0))) (.cmp .gt (.var 1) (.cst (.int 22)))) (
    .cons (.ret (.lc (.nm 8) (.rg1 (.var 1)) .no (.idx (.var 2) (.bin .mod (.bi .int (.cons (.bin .add (.var 3) (.bin .mul (.var 4) (.var 8))) .nil)) (.cst (.int 31)))))) <| .nil) .nil) <|
  .cons (.for_ (.nm 7) (.rg1 (.call 10 (.cons (.var 0) (.cons (.cst (.int 8)) .nil)) .nil)) (
    .cons (.asg (.nm 6) (.bin .add (.var 6) (.idx (.var 5) (.call 10 (.cons (.var 0) (.cons (.cst (.int 26)) .nil)) .nil)))) <| .nil)) <|
  .cons (.ret (.lc (.nm 8) (.rg1 (.var 1)) .no (.bin .add (.var 6) (.idx (.cst (.str "abcfghijlmnopqrsuvwxyz")) (.bin .mod (.bi .int (.cons (.bin .add (.var 3) (.var 8)) .nil)) (.cst (.int 22))))))) <| .nil)⟩
/-- _law_any_get -/
def d_l_any_get : FD := ⟨4, 8, (
  .cons (.asg (.nm 4) (.bin .add (.bin .add (.var 2) (.ite (.idx (.var 1) (.cst (.int 1))) (.lst (.cons (.cst (.str "guard")) .nil)) (.lst (.cons (.cst (.str "first")) .nil)))) (.ite (.idx (.var 1) (.cst (.int 2))) (.lst (.cons (.cst (.str "last")) .nil)) (.lst .nil)))) <|
  .cons (.asg (.nm 5) (.tup (.cons (.call 9 (.cons (.var 0) (.cons (.var 4) .nil)) .nil) .nil))) <|
  .cons (.for_ (.nm 6) (.rg1 (.call 9 (.cons (.var 0) (.cons (.lst (.cons (.cst (.int 0)) (.cons (.cst (.int 1)) (.cons (.cst (.int 1)) (.cons (.cst (.int 1)) (.cons (.cst (.int 2)) (.cons (.cst (.int 3)) .nil))))))) .nil)) .nil)) (
    .cons (.asg (.nm 5) (.bin .add (.var 5) (.tup (.cons (.call 9 (.cons (.var 0) (.cons (.slc (.lst (.cons (.cst (.str "next")) (.cons (.cst (.str "back")) .nil))) .no (.so (.idx (.var 1) (.cst (.int 0))))) .nil)) .nil) .nil)))) <| .nil)) <|
  .cons (.asg (.nm 7) (.bin .add (.bin .add (.var 2) (.lst (.cons (.cst (.str "none")) .nil))) (.ite (.idx (.var 1) (.cst (.int 1))) (.lst (.cons (.cst (.str "guard")) .nil)) (.lst .nil)))) <|
  .cons (.ret (.tup (.cons (.var 3) (.cons (.var 5) (.cons (.call 21 (.cons (.var 0) (.cons (.var 7) .nil)) .nil) .nil))))) <| .nil)⟩
/-- _law_any_put -/
def d_l_any_put : FD := ⟨3, 6, (
  .cons (.asg (.nm 3) (.bin .add (.var 2) (.ite (.idx (.var 1) (.cst (.int 1))) (.lst (.cons (.cst (.str "guard")) .nil)) (.lst .nil)))) <|
  .cons (.asg (.nm 4) (.lc (.nm 5) (.rg1 (.cst (.int 4))) .no (.tup (.cons (.call 9 (.cons (.var 0) (.cons (.slc (.lst (.cons (.cst (.str "next")) (.cons (.cst (.str "back")) .nil))) .no (.so (.idx (.var 1) (.cst (.int 0))))) .nil)) .nil) (.cons (.call 9 (.cons (.var 0) (.cons (.var 3) .nil)) .nil) .nil))))) <|
  .cons (.asg (.nm 4) (.bin .add (.bin .add (.var 4) (.ite (.idx (.var 1) (.cst (.int 1))) (.lst .nil) (.lst (.cons (.tup (.cons (.cst (.str "first")) .nil)) .nil)))) (.ite (.idx (.var 1) (.cst (.int 2))) (.lst (.cons (.tup (.cons (.cst (.str "last")) .nil)) .nil)) (.lst .nil)))) <|
  .cons (.ret (.tup (.cons (.call 9 (.cons (.var 0) (.cons (.var 4) .nil)) .nil) (.cons (.call 9 (.cons (.var 0) (.cons (.bin .add (.var 3) (.lst (.cons (.cst (.str "none")) .nil))) .nil)) .nil) (.cons (.call 21 (.cons (.var 0) (.cons (.bin .add (.var 3) (.lst (.cons (.cst (.str "none")) .nil))) .nil)) .nil) .nil))))) <| .nil)⟩
/-- _law_lines -/
def d_l_lines : FD := ⟨1, 9, (
  .cons (.asg (.nm 1) (.idx (.var 0) (.cst (.int 0)))) <|
  .cons (.asg (.nm 2) (.lst (.cons (.ite (.idx (.var 1) (.cst (.int 1))) (.cst (.str "guard")) (.cst (.str "open"))) (.cons (.ite (.idx (.var 1) (.cst (.int 2))) (.cst (.str "last")) (.cst (.str "free"))) .nil)))) <|
  .cons (.asg (.nm 3) (.lst (.cons (.bin .add (.bin .add (.bin .add (.bin .add (.bin .add (.cst (.str "make ")) (.bi .str (.cons (.idx (.var 1) (.cst (.int 0))) .nil))) (.cst (.str " "))) (.idx (.var 2) (.cst (.int 0)))) (.cst (.str " "))) (.idx (.var 2) (.cst (.int 1)))) (.cons (.bin .add (.cst (.str "names ")) (.join (.cst (.str ",")) (.bi .list (.cons (.idx (.var 0) (.cst (.int 1))) .nil)))) .nil)))) <|
  .cons (.for_ (.tp [4, 5, 6]) (.it (.idx (.var 0) (.cst (.int 2)))) (
    .cons (.ex (.app 3 (.bin .add (.bin .add (.bin .add (.bin .add (.bin .add (.cst (.str "read ")) (.var 4)) (.cst (.str " "))) (.join (.cst (.str ".")) (.bi .list (.cons (.var 5) .nil)))) (.cst (.str " "))) (.call 22 (.cons (.var 6) .nil) .nil)))) <| .nil)) <|
  .cons (.for_ (.tp [7, 8, 6]) (.it (.idx (.var 0) (.cst (.int 3)))) (
    .cons (.ex (.app 3 (.bin .add (.bin .add (.bin .add (.bin .add (.bin .add (.cst (.str "write ")) (.join (.cst (.str ".")) (.bi .list (.cons (.var 7) .nil)))) (.cst (.str " "))) (.var 8)) (.cst (.str " "))) (.call 22 (.cons (.var 6) .nil) .nil)))) <| .nil)) <|
  .cons (.ret (.var 3)) <| .nil)⟩
/-- make_text -/
def d_make_text : FD := ⟨1, 5, (
  .cons (.asg (.tp [1, 2, 3]) (.var 0)) <|
  .cons (.asg (.nm 4) (.lst (.cons (.ite (.var 2) (.cst (.str "guard")) (.cst (.str "open"))) (.cons (.ite (.var 3) (.cst (.str "last")) (.cst (.str "free"))) .nil)))) <|
  .cons (.ret (.fs (.cons (.cst (.str "make ")) (.cons (.var 1) (.cons (.cst (.str " ")) (.cons (.idx (.var 4) (.cst (.int 0))) (.cons (.cst (.str " ")) (.cons (.idx (.var 4) (.cst (.int 1))) .nil)))))))) <| .nil)⟩
/-- read_text -/
def d_read_text : FD := ⟨1, 4, (
  .cons (.asg (.tp [1, 2, 3]) (.var 0)) <|
  .cons (.ret (.fs (.cons (.cst (.str "read ")) (.cons (.var 1) (.cons (.cst (.str " ")) (.cons (.join (.cst (.str ".")) (.var 2)) (.cons (.cst (.str " ")) (.cons (.call 23 (.cons (.var 3) .nil) .nil) .nil)))))))) <| .nil)⟩
/-- write_text -/
def d_write_text : FD := ⟨1, 4, (
  .cons (.asg (.tp [1, 2, 3]) (.var 0)) <|
  .cons (.ret (.fs (.cons (.cst (.str "write ")) (.cons (.join (.cst (.str ".")) (.var 1)) (.cons (.cst (.str " ")) (.cons (.var 2) (.cons (.cst (.str " ")) (.cons (.call 23 (.cons (.var 3) .nil) .nil) .nil)))))))) <| .nil)⟩
/-- _law_any_tests -/
def d_l_any_tests : FD := ⟨2, 6, (
  .cons (.asg (.nm 2) (.tup .nil)) <|
  .cons (.for_ (.nm 3) (.rg1 (.call 9 (.cons (.var 0) (.cons (.lst (.cons (.cst (.int 0)) (.cons (.cst (.int 0)) (.cons (.cst (.int 0)) (.cons (.cst (.int 1)) (.cons (.cst (.int 1)) (.cons (.cst (.int 2)) (.cons (.cst (.int 3)) .nil)))))))) .nil)) .nil)) (
    .cons (.par [4, 5] (.cons (.call 9 (.cons (.var 0) (.cons (.var 1) .nil)) .nil) (.cons (.call 9 (.cons (.var 0) (.cons (.lst (.cons (.cst (.str "is")) (.cons (.cst (.str "not")) .nil))) .nil)) .nil) .nil))) <|
    .cons (.asg (.nm 2) (.bin .add (.var 2) (.tup (.cons (.tup (.cons (.var 4) (.cons (.var 5) (.cons (.call 9 (.cons (.var 0) (.cons (.var 1) .nil)) .nil) .nil)))) .nil)))) <| .nil)) <|
  .cons (.ret (.var 2)) <| .nil)⟩
/-- _law_tests_word -/
def d_l_tests_word : FD := ⟨1, 2, (
  .cons (.ret (.ite (.cmp .ne (.var 0) (.tup .nil)) (.join (.cst (.str ",")) (.lc (.nm 1) (.it (.var 0)) .no (.join (.cst (.str ":")) (.bi .list (.cons (.var 1) .nil))))) (.cst (.str "-")))) <| .nil)⟩
/-- tests_text -/
def d_tests_text : FD := ⟨1, 2, (
  .cons (.ret (.ite (.cmp .gt (.bi .len (.cons (.var 0) .nil)) (.cst (.int 0))) (.join (.cst (.str ",")) (.lc (.nm 1) (.it (.var 0)) .no (.join (.cst (.str ":")) (.var 1)))) (.cst (.str "-")))) <| .nil)⟩
def table : List En := [
  ⟨⟨"law", 1, []⟩, d_law, [.pos 0]⟩,
  ⟨⟨"_law_feed", 1, []⟩, d_l_feed, [.pos 0]⟩,
  ⟨⟨"_law_by_hand", 0, []⟩, d_l_by_hand, []⟩,
  ⟨⟨"_law_plan", 2, []⟩, d_l_plan, [.pos 0, .pos 1]⟩,
  ⟨⟨"_law_are_words_right", 1, []⟩, d_l_are_words_right, [.pos 0]⟩,
  ⟨⟨"_law_is_text_right", 1, []⟩, d_l_is_text_right, [.pos 0]⟩,
  ⟨⟨"routine_text", 1, []⟩, d_routine_text, [.pos 0]⟩,
  ⟨⟨"numbers_text", 1, []⟩, d_numbers_text, [.pos 0]⟩,
  ⟨⟨"task_text", 1, []⟩, d_task_text, [.pos 0]⟩,
  ⟨⟨"_law_any", 2, []⟩, d_l_any, [.pos 0, .pos 1]⟩,
  ⟨⟨"_law_draw", 2, []⟩, d_l_draw, [.pos 0, .pos 1]⟩,
  ⟨⟨"_law_words", 2, []⟩, d_l_words, [.pos 0, .pos 1]⟩,
  ⟨⟨"_law_any_get", 4, []⟩, d_l_any_get, [.pos 0, .pos 1, .pos 2, .pos 3]⟩,
  ⟨⟨"_law_any_put", 3, []⟩, d_l_any_put, [.pos 0, .pos 1, .pos 2]⟩,
  ⟨⟨"numbers_text", 0, ["numbers"]⟩, d_numbers_text, [.kw 0]⟩,
  ⟨⟨"task_text", 0, ["task"]⟩, d_task_text, [.kw 0]⟩,
  ⟨⟨"_law_lines", 1, []⟩, d_l_lines, [.pos 0]⟩,
  ⟨⟨"routine_text", 0, ["routine"]⟩, d_routine_text, [.kw 0]⟩,
  ⟨⟨"make_text", 1, []⟩, d_make_text, [.pos 0]⟩,
  ⟨⟨"read_text", 1, []⟩, d_read_text, [.pos 0]⟩,
  ⟨⟨"write_text", 1, []⟩, d_write_text, [.pos 0]⟩,
  ⟨⟨"_law_any_tests", 2, []⟩, d_l_any_tests, [.pos 0, .pos 1]⟩,
  ⟨⟨"_law_tests_word", 1, []⟩, d_l_tests_word, [.pos 0]⟩,
  ⟨⟨"tests_text", 1, []⟩, d_tests_text, [.pos 0]⟩]
def tgs : List Tg := table.map (·.tg)
theorem sc_law : FnScope ["_law_script", "_law_feed_here", "_law_lap", "_law_plan_here", "_law_other", "_law_some", "_law_one"] ["_law_script"] (defScope (top 22)) := ⟨rfl, rfl, rfl, by decide +kernel, rfl, by decide +kernel, by decide +kernel⟩
theorem ch_law : chSs tgs ["_law_script", "_law_feed_here", "_law_lap", "_law_plan_here", "_law_other", "_law_some", "_law_one"] (defScope (top 22)) (fun _ => true) d_law.body (defBody (top 22)) = true := by decide +kernel
theorem sc_l_feed : FnScope ["_law_script", "_law_cell"] ["_law_script"] (defScope (top 9)) := ⟨rfl, rfl, rfl, by decide +kernel, rfl, by decide +kernel, by decide +kernel⟩
theorem ch_l_feed : chSs tgs ["_law_script", "_law_cell"] (defScope (top 9)) (fun _ => true) d_l_feed.body (defBody (top 9)) = true := by decide +kernel
theorem sc_l_by_hand : FnScope ["_law_put", "_law_gets", "_law_puts", "_law_both", "_law_lone", "_law_heard", "_law_due"] [] (defScope (top 21)) := ⟨rfl, rfl, rfl, by decide +kernel, rfl, by decide +kernel, by decide +kernel⟩
theorem ch_l_by_hand : chSs tgs ["_law_put", "_law_gets", "_law_puts", "_law_both", "_law_lone", "_law_heard", "_law_due"] (defScope (top 21)) (fun _ => true) d_l_by_hand.body (defBody (top 21)) = true := by decide +kernel
theorem sc_l_plan : FnScope ["_law_feed_here", "_law_most", "_law_bases", "_law_base", "_law_many", "_law_gets", "_law_words_here", "_law_known", "_law_tags", "_law_n", "_law_puts", "_law_lap"] ["_law_feed_here", "_law_most"] (defScope (top 16)) := ⟨rfl, rfl, rfl, by decide +kernel, rfl, by decide +kernel, by decide +kernel⟩
theorem ch_l_plan : chSs tgs ["_law_feed_here", "_law_most", "_law_bases", "_law_base", "_law_many", "_law_gets", "_law_words_here", "_law_known", "_law_tags", "_law_n", "_law_puts", "_law_lap"] (defScope (top 16)) (fun _ => true) d_l_plan.body (defBody (top 16)) = true := by decide +kernel
theorem sc_l_are_words_right : FnScope ["_law_feed_here", "_law_some", "_law_lot", "_law_due", "_law_words_here", "_law_sort", "_law_many", "_law_what", "_law_lap", "_law_one"] ["_law_feed_here"] (defScope (top 20)) := ⟨rfl, rfl, rfl, by decide +kernel, rfl, by decide +kernel, by decide +kernel⟩
theorem ch_l_are_words_right : chSs tgs ["_law_feed_here", "_law_some", "_law_lot", "_law_due", "_law_words_here", "_law_sort", "_law_many", "_law_what", "_law_lap", "_law_one"] (defScope (top 20)) (fun _ => true) d_l_are_words_right.body (defBody (top 20)) = true := by decide +kernel
theorem sc_l_is_text_right : FnScope ["_law_plan_here", "_law_shown", "_law_due", "_law_heard"] ["_law_plan_here"] (defScope (top 19)) := ⟨rfl, rfl, rfl, by decide +kernel, rfl, by decide +kernel, by decide +kernel⟩
theorem ch_l_is_text_right : chSs tgs ["_law_plan_here", "_law_shown", "_law_due", "_law_heard"] (defScope (top 19)) (fun _ => true) d_l_is_text_right.body (defBody (top 19)) = true := by decide +kernel
theorem sc_routine_text : FnScope ["routine", "make", "names", "reads", "writes", "lines", "read", "write"] ["routine"] (defScope (top 7)) := ⟨rfl, rfl, rfl, by decide +kernel, rfl, by decide +kernel, by decide +kernel⟩
theorem ch_routine_text : chSs tgs ["routine", "make", "names", "reads", "writes", "lines", "read", "write"] (defScope (top 7)) (fun _ => true) d_routine_text.body (defBody (top 7)) = true := by decide +kernel
theorem sc_numbers_text : FnScope ["numbers", "number"] ["numbers"] (defScope (top 1)) := ⟨rfl, rfl, rfl, by decide +kernel, rfl, by decide +kernel, by decide +kernel⟩
theorem ch_numbers_text : chSs tgs ["numbers", "number"] (defScope (top 1)) (fun _ => true) d_numbers_text.body (defBody (top 1)) = true := by decide +kernel
theorem sc_task_text : FnScope ["task"] ["task"] (defScope (top 2)) := ⟨rfl, rfl, rfl, by decide +kernel, rfl, by decide +kernel, by decide +kernel⟩
theorem ch_task_text : chSs tgs ["task"] (defScope (top 2)) (fun _ => true) d_task_text.body (defBody (top 2)) = true := by decide +kernel
theorem sc_l_any : FnScope ["_law_feed_here", "_law_some"] ["_law_feed_here", "_law_some"] (defScope (top 11)) := ⟨rfl, rfl, rfl, by decide +kernel, rfl, by decide +kernel, by decide +kernel⟩
theorem ch_l_any : chSs tgs ["_law_feed_here", "_law_some"] (defScope (top 11)) (fun _ => true) d_l_any.body (defBody (top 11)) = true := by decide +kernel
theorem sc_l_draw : FnScope ["_law_feed_here", "_law_many", "_law_digit", "_law_cells", "_law_spot", "_law_cell", "_law_mixed"] ["_law_feed_here", "_law_many"] (defScope (top 10)) := ⟨rfl, rfl, rfl, by decide +kernel, rfl, by decide +kernel, by decide +kernel⟩
theorem ch_l_draw : chSs tgs ["_law_feed_here", "_law_many", "_law_digit", "_law_cells", "_law_spot", "_law_cell", "_law_mixed"] (defScope (top 10)) (fun _ => true) d_l_draw.body (defBody (top 10)) = true := by decide +kernel
theorem sc_l_words : FnScope ["_law_feed_here", "_law_many", "_law_pool", "_law_turn", "_law_pace", "_law_letters", "_law_stem", "_law_lap", "_law_n"] ["_law_feed_here", "_law_many"] (defScope (top 12)) := ⟨rfl, rfl, rfl, by decide +kernel, rfl, by decide +kernel, by decide +kernel⟩
theorem ch_l_words : chSs tgs ["_law_feed_here", "_law_many", "_law_pool", "_law_turn", "_law_pace", "_law_letters", "_law_stem", "_law_lap", "_law_n"] (defScope (top 12)) (fun _ => true) d_l_words.body (defBody (top 12)) = true := by decide +kernel
theorem sc_l_any_get : FnScope ["_law_feed_here", "_law_base", "_law_known", "_law_tag", "_law_starts", "_law_path", "_law_lap", "_law_some"] ["_law_feed_here", "_law_base", "_law_known", "_law_tag"] (defScope (top 14)) := ⟨rfl, rfl, rfl, by decide +kernel, rfl, by decide +kernel, by decide +kernel⟩
theorem ch_l_any_get : chSs tgs ["_law_feed_here", "_law_base", "_law_known", "_law_tag", "_law_starts", "_law_path", "_law_lap", "_law_some"] (defScope (top 14)) (fun _ => true) d_l_any_get.body (defBody (top 14)) = true := by decide +kernel
theorem sc_l_any_put : FnScope ["_law_feed_here", "_law_base", "_law_known", "_law_some", "_law_spots", "_law_lap"] ["_law_feed_here", "_law_base", "_law_known"] (defScope (top 15)) := ⟨rfl, rfl, rfl, by decide +kernel, rfl, by decide +kernel, by decide +kernel⟩
theorem ch_l_any_put : chSs tgs ["_law_feed_here", "_law_base", "_law_known", "_law_some", "_law_spots", "_law_lap"] (defScope (top 15)) (fun _ => true) d_l_any_put.body (defBody (top 15)) = true := by decide +kernel
theorem sc_l_lines : FnScope ["_law_plan_here", "_law_base", "_law_sides", "_law_found", "_law_tag", "_law_path", "_law_when", "_law_place", "_law_worth"] ["_law_plan_here"] (defScope (top 18)) := ⟨rfl, rfl, rfl, by decide +kernel, rfl, by decide +kernel, by decide +kernel⟩
theorem ch_l_lines : chSs tgs ["_law_plan_here", "_law_base", "_law_sides", "_law_found", "_law_tag", "_law_path", "_law_when", "_law_place", "_law_worth"] (defScope (top 18)) (fun _ => true) d_l_lines.body (defBody (top 18)) = true := by decide +kernel
theorem sc_make_text : FnScope ["make", "ways", "guard", "last", "words"] ["make"] (defScope (top 4)) := ⟨rfl, rfl, rfl, by decide +kernel, rfl, by decide +kernel, by decide +kernel⟩
theorem ch_make_text : chSs tgs ["make", "ways", "guard", "last", "words"] (defScope (top 4)) (fun _ => true) d_make_text.body (defBody (top 4)) = true := by decide +kernel
theorem sc_read_text : FnScope ["read", "local", "path", "when"] ["read"] (defScope (top 5)) := ⟨rfl, rfl, rfl, by decide +kernel, rfl, by decide +kernel, by decide +kernel⟩
theorem ch_read_text : chSs tgs ["read", "local", "path", "when"] (defScope (top 5)) (fun _ => true) d_read_text.body (defBody (top 5)) = true := by decide +kernel
theorem sc_write_text : FnScope ["write", "place", "worth", "when"] ["write"] (defScope (top 6)) := ⟨rfl, rfl, rfl, by decide +kernel, rfl, by decide +kernel, by decide +kernel⟩
theorem ch_write_text : chSs tgs ["write", "place", "worth", "when"] (defScope (top 6)) (fun _ => true) d_write_text.body (defBody (top 6)) = true := by decide +kernel
theorem sc_l_any_tests : FnScope ["_law_feed_here", "_law_some", "_law_found", "_law_lap", "_law_one", "_law_sign"] ["_law_feed_here", "_law_some"] (defScope (top 13)) := ⟨rfl, rfl, rfl, by decide +kernel, rfl, by decide +kernel, by decide +kernel⟩
theorem ch_l_any_tests : chSs tgs ["_law_feed_here", "_law_some", "_law_found", "_law_lap", "_law_one", "_law_sign"] (defScope (top 13)) (fun _ => true) d_l_any_tests.body (defBody (top 13)) = true := by decide +kernel
theorem sc_l_tests_word : FnScope ["_law_when", "_law_one"] ["_law_when"] (defScope (top 17)) := ⟨rfl, rfl, rfl, by decide +kernel, rfl, by decide +kernel, by decide +kernel⟩
theorem ch_l_tests_word : chSs tgs ["_law_when", "_law_one"] (defScope (top 17)) (fun _ => true) d_l_tests_word.body (defBody (top 17)) = true := by decide +kernel
theorem sc_tests_text : FnScope ["tests", "test"] ["tests"] (defScope (top 3)) := ⟨rfl, rfl, rfl, by decide +kernel, rfl, by decide +kernel, by decide +kernel⟩
theorem ch_tests_text : chSs tgs ["tests", "test"] (defScope (top 3)) (fun _ => true) d_tests_text.body (defBody (top 3)) = true := by decide +kernel
section
variable {K : PySem.W.Frag} {mg : Str → Option Value} {h : Heap}
theorem all_mk (X : K.In h) (G : h.Ns mainGlobals mg)
    {f0 : Addr} {od0 an0 : Option Addr} {sl0 : Array (Option Value)} {oc0 kV0 dc0 pm0 cd0 ct0 : Value}
    (a0 : PySem.W.nsIn K mainGlobals "law" = some (some (.ref f0))) (l0 : K.lookup f0 = some ⟨oc0, od0, .func (PySem.W.fnOf "law" "law" (defArgs (top 22)) (defBody (top 22)) (defScope (top 22)) .none kV0 dc0 pm0 an0 cd0 ct0), sl0⟩) (c0 : PySem.W.codeIn K cd0 "law" = true)
    {f1 : Addr} {od1 an1 : Option Addr} {sl1 : Array (Option Value)} {oc1 kV1 dc1 pm1 cd1 ct1 : Value}
    (a1 : PySem.W.nsIn K mainGlobals "_law_feed" = some (some (.ref f1))) (l1 : K.lookup f1 = some ⟨oc1, od1, .func (PySem.W.fnOf "_law_feed" "_law_feed" (defArgs (top 9)) (defBody (top 9)) (defScope (top 9)) .none kV1 dc1 pm1 an1 cd1 ct1), sl1⟩) (c1 : PySem.W.codeIn K cd1 "_law_feed" = true)
    {f2 : Addr} {od2 an2 : Option Addr} {sl2 : Array (Option Value)} {oc2 kV2 dc2 pm2 cd2 ct2 : Value}
    (a2 : PySem.W.nsIn K mainGlobals "_law_by_hand" = some (some (.ref f2))) (l2 : K.lookup f2 = some ⟨oc2, od2, .func (PySem.W.fnOf "_law_by_hand" "_law_by_hand" (defArgs (top 21)) (defBody (top 21)) (defScope (top 21)) .none kV2 dc2 pm2 an2 cd2 ct2), sl2⟩) (c2 : PySem.W.codeIn K cd2 "_law_by_hand" = true)
    {f3 : Addr} {od3 an3 : Option Addr} {sl3 : Array (Option Value)} {oc3 kV3 dc3 pm3 cd3 ct3 : Value}
    (a3 : PySem.W.nsIn K mainGlobals "_law_plan" = some (some (.ref f3))) (l3 : K.lookup f3 = some ⟨oc3, od3, .func (PySem.W.fnOf "_law_plan" "_law_plan" (defArgs (top 16)) (defBody (top 16)) (defScope (top 16)) .none kV3 dc3 pm3 an3 cd3 ct3), sl3⟩) (c3 : PySem.W.codeIn K cd3 "_law_plan" = true)
    {f4 : Addr} {od4 an4 : Option Addr} {sl4 : Array (Option Value)} {oc4 kV4 dc4 pm4 cd4 ct4 : Value}
    (a4 : PySem.W.nsIn K mainGlobals "_law_are_words_right" = some (some (.ref f4))) (l4 : K.lookup f4 = some ⟨oc4, od4, .func (PySem.W.fnOf "_law_are_words_right" "_law_are_words_right" (defArgs (top 20)) (defBody (top 20)) (defScope (top 20)) .none kV4 dc4 pm4 an4 cd4 ct4), sl4⟩) (c4 : PySem.W.codeIn K cd4 "_law_are_words_right" = true)
    {f5 : Addr} {od5 an5 : Option Addr} {sl5 : Array (Option Value)} {oc5 kV5 dc5 pm5 cd5 ct5 : Value}
    (a5 : PySem.W.nsIn K mainGlobals "_law_is_text_right" = some (some (.ref f5))) (l5 : K.lookup f5 = some ⟨oc5, od5, .func (PySem.W.fnOf "_law_is_text_right" "_law_is_text_right" (defArgs (top 19)) (defBody (top 19)) (defScope (top 19)) .none kV5 dc5 pm5 an5 cd5 ct5), sl5⟩) (c5 : PySem.W.codeIn K cd5 "_law_is_text_right" = true)
    {f6 : Addr} {od6 an6 : Option Addr} {sl6 : Array (Option Value)} {oc6 kV6 dc6 pm6 cd6 ct6 : Value}
    (a6 : PySem.W.nsIn K mainGlobals "routine_text" = some (some (.ref f6))) (l6 : K.lookup f6 = some ⟨oc6, od6, .func (PySem.W.fnOf "routine_text" "routine_text" (defArgs (top 7)) (defBody (top 7)) (defScope (top 7)) .none kV6 dc6 pm6 an6 cd6 ct6), sl6⟩) (c6 : PySem.W.codeIn K cd6 "routine_text" = true)
    {f7 : Addr} {od7 an7 : Option Addr} {sl7 : Array (Option Value)} {oc7 kV7 dc7 pm7 cd7 ct7 : Value}
    (a7 : PySem.W.nsIn K mainGlobals "numbers_text" = some (some (.ref f7))) (l7 : K.lookup f7 = some ⟨oc7, od7, .func (PySem.W.fnOf "numbers_text" "numbers_text" (defArgs (top 1)) (defBody (top 1)) (defScope (top 1)) .none kV7 dc7 pm7 an7 cd7 ct7), sl7⟩) (c7 : PySem.W.codeIn K cd7 "numbers_text" = true)
    {f8 : Addr} {od8 an8 : Option Addr} {sl8 : Array (Option Value)} {oc8 kV8 dc8 pm8 cd8 ct8 : Value}
    (a8 : PySem.W.nsIn K mainGlobals "task_text" = some (some (.ref f8))) (l8 : K.lookup f8 = some ⟨oc8, od8, .func (PySem.W.fnOf "task_text" "task_text" (defArgs (top 2)) (defBody (top 2)) (defScope (top 2)) .none kV8 dc8 pm8 an8 cd8 ct8), sl8⟩) (c8 : PySem.W.codeIn K cd8 "task_text" = true)
    {f9 : Addr} {od9 an9 : Option Addr} {sl9 : Array (Option Value)} {oc9 kV9 dc9 pm9 cd9 ct9 : Value}
    (a9 : PySem.W.nsIn K mainGlobals "_law_any" = some (some (.ref f9))) (l9 : K.lookup f9 = some ⟨oc9, od9, .func (PySem.W.fnOf "_law_any" "_law_any" (defArgs (top 11)) (defBody (top 11)) (defScope (top 11)) .none kV9 dc9 pm9 an9 cd9 ct9), sl9⟩) (c9 : PySem.W.codeIn K cd9 "_law_any" = true)
    {f10 : Addr} {od10 an10 : Option Addr} {sl10 : Array (Option Value)} {oc10 kV10 dc10 pm10 cd10 ct10 : Value}
    (a10 : PySem.W.nsIn K mainGlobals "_law_draw" = some (some (.ref f10))) (l10 : K.lookup f10 = some ⟨oc10, od10, .func (PySem.W.fnOf "_law_draw" "_law_draw" (defArgs (top 10)) (defBody (top 10)) (defScope (top 10)) .none kV10 dc10 pm10 an10 cd10 ct10), sl10⟩) (c10 : PySem.W.codeIn K cd10 "_law_draw" = true)
    {f11 : Addr} {od11 an11 : Option Addr} {sl11 : Array (Option Value)} {oc11 kV11 dc11 pm11 cd11 ct11 : Value}
    (a11 : PySem.W.nsIn K mainGlobals "_law_words" = some (some (.ref f11))) (l11 : K.lookup f11 = some ⟨oc11, od11, .func (PySem.W.fnOf "_law_words" "_law_words" (defArgs (top 12)) (defBody (top 12)) (defScope (top 12)) .none kV11 dc11 pm11 an11 cd11 ct11), sl11⟩) (c11 : PySem.W.codeIn K cd11 "_law_words" = true)
    {f12 : Addr} {od12 an12 : Option Addr} {sl12 : Array (Option Value)} {oc12 kV12 dc12 pm12 cd12 ct12 : Value}
    (a12 : PySem.W.nsIn K mainGlobals "_law_any_get" = some (some (.ref f12))) (l12 : K.lookup f12 = some ⟨oc12, od12, .func (PySem.W.fnOf "_law_any_get" "_law_any_get" (defArgs (top 14)) (defBody (top 14)) (defScope (top 14)) .none kV12 dc12 pm12 an12 cd12 ct12), sl12⟩) (c12 : PySem.W.codeIn K cd12 "_law_any_get" = true)
    {f13 : Addr} {od13 an13 : Option Addr} {sl13 : Array (Option Value)} {oc13 kV13 dc13 pm13 cd13 ct13 : Value}
    (a13 : PySem.W.nsIn K mainGlobals "_law_any_put" = some (some (.ref f13))) (l13 : K.lookup f13 = some ⟨oc13, od13, .func (PySem.W.fnOf "_law_any_put" "_law_any_put" (defArgs (top 15)) (defBody (top 15)) (defScope (top 15)) .none kV13 dc13 pm13 an13 cd13 ct13), sl13⟩) (c13 : PySem.W.codeIn K cd13 "_law_any_put" = true)
    {f14 : Addr} {od14 an14 : Option Addr} {sl14 : Array (Option Value)} {oc14 kV14 dc14 pm14 cd14 ct14 : Value}
    (a14 : PySem.W.nsIn K mainGlobals "_law_lines" = some (some (.ref f14))) (l14 : K.lookup f14 = some ⟨oc14, od14, .func (PySem.W.fnOf "_law_lines" "_law_lines" (defArgs (top 18)) (defBody (top 18)) (defScope (top 18)) .none kV14 dc14 pm14 an14 cd14 ct14), sl14⟩) (c14 : PySem.W.codeIn K cd14 "_law_lines" = true)
    {f15 : Addr} {od15 an15 : Option Addr} {sl15 : Array (Option Value)} {oc15 kV15 dc15 pm15 cd15 ct15 : Value}
    (a15 : PySem.W.nsIn K mainGlobals "make_text" = some (some (.ref f15))) (l15 : K.lookup f15 = some ⟨oc15, od15, .func (PySem.W.fnOf "make_text" "make_text" (defArgs (top 4)) (defBody (top 4)) (defScope (top 4)) .none kV15 dc15 pm15 an15 cd15 ct15), sl15⟩) (c15 : PySem.W.codeIn K cd15 "make_text" = true)
    {f16 : Addr} {od16 an16 : Option Addr} {sl16 : Array (Option Value)} {oc16 kV16 dc16 pm16 cd16 ct16 : Value}
    (a16 : PySem.W.nsIn K mainGlobals "read_text" = some (some (.ref f16))) (l16 : K.lookup f16 = some ⟨oc16, od16, .func (PySem.W.fnOf "read_text" "read_text" (defArgs (top 5)) (defBody (top 5)) (defScope (top 5)) .none kV16 dc16 pm16 an16 cd16 ct16), sl16⟩) (c16 : PySem.W.codeIn K cd16 "read_text" = true)
    {f17 : Addr} {od17 an17 : Option Addr} {sl17 : Array (Option Value)} {oc17 kV17 dc17 pm17 cd17 ct17 : Value}
    (a17 : PySem.W.nsIn K mainGlobals "write_text" = some (some (.ref f17))) (l17 : K.lookup f17 = some ⟨oc17, od17, .func (PySem.W.fnOf "write_text" "write_text" (defArgs (top 6)) (defBody (top 6)) (defScope (top 6)) .none kV17 dc17 pm17 an17 cd17 ct17), sl17⟩) (c17 : PySem.W.codeIn K cd17 "write_text" = true)
    {f18 : Addr} {od18 an18 : Option Addr} {sl18 : Array (Option Value)} {oc18 kV18 dc18 pm18 cd18 ct18 : Value}
    (a18 : PySem.W.nsIn K mainGlobals "_law_any_tests" = some (some (.ref f18))) (l18 : K.lookup f18 = some ⟨oc18, od18, .func (PySem.W.fnOf "_law_any_tests" "_law_any_tests" (defArgs (top 13)) (defBody (top 13)) (defScope (top 13)) .none kV18 dc18 pm18 an18 cd18 ct18), sl18⟩) (c18 : PySem.W.codeIn K cd18 "_law_any_tests" = true)
    {f19 : Addr} {od19 an19 : Option Addr} {sl19 : Array (Option Value)} {oc19 kV19 dc19 pm19 cd19 ct19 : Value}
    (a19 : PySem.W.nsIn K mainGlobals "_law_tests_word" = some (some (.ref f19))) (l19 : K.lookup f19 = some ⟨oc19, od19, .func (PySem.W.fnOf "_law_tests_word" "_law_tests_word" (defArgs (top 17)) (defBody (top 17)) (defScope (top 17)) .none kV19 dc19 pm19 an19 cd19 ct19), sl19⟩) (c19 : PySem.W.codeIn K cd19 "_law_tests_word" = true)
    {f20 : Addr} {od20 an20 : Option Addr} {sl20 : Array (Option Value)} {oc20 kV20 dc20 pm20 cd20 ct20 : Value}
    (a20 : PySem.W.nsIn K mainGlobals "tests_text" = some (some (.ref f20))) (l20 : K.lookup f20 = some ⟨oc20, od20, .func (PySem.W.fnOf "tests_text" "tests_text" (defArgs (top 3)) (defBody (top 3)) (defScope (top 3)) .none kV20 dc20 pm20 an20 cd20 ct20), sl20⟩) (c20 : PySem.W.codeIn K cd20 "tests_text" = true)
    (z0 : PySem.W.nsIn K mainGlobals "len" = some none) (z1 : PySem.W.nsIn K mainGlobals "int" = some none) (z2 : PySem.W.nsIn K mainGlobals "str" = some none) (z3 : PySem.W.nsIn K mainGlobals "repr" = some none) (z4 : PySem.W.nsIn K mainGlobals "list" = some none) (z5 : PySem.W.nsIn K mainGlobals "tuple" = some none) (z6 : PySem.W.nsIn K mainGlobals "min" = some none) (z7 : PySem.W.nsIn K mainGlobals "max" = some none) (z8 : PySem.W.nsIn K mainGlobals "range" = some none) :
    (∀ e ∈ table, DefOk K mg (table.map (·.tg)) e) ∧ ∀ x ∈ bltNames, mg x = none := by
  refine ⟨?_, ?_⟩
  · have S : ∀ e ∈ table, DefOk K mg tgs e := by
      simp only [table, List.forall_mem_cons, List.not_mem_nil, false_imp_iff, implies_true, and_true]
      refine ⟨?_, ?_, ?_, ?_, ?_, ?_, ?_, ?_, ?_, ?_, ?_, ?_, ?_, ?_, ?_, ?_, ?_, ?_, ?_, ?_, ?_, ?_, ?_, ?_⟩
      · exact DefOk.mk0 l0 c0 (PySem.W.mg_of X G a0) rfl sc_law rfl rfl ch_law (by decide) fun us ws h1 h2 => match us, h1, ws, h2 with | [_], _, [], _ => rfl
      · exact DefOk.mk0 l1 c1 (PySem.W.mg_of X G a1) rfl sc_l_feed rfl rfl ch_l_feed (by decide) fun us ws h1 h2 => match us, h1, ws, h2 with | [_], _, [], _ => rfl
      · exact DefOk.mk0 l2 c2 (PySem.W.mg_of X G a2) rfl sc_l_by_hand rfl rfl ch_l_by_hand (by decide) fun us ws h1 h2 => match us, h1, ws, h2 with | [], _, [], _ => rfl
      · exact DefOk.mk0 l3 c3 (PySem.W.mg_of X G a3) rfl sc_l_plan rfl rfl ch_l_plan (by decide) fun us ws h1 h2 => match us, h1, ws, h2 with | [_, _], _, [], _ => rfl
      · exact DefOk.mk0 l4 c4 (PySem.W.mg_of X G a4) rfl sc_l_are_words_right rfl rfl ch_l_are_words_right (by decide) fun us ws h1 h2 => match us, h1, ws, h2 with | [_], _, [], _ => rfl
      · exact DefOk.mk0 l5 c5 (PySem.W.mg_of X G a5) rfl sc_l_is_text_right rfl rfl ch_l_is_text_right (by decide) fun us ws h1 h2 => match us, h1, ws, h2 with | [_], _, [], _ => rfl
      · exact DefOk.mk0 l6 c6 (PySem.W.mg_of X G a6) rfl sc_routine_text rfl rfl ch_routine_text (by decide) fun us ws h1 h2 => match us, h1, ws, h2 with | [_], _, [], _ => rfl
      · exact DefOk.mk0 l7 c7 (PySem.W.mg_of X G a7) rfl sc_numbers_text rfl rfl ch_numbers_text (by decide) fun us ws h1 h2 => match us, h1, ws, h2 with | [_], _, [], _ => rfl
      · exact DefOk.mk0 l8 c8 (PySem.W.mg_of X G a8) rfl sc_task_text rfl rfl ch_task_text (by decide) fun us ws h1 h2 => match us, h1, ws, h2 with | [_], _, [], _ => rfl
      · exact DefOk.mk0 l9 c9 (PySem.W.mg_of X G a9) rfl sc_l_any rfl rfl ch_l_any (by decide) fun us ws h1 h2 => match us, h1, ws, h2 with | [_, _], _, [], _ => rfl
      · exact DefOk.mk0 l10 c10 (PySem.W.mg_of X G a10) rfl sc_l_draw rfl rfl ch_l_draw (by decide) fun us ws h1 h2 => match us, h1, ws, h2 with | [_, _], _, [], _ => rfl
      · exact DefOk.mk0 l11 c11 (PySem.W.mg_of X G a11) rfl sc_l_words rfl rfl ch_l_words (by decide) fun us ws h1 h2 => match us, h1, ws, h2 with | [_, _], _, [], _ => rfl
      · exact DefOk.mk0 l12 c12 (PySem.W.mg_of X G a12) rfl sc_l_any_get rfl rfl ch_l_any_get (by decide) fun us ws h1 h2 => match us, h1, ws, h2 with | [_, _, _, _], _, [], _ => rfl
      · exact DefOk.mk0 l13 c13 (PySem.W.mg_of X G a13) rfl sc_l_any_put rfl rfl ch_l_any_put (by decide) fun us ws h1 h2 => match us, h1, ws, h2 with | [_, _, _], _, [], _ => rfl
      · exact DefOk.mk0 l7 c7 (PySem.W.mg_of X G a7) rfl sc_numbers_text rfl rfl ch_numbers_text (by decide) fun us ws h1 h2 => match us, h1, ws, h2 with | [], _, [_], _ => rfl
      · exact DefOk.mk0 l8 c8 (PySem.W.mg_of X G a8) rfl sc_task_text rfl rfl ch_task_text (by decide) fun us ws h1 h2 => match us, h1, ws, h2 with | [], _, [_], _ => rfl
      · exact DefOk.mk0 l14 c14 (PySem.W.mg_of X G a14) rfl sc_l_lines rfl rfl ch_l_lines (by decide) fun us ws h1 h2 => match us, h1, ws, h2 with | [_], _, [], _ => rfl
      · exact DefOk.mk0 l6 c6 (PySem.W.mg_of X G a6) rfl sc_routine_text rfl rfl ch_routine_text (by decide) fun us ws h1 h2 => match us, h1, ws, h2 with | [], _, [_], _ => rfl
      · exact DefOk.mk0 l15 c15 (PySem.W.mg_of X G a15) rfl sc_make_text rfl rfl ch_make_text (by decide) fun us ws h1 h2 => match us, h1, ws, h2 with | [_], _, [], _ => rfl
      · exact DefOk.mk0 l16 c16 (PySem.W.mg_of X G a16) rfl sc_read_text rfl rfl ch_read_text (by decide) fun us ws h1 h2 => match us, h1, ws, h2 with | [_], _, [], _ => rfl
      · exact DefOk.mk0 l17 c17 (PySem.W.mg_of X G a17) rfl sc_write_text rfl rfl ch_write_text (by decide) fun us ws h1 h2 => match us, h1, ws, h2 with | [_], _, [], _ => rfl
      · exact DefOk.mk0 l18 c18 (PySem.W.mg_of X G a18) rfl sc_l_any_tests rfl rfl ch_l_any_tests (by decide) fun us ws h1 h2 => match us, h1, ws, h2 with | [_, _], _, [], _ => rfl
      · exact DefOk.mk0 l19 c19 (PySem.W.mg_of X G a19) rfl sc_l_tests_word rfl rfl ch_l_tests_word (by decide) fun us ws h1 h2 => match us, h1, ws, h2 with | [_], _, [], _ => rfl
      · exact DefOk.mk0 l20 c20 (PySem.W.mg_of X G a20) rfl sc_tests_text rfl rfl ch_tests_text (by decide) fun us ws h1 h2 => match us, h1, ws, h2 with | [_], _, [], _ => rfl
    exact S
  · simp only [bltNames, List.forall_mem_cons, List.not_mem_nil, false_imp_iff, implies_true, and_true]
    exact ⟨PySem.W.mg_none_of X G z0, PySem.W.mg_none_of X G z1, PySem.W.mg_none_of X G z2, PySem.W.mg_none_of X G z3, PySem.W.mg_none_of X G z4, PySem.W.mg_none_of X G z5, PySem.W.mg_none_of X G z6, PySem.W.mg_none_of X G z7, PySem.W.mg_none_of X G z8⟩
end
end K09
namespace K09
open PySem Ev

/-! ### the feed -/
def feedL (cells : List Int) (spot left drawn : Int) : List (Key × PV) := [(.inr "cells", .lst (cells.map PV.int)), (.inr "spot", .int spot), (.inr "left", .int left), (.inr "drawn", .int drawn)]
section
variable (cells : List Int) (spot left drawn x : Int)
theorem fl_len : (feedL cells spot left drawn).length = 4 := rfl
theorem kOf (x : Str) : keyOf (.str x) = some (.inr x) := rfl
theorem bnd {α β : Type} (a : α) (f : α → Option β) : (some a).bind f = f a := rfl
theorem gC : getK (feedL cells spot left drawn) (.inr "cells") = some (.lst (cells.map PV.int)) := rfl
theorem gS : getK (feedL cells spot left drawn) (.inr "spot") = some (.int spot) := rfl
theorem gL : getK (feedL cells spot left drawn) (.inr "left") = some (.int left) := rfl
theorem gD : getK (feedL cells spot left drawn) (.inr "drawn") = some (.int drawn) := rfl
theorem pS : putK (feedL cells spot left drawn) (.inr "spot") (.int x) = feedL cells x left drawn := rfl
theorem pL : putK (feedL cells spot left drawn) (.inr "left") (.int x) = feedL cells spot x drawn := rfl
theorem pD : putK (feedL cells spot left drawn) (.inr "drawn") (.int x) = feedL cells spot left x := rfl
end
def Fd (hp : List Cell) : Prop := ∃ cells spot left drawn, hp = [.dk (feedL cells spot left drawn)]
theorem Fd.mk {cells : List Int} {spot left drawn : Int} : Fd [.dk (feedL cells spot left drawn)] := ⟨_, _, _, _, rfl⟩

theorem modpos {i j : Int} (h : 1 ≤ j) : 0 ≤ i % j ∧ i % j < j := ⟨Int.emod_nonneg _ (by omega), Int.emod_lt_of_pos _ (by omega)⟩
theorem draw_ok (k : Nat) {hp : List Cell} (F : Fd hp) {many : Int} (h1 : 1 ≤ many) (h2 : many ≤ 1000000) : Gives (calls table (k + 1) 10 [.ref 0, .int many] [] hp) fun r hp => Fd hp ∧ ∃ v, r = .val (.int v) ∧ 0 ≤ v ∧ v < many := by
  obtain ⟨cells, spot, left, drawn, rfl⟩ := F
  refine gives_run (c := calls table k) (d := d_l_draw) (as := [.ref 0, .int many]) rfl ?_
  have hm : many.natAbs.log2 < 9000 := by
    have : many.natAbs ≤ 1000000 := by omega
    have := Nat.log2_lt (n := many.natAbs) (k := 20)
    by_cases q : many.natAbs = 0
    · simp [q]
    · have := (Nat.log2_lt q (k := 20)).mpr (by omega)
      omega
  have hm0 : 0 < many := by omega
  simp only [d_l_draw, kOf, bnd, gC, gS, gL, gD, pS, pL, pD, fl_len, decide_eq_true_eq, eq_ints, hm, hm0, ↓q_ok, ↓q_some, ↓q_cst, ↓q_var, ↓q_tup, ↓q_lst, ↓q_bin, ↓q_cmp, ↓q_neg, ↓q_nt, ↓q_an, ↓q_orr, ↓q_ite, ↓q_idx, ↓q_slc, ↓q_rev, ↓q_call, ↓q_bi, ↓q_join, ↓q_app, ↓q_ext, ↓q_lc, ↓q_fs, ↓q_dct, ↓q_evs0, ↓q_evs1, ↓q_opds0, ↓q_opds1, ↓q_no, ↓q_so, ↓q_it, ↓q_rg1, ↓q_rg2, ↓q_tno, ↓q_tso, ↓q_evf0, ↓q_evf1, ↓q_tnt, ↓q_tan, ↓q_tor, ↓q_tite, ↓q_tvar, ↓q_tcst, ↓q_tcmp, ↓q_tidx, ↓q_tcall, ↓q_tbi, ↓q_tslc, ↓q_ovar, ↓q_ocst, ↓q_otup, ↓q_olst, ↓q_obin, ↓q_ocmp, ↓q_oneg, ↓q_ont, ↓q_oan, ↓q_oorr, ↓q_oite, ↓q_oidx, ↓q_oslc, ↓q_orev, ↓q_ocall, ↓q_obi, ↓q_ojoin, ↓q_olc, ↓q_ofs, ↓q_odct, ↓q_lookv, ↓q_looks, ↓q_peek, ↓q_look0, ↓q_look1, ↓q_set, ↓q_bnm, ↓q_btp, ↓q_sets0, ↓q_sets1, ↓q_par0, ↓q_par1, ↓q_own, ↓q_appV, ↓q_extn, ↓q_extl, ↓q_ixr, ↓q_ixt, ↓q_ixl, ↓q_ixs, ↓q_putG, ↓q_add_int, ↓q_add_str, ↓q_add_lst, ↓q_add_tup, ↓q_sub_int, ↓q_mul_int, ↓q_mul_lst, ↓q_mul_tup, ↓q_fdiv_int, ↓q_mod_int, ↓q_pow_int, ↓q_bint, ↓q_bintb, ↓q_blenl, ↓q_blent, ↓q_blens, ↓q_bstri, ↓q_bstrs, ↓q_blistl, ↓q_blistt, ↓q_btupl, ↓q_btupt, ↓q_bmin, ↓q_bmax, ↓q_fmts, ↓q_fmti, ↓q_asg, ↓q_parS, ↓q_put, ↓q_ex, ↓q_iff, ↓q_for, ↓q_retV, ↓q_rcst, ↓q_rtup, ↓q_rlst, ↓q_rbin, ↓q_rcmp, ↓q_rneg, ↓q_rnt, ↓q_ran, ↓q_rorr, ↓q_rite, ↓q_ridx, ↓q_rslc, ↓q_rrev, ↓q_rcall, ↓q_rbi, ↓q_rjoin, ↓q_rlc, ↓q_rfs, ↓q_rdct, ↓q_retN, ↓q_pas, ↓q_brk, ↓q_cnt, ↓q_exs0, ↓q_exs1, q_add_int, q_add_str, q_add_lst, q_add_tup, q_sub_int, q_mul_int, q_mul_lst, q_mul_tup, q_fdiv_int, q_mod_int, q_pow_int, q_bint, q_bintb, q_blenl, q_blent, q_blens, q_bstri, q_bstrs, q_blistl, q_blistt, q_btupl, q_btupt, q_bmin, q_bmax, q_fmts, q_fmti, backG_mk, pushG_mk, wipe_nil, wipe_cons, back_nil, back_cons, noOwn_nil, slots_nm, slots_tp, pv_val, pv_new, slot_val, slot_new, asInt_int, truV_bl, truV_int, cmpV_eq, cmpV_ne, cmpV_lt, cmpV_le, cmpV_gt, cmpV_ge, eqV_int, eqV_str, items_l, items_t, items_f, slcV_lst, slcV_tup, slcV_fz, revV_tup, revV_lst, idxV_lst, idxV_tup, noOwn_cons, at0, at1, at2, at3, Nxt_nx, Nxt_ret, Nxt_brk, Nxt_cnt, Turn_nx, Turn_cnt, Turn_brk, Turn_ret, Fin'_ret, Fin'_nx, List.getElem?_cons_zero, List.getElem?_cons_succ, List.set_cons_zero, List.set_cons_succ, List.getD_cons_zero, List.getD_cons_succ, List.length_cons, List.length_nil, List.map_cons, List.map_nil, List.cons_append, List.nil_append, List.replicate_succ, List.replicate_zero, Option.map_some, Option.some.injEq, Bool.not_true, Bool.not_false, Bool.and_self, Bool.and_true, Bool.true_and, Bool.false_eq_true, Bool.true_eq_false, if_true, if_false, ite_true, ite_false, reduceIte, true_and, and_true, Nat.reduceAdd, Nat.reduceSub, Nat.reduceLT, Nat.reduceLeDiff, Nat.reducePow, Int.reducePow, Int.reduceToNat, Int.reduceLE, Int.reduceLT, Int.reduceNeg, decide_true, decide_false, Ev.sizeLine_eq, rgOk_eq, Nat.lt_add_left_iff_pos, Nat.zero_lt_succ, Nat.succ_pos, Nat.zero_add, true_or, or_true, Nat.reduceMul, Nat.add_zero, Nat.zero_le, Nat.le_refl]
  split
  · exact ⟨Fd.mk, _, rfl, modpos h1⟩
  · split
    · rename_i hc
      have hl : 0 < (List.map PV.int cells).length := by
        cases cells with
        | nil => cases hc
        | cons _ _ => simp
      refine ⟨by omega, Ok_at (Int.emod_nonneg _ (by omega)) (Int.emod_lt_of_pos _ (by omega)) fun y hy => ?_⟩
      obtain ⟨z, rfl⟩ : ∃ z, y = .int z := by
        rw [List.getElem?_map] at hy
        cases q : cells[(spot % ↑(List.map PV.int cells).length).toNat]? with
        | none => rw [q] at hy; cases hy
        | some z => rw [q] at hy; cases hy; exact ⟨z, rfl⟩
      simp only [kOf, bnd, gC, gS, gL, gD, pS, pL, pD, fl_len, decide_eq_true_eq, hm, hm0, ↓q_ok, ↓q_some, ↓q_cst, ↓q_var, ↓q_tup, ↓q_lst, ↓q_bin, ↓q_cmp, ↓q_neg, ↓q_nt, ↓q_an, ↓q_orr, ↓q_ite, ↓q_idx, ↓q_slc, ↓q_rev, ↓q_call, ↓q_bi, ↓q_join, ↓q_app, ↓q_ext, ↓q_lc, ↓q_fs, ↓q_dct, ↓q_evs0, ↓q_evs1, ↓q_opds0, ↓q_opds1, ↓q_no, ↓q_so, ↓q_it, ↓q_rg1, ↓q_rg2, ↓q_tno, ↓q_tso, ↓q_evf0, ↓q_evf1, ↓q_tnt, ↓q_tan, ↓q_tor, ↓q_tite, ↓q_tvar, ↓q_tcst, ↓q_tcmp, ↓q_tidx, ↓q_tcall, ↓q_tbi, ↓q_tslc, ↓q_ovar, ↓q_ocst, ↓q_otup, ↓q_olst, ↓q_obin, ↓q_ocmp, ↓q_oneg, ↓q_ont, ↓q_oan, ↓q_oorr, ↓q_oite, ↓q_oidx, ↓q_oslc, ↓q_orev, ↓q_ocall, ↓q_obi, ↓q_ojoin, ↓q_olc, ↓q_ofs, ↓q_odct, ↓q_lookv, ↓q_looks, ↓q_peek, ↓q_look0, ↓q_look1, ↓q_set, ↓q_bnm, ↓q_btp, ↓q_sets0, ↓q_sets1, ↓q_par0, ↓q_par1, ↓q_own, ↓q_appV, ↓q_extn, ↓q_extl, ↓q_ixr, ↓q_ixt, ↓q_ixl, ↓q_ixs, ↓q_putG, ↓q_add_int, ↓q_add_str, ↓q_add_lst, ↓q_add_tup, ↓q_sub_int, ↓q_mul_int, ↓q_mul_lst, ↓q_mul_tup, ↓q_fdiv_int, ↓q_mod_int, ↓q_pow_int, ↓q_bint, ↓q_bintb, ↓q_blenl, ↓q_blent, ↓q_blens, ↓q_bstri, ↓q_bstrs, ↓q_blistl, ↓q_blistt, ↓q_btupl, ↓q_btupt, ↓q_bmin, ↓q_bmax, ↓q_fmts, ↓q_fmti, ↓q_asg, ↓q_parS, ↓q_put, ↓q_ex, ↓q_iff, ↓q_for, ↓q_retV, ↓q_rcst, ↓q_rtup, ↓q_rlst, ↓q_rbin, ↓q_rcmp, ↓q_rneg, ↓q_rnt, ↓q_ran, ↓q_rorr, ↓q_rite, ↓q_ridx, ↓q_rslc, ↓q_rrev, ↓q_rcall, ↓q_rbi, ↓q_rjoin, ↓q_rlc, ↓q_rfs, ↓q_rdct, ↓q_retN, ↓q_pas, ↓q_brk, ↓q_cnt, ↓q_exs0, ↓q_exs1, q_add_int, q_add_str, q_add_lst, q_add_tup, q_sub_int, q_mul_int, q_mul_lst, q_mul_tup, q_fdiv_int, q_mod_int, q_pow_int, q_bint, q_bintb, q_blenl, q_blent, q_blens, q_bstri, q_bstrs, q_blistl, q_blistt, q_btupl, q_btupt, q_bmin, q_bmax, q_fmts, q_fmti, backG_mk, pushG_mk, wipe_nil, wipe_cons, back_nil, back_cons, noOwn_nil, slots_nm, slots_tp, pv_val, pv_new, slot_val, slot_new, asInt_int, truV_bl, truV_int, cmpV_eq, cmpV_ne, cmpV_lt, cmpV_le, cmpV_gt, cmpV_ge, eqV_int, eqV_str, items_l, items_t, items_f, slcV_lst, slcV_tup, slcV_fz, revV_tup, revV_lst, idxV_lst, idxV_tup, noOwn_cons, at0, at1, at2, at3, Nxt_nx, Nxt_ret, Nxt_brk, Nxt_cnt, Turn_nx, Turn_cnt, Turn_brk, Turn_ret, Fin'_ret, Fin'_nx, List.getElem?_cons_zero, List.getElem?_cons_succ, List.set_cons_zero, List.set_cons_succ, List.getD_cons_zero, List.getD_cons_succ, List.length_cons, List.length_nil, List.map_cons, List.map_nil, List.cons_append, List.nil_append, List.replicate_succ, List.replicate_zero, Option.map_some, Option.some.injEq, Bool.not_true, Bool.not_false, Bool.and_self, Bool.and_true, Bool.true_and, Bool.false_eq_true, Bool.true_eq_false, if_true, if_false, ite_true, ite_false, reduceIte, true_and, and_true, Nat.reduceAdd, Nat.reduceSub, Nat.reduceLT, Nat.reduceLeDiff, Nat.reducePow, Int.reducePow, Int.reduceToNat, Int.reduceLE, Int.reduceLT, Int.reduceNeg, decide_true, decide_false, Ev.sizeLine_eq, rgOk_eq, Nat.lt_add_left_iff_pos, Nat.zero_lt_succ, Nat.succ_pos, Nat.zero_add, true_or, or_true, Nat.reduceMul, Nat.add_zero, Nat.zero_le, Nat.le_refl]
      split
      · split
        · refine ⟨by omega, ?_⟩
          repeat' apply And.intro
          all_goals first | omega | decide | exact Fd.mk | exact ⟨_, rfl, modpos h1⟩
        · repeat' apply And.intro
          all_goals first | omega | decide | exact Fd.mk | exact ⟨_, rfl, modpos h1⟩
      · repeat' apply And.intro
        all_goals first | omega | decide | exact Fd.mk | exact ⟨_, rfl, modpos h1⟩
    · repeat' apply And.intro
      all_goals first | omega | decide | exact Fd.mk | exact ⟨_, rfl, modpos h1⟩
theorem any_ok (k : Nat) {hp : List Cell} (F : Fd hp) {xs : List PV} (h1 : 1 ≤ xs.length) (h2 : xs.length ≤ 1000000) : Gives (calls table (k + 2) 9 [.ref 0, .lst xs] [] hp) fun r hp => Fd hp ∧ ∃ y ∈ xs, r = .val y := by
  refine gives_run (c := calls table (k + 1)) (d := d_l_any) (as := [.ref 0, .lst xs]) rfl ?_
  simp only [d_l_any, ↓q_ok, ↓q_some, ↓q_cst, ↓q_var, ↓q_tup, ↓q_lst, ↓q_bin, ↓q_cmp, ↓q_neg, ↓q_nt, ↓q_an, ↓q_orr, ↓q_ite, ↓q_idx, ↓q_slc, ↓q_rev, ↓q_call, ↓q_bi, ↓q_join, ↓q_app, ↓q_ext, ↓q_lc, ↓q_fs, ↓q_dct, ↓q_evs0, ↓q_evs1, ↓q_opds0, ↓q_opds1, ↓q_no, ↓q_so, ↓q_it, ↓q_rg1, ↓q_rg2, ↓q_tno, ↓q_tso, ↓q_evf0, ↓q_evf1, ↓q_tnt, ↓q_tan, ↓q_tor, ↓q_tite, ↓q_tvar, ↓q_tcst, ↓q_tcmp, ↓q_tidx, ↓q_tcall, ↓q_tbi, ↓q_tslc, ↓q_ovar, ↓q_ocst, ↓q_otup, ↓q_olst, ↓q_obin, ↓q_ocmp, ↓q_oneg, ↓q_ont, ↓q_oan, ↓q_oorr, ↓q_oite, ↓q_oidx, ↓q_oslc, ↓q_orev, ↓q_ocall, ↓q_obi, ↓q_ojoin, ↓q_olc, ↓q_ofs, ↓q_odct, ↓q_lookv, ↓q_looks, ↓q_peek, ↓q_look0, ↓q_look1, ↓q_set, ↓q_bnm, ↓q_btp, ↓q_sets0, ↓q_sets1, ↓q_par0, ↓q_par1, ↓q_own, ↓q_appV, ↓q_extn, ↓q_extl, ↓q_ixr, ↓q_ixt, ↓q_ixl, ↓q_ixs, ↓q_putG, ↓q_add_int, ↓q_add_str, ↓q_add_lst, ↓q_add_tup, ↓q_sub_int, ↓q_mul_int, ↓q_mul_lst, ↓q_mul_tup, ↓q_fdiv_int, ↓q_mod_int, ↓q_pow_int, ↓q_bint, ↓q_bintb, ↓q_blenl, ↓q_blent, ↓q_blens, ↓q_bstri, ↓q_bstrs, ↓q_blistl, ↓q_blistt, ↓q_btupl, ↓q_btupt, ↓q_bmin, ↓q_bmax, ↓q_fmts, ↓q_fmti, ↓q_asg, ↓q_parS, ↓q_put, ↓q_ex, ↓q_iff, ↓q_for, ↓q_retV, ↓q_rcst, ↓q_rtup, ↓q_rlst, ↓q_rbin, ↓q_rcmp, ↓q_rneg, ↓q_rnt, ↓q_ran, ↓q_rorr, ↓q_rite, ↓q_ridx, ↓q_rslc, ↓q_rrev, ↓q_rcall, ↓q_rbi, ↓q_rjoin, ↓q_rlc, ↓q_rfs, ↓q_rdct, ↓q_retN, ↓q_pas, ↓q_brk, ↓q_cnt, ↓q_exs0, ↓q_exs1, q_add_int, q_add_str, q_add_lst, q_add_tup, q_sub_int, q_mul_int, q_mul_lst, q_mul_tup, q_fdiv_int, q_mod_int, q_pow_int, q_bint, q_bintb, q_blenl, q_blent, q_blens, q_bstri, q_bstrs, q_blistl, q_blistt, q_btupl, q_btupt, q_bmin, q_bmax, q_fmts, q_fmti, backG_mk, pushG_mk, wipe_nil, wipe_cons, back_nil, back_cons, noOwn_nil, slots_nm, slots_tp, pv_val, pv_new, slot_val, slot_new, asInt_int, truV_bl, truV_int, cmpV_eq, cmpV_ne, cmpV_lt, cmpV_le, cmpV_gt, cmpV_ge, eqV_int, eqV_str, items_l, items_t, items_f, slcV_lst, slcV_tup, slcV_fz, revV_tup, revV_lst, idxV_lst, idxV_tup, noOwn_cons, at0, at1, at2, at3, Nxt_nx, Nxt_ret, Nxt_brk, Nxt_cnt, Turn_nx, Turn_cnt, Turn_brk, Turn_ret, Fin'_ret, Fin'_nx, List.getElem?_cons_zero, List.getElem?_cons_succ, List.set_cons_zero, List.set_cons_succ, List.getD_cons_zero, List.getD_cons_succ, List.length_cons, List.length_nil, List.map_cons, List.map_nil, List.cons_append, List.nil_append, List.replicate_succ, List.replicate_zero, Option.map_some, Option.some.injEq, Bool.not_true, Bool.not_false, Bool.and_self, Bool.and_true, Bool.true_and, Bool.false_eq_true, Bool.true_eq_false, if_true, if_false, ite_true, ite_false, reduceIte, true_and, and_true, Nat.reduceAdd, Nat.reduceSub, Nat.reduceLT, Nat.reduceLeDiff, Nat.reducePow, Int.reducePow, Int.reduceToNat, Int.reduceLE, Int.reduceLT, Int.reduceNeg, decide_true, decide_false, Ev.sizeLine_eq, rgOk_eq, Nat.lt_add_left_iff_pos, Nat.zero_lt_succ, Nat.succ_pos, Nat.zero_add, true_or, or_true, Nat.reduceMul, Nat.add_zero, Nat.zero_le, Nat.le_refl]
  refine Ok_callW (draw_ok k F (by omega) (by omega)) fun r hp' ⟨F', v, hr, h0, h1⟩ => ?_
  subst hr
  simp only [↓q_ok, ↓q_some, ↓q_cst, ↓q_var, ↓q_tup, ↓q_lst, ↓q_bin, ↓q_cmp, ↓q_neg, ↓q_nt, ↓q_an, ↓q_orr, ↓q_ite, ↓q_idx, ↓q_slc, ↓q_rev, ↓q_call, ↓q_bi, ↓q_join, ↓q_app, ↓q_ext, ↓q_lc, ↓q_fs, ↓q_dct, ↓q_evs0, ↓q_evs1, ↓q_opds0, ↓q_opds1, ↓q_no, ↓q_so, ↓q_it, ↓q_rg1, ↓q_rg2, ↓q_tno, ↓q_tso, ↓q_evf0, ↓q_evf1, ↓q_tnt, ↓q_tan, ↓q_tor, ↓q_tite, ↓q_tvar, ↓q_tcst, ↓q_tcmp, ↓q_tidx, ↓q_tcall, ↓q_tbi, ↓q_tslc, ↓q_ovar, ↓q_ocst, ↓q_otup, ↓q_olst, ↓q_obin, ↓q_ocmp, ↓q_oneg, ↓q_ont, ↓q_oan, ↓q_oorr, ↓q_oite, ↓q_oidx, ↓q_oslc, ↓q_orev, ↓q_ocall, ↓q_obi, ↓q_ojoin, ↓q_olc, ↓q_ofs, ↓q_odct, ↓q_lookv, ↓q_looks, ↓q_peek, ↓q_look0, ↓q_look1, ↓q_set, ↓q_bnm, ↓q_btp, ↓q_sets0, ↓q_sets1, ↓q_par0, ↓q_par1, ↓q_own, ↓q_appV, ↓q_extn, ↓q_extl, ↓q_ixr, ↓q_ixt, ↓q_ixl, ↓q_ixs, ↓q_putG, ↓q_add_int, ↓q_add_str, ↓q_add_lst, ↓q_add_tup, ↓q_sub_int, ↓q_mul_int, ↓q_mul_lst, ↓q_mul_tup, ↓q_fdiv_int, ↓q_mod_int, ↓q_pow_int, ↓q_bint, ↓q_bintb, ↓q_blenl, ↓q_blent, ↓q_blens, ↓q_bstri, ↓q_bstrs, ↓q_blistl, ↓q_blistt, ↓q_btupl, ↓q_btupt, ↓q_bmin, ↓q_bmax, ↓q_fmts, ↓q_fmti, ↓q_asg, ↓q_parS, ↓q_put, ↓q_ex, ↓q_iff, ↓q_for, ↓q_retV, ↓q_rcst, ↓q_rtup, ↓q_rlst, ↓q_rbin, ↓q_rcmp, ↓q_rneg, ↓q_rnt, ↓q_ran, ↓q_rorr, ↓q_rite, ↓q_ridx, ↓q_rslc, ↓q_rrev, ↓q_rcall, ↓q_rbi, ↓q_rjoin, ↓q_rlc, ↓q_rfs, ↓q_rdct, ↓q_retN, ↓q_pas, ↓q_brk, ↓q_cnt, ↓q_exs0, ↓q_exs1, q_add_int, q_add_str, q_add_lst, q_add_tup, q_sub_int, q_mul_int, q_mul_lst, q_mul_tup, q_fdiv_int, q_mod_int, q_pow_int, q_bint, q_bintb, q_blenl, q_blent, q_blens, q_bstri, q_bstrs, q_blistl, q_blistt, q_btupl, q_btupt, q_bmin, q_bmax, q_fmts, q_fmti, backG_mk, pushG_mk, wipe_nil, wipe_cons, back_nil, back_cons, noOwn_nil, slots_nm, slots_tp, pv_val, pv_new, slot_val, slot_new, asInt_int, truV_bl, truV_int, cmpV_eq, cmpV_ne, cmpV_lt, cmpV_le, cmpV_gt, cmpV_ge, eqV_int, eqV_str, items_l, items_t, items_f, slcV_lst, slcV_tup, slcV_fz, revV_tup, revV_lst, idxV_lst, idxV_tup, noOwn_cons, at0, at1, at2, at3, Nxt_nx, Nxt_ret, Nxt_brk, Nxt_cnt, Turn_nx, Turn_cnt, Turn_brk, Turn_ret, Fin'_ret, Fin'_nx, List.getElem?_cons_zero, List.getElem?_cons_succ, List.set_cons_zero, List.set_cons_succ, List.getD_cons_zero, List.getD_cons_succ, List.length_cons, List.length_nil, List.map_cons, List.map_nil, List.cons_append, List.nil_append, List.replicate_succ, List.replicate_zero, Option.map_some, Option.some.injEq, Bool.not_true, Bool.not_false, Bool.and_self, Bool.and_true, Bool.true_and, Bool.false_eq_true, Bool.true_eq_false, if_true, if_false, ite_true, ite_false, reduceIte, true_and, and_true, Nat.reduceAdd, Nat.reduceSub, Nat.reduceLT, Nat.reduceLeDiff, Nat.reducePow, Int.reducePow, Int.reduceToNat, Int.reduceLE, Int.reduceLT, Int.reduceNeg, decide_true, decide_false, Ev.sizeLine_eq, rgOk_eq, Nat.lt_add_left_iff_pos, Nat.zero_lt_succ, Nat.succ_pos, Nat.zero_add, true_or, or_true, Nat.reduceMul, Nat.add_zero, Nat.zero_le, Nat.le_refl]
  refine Ok_at h0 h1 fun y hy => ?_
  simp only [↓q_ok, ↓q_some, ↓q_cst, ↓q_var, ↓q_tup, ↓q_lst, ↓q_bin, ↓q_cmp, ↓q_neg, ↓q_nt, ↓q_an, ↓q_orr, ↓q_ite, ↓q_idx, ↓q_slc, ↓q_rev, ↓q_call, ↓q_bi, ↓q_join, ↓q_app, ↓q_ext, ↓q_lc, ↓q_fs, ↓q_dct, ↓q_evs0, ↓q_evs1, ↓q_opds0, ↓q_opds1, ↓q_no, ↓q_so, ↓q_it, ↓q_rg1, ↓q_rg2, ↓q_tno, ↓q_tso, ↓q_evf0, ↓q_evf1, ↓q_tnt, ↓q_tan, ↓q_tor, ↓q_tite, ↓q_tvar, ↓q_tcst, ↓q_tcmp, ↓q_tidx, ↓q_tcall, ↓q_tbi, ↓q_tslc, ↓q_ovar, ↓q_ocst, ↓q_otup, ↓q_olst, ↓q_obin, ↓q_ocmp, ↓q_oneg, ↓q_ont, ↓q_oan, ↓q_oorr, ↓q_oite, ↓q_oidx, ↓q_oslc, ↓q_orev, ↓q_ocall, ↓q_obi, ↓q_ojoin, ↓q_olc, ↓q_ofs, ↓q_odct, ↓q_lookv, ↓q_looks, ↓q_peek, ↓q_look0, ↓q_look1, ↓q_set, ↓q_bnm, ↓q_btp, ↓q_sets0, ↓q_sets1, ↓q_par0, ↓q_par1, ↓q_own, ↓q_appV, ↓q_extn, ↓q_extl, ↓q_ixr, ↓q_ixt, ↓q_ixl, ↓q_ixs, ↓q_putG, ↓q_add_int, ↓q_add_str, ↓q_add_lst, ↓q_add_tup, ↓q_sub_int, ↓q_mul_int, ↓q_mul_lst, ↓q_mul_tup, ↓q_fdiv_int, ↓q_mod_int, ↓q_pow_int, ↓q_bint, ↓q_bintb, ↓q_blenl, ↓q_blent, ↓q_blens, ↓q_bstri, ↓q_bstrs, ↓q_blistl, ↓q_blistt, ↓q_btupl, ↓q_btupt, ↓q_bmin, ↓q_bmax, ↓q_fmts, ↓q_fmti, ↓q_asg, ↓q_parS, ↓q_put, ↓q_ex, ↓q_iff, ↓q_for, ↓q_retV, ↓q_rcst, ↓q_rtup, ↓q_rlst, ↓q_rbin, ↓q_rcmp, ↓q_rneg, ↓q_rnt, ↓q_ran, ↓q_rorr, ↓q_rite, ↓q_ridx, ↓q_rslc, ↓q_rrev, ↓q_rcall, ↓q_rbi, ↓q_rjoin, ↓q_rlc, ↓q_rfs, ↓q_rdct, ↓q_retN, ↓q_pas, ↓q_brk, ↓q_cnt, ↓q_exs0, ↓q_exs1, q_add_int, q_add_str, q_add_lst, q_add_tup, q_sub_int, q_mul_int, q_mul_lst, q_mul_tup, q_fdiv_int, q_mod_int, q_pow_int, q_bint, q_bintb, q_blenl, q_blent, q_blens, q_bstri, q_bstrs, q_blistl, q_blistt, q_btupl, q_btupt, q_bmin, q_bmax, q_fmts, q_fmti, backG_mk, pushG_mk, wipe_nil, wipe_cons, back_nil, back_cons, noOwn_nil, slots_nm, slots_tp, pv_val, pv_new, slot_val, slot_new, asInt_int, truV_bl, truV_int, cmpV_eq, cmpV_ne, cmpV_lt, cmpV_le, cmpV_gt, cmpV_ge, eqV_int, eqV_str, items_l, items_t, items_f, slcV_lst, slcV_tup, slcV_fz, revV_tup, revV_lst, idxV_lst, idxV_tup, noOwn_cons, at0, at1, at2, at3, Nxt_nx, Nxt_ret, Nxt_brk, Nxt_cnt, Turn_nx, Turn_cnt, Turn_brk, Turn_ret, Fin'_ret, Fin'_nx, List.getElem?_cons_zero, List.getElem?_cons_succ, List.set_cons_zero, List.set_cons_succ, List.getD_cons_zero, List.getD_cons_succ, List.length_cons, List.length_nil, List.map_cons, List.map_nil, List.cons_append, List.nil_append, List.replicate_succ, List.replicate_zero, Option.map_some, Option.some.injEq, Bool.not_true, Bool.not_false, Bool.and_self, Bool.and_true, Bool.true_and, Bool.false_eq_true, Bool.true_eq_false, if_true, if_false, ite_true, ite_false, reduceIte, true_and, and_true, Nat.reduceAdd, Nat.reduceSub, Nat.reduceLT, Nat.reduceLeDiff, Nat.reducePow, Int.reducePow, Int.reduceToNat, Int.reduceLE, Int.reduceLT, Int.reduceNeg, decide_true, decide_false, Ev.sizeLine_eq, rgOk_eq, Nat.lt_add_left_iff_pos, Nat.zero_lt_succ, Nat.succ_pos, Nat.zero_add, true_or, or_true, Nat.reduceMul, Nat.add_zero, Nat.zero_le, Nat.le_refl]
  exact ⟨F', y, List.mem_of_getElem? hy, rfl⟩
theorem words_ok (k : Nat) {hp : List Cell} (F : Fd hp) {many : Int} (h1 : 0 ≤ many) (h2 : many ≤ 1000) : Gives (calls table (k + 2) 11 [.ref 0, .int many] [] hp) fun r hp => Fd hp ∧ ∃ ws : List Str, r = .new (ws.map PV.str) ∧ (ws.length : Int) = many ∧ ∀ w ∈ ws, Tx 12 w := by
  refine gives_run (c := calls table (k + 1)) (d := d_l_words) (as := [.ref 0, .int many]) rfl ?_
  simp only [d_l_words, ↓q_ok, ↓q_some, ↓q_cst, ↓q_var, ↓q_tup, ↓q_lst, ↓q_bin, ↓q_cmp, ↓q_neg, ↓q_nt, ↓q_an, ↓q_orr, ↓q_ite, ↓q_idx, ↓q_slc, ↓q_rev, ↓q_call, ↓q_bi, ↓q_join, ↓q_app, ↓q_ext, ↓q_lc, ↓q_fs, ↓q_dct, ↓q_evs0, ↓q_evs1, ↓q_opds0, ↓q_opds1, ↓q_no, ↓q_so, ↓q_it, ↓q_rg1, ↓q_rg2, ↓q_tno, ↓q_tso, ↓q_evf0, ↓q_evf1, ↓q_tnt, ↓q_tan, ↓q_tor, ↓q_tite, ↓q_tvar, ↓q_tcst, ↓q_tcmp, ↓q_tidx, ↓q_tcall, ↓q_tbi, ↓q_tslc, ↓q_ovar, ↓q_ocst, ↓q_otup, ↓q_olst, ↓q_obin, ↓q_ocmp, ↓q_oneg, ↓q_ont, ↓q_oan, ↓q_oorr, ↓q_oite, ↓q_oidx, ↓q_oslc, ↓q_orev, ↓q_ocall, ↓q_obi, ↓q_ojoin, ↓q_olc, ↓q_ofs, ↓q_odct, ↓q_lookv, ↓q_looks, ↓q_peek, ↓q_look0, ↓q_look1, ↓q_set, ↓q_bnm, ↓q_btp, ↓q_sets0, ↓q_sets1, ↓q_par0, ↓q_par1, ↓q_own, ↓q_appV, ↓q_extn, ↓q_extl, ↓q_ixr, ↓q_ixt, ↓q_ixl, ↓q_ixs, ↓q_putG, ↓q_add_int, ↓q_add_str, ↓q_add_lst, ↓q_add_tup, ↓q_sub_int, ↓q_mul_int, ↓q_mul_lst, ↓q_mul_tup, ↓q_fdiv_int, ↓q_mod_int, ↓q_pow_int, ↓q_bint, ↓q_bintb, ↓q_blenl, ↓q_blent, ↓q_blens, ↓q_bstri, ↓q_bstrs, ↓q_blistl, ↓q_blistt, ↓q_btupl, ↓q_btupt, ↓q_bmin, ↓q_bmax, ↓q_fmts, ↓q_fmti, ↓q_asg, ↓q_parS, ↓q_put, ↓q_ex, ↓q_iff, ↓q_for, ↓q_retV, ↓q_rcst, ↓q_rtup, ↓q_rlst, ↓q_rbin, ↓q_rcmp, ↓q_rneg, ↓q_rnt, ↓q_ran, ↓q_rorr, ↓q_rite, ↓q_ridx, ↓q_rslc, ↓q_rrev, ↓q_rcall, ↓q_rbi, ↓q_rjoin, ↓q_rlc, ↓q_rfs, ↓q_rdct, ↓q_retN, ↓q_pas, ↓q_brk, ↓q_cnt, ↓q_exs0, ↓q_exs1, q_add_int, q_add_str, q_add_lst, q_add_tup, q_sub_int, q_mul_int, q_mul_lst, q_mul_tup, q_fdiv_int, q_mod_int, q_pow_int, q_bint, q_bintb, q_blenl, q_blent, q_blens, q_bstri, q_bstrs, q_blistl, q_blistt, q_btupl, q_btupt, q_bmin, q_bmax, q_fmts, q_fmti, backG_mk, pushG_mk, wipe_nil, wipe_cons, back_nil, back_cons, noOwn_nil, slots_nm, slots_tp, pv_val, pv_new, slot_val, slot_new, asInt_int, truV_bl, truV_int, cmpV_eq, cmpV_ne, cmpV_lt, cmpV_le, cmpV_gt, cmpV_ge, eqV_int, eqV_str, items_l, items_t, items_f, slcV_lst, slcV_tup, slcV_fz, revV_tup, revV_lst, idxV_lst, idxV_tup, noOwn_cons, at0, at1, at2, at3, Nxt_nx, Nxt_ret, Nxt_brk, Nxt_cnt, Turn_nx, Turn_cnt, Turn_brk, Turn_ret, Fin'_ret, Fin'_nx, List.getElem?_cons_zero, List.getElem?_cons_succ, List.set_cons_zero, List.set_cons_succ, List.getD_cons_zero, List.getD_cons_succ, List.length_cons, List.length_nil, List.map_cons, List.map_nil, List.cons_append, List.nil_append, List.replicate_succ, List.replicate_zero, Option.map_some, Option.some.injEq, Bool.not_true, Bool.not_false, Bool.and_self, Bool.and_true, Bool.true_and, Bool.false_eq_true, Bool.true_eq_false, if_true, if_false, ite_true, ite_false, reduceIte, true_and, and_true, Nat.reduceAdd, Nat.reduceSub, Nat.reduceLT, Nat.reduceLeDiff, Nat.reducePow, Int.reducePow, Int.reduceToNat, Int.reduceLE, Int.reduceLT, Int.reduceNeg, decide_true, decide_false, Ev.sizeLine_eq, rgOk_eq, Nat.lt_add_left_iff_pos, Nat.zero_lt_succ, Nat.succ_pos, Nat.zero_add, true_or, or_true, Nat.reduceMul, Nat.add_zero, Nat.zero_le, Nat.le_refl]
  refine Ok_callW (draw_ok k F (by omega) (by omega)) fun r hp1 ⟨F1, v1, hr, a1, b1⟩ => ?_
  subst hr
  simp only [↓q_ok, ↓q_some, ↓q_cst, ↓q_var, ↓q_tup, ↓q_lst, ↓q_bin, ↓q_cmp, ↓q_neg, ↓q_nt, ↓q_an, ↓q_orr, ↓q_ite, ↓q_idx, ↓q_slc, ↓q_rev, ↓q_call, ↓q_bi, ↓q_join, ↓q_app, ↓q_ext, ↓q_lc, ↓q_fs, ↓q_dct, ↓q_evs0, ↓q_evs1, ↓q_opds0, ↓q_opds1, ↓q_no, ↓q_so, ↓q_it, ↓q_rg1, ↓q_rg2, ↓q_tno, ↓q_tso, ↓q_evf0, ↓q_evf1, ↓q_tnt, ↓q_tan, ↓q_tor, ↓q_tite, ↓q_tvar, ↓q_tcst, ↓q_tcmp, ↓q_tidx, ↓q_tcall, ↓q_tbi, ↓q_tslc, ↓q_ovar, ↓q_ocst, ↓q_otup, ↓q_olst, ↓q_obin, ↓q_ocmp, ↓q_oneg, ↓q_ont, ↓q_oan, ↓q_oorr, ↓q_oite, ↓q_oidx, ↓q_oslc, ↓q_orev, ↓q_ocall, ↓q_obi, ↓q_ojoin, ↓q_olc, ↓q_ofs, ↓q_odct, ↓q_lookv, ↓q_looks, ↓q_peek, ↓q_look0, ↓q_look1, ↓q_set, ↓q_bnm, ↓q_btp, ↓q_sets0, ↓q_sets1, ↓q_par0, ↓q_par1, ↓q_own, ↓q_appV, ↓q_extn, ↓q_extl, ↓q_ixr, ↓q_ixt, ↓q_ixl, ↓q_ixs, ↓q_putG, ↓q_add_int, ↓q_add_str, ↓q_add_lst, ↓q_add_tup, ↓q_sub_int, ↓q_mul_int, ↓q_mul_lst, ↓q_mul_tup, ↓q_fdiv_int, ↓q_mod_int, ↓q_pow_int, ↓q_bint, ↓q_bintb, ↓q_blenl, ↓q_blent, ↓q_blens, ↓q_bstri, ↓q_bstrs, ↓q_blistl, ↓q_blistt, ↓q_btupl, ↓q_btupt, ↓q_bmin, ↓q_bmax, ↓q_fmts, ↓q_fmti, ↓q_asg, ↓q_parS, ↓q_put, ↓q_ex, ↓q_iff, ↓q_for, ↓q_retV, ↓q_rcst, ↓q_rtup, ↓q_rlst, ↓q_rbin, ↓q_rcmp, ↓q_rneg, ↓q_rnt, ↓q_ran, ↓q_rorr, ↓q_rite, ↓q_ridx, ↓q_rslc, ↓q_rrev, ↓q_rcall, ↓q_rbi, ↓q_rjoin, ↓q_rlc, ↓q_rfs, ↓q_rdct, ↓q_retN, ↓q_pas, ↓q_brk, ↓q_cnt, ↓q_exs0, ↓q_exs1, q_add_int, q_add_str, q_add_lst, q_add_tup, q_sub_int, q_mul_int, q_mul_lst, q_mul_tup, q_fdiv_int, q_mod_int, q_pow_int, q_bint, q_bintb, q_blenl, q_blent, q_blens, q_bstri, q_bstrs, q_blistl, q_blistt, q_btupl, q_btupt, q_bmin, q_bmax, q_fmts, q_fmti, backG_mk, pushG_mk, wipe_nil, wipe_cons, back_nil, back_cons, noOwn_nil, slots_nm, slots_tp, pv_val, pv_new, slot_val, slot_new, asInt_int, truV_bl, truV_int, cmpV_eq, cmpV_ne, cmpV_lt, cmpV_le, cmpV_gt, cmpV_ge, eqV_int, eqV_str, items_l, items_t, items_f, slcV_lst, slcV_tup, slcV_fz, revV_tup, revV_lst, idxV_lst, idxV_tup, noOwn_cons, at0, at1, at2, at3, Nxt_nx, Nxt_ret, Nxt_brk, Nxt_cnt, Turn_nx, Turn_cnt, Turn_brk, Turn_ret, Fin'_ret, Fin'_nx, List.getElem?_cons_zero, List.getElem?_cons_succ, List.set_cons_zero, List.set_cons_succ, List.getD_cons_zero, List.getD_cons_succ, List.length_cons, List.length_nil, List.map_cons, List.map_nil, List.cons_append, List.nil_append, List.replicate_succ, List.replicate_zero, Option.map_some, Option.some.injEq, Bool.not_true, Bool.not_false, Bool.and_self, Bool.and_true, Bool.true_and, Bool.false_eq_true, Bool.true_eq_false, if_true, if_false, ite_true, ite_false, reduceIte, true_and, and_true, Nat.reduceAdd, Nat.reduceSub, Nat.reduceLT, Nat.reduceLeDiff, Nat.reducePow, Int.reducePow, Int.reduceToNat, Int.reduceLE, Int.reduceLT, Int.reduceNeg, decide_true, decide_false, Ev.sizeLine_eq, rgOk_eq, Nat.lt_add_left_iff_pos, Nat.zero_lt_succ, Nat.succ_pos, Nat.zero_add, true_or, or_true, Nat.reduceMul, Nat.add_zero, Nat.zero_le, Nat.le_refl]
  refine Ok_callW (draw_ok k F1 (by omega) (by omega)) fun r hp2 ⟨F2, v2, hr, a2, b2⟩ => ?_
  subst hr
  simp only [↓q_ok, ↓q_some, ↓q_cst, ↓q_var, ↓q_tup, ↓q_lst, ↓q_bin, ↓q_cmp, ↓q_neg, ↓q_nt, ↓q_an, ↓q_orr, ↓q_ite, ↓q_idx, ↓q_slc, ↓q_rev, ↓q_call, ↓q_bi, ↓q_join, ↓q_app, ↓q_ext, ↓q_lc, ↓q_fs, ↓q_dct, ↓q_evs0, ↓q_evs1, ↓q_opds0, ↓q_opds1, ↓q_no, ↓q_so, ↓q_it, ↓q_rg1, ↓q_rg2, ↓q_tno, ↓q_tso, ↓q_evf0, ↓q_evf1, ↓q_tnt, ↓q_tan, ↓q_tor, ↓q_tite, ↓q_tvar, ↓q_tcst, ↓q_tcmp, ↓q_tidx, ↓q_tcall, ↓q_tbi, ↓q_tslc, ↓q_ovar, ↓q_ocst, ↓q_otup, ↓q_olst, ↓q_obin, ↓q_ocmp, ↓q_oneg, ↓q_ont, ↓q_oan, ↓q_oorr, ↓q_oite, ↓q_oidx, ↓q_oslc, ↓q_orev, ↓q_ocall, ↓q_obi, ↓q_ojoin, ↓q_olc, ↓q_ofs, ↓q_odct, ↓q_lookv, ↓q_looks, ↓q_peek, ↓q_look0, ↓q_look1, ↓q_set, ↓q_bnm, ↓q_btp, ↓q_sets0, ↓q_sets1, ↓q_par0, ↓q_par1, ↓q_own, ↓q_appV, ↓q_extn, ↓q_extl, ↓q_ixr, ↓q_ixt, ↓q_ixl, ↓q_ixs, ↓q_putG, ↓q_add_int, ↓q_add_str, ↓q_add_lst, ↓q_add_tup, ↓q_sub_int, ↓q_mul_int, ↓q_mul_lst, ↓q_mul_tup, ↓q_fdiv_int, ↓q_mod_int, ↓q_pow_int, ↓q_bint, ↓q_bintb, ↓q_blenl, ↓q_blent, ↓q_blens, ↓q_bstri, ↓q_bstrs, ↓q_blistl, ↓q_blistt, ↓q_btupl, ↓q_btupt, ↓q_bmin, ↓q_bmax, ↓q_fmts, ↓q_fmti, ↓q_asg, ↓q_parS, ↓q_put, ↓q_ex, ↓q_iff, ↓q_for, ↓q_retV, ↓q_rcst, ↓q_rtup, ↓q_rlst, ↓q_rbin, ↓q_rcmp, ↓q_rneg, ↓q_rnt, ↓q_ran, ↓q_rorr, ↓q_rite, ↓q_ridx, ↓q_rslc, ↓q_rrev, ↓q_rcall, ↓q_rbi, ↓q_rjoin, ↓q_rlc, ↓q_rfs, ↓q_rdct, ↓q_retN, ↓q_pas, ↓q_brk, ↓q_cnt, ↓q_exs0, ↓q_exs1, q_add_int, q_add_str, q_add_lst, q_add_tup, q_sub_int, q_mul_int, q_mul_lst, q_mul_tup, q_fdiv_int, q_mod_int, q_pow_int, q_bint, q_bintb, q_blenl, q_blent, q_blens, q_bstri, q_bstrs, q_blistl, q_blistt, q_btupl, q_btupt, q_bmin, q_bmax, q_fmts, q_fmti, backG_mk, pushG_mk, wipe_nil, wipe_cons, back_nil, back_cons, noOwn_nil, slots_nm, slots_tp, pv_val, pv_new, slot_val, slot_new, asInt_int, truV_bl, truV_int, cmpV_eq, cmpV_ne, cmpV_lt, cmpV_le, cmpV_gt, cmpV_ge, eqV_int, eqV_str, items_l, items_t, items_f, slcV_lst, slcV_tup, slcV_fz, revV_tup, revV_lst, idxV_lst, idxV_tup, noOwn_cons, at0, at1, at2, at3, Nxt_nx, Nxt_ret, Nxt_brk, Nxt_cnt, Turn_nx, Turn_cnt, Turn_brk, Turn_ret, Fin'_ret, Fin'_nx, List.getElem?_cons_zero, List.getElem?_cons_succ, List.set_cons_zero, List.set_cons_succ, List.getD_cons_zero, List.getD_cons_succ, List.length_cons, List.length_nil, List.map_cons, List.map_nil, List.cons_append, List.nil_append, List.replicate_succ, List.replicate_zero, Option.map_some, Option.some.injEq, Bool.not_true, Bool.not_false, Bool.and_self, Bool.and_true, Bool.true_and, Bool.false_eq_true, Bool.true_eq_false, if_true, if_false, ite_true, ite_false, reduceIte, true_and, and_true, Nat.reduceAdd, Nat.reduceSub, Nat.reduceLT, Nat.reduceLeDiff, Nat.reducePow, Int.reducePow, Int.reduceToNat, Int.reduceLE, Int.reduceLT, Int.reduceNeg, decide_true, decide_false, Ev.sizeLine_eq, rgOk_eq, Nat.lt_add_left_iff_pos, Nat.zero_lt_succ, Nat.succ_pos, Nat.zero_add, true_or, or_true, Nat.reduceMul, Nat.add_zero, Nat.zero_le, Nat.le_refl]
  refine Ok_callW (draw_ok k F2 (by omega) (by omega)) fun r hp3 ⟨F3, v3, hr, a3, b3⟩ => ?_
  subst hr
  simp only [decide_eq_true_eq, ↓q_ok, ↓q_some, ↓q_cst, ↓q_var, ↓q_tup, ↓q_lst, ↓q_bin, ↓q_cmp, ↓q_neg, ↓q_nt, ↓q_an, ↓q_orr, ↓q_ite, ↓q_idx, ↓q_slc, ↓q_rev, ↓q_call, ↓q_bi, ↓q_join, ↓q_app, ↓q_ext, ↓q_lc, ↓q_fs, ↓q_dct, ↓q_evs0, ↓q_evs1, ↓q_opds0, ↓q_opds1, ↓q_no, ↓q_so, ↓q_it, ↓q_rg1, ↓q_rg2, ↓q_tno, ↓q_tso, ↓q_evf0, ↓q_evf1, ↓q_tnt, ↓q_tan, ↓q_tor, ↓q_tite, ↓q_tvar, ↓q_tcst, ↓q_tcmp, ↓q_tidx, ↓q_tcall, ↓q_tbi, ↓q_tslc, ↓q_ovar, ↓q_ocst, ↓q_otup, ↓q_olst, ↓q_obin, ↓q_ocmp, ↓q_oneg, ↓q_ont, ↓q_oan, ↓q_oorr, ↓q_oite, ↓q_oidx, ↓q_oslc, ↓q_orev, ↓q_ocall, ↓q_obi, ↓q_ojoin, ↓q_olc, ↓q_ofs, ↓q_odct, ↓q_lookv, ↓q_looks, ↓q_peek, ↓q_look0, ↓q_look1, ↓q_set, ↓q_bnm, ↓q_btp, ↓q_sets0, ↓q_sets1, ↓q_par0, ↓q_par1, ↓q_own, ↓q_appV, ↓q_extn, ↓q_extl, ↓q_ixr, ↓q_ixt, ↓q_ixl, ↓q_ixs, ↓q_putG, ↓q_add_int, ↓q_add_str, ↓q_add_lst, ↓q_add_tup, ↓q_sub_int, ↓q_mul_int, ↓q_mul_lst, ↓q_mul_tup, ↓q_fdiv_int, ↓q_mod_int, ↓q_pow_int, ↓q_bint, ↓q_bintb, ↓q_blenl, ↓q_blent, ↓q_blens, ↓q_bstri, ↓q_bstrs, ↓q_blistl, ↓q_blistt, ↓q_btupl, ↓q_btupt, ↓q_bmin, ↓q_bmax, ↓q_fmts, ↓q_fmti, ↓q_asg, ↓q_parS, ↓q_put, ↓q_ex, ↓q_iff, ↓q_for, ↓q_retV, ↓q_rcst, ↓q_rtup, ↓q_rlst, ↓q_rbin, ↓q_rcmp, ↓q_rneg, ↓q_rnt, ↓q_ran, ↓q_rorr, ↓q_rite, ↓q_ridx, ↓q_rslc, ↓q_rrev, ↓q_rcall, ↓q_rbi, ↓q_rjoin, ↓q_rlc, ↓q_rfs, ↓q_rdct, ↓q_retN, ↓q_pas, ↓q_brk, ↓q_cnt, ↓q_exs0, ↓q_exs1, q_add_int, q_add_str, q_add_lst, q_add_tup, q_sub_int, q_mul_int, q_mul_lst, q_mul_tup, q_fdiv_int, q_mod_int, q_pow_int, q_bint, q_bintb, q_blenl, q_blent, q_blens, q_bstri, q_bstrs, q_blistl, q_blistt, q_btupl, q_btupt, q_bmin, q_bmax, q_fmts, q_fmti, backG_mk, pushG_mk, wipe_nil, wipe_cons, back_nil, back_cons, noOwn_nil, slots_nm, slots_tp, pv_val, pv_new, slot_val, slot_new, asInt_int, truV_bl, truV_int, cmpV_eq, cmpV_ne, cmpV_lt, cmpV_le, cmpV_gt, cmpV_ge, eqV_int, eqV_str, items_l, items_t, items_f, slcV_lst, slcV_tup, slcV_fz, revV_tup, revV_lst, idxV_lst, idxV_tup, noOwn_cons, at0, at1, at2, at3, Nxt_nx, Nxt_ret, Nxt_brk, Nxt_cnt, Turn_nx, Turn_cnt, Turn_brk, Turn_ret, Fin'_ret, Fin'_nx, List.getElem?_cons_zero, List.getElem?_cons_succ, List.set_cons_zero, List.set_cons_succ, List.getD_cons_zero, List.getD_cons_succ, List.length_cons, List.length_nil, List.map_cons, List.map_nil, List.cons_append, List.nil_append, List.replicate_succ, List.replicate_zero, Option.map_some, Option.some.injEq, Bool.not_true, Bool.not_false, Bool.and_self, Bool.and_true, Bool.true_and, Bool.false_eq_true, Bool.true_eq_false, if_true, if_false, ite_true, ite_false, reduceIte, true_and, and_true, Nat.reduceAdd, Nat.reduceSub, Nat.reduceLT, Nat.reduceLeDiff, Nat.reducePow, Int.reducePow, Int.reduceToNat, Int.reduceLE, Int.reduceLT, Int.reduceNeg, decide_true, decide_false, Ev.sizeLine_eq, rgOk_eq, Nat.lt_add_left_iff_pos, Nat.zero_lt_succ, Nat.succ_pos, Nat.zero_add, true_or, or_true, Nat.reduceMul, Nat.add_zero, Nat.zero_le, Nat.le_refl]
  split
  ·
    refine ⟨by omega, ?_⟩
    refine lc_all Fd (fun _ y => ∃ w, y = PV.str w ∧ Tx 12 w) F3 ?_ (fun x hx hp F => ?_) fun ys hp' F' e => ?_
    · rw [rg_len]; omega
    · obtain ⟨n, rfl, n0, n1⟩ := rg_mem hx
      simp only [↓q_ok, ↓q_some, ↓q_cst, ↓q_var, ↓q_tup, ↓q_lst, ↓q_bin, ↓q_cmp, ↓q_neg, ↓q_nt, ↓q_an, ↓q_orr, ↓q_ite, ↓q_idx, ↓q_slc, ↓q_rev, ↓q_call, ↓q_bi, ↓q_join, ↓q_app, ↓q_ext, ↓q_lc, ↓q_fs, ↓q_dct, ↓q_evs0, ↓q_evs1, ↓q_opds0, ↓q_opds1, ↓q_no, ↓q_so, ↓q_it, ↓q_rg1, ↓q_rg2, ↓q_tno, ↓q_tso, ↓q_evf0, ↓q_evf1, ↓q_tnt, ↓q_tan, ↓q_tor, ↓q_tite, ↓q_tvar, ↓q_tcst, ↓q_tcmp, ↓q_tidx, ↓q_tcall, ↓q_tbi, ↓q_tslc, ↓q_ovar, ↓q_ocst, ↓q_otup, ↓q_olst, ↓q_obin, ↓q_ocmp, ↓q_oneg, ↓q_ont, ↓q_oan, ↓q_oorr, ↓q_oite, ↓q_oidx, ↓q_oslc, ↓q_orev, ↓q_ocall, ↓q_obi, ↓q_ojoin, ↓q_olc, ↓q_ofs, ↓q_odct, ↓q_lookv, ↓q_looks, ↓q_peek, ↓q_look0, ↓q_look1, ↓q_set, ↓q_bnm, ↓q_btp, ↓q_sets0, ↓q_sets1, ↓q_par0, ↓q_par1, ↓q_own, ↓q_appV, ↓q_extn, ↓q_extl, ↓q_ixr, ↓q_ixt, ↓q_ixl, ↓q_ixs, ↓q_putG, ↓q_add_int, ↓q_add_str, ↓q_add_lst, ↓q_add_tup, ↓q_sub_int, ↓q_mul_int, ↓q_mul_lst, ↓q_mul_tup, ↓q_fdiv_int, ↓q_mod_int, ↓q_pow_int, ↓q_bint, ↓q_bintb, ↓q_blenl, ↓q_blent, ↓q_blens, ↓q_bstri, ↓q_bstrs, ↓q_blistl, ↓q_blistt, ↓q_btupl, ↓q_btupt, ↓q_bmin, ↓q_bmax, ↓q_fmts, ↓q_fmti, ↓q_asg, ↓q_parS, ↓q_put, ↓q_ex, ↓q_iff, ↓q_for, ↓q_retV, ↓q_rcst, ↓q_rtup, ↓q_rlst, ↓q_rbin, ↓q_rcmp, ↓q_rneg, ↓q_rnt, ↓q_ran, ↓q_rorr, ↓q_rite, ↓q_ridx, ↓q_rslc, ↓q_rrev, ↓q_rcall, ↓q_rbi, ↓q_rjoin, ↓q_rlc, ↓q_rfs, ↓q_rdct, ↓q_retN, ↓q_pas, ↓q_brk, ↓q_cnt, ↓q_exs0, ↓q_exs1, q_add_int, q_add_str, q_add_lst, q_add_tup, q_sub_int, q_mul_int, q_mul_lst, q_mul_tup, q_fdiv_int, q_mod_int, q_pow_int, q_bint, q_bintb, q_blenl, q_blent, q_blens, q_bstri, q_bstrs, q_blistl, q_blistt, q_btupl, q_btupt, q_bmin, q_bmax, q_fmts, q_fmti, backG_mk, pushG_mk, wipe_nil, wipe_cons, back_nil, back_cons, noOwn_nil, slots_nm, slots_tp, pv_val, pv_new, slot_val, slot_new, asInt_int, truV_bl, truV_int, cmpV_eq, cmpV_ne, cmpV_lt, cmpV_le, cmpV_gt, cmpV_ge, eqV_int, eqV_str, items_l, items_t, items_f, slcV_lst, slcV_tup, slcV_fz, revV_tup, revV_lst, idxV_lst, idxV_tup, noOwn_cons, at0, at1, at2, at3, Nxt_nx, Nxt_ret, Nxt_brk, Nxt_cnt, Turn_nx, Turn_cnt, Turn_brk, Turn_ret, Fin'_ret, Fin'_nx, List.getElem?_cons_zero, List.getElem?_cons_succ, List.set_cons_zero, List.set_cons_succ, List.getD_cons_zero, List.getD_cons_succ, List.length_cons, List.length_nil, List.map_cons, List.map_nil, List.cons_append, List.nil_append, List.replicate_succ, List.replicate_zero, Option.map_some, Option.some.injEq, Bool.not_true, Bool.not_false, Bool.and_self, Bool.and_true, Bool.true_and, Bool.false_eq_true, Bool.true_eq_false, if_true, if_false, ite_true, ite_false, reduceIte, true_and, and_true, Nat.reduceAdd, Nat.reduceSub, Nat.reduceLT, Nat.reduceLeDiff, Nat.reducePow, Int.reducePow, Int.reduceToNat, Int.reduceLE, Int.reduceLT, Int.reduceNeg, decide_true, decide_false, Ev.sizeLine_eq, rgOk_eq, Nat.lt_add_left_iff_pos, Nat.zero_lt_succ, Nat.succ_pos, Nat.zero_add, true_or, or_true, Nat.reduceMul, Nat.add_zero, Nat.zero_le, Nat.le_refl]
      refine ⟨.inl (by omega), Ok_at (by omega) (by simp only [↓q_ok, ↓q_some, ↓q_cst, ↓q_var, ↓q_tup, ↓q_lst, ↓q_bin, ↓q_cmp, ↓q_neg, ↓q_nt, ↓q_an, ↓q_orr, ↓q_ite, ↓q_idx, ↓q_slc, ↓q_rev, ↓q_call, ↓q_bi, ↓q_join, ↓q_app, ↓q_ext, ↓q_lc, ↓q_fs, ↓q_dct, ↓q_evs0, ↓q_evs1, ↓q_opds0, ↓q_opds1, ↓q_no, ↓q_so, ↓q_it, ↓q_rg1, ↓q_rg2, ↓q_tno, ↓q_tso, ↓q_evf0, ↓q_evf1, ↓q_tnt, ↓q_tan, ↓q_tor, ↓q_tite, ↓q_tvar, ↓q_tcst, ↓q_tcmp, ↓q_tidx, ↓q_tcall, ↓q_tbi, ↓q_tslc, ↓q_ovar, ↓q_ocst, ↓q_otup, ↓q_olst, ↓q_obin, ↓q_ocmp, ↓q_oneg, ↓q_ont, ↓q_oan, ↓q_oorr, ↓q_oite, ↓q_oidx, ↓q_oslc, ↓q_orev, ↓q_ocall, ↓q_obi, ↓q_ojoin, ↓q_olc, ↓q_ofs, ↓q_odct, ↓q_lookv, ↓q_looks, ↓q_peek, ↓q_look0, ↓q_look1, ↓q_set, ↓q_bnm, ↓q_btp, ↓q_sets0, ↓q_sets1, ↓q_par0, ↓q_par1, ↓q_own, ↓q_appV, ↓q_extn, ↓q_extl, ↓q_ixr, ↓q_ixt, ↓q_ixl, ↓q_ixs, ↓q_putG, ↓q_add_int, ↓q_add_str, ↓q_add_lst, ↓q_add_tup, ↓q_sub_int, ↓q_mul_int, ↓q_mul_lst, ↓q_mul_tup, ↓q_fdiv_int, ↓q_mod_int, ↓q_pow_int, ↓q_bint, ↓q_bintb, ↓q_blenl, ↓q_blent, ↓q_blens, ↓q_bstri, ↓q_bstrs, ↓q_blistl, ↓q_blistt, ↓q_btupl, ↓q_btupt, ↓q_bmin, ↓q_bmax, ↓q_fmts, ↓q_fmti, ↓q_asg, ↓q_parS, ↓q_put, ↓q_ex, ↓q_iff, ↓q_for, ↓q_retV, ↓q_rcst, ↓q_rtup, ↓q_rlst, ↓q_rbin, ↓q_rcmp, ↓q_rneg, ↓q_rnt, ↓q_ran, ↓q_rorr, ↓q_rite, ↓q_ridx, ↓q_rslc, ↓q_rrev, ↓q_rcall, ↓q_rbi, ↓q_rjoin, ↓q_rlc, ↓q_rfs, ↓q_rdct, ↓q_retN, ↓q_pas, ↓q_brk, ↓q_cnt, ↓q_exs0, ↓q_exs1, q_add_int, q_add_str, q_add_lst, q_add_tup, q_sub_int, q_mul_int, q_mul_lst, q_mul_tup, q_fdiv_int, q_mod_int, q_pow_int, q_bint, q_bintb, q_blenl, q_blent, q_blens, q_bstri, q_bstrs, q_blistl, q_blistt, q_btupl, q_btupt, q_bmin, q_bmax, q_fmts, q_fmti, backG_mk, pushG_mk, wipe_nil, wipe_cons, back_nil, back_cons, noOwn_nil, slots_nm, slots_tp, pv_val, pv_new, slot_val, slot_new, asInt_int, truV_bl, truV_int, cmpV_eq, cmpV_ne, cmpV_lt, cmpV_le, cmpV_gt, cmpV_ge, eqV_int, eqV_str, items_l, items_t, items_f, slcV_lst, slcV_tup, slcV_fz, revV_tup, revV_lst, idxV_lst, idxV_tup, noOwn_cons, at0, at1, at2, at3, Nxt_nx, Nxt_ret, Nxt_brk, Nxt_cnt, Turn_nx, Turn_cnt, Turn_brk, Turn_ret, Fin'_ret, Fin'_nx, List.getElem?_cons_zero, List.getElem?_cons_succ, List.set_cons_zero, List.set_cons_succ, List.getD_cons_zero, List.getD_cons_succ, List.length_cons, List.length_nil, List.map_cons, List.map_nil, List.cons_append, List.nil_append, List.replicate_succ, List.replicate_zero, Option.map_some, Option.some.injEq, Bool.not_true, Bool.not_false, Bool.and_self, Bool.and_true, Bool.true_and, Bool.false_eq_true, Bool.true_eq_false, if_true, if_false, ite_true, ite_false, reduceIte, true_and, and_true, Nat.reduceAdd, Nat.reduceSub, Nat.reduceLT, Nat.reduceLeDiff, Nat.reducePow, Int.reducePow, Int.reduceToNat, Int.reduceLE, Int.reduceLT, Int.reduceNeg, decide_true, decide_false, Ev.sizeLine_eq, rgOk_eq, Nat.lt_add_left_iff_pos, Nat.zero_lt_succ, Nat.succ_pos, Nat.zero_add, true_or, or_true, Nat.reduceMul, Nat.add_zero, Nat.zero_le, Nat.le_refl]; omega) fun y hy => ?_⟩
      simp only [↓q_ok, ↓q_some, ↓q_cst, ↓q_var, ↓q_tup, ↓q_lst, ↓q_bin, ↓q_cmp, ↓q_neg, ↓q_nt, ↓q_an, ↓q_orr, ↓q_ite, ↓q_idx, ↓q_slc, ↓q_rev, ↓q_call, ↓q_bi, ↓q_join, ↓q_app, ↓q_ext, ↓q_lc, ↓q_fs, ↓q_dct, ↓q_evs0, ↓q_evs1, ↓q_opds0, ↓q_opds1, ↓q_no, ↓q_so, ↓q_it, ↓q_rg1, ↓q_rg2, ↓q_tno, ↓q_tso, ↓q_evf0, ↓q_evf1, ↓q_tnt, ↓q_tan, ↓q_tor, ↓q_tite, ↓q_tvar, ↓q_tcst, ↓q_tcmp, ↓q_tidx, ↓q_tcall, ↓q_tbi, ↓q_tslc, ↓q_ovar, ↓q_ocst, ↓q_otup, ↓q_olst, ↓q_obin, ↓q_ocmp, ↓q_oneg, ↓q_ont, ↓q_oan, ↓q_oorr, ↓q_oite, ↓q_oidx, ↓q_oslc, ↓q_orev, ↓q_ocall, ↓q_obi, ↓q_ojoin, ↓q_olc, ↓q_ofs, ↓q_odct, ↓q_lookv, ↓q_looks, ↓q_peek, ↓q_look0, ↓q_look1, ↓q_set, ↓q_bnm, ↓q_btp, ↓q_sets0, ↓q_sets1, ↓q_par0, ↓q_par1, ↓q_own, ↓q_appV, ↓q_extn, ↓q_extl, ↓q_ixr, ↓q_ixt, ↓q_ixl, ↓q_ixs, ↓q_putG, ↓q_add_int, ↓q_add_str, ↓q_add_lst, ↓q_add_tup, ↓q_sub_int, ↓q_mul_int, ↓q_mul_lst, ↓q_mul_tup, ↓q_fdiv_int, ↓q_mod_int, ↓q_pow_int, ↓q_bint, ↓q_bintb, ↓q_blenl, ↓q_blent, ↓q_blens, ↓q_bstri, ↓q_bstrs, ↓q_blistl, ↓q_blistt, ↓q_btupl, ↓q_btupt, ↓q_bmin, ↓q_bmax, ↓q_fmts, ↓q_fmti, ↓q_asg, ↓q_parS, ↓q_put, ↓q_ex, ↓q_iff, ↓q_for, ↓q_retV, ↓q_rcst, ↓q_rtup, ↓q_rlst, ↓q_rbin, ↓q_rcmp, ↓q_rneg, ↓q_rnt, ↓q_ran, ↓q_rorr, ↓q_rite, ↓q_ridx, ↓q_rslc, ↓q_rrev, ↓q_rcall, ↓q_rbi, ↓q_rjoin, ↓q_rlc, ↓q_rfs, ↓q_rdct, ↓q_retN, ↓q_pas, ↓q_brk, ↓q_cnt, ↓q_exs0, ↓q_exs1, q_add_int, q_add_str, q_add_lst, q_add_tup, q_sub_int, q_mul_int, q_mul_lst, q_mul_tup, q_fdiv_int, q_mod_int, q_pow_int, q_bint, q_bintb, q_blenl, q_blent, q_blens, q_bstri, q_bstrs, q_blistl, q_blistt, q_btupl, q_btupt, q_bmin, q_bmax, q_fmts, q_fmti, backG_mk, pushG_mk, wipe_nil, wipe_cons, back_nil, back_cons, noOwn_nil, slots_nm, slots_tp, pv_val, pv_new, slot_val, slot_new, asInt_int, truV_bl, truV_int, cmpV_eq, cmpV_ne, cmpV_lt, cmpV_le, cmpV_gt, cmpV_ge, eqV_int, eqV_str, items_l, items_t, items_f, slcV_lst, slcV_tup, slcV_fz, revV_tup, revV_lst, idxV_lst, idxV_tup, noOwn_cons, at0, at1, at2, at3, Nxt_nx, Nxt_ret, Nxt_brk, Nxt_cnt, Turn_nx, Turn_cnt, Turn_brk, Turn_ret, Fin'_ret, Fin'_nx, List.getElem?_cons_zero, List.getElem?_cons_succ, List.set_cons_zero, List.set_cons_succ, List.getD_cons_zero, List.getD_cons_succ, List.length_cons, List.length_nil, List.map_cons, List.map_nil, List.cons_append, List.nil_append, List.replicate_succ, List.replicate_zero, Option.map_some, Option.some.injEq, Bool.not_true, Bool.not_false, Bool.and_self, Bool.and_true, Bool.true_and, Bool.false_eq_true, Bool.true_eq_false, if_true, if_false, ite_true, ite_false, reduceIte, true_and, and_true, Nat.reduceAdd, Nat.reduceSub, Nat.reduceLT, Nat.reduceLeDiff, Nat.reducePow, Int.reducePow, Int.reduceToNat, Int.reduceLE, Int.reduceLT, Int.reduceNeg, decide_true, decide_false, Ev.sizeLine_eq, rgOk_eq, Nat.lt_add_left_iff_pos, Nat.zero_lt_succ, Nat.succ_pos, Nat.zero_add, true_or, or_true, Nat.reduceMul, Nat.add_zero, Nat.zero_le, Nat.le_refl]
      exact ⟨at_txP (by decide +kernel) hy, F⟩
    · obtain ⟨ws, rfl, hl, hw⟩ := e.map fun x y h => h
      rw [rg_len] at hl
      exact ⟨F', ws, rfl, by omega, hw⟩
  · split
    ·
      refine ⟨by omega, ?_⟩
      refine lc_all Fd (fun _ y => ∃ w, y = PV.str w ∧ Tx 12 w) F3 ?_ (fun x hx hp F => ?_) fun ys hp' F' e => ?_
      · rw [rg_len]; omega
      · obtain ⟨n, rfl, n0, n1⟩ := rg_mem hx
        simp only [↓q_ok, ↓q_some, ↓q_cst, ↓q_var, ↓q_tup, ↓q_lst, ↓q_bin, ↓q_cmp, ↓q_neg, ↓q_nt, ↓q_an, ↓q_orr, ↓q_ite, ↓q_idx, ↓q_slc, ↓q_rev, ↓q_call, ↓q_bi, ↓q_join, ↓q_app, ↓q_ext, ↓q_lc, ↓q_fs, ↓q_dct, ↓q_evs0, ↓q_evs1, ↓q_opds0, ↓q_opds1, ↓q_no, ↓q_so, ↓q_it, ↓q_rg1, ↓q_rg2, ↓q_tno, ↓q_tso, ↓q_evf0, ↓q_evf1, ↓q_tnt, ↓q_tan, ↓q_tor, ↓q_tite, ↓q_tvar, ↓q_tcst, ↓q_tcmp, ↓q_tidx, ↓q_tcall, ↓q_tbi, ↓q_tslc, ↓q_ovar, ↓q_ocst, ↓q_otup, ↓q_olst, ↓q_obin, ↓q_ocmp, ↓q_oneg, ↓q_ont, ↓q_oan, ↓q_oorr, ↓q_oite, ↓q_oidx, ↓q_oslc, ↓q_orev, ↓q_ocall, ↓q_obi, ↓q_ojoin, ↓q_olc, ↓q_ofs, ↓q_odct, ↓q_lookv, ↓q_looks, ↓q_peek, ↓q_look0, ↓q_look1, ↓q_set, ↓q_bnm, ↓q_btp, ↓q_sets0, ↓q_sets1, ↓q_par0, ↓q_par1, ↓q_own, ↓q_appV, ↓q_extn, ↓q_extl, ↓q_ixr, ↓q_ixt, ↓q_ixl, ↓q_ixs, ↓q_putG, ↓q_add_int, ↓q_add_str, ↓q_add_lst, ↓q_add_tup, ↓q_sub_int, ↓q_mul_int, ↓q_mul_lst, ↓q_mul_tup, ↓q_fdiv_int, ↓q_mod_int, ↓q_pow_int, ↓q_bint, ↓q_bintb, ↓q_blenl, ↓q_blent, ↓q_blens, ↓q_bstri, ↓q_bstrs, ↓q_blistl, ↓q_blistt, ↓q_btupl, ↓q_btupt, ↓q_bmin, ↓q_bmax, ↓q_fmts, ↓q_fmti, ↓q_asg, ↓q_parS, ↓q_put, ↓q_ex, ↓q_iff, ↓q_for, ↓q_retV, ↓q_rcst, ↓q_rtup, ↓q_rlst, ↓q_rbin, ↓q_rcmp, ↓q_rneg, ↓q_rnt, ↓q_ran, ↓q_rorr, ↓q_rite, ↓q_ridx, ↓q_rslc, ↓q_rrev, ↓q_rcall, ↓q_rbi, ↓q_rjoin, ↓q_rlc, ↓q_rfs, ↓q_rdct, ↓q_retN, ↓q_pas, ↓q_brk, ↓q_cnt, ↓q_exs0, ↓q_exs1, q_add_int, q_add_str, q_add_lst, q_add_tup, q_sub_int, q_mul_int, q_mul_lst, q_mul_tup, q_fdiv_int, q_mod_int, q_pow_int, q_bint, q_bintb, q_blenl, q_blent, q_blens, q_bstri, q_bstrs, q_blistl, q_blistt, q_btupl, q_btupt, q_bmin, q_bmax, q_fmts, q_fmti, backG_mk, pushG_mk, wipe_nil, wipe_cons, back_nil, back_cons, noOwn_nil, slots_nm, slots_tp, pv_val, pv_new, slot_val, slot_new, asInt_int, truV_bl, truV_int, cmpV_eq, cmpV_ne, cmpV_lt, cmpV_le, cmpV_gt, cmpV_ge, eqV_int, eqV_str, items_l, items_t, items_f, slcV_lst, slcV_tup, slcV_fz, revV_tup, revV_lst, idxV_lst, idxV_tup, noOwn_cons, at0, at1, at2, at3, Nxt_nx, Nxt_ret, Nxt_brk, Nxt_cnt, Turn_nx, Turn_cnt, Turn_brk, Turn_ret, Fin'_ret, Fin'_nx, List.getElem?_cons_zero, List.getElem?_cons_succ, List.set_cons_zero, List.set_cons_succ, List.getD_cons_zero, List.getD_cons_succ, List.length_cons, List.length_nil, List.map_cons, List.map_nil, List.cons_append, List.nil_append, List.replicate_succ, List.replicate_zero, Option.map_some, Option.some.injEq, Bool.not_true, Bool.not_false, Bool.and_self, Bool.and_true, Bool.true_and, Bool.false_eq_true, Bool.true_eq_false, if_true, if_false, ite_true, ite_false, reduceIte, true_and, and_true, Nat.reduceAdd, Nat.reduceSub, Nat.reduceLT, Nat.reduceLeDiff, Nat.reducePow, Int.reducePow, Int.reduceToNat, Int.reduceLE, Int.reduceLT, Int.reduceNeg, decide_true, decide_false, Ev.sizeLine_eq, rgOk_eq, Nat.lt_add_left_iff_pos, Nat.zero_lt_succ, Nat.succ_pos, Nat.zero_add, true_or, or_true, Nat.reduceMul, Nat.add_zero, Nat.zero_le, Nat.le_refl]
        refine ⟨.inl (by omega), Ok_at (by omega) (by simp only [↓q_ok, ↓q_some, ↓q_cst, ↓q_var, ↓q_tup, ↓q_lst, ↓q_bin, ↓q_cmp, ↓q_neg, ↓q_nt, ↓q_an, ↓q_orr, ↓q_ite, ↓q_idx, ↓q_slc, ↓q_rev, ↓q_call, ↓q_bi, ↓q_join, ↓q_app, ↓q_ext, ↓q_lc, ↓q_fs, ↓q_dct, ↓q_evs0, ↓q_evs1, ↓q_opds0, ↓q_opds1, ↓q_no, ↓q_so, ↓q_it, ↓q_rg1, ↓q_rg2, ↓q_tno, ↓q_tso, ↓q_evf0, ↓q_evf1, ↓q_tnt, ↓q_tan, ↓q_tor, ↓q_tite, ↓q_tvar, ↓q_tcst, ↓q_tcmp, ↓q_tidx, ↓q_tcall, ↓q_tbi, ↓q_tslc, ↓q_ovar, ↓q_ocst, ↓q_otup, ↓q_olst, ↓q_obin, ↓q_ocmp, ↓q_oneg, ↓q_ont, ↓q_oan, ↓q_oorr, ↓q_oite, ↓q_oidx, ↓q_oslc, ↓q_orev, ↓q_ocall, ↓q_obi, ↓q_ojoin, ↓q_olc, ↓q_ofs, ↓q_odct, ↓q_lookv, ↓q_looks, ↓q_peek, ↓q_look0, ↓q_look1, ↓q_set, ↓q_bnm, ↓q_btp, ↓q_sets0, ↓q_sets1, ↓q_par0, ↓q_par1, ↓q_own, ↓q_appV, ↓q_extn, ↓q_extl, ↓q_ixr, ↓q_ixt, ↓q_ixl, ↓q_ixs, ↓q_putG, ↓q_add_int, ↓q_add_str, ↓q_add_lst, ↓q_add_tup, ↓q_sub_int, ↓q_mul_int, ↓q_mul_lst, ↓q_mul_tup, ↓q_fdiv_int, ↓q_mod_int, ↓q_pow_int, ↓q_bint, ↓q_bintb, ↓q_blenl, ↓q_blent, ↓q_blens, ↓q_bstri, ↓q_bstrs, ↓q_blistl, ↓q_blistt, ↓q_btupl, ↓q_btupt, ↓q_bmin, ↓q_bmax, ↓q_fmts, ↓q_fmti, ↓q_asg, ↓q_parS, ↓q_put, ↓q_ex, ↓q_iff, ↓q_for, ↓q_retV, ↓q_rcst, ↓q_rtup, ↓q_rlst, ↓q_rbin, ↓q_rcmp, ↓q_rneg, ↓q_rnt, ↓q_ran, ↓q_rorr, ↓q_rite, ↓q_ridx, ↓q_rslc, ↓q_rrev, ↓q_rcall, ↓q_rbi, ↓q_rjoin, ↓q_rlc, ↓q_rfs, ↓q_rdct, ↓q_retN, ↓q_pas, ↓q_brk, ↓q_cnt, ↓q_exs0, ↓q_exs1, q_add_int, q_add_str, q_add_lst, q_add_tup, q_sub_int, q_mul_int, q_mul_lst, q_mul_tup, q_fdiv_int, q_mod_int, q_pow_int, q_bint, q_bintb, q_blenl, q_blent, q_blens, q_bstri, q_bstrs, q_blistl, q_blistt, q_btupl, q_btupt, q_bmin, q_bmax, q_fmts, q_fmti, backG_mk, pushG_mk, wipe_nil, wipe_cons, back_nil, back_cons, noOwn_nil, slots_nm, slots_tp, pv_val, pv_new, slot_val, slot_new, asInt_int, truV_bl, truV_int, cmpV_eq, cmpV_ne, cmpV_lt, cmpV_le, cmpV_gt, cmpV_ge, eqV_int, eqV_str, items_l, items_t, items_f, slcV_lst, slcV_tup, slcV_fz, revV_tup, revV_lst, idxV_lst, idxV_tup, noOwn_cons, at0, at1, at2, at3, Nxt_nx, Nxt_ret, Nxt_brk, Nxt_cnt, Turn_nx, Turn_cnt, Turn_brk, Turn_ret, Fin'_ret, Fin'_nx, List.getElem?_cons_zero, List.getElem?_cons_succ, List.set_cons_zero, List.set_cons_succ, List.getD_cons_zero, List.getD_cons_succ, List.length_cons, List.length_nil, List.map_cons, List.map_nil, List.cons_append, List.nil_append, List.replicate_succ, List.replicate_zero, Option.map_some, Option.some.injEq, Bool.not_true, Bool.not_false, Bool.and_self, Bool.and_true, Bool.true_and, Bool.false_eq_true, Bool.true_eq_false, if_true, if_false, ite_true, ite_false, reduceIte, true_and, and_true, Nat.reduceAdd, Nat.reduceSub, Nat.reduceLT, Nat.reduceLeDiff, Nat.reducePow, Int.reducePow, Int.reduceToNat, Int.reduceLE, Int.reduceLT, Int.reduceNeg, decide_true, decide_false, Ev.sizeLine_eq, rgOk_eq, Nat.lt_add_left_iff_pos, Nat.zero_lt_succ, Nat.succ_pos, Nat.zero_add, true_or, or_true, Nat.reduceMul, Nat.add_zero, Nat.zero_le, Nat.le_refl]; omega) fun y hy => ?_⟩
        simp only [↓q_ok, ↓q_some, ↓q_cst, ↓q_var, ↓q_tup, ↓q_lst, ↓q_bin, ↓q_cmp, ↓q_neg, ↓q_nt, ↓q_an, ↓q_orr, ↓q_ite, ↓q_idx, ↓q_slc, ↓q_rev, ↓q_call, ↓q_bi, ↓q_join, ↓q_app, ↓q_ext, ↓q_lc, ↓q_fs, ↓q_dct, ↓q_evs0, ↓q_evs1, ↓q_opds0, ↓q_opds1, ↓q_no, ↓q_so, ↓q_it, ↓q_rg1, ↓q_rg2, ↓q_tno, ↓q_tso, ↓q_evf0, ↓q_evf1, ↓q_tnt, ↓q_tan, ↓q_tor, ↓q_tite, ↓q_tvar, ↓q_tcst, ↓q_tcmp, ↓q_tidx, ↓q_tcall, ↓q_tbi, ↓q_tslc, ↓q_ovar, ↓q_ocst, ↓q_otup, ↓q_olst, ↓q_obin, ↓q_ocmp, ↓q_oneg, ↓q_ont, ↓q_oan, ↓q_oorr, ↓q_oite, ↓q_oidx, ↓q_oslc, ↓q_orev, ↓q_ocall, ↓q_obi, ↓q_ojoin, ↓q_olc, ↓q_ofs, ↓q_odct, ↓q_lookv, ↓q_looks, ↓q_peek, ↓q_look0, ↓q_look1, ↓q_set, ↓q_bnm, ↓q_btp, ↓q_sets0, ↓q_sets1, ↓q_par0, ↓q_par1, ↓q_own, ↓q_appV, ↓q_extn, ↓q_extl, ↓q_ixr, ↓q_ixt, ↓q_ixl, ↓q_ixs, ↓q_putG, ↓q_add_int, ↓q_add_str, ↓q_add_lst, ↓q_add_tup, ↓q_sub_int, ↓q_mul_int, ↓q_mul_lst, ↓q_mul_tup, ↓q_fdiv_int, ↓q_mod_int, ↓q_pow_int, ↓q_bint, ↓q_bintb, ↓q_blenl, ↓q_blent, ↓q_blens, ↓q_bstri, ↓q_bstrs, ↓q_blistl, ↓q_blistt, ↓q_btupl, ↓q_btupt, ↓q_bmin, ↓q_bmax, ↓q_fmts, ↓q_fmti, ↓q_asg, ↓q_parS, ↓q_put, ↓q_ex, ↓q_iff, ↓q_for, ↓q_retV, ↓q_rcst, ↓q_rtup, ↓q_rlst, ↓q_rbin, ↓q_rcmp, ↓q_rneg, ↓q_rnt, ↓q_ran, ↓q_rorr, ↓q_rite, ↓q_ridx, ↓q_rslc, ↓q_rrev, ↓q_rcall, ↓q_rbi, ↓q_rjoin, ↓q_rlc, ↓q_rfs, ↓q_rdct, ↓q_retN, ↓q_pas, ↓q_brk, ↓q_cnt, ↓q_exs0, ↓q_exs1, q_add_int, q_add_str, q_add_lst, q_add_tup, q_sub_int, q_mul_int, q_mul_lst, q_mul_tup, q_fdiv_int, q_mod_int, q_pow_int, q_bint, q_bintb, q_blenl, q_blent, q_blens, q_bstri, q_bstrs, q_blistl, q_blistt, q_btupl, q_btupt, q_bmin, q_bmax, q_fmts, q_fmti, backG_mk, pushG_mk, wipe_nil, wipe_cons, back_nil, back_cons, noOwn_nil, slots_nm, slots_tp, pv_val, pv_new, slot_val, slot_new, asInt_int, truV_bl, truV_int, cmpV_eq, cmpV_ne, cmpV_lt, cmpV_le, cmpV_gt, cmpV_ge, eqV_int, eqV_str, items_l, items_t, items_f, slcV_lst, slcV_tup, slcV_fz, revV_tup, revV_lst, idxV_lst, idxV_tup, noOwn_cons, at0, at1, at2, at3, Nxt_nx, Nxt_ret, Nxt_brk, Nxt_cnt, Turn_nx, Turn_cnt, Turn_brk, Turn_ret, Fin'_ret, Fin'_nx, List.getElem?_cons_zero, List.getElem?_cons_succ, List.set_cons_zero, List.set_cons_succ, List.getD_cons_zero, List.getD_cons_succ, List.length_cons, List.length_nil, List.map_cons, List.map_nil, List.cons_append, List.nil_append, List.replicate_succ, List.replicate_zero, Option.map_some, Option.some.injEq, Bool.not_true, Bool.not_false, Bool.and_self, Bool.and_true, Bool.true_and, Bool.false_eq_true, Bool.true_eq_false, if_true, if_false, ite_true, ite_false, reduceIte, true_and, and_true, Nat.reduceAdd, Nat.reduceSub, Nat.reduceLT, Nat.reduceLeDiff, Nat.reducePow, Int.reducePow, Int.reduceToNat, Int.reduceLE, Int.reduceLT, Int.reduceNeg, decide_true, decide_false, Ev.sizeLine_eq, rgOk_eq, Nat.lt_add_left_iff_pos, Nat.zero_lt_succ, Nat.succ_pos, Nat.zero_add, true_or, or_true, Nat.reduceMul, Nat.add_zero, Nat.zero_le, Nat.le_refl]
        exact ⟨at_txP (by decide +kernel) hy, F⟩
      · obtain ⟨ws, rfl, hl, hw⟩ := e.map fun x y h => h
        rw [rg_len] at hl
        exact ⟨F', ws, rfl, by omega, hw⟩
    · refine Ok_callW (draw_ok k F3 (by omega) (by omega)) fun r hp4 ⟨F4, v4, hr, a4, b4⟩ => ?_
      subst hr
      simp only [↓q_ok, ↓q_some, ↓q_cst, ↓q_var, ↓q_tup, ↓q_lst, ↓q_bin, ↓q_cmp, ↓q_neg, ↓q_nt, ↓q_an, ↓q_orr, ↓q_ite, ↓q_idx, ↓q_slc, ↓q_rev, ↓q_call, ↓q_bi, ↓q_join, ↓q_app, ↓q_ext, ↓q_lc, ↓q_fs, ↓q_dct, ↓q_evs0, ↓q_evs1, ↓q_opds0, ↓q_opds1, ↓q_no, ↓q_so, ↓q_it, ↓q_rg1, ↓q_rg2, ↓q_tno, ↓q_tso, ↓q_evf0, ↓q_evf1, ↓q_tnt, ↓q_tan, ↓q_tor, ↓q_tite, ↓q_tvar, ↓q_tcst, ↓q_tcmp, ↓q_tidx, ↓q_tcall, ↓q_tbi, ↓q_tslc, ↓q_ovar, ↓q_ocst, ↓q_otup, ↓q_olst, ↓q_obin, ↓q_ocmp, ↓q_oneg, ↓q_ont, ↓q_oan, ↓q_oorr, ↓q_oite, ↓q_oidx, ↓q_oslc, ↓q_orev, ↓q_ocall, ↓q_obi, ↓q_ojoin, ↓q_olc, ↓q_ofs, ↓q_odct, ↓q_lookv, ↓q_looks, ↓q_peek, ↓q_look0, ↓q_look1, ↓q_set, ↓q_bnm, ↓q_btp, ↓q_sets0, ↓q_sets1, ↓q_par0, ↓q_par1, ↓q_own, ↓q_appV, ↓q_extn, ↓q_extl, ↓q_ixr, ↓q_ixt, ↓q_ixl, ↓q_ixs, ↓q_putG, ↓q_add_int, ↓q_add_str, ↓q_add_lst, ↓q_add_tup, ↓q_sub_int, ↓q_mul_int, ↓q_mul_lst, ↓q_mul_tup, ↓q_fdiv_int, ↓q_mod_int, ↓q_pow_int, ↓q_bint, ↓q_bintb, ↓q_blenl, ↓q_blent, ↓q_blens, ↓q_bstri, ↓q_bstrs, ↓q_blistl, ↓q_blistt, ↓q_btupl, ↓q_btupt, ↓q_bmin, ↓q_bmax, ↓q_fmts, ↓q_fmti, ↓q_asg, ↓q_parS, ↓q_put, ↓q_ex, ↓q_iff, ↓q_for, ↓q_retV, ↓q_rcst, ↓q_rtup, ↓q_rlst, ↓q_rbin, ↓q_rcmp, ↓q_rneg, ↓q_rnt, ↓q_ran, ↓q_rorr, ↓q_rite, ↓q_ridx, ↓q_rslc, ↓q_rrev, ↓q_rcall, ↓q_rbi, ↓q_rjoin, ↓q_rlc, ↓q_rfs, ↓q_rdct, ↓q_retN, ↓q_pas, ↓q_brk, ↓q_cnt, ↓q_exs0, ↓q_exs1, q_add_int, q_add_str, q_add_lst, q_add_tup, q_sub_int, q_mul_int, q_mul_lst, q_mul_tup, q_fdiv_int, q_mod_int, q_pow_int, q_bint, q_bintb, q_blenl, q_blent, q_blens, q_bstri, q_bstrs, q_blistl, q_blistt, q_btupl, q_btupt, q_bmin, q_bmax, q_fmts, q_fmti, backG_mk, pushG_mk, wipe_nil, wipe_cons, back_nil, back_cons, noOwn_nil, slots_nm, slots_tp, pv_val, pv_new, slot_val, slot_new, asInt_int, truV_bl, truV_int, cmpV_eq, cmpV_ne, cmpV_lt, cmpV_le, cmpV_gt, cmpV_ge, eqV_int, eqV_str, items_l, items_t, items_f, slcV_lst, slcV_tup, slcV_fz, revV_tup, revV_lst, idxV_lst, idxV_tup, noOwn_cons, at0, at1, at2, at3, Nxt_nx, Nxt_ret, Nxt_brk, Nxt_cnt, Turn_nx, Turn_cnt, Turn_brk, Turn_ret, Fin'_ret, Fin'_nx, List.getElem?_cons_zero, List.getElem?_cons_succ, List.set_cons_zero, List.set_cons_succ, List.getD_cons_zero, List.getD_cons_succ, List.length_cons, List.length_nil, List.map_cons, List.map_nil, List.cons_append, List.nil_append, List.replicate_succ, List.replicate_zero, Option.map_some, Option.some.injEq, Bool.not_true, Bool.not_false, Bool.and_self, Bool.and_true, Bool.true_and, Bool.false_eq_true, Bool.true_eq_false, if_true, if_false, ite_true, ite_false, reduceIte, true_and, and_true, Nat.reduceAdd, Nat.reduceSub, Nat.reduceLT, Nat.reduceLeDiff, Nat.reducePow, Int.reducePow, Int.reduceToNat, Int.reduceLE, Int.reduceLT, Int.reduceNeg, decide_true, decide_false, Ev.sizeLine_eq, rgOk_eq, Nat.lt_add_left_iff_pos, Nat.zero_lt_succ, Nat.succ_pos, Nat.zero_add, true_or, or_true, Nat.reduceMul, Nat.add_zero, Nat.zero_le, Nat.le_refl]
      refine ⟨by omega, ?_⟩
      refine for_sl (β := Str × Slot) (fun b sl => (sl.set 6 (.val (.str b.1))).set 7 b.2) (fun i b hp => Fd hp ∧ Tx i b.1 ∧ i ≤ 8) ("", .no) rfl ⟨F4, Tx.by (by decide +kernel), by omega⟩ (fun i x b hp hx ⟨F, hb, hi⟩ => ?_) fun b hp ⟨F, hb, hi⟩ => ?_
      · obtain ⟨rfl, hi2⟩ := rg_get hx
        simp only [↓q_ok, ↓q_some, ↓q_cst, ↓q_var, ↓q_tup, ↓q_lst, ↓q_bin, ↓q_cmp, ↓q_neg, ↓q_nt, ↓q_an, ↓q_orr, ↓q_ite, ↓q_idx, ↓q_slc, ↓q_rev, ↓q_call, ↓q_bi, ↓q_join, ↓q_app, ↓q_ext, ↓q_lc, ↓q_fs, ↓q_dct, ↓q_evs0, ↓q_evs1, ↓q_opds0, ↓q_opds1, ↓q_no, ↓q_so, ↓q_it, ↓q_rg1, ↓q_rg2, ↓q_tno, ↓q_tso, ↓q_evf0, ↓q_evf1, ↓q_tnt, ↓q_tan, ↓q_tor, ↓q_tite, ↓q_tvar, ↓q_tcst, ↓q_tcmp, ↓q_tidx, ↓q_tcall, ↓q_tbi, ↓q_tslc, ↓q_ovar, ↓q_ocst, ↓q_otup, ↓q_olst, ↓q_obin, ↓q_ocmp, ↓q_oneg, ↓q_ont, ↓q_oan, ↓q_oorr, ↓q_oite, ↓q_oidx, ↓q_oslc, ↓q_orev, ↓q_ocall, ↓q_obi, ↓q_ojoin, ↓q_olc, ↓q_ofs, ↓q_odct, ↓q_lookv, ↓q_looks, ↓q_peek, ↓q_look0, ↓q_look1, ↓q_set, ↓q_bnm, ↓q_btp, ↓q_sets0, ↓q_sets1, ↓q_par0, ↓q_par1, ↓q_own, ↓q_appV, ↓q_extn, ↓q_extl, ↓q_ixr, ↓q_ixt, ↓q_ixl, ↓q_ixs, ↓q_putG, ↓q_add_int, ↓q_add_str, ↓q_add_lst, ↓q_add_tup, ↓q_sub_int, ↓q_mul_int, ↓q_mul_lst, ↓q_mul_tup, ↓q_fdiv_int, ↓q_mod_int, ↓q_pow_int, ↓q_bint, ↓q_bintb, ↓q_blenl, ↓q_blent, ↓q_blens, ↓q_bstri, ↓q_bstrs, ↓q_blistl, ↓q_blistt, ↓q_btupl, ↓q_btupt, ↓q_bmin, ↓q_bmax, ↓q_fmts, ↓q_fmti, ↓q_asg, ↓q_parS, ↓q_put, ↓q_ex, ↓q_iff, ↓q_for, ↓q_retV, ↓q_rcst, ↓q_rtup, ↓q_rlst, ↓q_rbin, ↓q_rcmp, ↓q_rneg, ↓q_rnt, ↓q_ran, ↓q_rorr, ↓q_rite, ↓q_ridx, ↓q_rslc, ↓q_rrev, ↓q_rcall, ↓q_rbi, ↓q_rjoin, ↓q_rlc, ↓q_rfs, ↓q_rdct, ↓q_retN, ↓q_pas, ↓q_brk, ↓q_cnt, ↓q_exs0, ↓q_exs1, q_add_int, q_add_str, q_add_lst, q_add_tup, q_sub_int, q_mul_int, q_mul_lst, q_mul_tup, q_fdiv_int, q_mod_int, q_pow_int, q_bint, q_bintb, q_blenl, q_blent, q_blens, q_bstri, q_bstrs, q_blistl, q_blistt, q_btupl, q_btupt, q_bmin, q_bmax, q_fmts, q_fmti, backG_mk, pushG_mk, wipe_nil, wipe_cons, back_nil, back_cons, noOwn_nil, slots_nm, slots_tp, pv_val, pv_new, slot_val, slot_new, asInt_int, truV_bl, truV_int, cmpV_eq, cmpV_ne, cmpV_lt, cmpV_le, cmpV_gt, cmpV_ge, eqV_int, eqV_str, items_l, items_t, items_f, slcV_lst, slcV_tup, slcV_fz, revV_tup, revV_lst, idxV_lst, idxV_tup, noOwn_cons, at0, at1, at2, at3, Nxt_nx, Nxt_ret, Nxt_brk, Nxt_cnt, Turn_nx, Turn_cnt, Turn_brk, Turn_ret, Fin'_ret, Fin'_nx, List.getElem?_cons_zero, List.getElem?_cons_succ, List.set_cons_zero, List.set_cons_succ, List.getD_cons_zero, List.getD_cons_succ, List.length_cons, List.length_nil, List.map_cons, List.map_nil, List.cons_append, List.nil_append, List.replicate_succ, List.replicate_zero, Option.map_some, Option.some.injEq, Bool.not_true, Bool.not_false, Bool.and_self, Bool.and_true, Bool.true_and, Bool.false_eq_true, Bool.true_eq_false, if_true, if_false, ite_true, ite_false, reduceIte, true_and, and_true, Nat.reduceAdd, Nat.reduceSub, Nat.reduceLT, Nat.reduceLeDiff, Nat.reducePow, Int.reducePow, Int.reduceToNat, Int.reduceLE, Int.reduceLT, Int.reduceNeg, decide_true, decide_false, Ev.sizeLine_eq, rgOk_eq, Nat.lt_add_left_iff_pos, Nat.zero_lt_succ, Nat.succ_pos, Nat.zero_add, true_or, or_true, Nat.reduceMul, Nat.add_zero, Nat.zero_le, Nat.le_refl]
        refine Ok_callW (draw_ok k F (by omega) (by omega)) fun r hp5 ⟨F5, v5, hr, a5, b5⟩ => ?_
        subst hr
        simp only [↓q_ok, ↓q_some, ↓q_cst, ↓q_var, ↓q_tup, ↓q_lst, ↓q_bin, ↓q_cmp, ↓q_neg, ↓q_nt, ↓q_an, ↓q_orr, ↓q_ite, ↓q_idx, ↓q_slc, ↓q_rev, ↓q_call, ↓q_bi, ↓q_join, ↓q_app, ↓q_ext, ↓q_lc, ↓q_fs, ↓q_dct, ↓q_evs0, ↓q_evs1, ↓q_opds0, ↓q_opds1, ↓q_no, ↓q_so, ↓q_it, ↓q_rg1, ↓q_rg2, ↓q_tno, ↓q_tso, ↓q_evf0, ↓q_evf1, ↓q_tnt, ↓q_tan, ↓q_tor, ↓q_tite, ↓q_tvar, ↓q_tcst, ↓q_tcmp, ↓q_tidx, ↓q_tcall, ↓q_tbi, ↓q_tslc, ↓q_ovar, ↓q_ocst, ↓q_otup, ↓q_olst, ↓q_obin, ↓q_ocmp, ↓q_oneg, ↓q_ont, ↓q_oan, ↓q_oorr, ↓q_oite, ↓q_oidx, ↓q_oslc, ↓q_orev, ↓q_ocall, ↓q_obi, ↓q_ojoin, ↓q_olc, ↓q_ofs, ↓q_odct, ↓q_lookv, ↓q_looks, ↓q_peek, ↓q_look0, ↓q_look1, ↓q_set, ↓q_bnm, ↓q_btp, ↓q_sets0, ↓q_sets1, ↓q_par0, ↓q_par1, ↓q_own, ↓q_appV, ↓q_extn, ↓q_extl, ↓q_ixr, ↓q_ixt, ↓q_ixl, ↓q_ixs, ↓q_putG, ↓q_add_int, ↓q_add_str, ↓q_add_lst, ↓q_add_tup, ↓q_sub_int, ↓q_mul_int, ↓q_mul_lst, ↓q_mul_tup, ↓q_fdiv_int, ↓q_mod_int, ↓q_pow_int, ↓q_bint, ↓q_bintb, ↓q_blenl, ↓q_blent, ↓q_blens, ↓q_bstri, ↓q_bstrs, ↓q_blistl, ↓q_blistt, ↓q_btupl, ↓q_btupt, ↓q_bmin, ↓q_bmax, ↓q_fmts, ↓q_fmti, ↓q_asg, ↓q_parS, ↓q_put, ↓q_ex, ↓q_iff, ↓q_for, ↓q_retV, ↓q_rcst, ↓q_rtup, ↓q_rlst, ↓q_rbin, ↓q_rcmp, ↓q_rneg, ↓q_rnt, ↓q_ran, ↓q_rorr, ↓q_rite, ↓q_ridx, ↓q_rslc, ↓q_rrev, ↓q_rcall, ↓q_rbi, ↓q_rjoin, ↓q_rlc, ↓q_rfs, ↓q_rdct, ↓q_retN, ↓q_pas, ↓q_brk, ↓q_cnt, ↓q_exs0, ↓q_exs1, q_add_int, q_add_str, q_add_lst, q_add_tup, q_sub_int, q_mul_int, q_mul_lst, q_mul_tup, q_fdiv_int, q_mod_int, q_pow_int, q_bint, q_bintb, q_blenl, q_blent, q_blens, q_bstri, q_bstrs, q_blistl, q_blistt, q_btupl, q_btupt, q_bmin, q_bmax, q_fmts, q_fmti, backG_mk, pushG_mk, wipe_nil, wipe_cons, back_nil, back_cons, noOwn_nil, slots_nm, slots_tp, pv_val, pv_new, slot_val, slot_new, asInt_int, truV_bl, truV_int, cmpV_eq, cmpV_ne, cmpV_lt, cmpV_le, cmpV_gt, cmpV_ge, eqV_int, eqV_str, items_l, items_t, items_f, slcV_lst, slcV_tup, slcV_fz, revV_tup, revV_lst, idxV_lst, idxV_tup, noOwn_cons, at0, at1, at2, at3, Nxt_nx, Nxt_ret, Nxt_brk, Nxt_cnt, Turn_nx, Turn_cnt, Turn_brk, Turn_ret, Fin'_ret, Fin'_nx, List.getElem?_cons_zero, List.getElem?_cons_succ, List.set_cons_zero, List.set_cons_succ, List.getD_cons_zero, List.getD_cons_succ, List.length_cons, List.length_nil, List.map_cons, List.map_nil, List.cons_append, List.nil_append, List.replicate_succ, List.replicate_zero, Option.map_some, Option.some.injEq, Bool.not_true, Bool.not_false, Bool.and_self, Bool.and_true, Bool.true_and, Bool.false_eq_true, Bool.true_eq_false, if_true, if_false, ite_true, ite_false, reduceIte, true_and, and_true, Nat.reduceAdd, Nat.reduceSub, Nat.reduceLT, Nat.reduceLeDiff, Nat.reducePow, Int.reducePow, Int.reduceToNat, Int.reduceLE, Int.reduceLT, Int.reduceNeg, decide_true, decide_false, Ev.sizeLine_eq, rgOk_eq, Nat.lt_add_left_iff_pos, Nat.zero_lt_succ, Nat.succ_pos, Nat.zero_add, true_or, or_true, Nat.reduceMul, Nat.add_zero, Nat.zero_le, Nat.le_refl]
        refine Ok_ats a5 (by exact b5) (by decide +kernel) fun ch hch => ?_
        have h1 := Tx.one (Tx.by (n := 26) (by decide +kernel)).asc hch
        have h2 := hb.app h1
        have h3 := h2.len
        rw [strLen_append] at h3
        simp only [↓q_ok, ↓q_some, ↓q_cst, ↓q_var, ↓q_tup, ↓q_lst, ↓q_bin, ↓q_cmp, ↓q_neg, ↓q_nt, ↓q_an, ↓q_orr, ↓q_ite, ↓q_idx, ↓q_slc, ↓q_rev, ↓q_call, ↓q_bi, ↓q_join, ↓q_app, ↓q_ext, ↓q_lc, ↓q_fs, ↓q_dct, ↓q_evs0, ↓q_evs1, ↓q_opds0, ↓q_opds1, ↓q_no, ↓q_so, ↓q_it, ↓q_rg1, ↓q_rg2, ↓q_tno, ↓q_tso, ↓q_evf0, ↓q_evf1, ↓q_tnt, ↓q_tan, ↓q_tor, ↓q_tite, ↓q_tvar, ↓q_tcst, ↓q_tcmp, ↓q_tidx, ↓q_tcall, ↓q_tbi, ↓q_tslc, ↓q_ovar, ↓q_ocst, ↓q_otup, ↓q_olst, ↓q_obin, ↓q_ocmp, ↓q_oneg, ↓q_ont, ↓q_oan, ↓q_oorr, ↓q_oite, ↓q_oidx, ↓q_oslc, ↓q_orev, ↓q_ocall, ↓q_obi, ↓q_ojoin, ↓q_olc, ↓q_ofs, ↓q_odct, ↓q_lookv, ↓q_looks, ↓q_peek, ↓q_look0, ↓q_look1, ↓q_set, ↓q_bnm, ↓q_btp, ↓q_sets0, ↓q_sets1, ↓q_par0, ↓q_par1, ↓q_own, ↓q_appV, ↓q_extn, ↓q_extl, ↓q_ixr, ↓q_ixt, ↓q_ixl, ↓q_ixs, ↓q_putG, ↓q_add_int, ↓q_add_str, ↓q_add_lst, ↓q_add_tup, ↓q_sub_int, ↓q_mul_int, ↓q_mul_lst, ↓q_mul_tup, ↓q_fdiv_int, ↓q_mod_int, ↓q_pow_int, ↓q_bint, ↓q_bintb, ↓q_blenl, ↓q_blent, ↓q_blens, ↓q_bstri, ↓q_bstrs, ↓q_blistl, ↓q_blistt, ↓q_btupl, ↓q_btupt, ↓q_bmin, ↓q_bmax, ↓q_fmts, ↓q_fmti, ↓q_asg, ↓q_parS, ↓q_put, ↓q_ex, ↓q_iff, ↓q_for, ↓q_retV, ↓q_rcst, ↓q_rtup, ↓q_rlst, ↓q_rbin, ↓q_rcmp, ↓q_rneg, ↓q_rnt, ↓q_ran, ↓q_rorr, ↓q_rite, ↓q_ridx, ↓q_rslc, ↓q_rrev, ↓q_rcall, ↓q_rbi, ↓q_rjoin, ↓q_rlc, ↓q_rfs, ↓q_rdct, ↓q_retN, ↓q_pas, ↓q_brk, ↓q_cnt, ↓q_exs0, ↓q_exs1, q_add_int, q_add_str, q_add_lst, q_add_tup, q_sub_int, q_mul_int, q_mul_lst, q_mul_tup, q_fdiv_int, q_mod_int, q_pow_int, q_bint, q_bintb, q_blenl, q_blent, q_blens, q_bstri, q_bstrs, q_blistl, q_blistt, q_btupl, q_btupt, q_bmin, q_bmax, q_fmts, q_fmti, backG_mk, pushG_mk, wipe_nil, wipe_cons, back_nil, back_cons, noOwn_nil, slots_nm, slots_tp, pv_val, pv_new, slot_val, slot_new, asInt_int, truV_bl, truV_int, cmpV_eq, cmpV_ne, cmpV_lt, cmpV_le, cmpV_gt, cmpV_ge, eqV_int, eqV_str, items_l, items_t, items_f, slcV_lst, slcV_tup, slcV_fz, revV_tup, revV_lst, idxV_lst, idxV_tup, noOwn_cons, at0, at1, at2, at3, Nxt_nx, Nxt_ret, Nxt_brk, Nxt_cnt, Turn_nx, Turn_cnt, Turn_brk, Turn_ret, Fin'_ret, Fin'_nx, List.getElem?_cons_zero, List.getElem?_cons_succ, List.set_cons_zero, List.set_cons_succ, List.getD_cons_zero, List.getD_cons_succ, List.length_cons, List.length_nil, List.map_cons, List.map_nil, List.cons_append, List.nil_append, List.replicate_succ, List.replicate_zero, Option.map_some, Option.some.injEq, Bool.not_true, Bool.not_false, Bool.and_self, Bool.and_true, Bool.true_and, Bool.false_eq_true, Bool.true_eq_false, if_true, if_false, ite_true, ite_false, reduceIte, true_and, and_true, Nat.reduceAdd, Nat.reduceSub, Nat.reduceLT, Nat.reduceLeDiff, Nat.reducePow, Int.reducePow, Int.reduceToNat, Int.reduceLE, Int.reduceLT, Int.reduceNeg, decide_true, decide_false, Ev.sizeLine_eq, rgOk_eq, Nat.lt_add_left_iff_pos, Nat.zero_lt_succ, Nat.succ_pos, Nat.zero_add, true_or, or_true, Nat.reduceMul, Nat.add_zero, Nat.zero_le, Nat.le_refl]
        exact ⟨by omega, ⟨_, _⟩, rfl, F5, h2, by omega⟩
      · have hb8 := hb.mono (m := 8) (by rw [rg_len]; omega)
        simp only [↓q_ok, ↓q_some, ↓q_cst, ↓q_var, ↓q_tup, ↓q_lst, ↓q_bin, ↓q_cmp, ↓q_neg, ↓q_nt, ↓q_an, ↓q_orr, ↓q_ite, ↓q_idx, ↓q_slc, ↓q_rev, ↓q_call, ↓q_bi, ↓q_join, ↓q_app, ↓q_ext, ↓q_lc, ↓q_fs, ↓q_dct, ↓q_evs0, ↓q_evs1, ↓q_opds0, ↓q_opds1, ↓q_no, ↓q_so, ↓q_it, ↓q_rg1, ↓q_rg2, ↓q_tno, ↓q_tso, ↓q_evf0, ↓q_evf1, ↓q_tnt, ↓q_tan, ↓q_tor, ↓q_tite, ↓q_tvar, ↓q_tcst, ↓q_tcmp, ↓q_tidx, ↓q_tcall, ↓q_tbi, ↓q_tslc, ↓q_ovar, ↓q_ocst, ↓q_otup, ↓q_olst, ↓q_obin, ↓q_ocmp, ↓q_oneg, ↓q_ont, ↓q_oan, ↓q_oorr, ↓q_oite, ↓q_oidx, ↓q_oslc, ↓q_orev, ↓q_ocall, ↓q_obi, ↓q_ojoin, ↓q_olc, ↓q_ofs, ↓q_odct, ↓q_lookv, ↓q_looks, ↓q_peek, ↓q_look0, ↓q_look1, ↓q_set, ↓q_bnm, ↓q_btp, ↓q_sets0, ↓q_sets1, ↓q_par0, ↓q_par1, ↓q_own, ↓q_appV, ↓q_extn, ↓q_extl, ↓q_ixr, ↓q_ixt, ↓q_ixl, ↓q_ixs, ↓q_putG, ↓q_add_int, ↓q_add_str, ↓q_add_lst, ↓q_add_tup, ↓q_sub_int, ↓q_mul_int, ↓q_mul_lst, ↓q_mul_tup, ↓q_fdiv_int, ↓q_mod_int, ↓q_pow_int, ↓q_bint, ↓q_bintb, ↓q_blenl, ↓q_blent, ↓q_blens, ↓q_bstri, ↓q_bstrs, ↓q_blistl, ↓q_blistt, ↓q_btupl, ↓q_btupt, ↓q_bmin, ↓q_bmax, ↓q_fmts, ↓q_fmti, ↓q_asg, ↓q_parS, ↓q_put, ↓q_ex, ↓q_iff, ↓q_for, ↓q_retV, ↓q_rcst, ↓q_rtup, ↓q_rlst, ↓q_rbin, ↓q_rcmp, ↓q_rneg, ↓q_rnt, ↓q_ran, ↓q_rorr, ↓q_rite, ↓q_ridx, ↓q_rslc, ↓q_rrev, ↓q_rcall, ↓q_rbi, ↓q_rjoin, ↓q_rlc, ↓q_rfs, ↓q_rdct, ↓q_retN, ↓q_pas, ↓q_brk, ↓q_cnt, ↓q_exs0, ↓q_exs1, q_add_int, q_add_str, q_add_lst, q_add_tup, q_sub_int, q_mul_int, q_mul_lst, q_mul_tup, q_fdiv_int, q_mod_int, q_pow_int, q_bint, q_bintb, q_blenl, q_blent, q_blens, q_bstri, q_bstrs, q_blistl, q_blistt, q_btupl, q_btupt, q_bmin, q_bmax, q_fmts, q_fmti, backG_mk, pushG_mk, wipe_nil, wipe_cons, back_nil, back_cons, noOwn_nil, slots_nm, slots_tp, pv_val, pv_new, slot_val, slot_new, asInt_int, truV_bl, truV_int, cmpV_eq, cmpV_ne, cmpV_lt, cmpV_le, cmpV_gt, cmpV_ge, eqV_int, eqV_str, items_l, items_t, items_f, slcV_lst, slcV_tup, slcV_fz, revV_tup, revV_lst, idxV_lst, idxV_tup, noOwn_cons, at0, at1, at2, at3, Nxt_nx, Nxt_ret, Nxt_brk, Nxt_cnt, Turn_nx, Turn_cnt, Turn_brk, Turn_ret, Fin'_ret, Fin'_nx, List.getElem?_cons_zero, List.getElem?_cons_succ, List.set_cons_zero, List.set_cons_succ, List.getD_cons_zero, List.getD_cons_succ, List.length_cons, List.length_nil, List.map_cons, List.map_nil, List.cons_append, List.nil_append, List.replicate_succ, List.replicate_zero, Option.map_some, Option.some.injEq, Bool.not_true, Bool.not_false, Bool.and_self, Bool.and_true, Bool.true_and, Bool.false_eq_true, Bool.true_eq_false, if_true, if_false, ite_true, ite_false, reduceIte, true_and, and_true, Nat.reduceAdd, Nat.reduceSub, Nat.reduceLT, Nat.reduceLeDiff, Nat.reducePow, Int.reducePow, Int.reduceToNat, Int.reduceLE, Int.reduceLT, Int.reduceNeg, decide_true, decide_false, Ev.sizeLine_eq, rgOk_eq, Nat.lt_add_left_iff_pos, Nat.zero_lt_succ, Nat.succ_pos, Nat.zero_add, true_or, or_true, Nat.reduceMul, Nat.add_zero, Nat.zero_le, Nat.le_refl]
        refine ⟨by omega, ?_⟩
        refine lc_all Fd (fun _ y => ∃ w, y = PV.str w ∧ Tx 12 w) F ?_ (fun x hx hp F => ?_) fun ys hp' F' e => ?_
        · rw [rg_len]; omega
        · obtain ⟨n, rfl, n0, n1⟩ := rg_mem hx
          simp only [↓q_ok, ↓q_some, ↓q_cst, ↓q_var, ↓q_tup, ↓q_lst, ↓q_bin, ↓q_cmp, ↓q_neg, ↓q_nt, ↓q_an, ↓q_orr, ↓q_ite, ↓q_idx, ↓q_slc, ↓q_rev, ↓q_call, ↓q_bi, ↓q_join, ↓q_app, ↓q_ext, ↓q_lc, ↓q_fs, ↓q_dct, ↓q_evs0, ↓q_evs1, ↓q_opds0, ↓q_opds1, ↓q_no, ↓q_so, ↓q_it, ↓q_rg1, ↓q_rg2, ↓q_tno, ↓q_tso, ↓q_evf0, ↓q_evf1, ↓q_tnt, ↓q_tan, ↓q_tor, ↓q_tite, ↓q_tvar, ↓q_tcst, ↓q_tcmp, ↓q_tidx, ↓q_tcall, ↓q_tbi, ↓q_tslc, ↓q_ovar, ↓q_ocst, ↓q_otup, ↓q_olst, ↓q_obin, ↓q_ocmp, ↓q_oneg, ↓q_ont, ↓q_oan, ↓q_oorr, ↓q_oite, ↓q_oidx, ↓q_oslc, ↓q_orev, ↓q_ocall, ↓q_obi, ↓q_ojoin, ↓q_olc, ↓q_ofs, ↓q_odct, ↓q_lookv, ↓q_looks, ↓q_peek, ↓q_look0, ↓q_look1, ↓q_set, ↓q_bnm, ↓q_btp, ↓q_sets0, ↓q_sets1, ↓q_par0, ↓q_par1, ↓q_own, ↓q_appV, ↓q_extn, ↓q_extl, ↓q_ixr, ↓q_ixt, ↓q_ixl, ↓q_ixs, ↓q_putG, ↓q_add_int, ↓q_add_str, ↓q_add_lst, ↓q_add_tup, ↓q_sub_int, ↓q_mul_int, ↓q_mul_lst, ↓q_mul_tup, ↓q_fdiv_int, ↓q_mod_int, ↓q_pow_int, ↓q_bint, ↓q_bintb, ↓q_blenl, ↓q_blent, ↓q_blens, ↓q_bstri, ↓q_bstrs, ↓q_blistl, ↓q_blistt, ↓q_btupl, ↓q_btupt, ↓q_bmin, ↓q_bmax, ↓q_fmts, ↓q_fmti, ↓q_asg, ↓q_parS, ↓q_put, ↓q_ex, ↓q_iff, ↓q_for, ↓q_retV, ↓q_rcst, ↓q_rtup, ↓q_rlst, ↓q_rbin, ↓q_rcmp, ↓q_rneg, ↓q_rnt, ↓q_ran, ↓q_rorr, ↓q_rite, ↓q_ridx, ↓q_rslc, ↓q_rrev, ↓q_rcall, ↓q_rbi, ↓q_rjoin, ↓q_rlc, ↓q_rfs, ↓q_rdct, ↓q_retN, ↓q_pas, ↓q_brk, ↓q_cnt, ↓q_exs0, ↓q_exs1, q_add_int, q_add_str, q_add_lst, q_add_tup, q_sub_int, q_mul_int, q_mul_lst, q_mul_tup, q_fdiv_int, q_mod_int, q_pow_int, q_bint, q_bintb, q_blenl, q_blent, q_blens, q_bstri, q_bstrs, q_blistl, q_blistt, q_btupl, q_btupt, q_bmin, q_bmax, q_fmts, q_fmti, backG_mk, pushG_mk, wipe_nil, wipe_cons, back_nil, back_cons, noOwn_nil, slots_nm, slots_tp, pv_val, pv_new, slot_val, slot_new, asInt_int, truV_bl, truV_int, cmpV_eq, cmpV_ne, cmpV_lt, cmpV_le, cmpV_gt, cmpV_ge, eqV_int, eqV_str, items_l, items_t, items_f, slcV_lst, slcV_tup, slcV_fz, revV_tup, revV_lst, idxV_lst, idxV_tup, noOwn_cons, at0, at1, at2, at3, Nxt_nx, Nxt_ret, Nxt_brk, Nxt_cnt, Turn_nx, Turn_cnt, Turn_brk, Turn_ret, Fin'_ret, Fin'_nx, List.getElem?_cons_zero, List.getElem?_cons_succ, List.set_cons_zero, List.set_cons_succ, List.getD_cons_zero, List.getD_cons_succ, List.length_cons, List.length_nil, List.map_cons, List.map_nil, List.cons_append, List.nil_append, List.replicate_succ, List.replicate_zero, Option.map_some, Option.some.injEq, Bool.not_true, Bool.not_false, Bool.and_self, Bool.and_true, Bool.true_and, Bool.false_eq_true, Bool.true_eq_false, if_true, if_false, ite_true, ite_false, reduceIte, true_and, and_true, Nat.reduceAdd, Nat.reduceSub, Nat.reduceLT, Nat.reduceLeDiff, Nat.reducePow, Int.reducePow, Int.reduceToNat, Int.reduceLE, Int.reduceLT, Int.reduceNeg, decide_true, decide_false, Ev.sizeLine_eq, rgOk_eq, Nat.lt_add_left_iff_pos, Nat.zero_lt_succ, Nat.succ_pos, Nat.zero_add, true_or, or_true, Nat.reduceMul, Nat.add_zero, Nat.zero_le, Nat.le_refl]
          refine Ok_ats (by omega) (show (_ : Int) < 22 by omega) (by decide +kernel) fun ch hch => ?_
          have h1 := Tx.one (Tx.by (n := 22) (by decide +kernel)).asc hch
          have h2 := hb8.app h1
          have h3 := h2.len
          rw [strLen_append] at h3
          simp only [↓q_ok, ↓q_some, ↓q_cst, ↓q_var, ↓q_tup, ↓q_lst, ↓q_bin, ↓q_cmp, ↓q_neg, ↓q_nt, ↓q_an, ↓q_orr, ↓q_ite, ↓q_idx, ↓q_slc, ↓q_rev, ↓q_call, ↓q_bi, ↓q_join, ↓q_app, ↓q_ext, ↓q_lc, ↓q_fs, ↓q_dct, ↓q_evs0, ↓q_evs1, ↓q_opds0, ↓q_opds1, ↓q_no, ↓q_so, ↓q_it, ↓q_rg1, ↓q_rg2, ↓q_tno, ↓q_tso, ↓q_evf0, ↓q_evf1, ↓q_tnt, ↓q_tan, ↓q_tor, ↓q_tite, ↓q_tvar, ↓q_tcst, ↓q_tcmp, ↓q_tidx, ↓q_tcall, ↓q_tbi, ↓q_tslc, ↓q_ovar, ↓q_ocst, ↓q_otup, ↓q_olst, ↓q_obin, ↓q_ocmp, ↓q_oneg, ↓q_ont, ↓q_oan, ↓q_oorr, ↓q_oite, ↓q_oidx, ↓q_oslc, ↓q_orev, ↓q_ocall, ↓q_obi, ↓q_ojoin, ↓q_olc, ↓q_ofs, ↓q_odct, ↓q_lookv, ↓q_looks, ↓q_peek, ↓q_look0, ↓q_look1, ↓q_set, ↓q_bnm, ↓q_btp, ↓q_sets0, ↓q_sets1, ↓q_par0, ↓q_par1, ↓q_own, ↓q_appV, ↓q_extn, ↓q_extl, ↓q_ixr, ↓q_ixt, ↓q_ixl, ↓q_ixs, ↓q_putG, ↓q_add_int, ↓q_add_str, ↓q_add_lst, ↓q_add_tup, ↓q_sub_int, ↓q_mul_int, ↓q_mul_lst, ↓q_mul_tup, ↓q_fdiv_int, ↓q_mod_int, ↓q_pow_int, ↓q_bint, ↓q_bintb, ↓q_blenl, ↓q_blent, ↓q_blens, ↓q_bstri, ↓q_bstrs, ↓q_blistl, ↓q_blistt, ↓q_btupl, ↓q_btupt, ↓q_bmin, ↓q_bmax, ↓q_fmts, ↓q_fmti, ↓q_asg, ↓q_parS, ↓q_put, ↓q_ex, ↓q_iff, ↓q_for, ↓q_retV, ↓q_rcst, ↓q_rtup, ↓q_rlst, ↓q_rbin, ↓q_rcmp, ↓q_rneg, ↓q_rnt, ↓q_ran, ↓q_rorr, ↓q_rite, ↓q_ridx, ↓q_rslc, ↓q_rrev, ↓q_rcall, ↓q_rbi, ↓q_rjoin, ↓q_rlc, ↓q_rfs, ↓q_rdct, ↓q_retN, ↓q_pas, ↓q_brk, ↓q_cnt, ↓q_exs0, ↓q_exs1, q_add_int, q_add_str, q_add_lst, q_add_tup, q_sub_int, q_mul_int, q_mul_lst, q_mul_tup, q_fdiv_int, q_mod_int, q_pow_int, q_bint, q_bintb, q_blenl, q_blent, q_blens, q_bstri, q_bstrs, q_blistl, q_blistt, q_btupl, q_btupt, q_bmin, q_bmax, q_fmts, q_fmti, backG_mk, pushG_mk, wipe_nil, wipe_cons, back_nil, back_cons, noOwn_nil, slots_nm, slots_tp, pv_val, pv_new, slot_val, slot_new, asInt_int, truV_bl, truV_int, cmpV_eq, cmpV_ne, cmpV_lt, cmpV_le, cmpV_gt, cmpV_ge, eqV_int, eqV_str, items_l, items_t, items_f, slcV_lst, slcV_tup, slcV_fz, revV_tup, revV_lst, idxV_lst, idxV_tup, noOwn_cons, at0, at1, at2, at3, Nxt_nx, Nxt_ret, Nxt_brk, Nxt_cnt, Turn_nx, Turn_cnt, Turn_brk, Turn_ret, Fin'_ret, Fin'_nx, List.getElem?_cons_zero, List.getElem?_cons_succ, List.set_cons_zero, List.set_cons_succ, List.getD_cons_zero, List.getD_cons_succ, List.length_cons, List.length_nil, List.map_cons, List.map_nil, List.cons_append, List.nil_append, List.replicate_succ, List.replicate_zero, Option.map_some, Option.some.injEq, Bool.not_true, Bool.not_false, Bool.and_self, Bool.and_true, Bool.true_and, Bool.false_eq_true, Bool.true_eq_false, if_true, if_false, ite_true, ite_false, reduceIte, true_and, and_true, Nat.reduceAdd, Nat.reduceSub, Nat.reduceLT, Nat.reduceLeDiff, Nat.reducePow, Int.reducePow, Int.reduceToNat, Int.reduceLE, Int.reduceLT, Int.reduceNeg, decide_true, decide_false, Ev.sizeLine_eq, rgOk_eq, Nat.lt_add_left_iff_pos, Nat.zero_lt_succ, Nat.succ_pos, Nat.zero_add, true_or, or_true, Nat.reduceMul, Nat.add_zero, Nat.zero_le, Nat.le_refl]
          exact ⟨by omega, ⟨_, rfl, h2.mono (by omega)⟩, F⟩
        · obtain ⟨ws, rfl, hl, hw⟩ := e.map fun x y h => h
          rw [rg_len] at hl
          exact ⟨F', ws, rfl, by omega, hw⟩
end K09
namespace K09
open PySem Ev

/-! ### plans -/
structure Test where
  one : Str
  sign : Str
  two : Str
structure Rd where
  tag : Str
  path : List Str
  tests : List Test
structure Wt where
  place : List Str
  worth : Str
  tests : List Test
structure Base where
  ways : Int
  guard : Bool
  last : Bool
structure Plan where
  base : Base
  names : List Str
  reads : List Rd
  writes : List Wt
def tPV (t : Test) : PV := .tup [.str t.one, .str t.sign, .str t.two]
def rPV (r : Rd) : PV := .tup [.str r.tag, .tup (r.path.map PV.str), .tup (r.tests.map tPV)]
def wPV (w : Wt) : PV := .tup [.tup (w.place.map PV.str), .str w.worth, .tup (w.tests.map tPV)]
def bPV (b : Base) : PV := .tup [.int b.ways, .bl b.guard, .bl b.last]
def pPV (p : Plan) : PV := .tup [bPV p.base, .tup (p.names.map PV.str), .tup (p.reads.map rPV), .tup (p.writes.map wPV)]
structure TestOk (t : Test) : Prop where
  one : Tx 12 t.one
  sign : Tx 12 t.sign
  two : Tx 12 t.two
structure TestsOk (ts : List Test) : Prop where
  len : ts.length ≤ 3
  all : ∀ t ∈ ts, TestOk t
structure RdOk (r : Rd) : Prop where
  tag : Tx 12 r.tag
  plen : r.path.length ≤ 4
  path : ∀ w ∈ r.path, Tx 12 w
  tests : TestsOk r.tests
structure WtOk (w : Wt) : Prop where
  plen : w.place.length ≤ 2
  place : ∀ x ∈ w.place, Tx 12 x
  worth : Tx 12 w.worth
  tests : TestsOk w.tests
structure BaseOk (b : Base) : Prop where
  lo : 1 ≤ b.ways
  hi : b.ways ≤ 2
structure PlanOk (a b d : Nat) (p : Plan) : Prop where
  base : BaseOk p.base
  nlen : p.names.length ≤ a
  names : ∀ w ∈ p.names, Tx 12 w
  rlen : p.reads.length ≤ b
  reads : ∀ r ∈ p.reads, RdOk r
  wlen : p.writes.length ≤ d
  writes : ∀ w ∈ p.writes, WtOk w

def intP (lo hi : Int) : PV → Bool
  | .int i => decide (lo ≤ i ∧ i ≤ hi)
  | _ => false
theorem intP_of {lo hi : Int} {L : List PV} {v : PV} (h : L.all (intP lo hi) = true) (m : v ∈ L) : ∃ i, v = .int i ∧ lo ≤ i ∧ i ≤ hi := by
  have := List.all_eq_true.mp h v m
  unfold intP at this
  split at this
  · exact ⟨_, rfl, of_decide_eq_true this⟩
  · cases this
theorem mem_txP {n : Nat} {L : List PV} {v : PV} (h : L.all (txP n) = true) (m : v ∈ L) : ∃ w, v = .str w ∧ Tx n w := txP_of (List.all_eq_true.mp h v m)
theorem mem_str {ws : List Str} {v : PV} (m : v ∈ ws.map PV.str) : ∃ w ∈ ws, v = .str w := by
  obtain ⟨w, h1, h2⟩ := List.mem_map.mp m
  exact ⟨w, h1, h2.symm⟩
theorem tests_ok (k : Nat) {hp : List Cell} (F : Fd hp) {L : List PV} (h1 : 1 ≤ L.length) (h2 : L.length ≤ 1000) (h3 : AllTx 12 L) :
    Gives (calls table (k + 3) 21 [.ref 0, .lst L] [] hp) fun r hp => Fd hp ∧ ∃ ts, r = .val (.tup (ts.map tPV)) ∧ TestsOk ts := by
  refine gives_run (c := calls table (k + 2)) (d := d_l_any_tests) (as := [.ref 0, .lst L]) rfl ?_
  simp only [d_l_any_tests, ↓q_ok, ↓q_some, ↓q_cst, ↓q_var, ↓q_tup, ↓q_lst, ↓q_bin, ↓q_cmp, ↓q_neg, ↓q_nt, ↓q_an, ↓q_orr, ↓q_ite, ↓q_idx, ↓q_slc, ↓q_rev, ↓q_call, ↓q_bi, ↓q_join, ↓q_app, ↓q_ext, ↓q_lc, ↓q_fs, ↓q_dct, ↓q_evs0, ↓q_evs1, ↓q_opds0, ↓q_opds1, ↓q_no, ↓q_so, ↓q_it, ↓q_rg1, ↓q_rg2, ↓q_tno, ↓q_tso, ↓q_evf0, ↓q_evf1, ↓q_tnt, ↓q_tan, ↓q_tor, ↓q_tite, ↓q_tvar, ↓q_tcst, ↓q_tcmp, ↓q_tidx, ↓q_tcall, ↓q_tbi, ↓q_tslc, ↓q_ovar, ↓q_ocst, ↓q_otup, ↓q_olst, ↓q_obin, ↓q_ocmp, ↓q_oneg, ↓q_ont, ↓q_oan, ↓q_oorr, ↓q_oite, ↓q_oidx, ↓q_oslc, ↓q_orev, ↓q_ocall, ↓q_obi, ↓q_ojoin, ↓q_olc, ↓q_ofs, ↓q_odct, ↓q_lookv, ↓q_looks, ↓q_peek, ↓q_look0, ↓q_look1, ↓q_set, ↓q_bnm, ↓q_btp, ↓q_sets0, ↓q_sets1, ↓q_par0, ↓q_par1, ↓q_own, ↓q_appV, ↓q_extn, ↓q_extl, ↓q_ixr, ↓q_ixt, ↓q_ixl, ↓q_ixs, ↓q_putG, ↓q_add_int, ↓q_add_str, ↓q_add_lst, ↓q_add_tup, ↓q_sub_int, ↓q_mul_int, ↓q_mul_lst, ↓q_mul_tup, ↓q_fdiv_int, ↓q_mod_int, ↓q_pow_int, ↓q_bint, ↓q_bintb, ↓q_blenl, ↓q_blent, ↓q_blens, ↓q_bstri, ↓q_bstrs, ↓q_blistl, ↓q_blistt, ↓q_btupl, ↓q_btupt, ↓q_bmin, ↓q_bmax, ↓q_fmts, ↓q_fmti, ↓q_asg, ↓q_parS, ↓q_put, ↓q_ex, ↓q_iff, ↓q_for, ↓q_retV, ↓q_rcst, ↓q_rtup, ↓q_rlst, ↓q_rbin, ↓q_rcmp, ↓q_rneg, ↓q_rnt, ↓q_ran, ↓q_rorr, ↓q_rite, ↓q_ridx, ↓q_rslc, ↓q_rrev, ↓q_rcall, ↓q_rbi, ↓q_rjoin, ↓q_rlc, ↓q_rfs, ↓q_rdct, ↓q_retN, ↓q_pas, ↓q_brk, ↓q_cnt, ↓q_exs0, ↓q_exs1, q_add_int, q_add_str, q_add_lst, q_add_tup, q_sub_int, q_mul_int, q_mul_lst, q_mul_tup, q_fdiv_int, q_mod_int, q_pow_int, q_bint, q_bintb, q_blenl, q_blent, q_blens, q_bstri, q_bstrs, q_blistl, q_blistt, q_btupl, q_btupt, q_bmin, q_bmax, q_fmts, q_fmti, backG_mk, pushG_mk, wipe_nil, wipe_cons, back_nil, back_cons, noOwn_nil, slots_nm, slots_tp, pv_val, pv_new, slot_val, slot_new, asInt_int, truV_bl, truV_int, cmpV_eq, cmpV_ne, cmpV_lt, cmpV_le, cmpV_gt, cmpV_ge, eqV_int, eqV_str, items_l, items_t, items_f, slcV_lst, slcV_tup, slcV_fz, revV_tup, revV_lst, idxV_lst, idxV_tup, noOwn_cons, at0, at1, at2, at3, Nxt_nx, Nxt_ret, Nxt_brk, Nxt_cnt, Turn_nx, Turn_cnt, Turn_brk, Turn_ret, Fin'_ret, Fin'_nx, List.getElem?_cons_zero, List.getElem?_cons_succ, List.set_cons_zero, List.set_cons_succ, List.getD_cons_zero, List.getD_cons_succ, List.length_cons, List.length_nil, List.map_cons, List.map_nil, List.cons_append, List.nil_append, List.replicate_succ, List.replicate_zero, Option.map_some, Option.some.injEq, Bool.not_true, Bool.not_false, Bool.and_self, Bool.and_true, Bool.true_and, Bool.false_eq_true, Bool.true_eq_false, if_true, if_false, ite_true, ite_false, reduceIte, true_and, and_true, Nat.reduceAdd, Nat.reduceSub, Nat.reduceLT, Nat.reduceLeDiff, Nat.reducePow, Int.reducePow, Int.reduceToNat, Int.reduceLE, Int.reduceLT, Int.reduceNeg, decide_true, decide_false, Ev.sizeLine_eq, rgOk_eq, Nat.lt_add_left_iff_pos, Nat.zero_lt_succ, Nat.succ_pos, Nat.zero_add, true_or, or_true, Nat.reduceMul, Nat.add_zero, Nat.zero_le, Nat.le_refl]
  refine Ok_callW (any_ok k F (by decide) (by decide)) fun r hp1 ⟨F1, y, hy, hr⟩ => ?_
  subst hr
  obtain ⟨n, rfl, n0, n1⟩ := intP_of (lo := 0) (hi := 3) (by decide +kernel) hy
  simp only [↓q_ok, ↓q_some, ↓q_cst, ↓q_var, ↓q_tup, ↓q_lst, ↓q_bin, ↓q_cmp, ↓q_neg, ↓q_nt, ↓q_an, ↓q_orr, ↓q_ite, ↓q_idx, ↓q_slc, ↓q_rev, ↓q_call, ↓q_bi, ↓q_join, ↓q_app, ↓q_ext, ↓q_lc, ↓q_fs, ↓q_dct, ↓q_evs0, ↓q_evs1, ↓q_opds0, ↓q_opds1, ↓q_no, ↓q_so, ↓q_it, ↓q_rg1, ↓q_rg2, ↓q_tno, ↓q_tso, ↓q_evf0, ↓q_evf1, ↓q_tnt, ↓q_tan, ↓q_tor, ↓q_tite, ↓q_tvar, ↓q_tcst, ↓q_tcmp, ↓q_tidx, ↓q_tcall, ↓q_tbi, ↓q_tslc, ↓q_ovar, ↓q_ocst, ↓q_otup, ↓q_olst, ↓q_obin, ↓q_ocmp, ↓q_oneg, ↓q_ont, ↓q_oan, ↓q_oorr, ↓q_oite, ↓q_oidx, ↓q_oslc, ↓q_orev, ↓q_ocall, ↓q_obi, ↓q_ojoin, ↓q_olc, ↓q_ofs, ↓q_odct, ↓q_lookv, ↓q_looks, ↓q_peek, ↓q_look0, ↓q_look1, ↓q_set, ↓q_bnm, ↓q_btp, ↓q_sets0, ↓q_sets1, ↓q_par0, ↓q_par1, ↓q_own, ↓q_appV, ↓q_extn, ↓q_extl, ↓q_ixr, ↓q_ixt, ↓q_ixl, ↓q_ixs, ↓q_putG, ↓q_add_int, ↓q_add_str, ↓q_add_lst, ↓q_add_tup, ↓q_sub_int, ↓q_mul_int, ↓q_mul_lst, ↓q_mul_tup, ↓q_fdiv_int, ↓q_mod_int, ↓q_pow_int, ↓q_bint, ↓q_bintb, ↓q_blenl, ↓q_blent, ↓q_blens, ↓q_bstri, ↓q_bstrs, ↓q_blistl, ↓q_blistt, ↓q_btupl, ↓q_btupt, ↓q_bmin, ↓q_bmax, ↓q_fmts, ↓q_fmti, ↓q_asg, ↓q_parS, ↓q_put, ↓q_ex, ↓q_iff, ↓q_for, ↓q_retV, ↓q_rcst, ↓q_rtup, ↓q_rlst, ↓q_rbin, ↓q_rcmp, ↓q_rneg, ↓q_rnt, ↓q_ran, ↓q_rorr, ↓q_rite, ↓q_ridx, ↓q_rslc, ↓q_rrev, ↓q_rcall, ↓q_rbi, ↓q_rjoin, ↓q_rlc, ↓q_rfs, ↓q_rdct, ↓q_retN, ↓q_pas, ↓q_brk, ↓q_cnt, ↓q_exs0, ↓q_exs1, q_add_int, q_add_str, q_add_lst, q_add_tup, q_sub_int, q_mul_int, q_mul_lst, q_mul_tup, q_fdiv_int, q_mod_int, q_pow_int, q_bint, q_bintb, q_blenl, q_blent, q_blens, q_bstri, q_bstrs, q_blistl, q_blistt, q_btupl, q_btupt, q_bmin, q_bmax, q_fmts, q_fmti, backG_mk, pushG_mk, wipe_nil, wipe_cons, back_nil, back_cons, noOwn_nil, slots_nm, slots_tp, pv_val, pv_new, slot_val, slot_new, asInt_int, truV_bl, truV_int, cmpV_eq, cmpV_ne, cmpV_lt, cmpV_le, cmpV_gt, cmpV_ge, eqV_int, eqV_str, items_l, items_t, items_f, slcV_lst, slcV_tup, slcV_fz, revV_tup, revV_lst, idxV_lst, idxV_tup, noOwn_cons, at0, at1, at2, at3, Nxt_nx, Nxt_ret, Nxt_brk, Nxt_cnt, Turn_nx, Turn_cnt, Turn_brk, Turn_ret, Fin'_ret, Fin'_nx, List.getElem?_cons_zero, List.getElem?_cons_succ, List.set_cons_zero, List.set_cons_succ, List.getD_cons_zero, List.getD_cons_succ, List.length_cons, List.length_nil, List.map_cons, List.map_nil, List.cons_append, List.nil_append, List.replicate_succ, List.replicate_zero, Option.map_some, Option.some.injEq, Bool.not_true, Bool.not_false, Bool.and_self, Bool.and_true, Bool.true_and, Bool.false_eq_true, Bool.true_eq_false, if_true, if_false, ite_true, ite_false, reduceIte, true_and, and_true, Nat.reduceAdd, Nat.reduceSub, Nat.reduceLT, Nat.reduceLeDiff, Nat.reducePow, Int.reducePow, Int.reduceToNat, Int.reduceLE, Int.reduceLT, Int.reduceNeg, decide_true, decide_false, Ev.sizeLine_eq, rgOk_eq, Nat.lt_add_left_iff_pos, Nat.zero_lt_succ, Nat.succ_pos, Nat.zero_add, true_or, or_true, Nat.reduceMul, Nat.add_zero, Nat.zero_le, Nat.le_refl]
  refine ⟨by omega, ?_⟩
  refine for_sl (β := List Test × Slot × Slot × Slot) (fun b sl => (((sl.set 2 (.val (.tup (b.1.map tPV)))).set 3 b.2.1).set 4 b.2.2.1).set 5 b.2.2.2) (fun i b hp => Fd hp ∧ b.1.length = i ∧ i ≤ 3 ∧ ∀ t ∈ b.1, TestOk t) ([], .no, .no, .no) rfl ⟨F1, rfl, by omega, nofun⟩
    (fun i x b hp hx ⟨F, hb, hi, ht⟩ => ?_) fun b hp ⟨F, hb, hi, ht⟩ => ?_
  · obtain ⟨rfl, hi2⟩ := rg_get hx
    obtain ⟨ts, s3, s4, s5⟩ := b
    simp only [↓q_ok, ↓q_some, ↓q_cst, ↓q_var, ↓q_tup, ↓q_lst, ↓q_bin, ↓q_cmp, ↓q_neg, ↓q_nt, ↓q_an, ↓q_orr, ↓q_ite, ↓q_idx, ↓q_slc, ↓q_rev, ↓q_call, ↓q_bi, ↓q_join, ↓q_app, ↓q_ext, ↓q_lc, ↓q_fs, ↓q_dct, ↓q_evs0, ↓q_evs1, ↓q_opds0, ↓q_opds1, ↓q_no, ↓q_so, ↓q_it, ↓q_rg1, ↓q_rg2, ↓q_tno, ↓q_tso, ↓q_evf0, ↓q_evf1, ↓q_tnt, ↓q_tan, ↓q_tor, ↓q_tite, ↓q_tvar, ↓q_tcst, ↓q_tcmp, ↓q_tidx, ↓q_tcall, ↓q_tbi, ↓q_tslc, ↓q_ovar, ↓q_ocst, ↓q_otup, ↓q_olst, ↓q_obin, ↓q_ocmp, ↓q_oneg, ↓q_ont, ↓q_oan, ↓q_oorr, ↓q_oite, ↓q_oidx, ↓q_oslc, ↓q_orev, ↓q_ocall, ↓q_obi, ↓q_ojoin, ↓q_olc, ↓q_ofs, ↓q_odct, ↓q_lookv, ↓q_looks, ↓q_peek, ↓q_look0, ↓q_look1, ↓q_set, ↓q_bnm, ↓q_btp, ↓q_sets0, ↓q_sets1, ↓q_par0, ↓q_par1, ↓q_own, ↓q_appV, ↓q_extn, ↓q_extl, ↓q_ixr, ↓q_ixt, ↓q_ixl, ↓q_ixs, ↓q_putG, ↓q_add_int, ↓q_add_str, ↓q_add_lst, ↓q_add_tup, ↓q_sub_int, ↓q_mul_int, ↓q_mul_lst, ↓q_mul_tup, ↓q_fdiv_int, ↓q_mod_int, ↓q_pow_int, ↓q_bint, ↓q_bintb, ↓q_blenl, ↓q_blent, ↓q_blens, ↓q_bstri, ↓q_bstrs, ↓q_blistl, ↓q_blistt, ↓q_btupl, ↓q_btupt, ↓q_bmin, ↓q_bmax, ↓q_fmts, ↓q_fmti, ↓q_asg, ↓q_parS, ↓q_put, ↓q_ex, ↓q_iff, ↓q_for, ↓q_retV, ↓q_rcst, ↓q_rtup, ↓q_rlst, ↓q_rbin, ↓q_rcmp, ↓q_rneg, ↓q_rnt, ↓q_ran, ↓q_rorr, ↓q_rite, ↓q_ridx, ↓q_rslc, ↓q_rrev, ↓q_rcall, ↓q_rbi, ↓q_rjoin, ↓q_rlc, ↓q_rfs, ↓q_rdct, ↓q_retN, ↓q_pas, ↓q_brk, ↓q_cnt, ↓q_exs0, ↓q_exs1, q_add_int, q_add_str, q_add_lst, q_add_tup, q_sub_int, q_mul_int, q_mul_lst, q_mul_tup, q_fdiv_int, q_mod_int, q_pow_int, q_bint, q_bintb, q_blenl, q_blent, q_blens, q_bstri, q_bstrs, q_blistl, q_blistt, q_btupl, q_btupt, q_bmin, q_bmax, q_fmts, q_fmti, backG_mk, pushG_mk, wipe_nil, wipe_cons, back_nil, back_cons, noOwn_nil, slots_nm, slots_tp, pv_val, pv_new, slot_val, slot_new, asInt_int, truV_bl, truV_int, cmpV_eq, cmpV_ne, cmpV_lt, cmpV_le, cmpV_gt, cmpV_ge, eqV_int, eqV_str, items_l, items_t, items_f, slcV_lst, slcV_tup, slcV_fz, revV_tup, revV_lst, idxV_lst, idxV_tup, noOwn_cons, at0, at1, at2, at3, Nxt_nx, Nxt_ret, Nxt_brk, Nxt_cnt, Turn_nx, Turn_cnt, Turn_brk, Turn_ret, Fin'_ret, Fin'_nx, List.getElem?_cons_zero, List.getElem?_cons_succ, List.set_cons_zero, List.set_cons_succ, List.getD_cons_zero, List.getD_cons_succ, List.length_cons, List.length_nil, List.map_cons, List.map_nil, List.cons_append, List.nil_append, List.replicate_succ, List.replicate_zero, Option.map_some, Option.some.injEq, Bool.not_true, Bool.not_false, Bool.and_self, Bool.and_true, Bool.true_and, Bool.false_eq_true, Bool.true_eq_false, if_true, if_false, ite_true, ite_false, reduceIte, true_and, and_true, Nat.reduceAdd, Nat.reduceSub, Nat.reduceLT, Nat.reduceLeDiff, Nat.reducePow, Int.reducePow, Int.reduceToNat, Int.reduceLE, Int.reduceLT, Int.reduceNeg, decide_true, decide_false, Ev.sizeLine_eq, rgOk_eq, Nat.lt_add_left_iff_pos, Nat.zero_lt_succ, Nat.succ_pos, Nat.zero_add, true_or, or_true, Nat.reduceMul, Nat.add_zero, Nat.zero_le, Nat.le_refl]
    refine Ok_callW (any_ok k F h1 (by omega)) fun r hp2 ⟨F2, y, hy, hr⟩ => ?_
    subst hr
    obtain ⟨w1, rfl, m1⟩ := h3 y hy
    simp only [↓q_ok, ↓q_some, ↓q_cst, ↓q_var, ↓q_tup, ↓q_lst, ↓q_bin, ↓q_cmp, ↓q_neg, ↓q_nt, ↓q_an, ↓q_orr, ↓q_ite, ↓q_idx, ↓q_slc, ↓q_rev, ↓q_call, ↓q_bi, ↓q_join, ↓q_app, ↓q_ext, ↓q_lc, ↓q_fs, ↓q_dct, ↓q_evs0, ↓q_evs1, ↓q_opds0, ↓q_opds1, ↓q_no, ↓q_so, ↓q_it, ↓q_rg1, ↓q_rg2, ↓q_tno, ↓q_tso, ↓q_evf0, ↓q_evf1, ↓q_tnt, ↓q_tan, ↓q_tor, ↓q_tite, ↓q_tvar, ↓q_tcst, ↓q_tcmp, ↓q_tidx, ↓q_tcall, ↓q_tbi, ↓q_tslc, ↓q_ovar, ↓q_ocst, ↓q_otup, ↓q_olst, ↓q_obin, ↓q_ocmp, ↓q_oneg, ↓q_ont, ↓q_oan, ↓q_oorr, ↓q_oite, ↓q_oidx, ↓q_oslc, ↓q_orev, ↓q_ocall, ↓q_obi, ↓q_ojoin, ↓q_olc, ↓q_ofs, ↓q_odct, ↓q_lookv, ↓q_looks, ↓q_peek, ↓q_look0, ↓q_look1, ↓q_set, ↓q_bnm, ↓q_btp, ↓q_sets0, ↓q_sets1, ↓q_par0, ↓q_par1, ↓q_own, ↓q_appV, ↓q_extn, ↓q_extl, ↓q_ixr, ↓q_ixt, ↓q_ixl, ↓q_ixs, ↓q_putG, ↓q_add_int, ↓q_add_str, ↓q_add_lst, ↓q_add_tup, ↓q_sub_int, ↓q_mul_int, ↓q_mul_lst, ↓q_mul_tup, ↓q_fdiv_int, ↓q_mod_int, ↓q_pow_int, ↓q_bint, ↓q_bintb, ↓q_blenl, ↓q_blent, ↓q_blens, ↓q_bstri, ↓q_bstrs, ↓q_blistl, ↓q_blistt, ↓q_btupl, ↓q_btupt, ↓q_bmin, ↓q_bmax, ↓q_fmts, ↓q_fmti, ↓q_asg, ↓q_parS, ↓q_put, ↓q_ex, ↓q_iff, ↓q_for, ↓q_retV, ↓q_rcst, ↓q_rtup, ↓q_rlst, ↓q_rbin, ↓q_rcmp, ↓q_rneg, ↓q_rnt, ↓q_ran, ↓q_rorr, ↓q_rite, ↓q_ridx, ↓q_rslc, ↓q_rrev, ↓q_rcall, ↓q_rbi, ↓q_rjoin, ↓q_rlc, ↓q_rfs, ↓q_rdct, ↓q_retN, ↓q_pas, ↓q_brk, ↓q_cnt, ↓q_exs0, ↓q_exs1, q_add_int, q_add_str, q_add_lst, q_add_tup, q_sub_int, q_mul_int, q_mul_lst, q_mul_tup, q_fdiv_int, q_mod_int, q_pow_int, q_bint, q_bintb, q_blenl, q_blent, q_blens, q_bstri, q_bstrs, q_blistl, q_blistt, q_btupl, q_btupt, q_bmin, q_bmax, q_fmts, q_fmti, backG_mk, pushG_mk, wipe_nil, wipe_cons, back_nil, back_cons, noOwn_nil, slots_nm, slots_tp, pv_val, pv_new, slot_val, slot_new, asInt_int, truV_bl, truV_int, cmpV_eq, cmpV_ne, cmpV_lt, cmpV_le, cmpV_gt, cmpV_ge, eqV_int, eqV_str, items_l, items_t, items_f, slcV_lst, slcV_tup, slcV_fz, revV_tup, revV_lst, idxV_lst, idxV_tup, noOwn_cons, at0, at1, at2, at3, Nxt_nx, Nxt_ret, Nxt_brk, Nxt_cnt, Turn_nx, Turn_cnt, Turn_brk, Turn_ret, Fin'_ret, Fin'_nx, List.getElem?_cons_zero, List.getElem?_cons_succ, List.set_cons_zero, List.set_cons_succ, List.getD_cons_zero, List.getD_cons_succ, List.length_cons, List.length_nil, List.map_cons, List.map_nil, List.cons_append, List.nil_append, List.replicate_succ, List.replicate_zero, Option.map_some, Option.some.injEq, Bool.not_true, Bool.not_false, Bool.and_self, Bool.and_true, Bool.true_and, Bool.false_eq_true, Bool.true_eq_false, if_true, if_false, ite_true, ite_false, reduceIte, true_and, and_true, Nat.reduceAdd, Nat.reduceSub, Nat.reduceLT, Nat.reduceLeDiff, Nat.reducePow, Int.reducePow, Int.reduceToNat, Int.reduceLE, Int.reduceLT, Int.reduceNeg, decide_true, decide_false, Ev.sizeLine_eq, rgOk_eq, Nat.lt_add_left_iff_pos, Nat.zero_lt_succ, Nat.succ_pos, Nat.zero_add, true_or, or_true, Nat.reduceMul, Nat.add_zero, Nat.zero_le, Nat.le_refl]
    refine Ok_callW (any_ok k F2 (by decide) (by decide)) fun r hp3 ⟨F3, y, hy, hr⟩ => ?_
    subst hr
    obtain ⟨w2, rfl, t2⟩ := mem_txP (n := 12) (by decide +kernel) hy
    simp only [↓q_ok, ↓q_some, ↓q_cst, ↓q_var, ↓q_tup, ↓q_lst, ↓q_bin, ↓q_cmp, ↓q_neg, ↓q_nt, ↓q_an, ↓q_orr, ↓q_ite, ↓q_idx, ↓q_slc, ↓q_rev, ↓q_call, ↓q_bi, ↓q_join, ↓q_app, ↓q_ext, ↓q_lc, ↓q_fs, ↓q_dct, ↓q_evs0, ↓q_evs1, ↓q_opds0, ↓q_opds1, ↓q_no, ↓q_so, ↓q_it, ↓q_rg1, ↓q_rg2, ↓q_tno, ↓q_tso, ↓q_evf0, ↓q_evf1, ↓q_tnt, ↓q_tan, ↓q_tor, ↓q_tite, ↓q_tvar, ↓q_tcst, ↓q_tcmp, ↓q_tidx, ↓q_tcall, ↓q_tbi, ↓q_tslc, ↓q_ovar, ↓q_ocst, ↓q_otup, ↓q_olst, ↓q_obin, ↓q_ocmp, ↓q_oneg, ↓q_ont, ↓q_oan, ↓q_oorr, ↓q_oite, ↓q_oidx, ↓q_oslc, ↓q_orev, ↓q_ocall, ↓q_obi, ↓q_ojoin, ↓q_olc, ↓q_ofs, ↓q_odct, ↓q_lookv, ↓q_looks, ↓q_peek, ↓q_look0, ↓q_look1, ↓q_set, ↓q_bnm, ↓q_btp, ↓q_sets0, ↓q_sets1, ↓q_par0, ↓q_par1, ↓q_own, ↓q_appV, ↓q_extn, ↓q_extl, ↓q_ixr, ↓q_ixt, ↓q_ixl, ↓q_ixs, ↓q_putG, ↓q_add_int, ↓q_add_str, ↓q_add_lst, ↓q_add_tup, ↓q_sub_int, ↓q_mul_int, ↓q_mul_lst, ↓q_mul_tup, ↓q_fdiv_int, ↓q_mod_int, ↓q_pow_int, ↓q_bint, ↓q_bintb, ↓q_blenl, ↓q_blent, ↓q_blens, ↓q_bstri, ↓q_bstrs, ↓q_blistl, ↓q_blistt, ↓q_btupl, ↓q_btupt, ↓q_bmin, ↓q_bmax, ↓q_fmts, ↓q_fmti, ↓q_asg, ↓q_parS, ↓q_put, ↓q_ex, ↓q_iff, ↓q_for, ↓q_retV, ↓q_rcst, ↓q_rtup, ↓q_rlst, ↓q_rbin, ↓q_rcmp, ↓q_rneg, ↓q_rnt, ↓q_ran, ↓q_rorr, ↓q_rite, ↓q_ridx, ↓q_rslc, ↓q_rrev, ↓q_rcall, ↓q_rbi, ↓q_rjoin, ↓q_rlc, ↓q_rfs, ↓q_rdct, ↓q_retN, ↓q_pas, ↓q_brk, ↓q_cnt, ↓q_exs0, ↓q_exs1, q_add_int, q_add_str, q_add_lst, q_add_tup, q_sub_int, q_mul_int, q_mul_lst, q_mul_tup, q_fdiv_int, q_mod_int, q_pow_int, q_bint, q_bintb, q_blenl, q_blent, q_blens, q_bstri, q_bstrs, q_blistl, q_blistt, q_btupl, q_btupt, q_bmin, q_bmax, q_fmts, q_fmti, backG_mk, pushG_mk, wipe_nil, wipe_cons, back_nil, back_cons, noOwn_nil, slots_nm, slots_tp, pv_val, pv_new, slot_val, slot_new, asInt_int, truV_bl, truV_int, cmpV_eq, cmpV_ne, cmpV_lt, cmpV_le, cmpV_gt, cmpV_ge, eqV_int, eqV_str, items_l, items_t, items_f, slcV_lst, slcV_tup, slcV_fz, revV_tup, revV_lst, idxV_lst, idxV_tup, noOwn_cons, at0, at1, at2, at3, Nxt_nx, Nxt_ret, Nxt_brk, Nxt_cnt, Turn_nx, Turn_cnt, Turn_brk, Turn_ret, Fin'_ret, Fin'_nx, List.getElem?_cons_zero, List.getElem?_cons_succ, List.set_cons_zero, List.set_cons_succ, List.getD_cons_zero, List.getD_cons_succ, List.length_cons, List.length_nil, List.map_cons, List.map_nil, List.cons_append, List.nil_append, List.replicate_succ, List.replicate_zero, Option.map_some, Option.some.injEq, Bool.not_true, Bool.not_false, Bool.and_self, Bool.and_true, Bool.true_and, Bool.false_eq_true, Bool.true_eq_false, if_true, if_false, ite_true, ite_false, reduceIte, true_and, and_true, Nat.reduceAdd, Nat.reduceSub, Nat.reduceLT, Nat.reduceLeDiff, Nat.reducePow, Int.reducePow, Int.reduceToNat, Int.reduceLE, Int.reduceLT, Int.reduceNeg, decide_true, decide_false, Ev.sizeLine_eq, rgOk_eq, Nat.lt_add_left_iff_pos, Nat.zero_lt_succ, Nat.succ_pos, Nat.zero_add, true_or, or_true, Nat.reduceMul, Nat.add_zero, Nat.zero_le, Nat.le_refl]
    refine Ok_callW (any_ok k F3 h1 (by omega)) fun r hp4 ⟨F4, y, hy, hr⟩ => ?_
    subst hr
    obtain ⟨w3, rfl, m3⟩ := h3 y hy
    simp only [↓q_ok, ↓q_some, ↓q_cst, ↓q_var, ↓q_tup, ↓q_lst, ↓q_bin, ↓q_cmp, ↓q_neg, ↓q_nt, ↓q_an, ↓q_orr, ↓q_ite, ↓q_idx, ↓q_slc, ↓q_rev, ↓q_call, ↓q_bi, ↓q_join, ↓q_app, ↓q_ext, ↓q_lc, ↓q_fs, ↓q_dct, ↓q_evs0, ↓q_evs1, ↓q_opds0, ↓q_opds1, ↓q_no, ↓q_so, ↓q_it, ↓q_rg1, ↓q_rg2, ↓q_tno, ↓q_tso, ↓q_evf0, ↓q_evf1, ↓q_tnt, ↓q_tan, ↓q_tor, ↓q_tite, ↓q_tvar, ↓q_tcst, ↓q_tcmp, ↓q_tidx, ↓q_tcall, ↓q_tbi, ↓q_tslc, ↓q_ovar, ↓q_ocst, ↓q_otup, ↓q_olst, ↓q_obin, ↓q_ocmp, ↓q_oneg, ↓q_ont, ↓q_oan, ↓q_oorr, ↓q_oite, ↓q_oidx, ↓q_oslc, ↓q_orev, ↓q_ocall, ↓q_obi, ↓q_ojoin, ↓q_olc, ↓q_ofs, ↓q_odct, ↓q_lookv, ↓q_looks, ↓q_peek, ↓q_look0, ↓q_look1, ↓q_set, ↓q_bnm, ↓q_btp, ↓q_sets0, ↓q_sets1, ↓q_par0, ↓q_par1, ↓q_own, ↓q_appV, ↓q_extn, ↓q_extl, ↓q_ixr, ↓q_ixt, ↓q_ixl, ↓q_ixs, ↓q_putG, ↓q_add_int, ↓q_add_str, ↓q_add_lst, ↓q_add_tup, ↓q_sub_int, ↓q_mul_int, ↓q_mul_lst, ↓q_mul_tup, ↓q_fdiv_int, ↓q_mod_int, ↓q_pow_int, ↓q_bint, ↓q_bintb, ↓q_blenl, ↓q_blent, ↓q_blens, ↓q_bstri, ↓q_bstrs, ↓q_blistl, ↓q_blistt, ↓q_btupl, ↓q_btupt, ↓q_bmin, ↓q_bmax, ↓q_fmts, ↓q_fmti, ↓q_asg, ↓q_parS, ↓q_put, ↓q_ex, ↓q_iff, ↓q_for, ↓q_retV, ↓q_rcst, ↓q_rtup, ↓q_rlst, ↓q_rbin, ↓q_rcmp, ↓q_rneg, ↓q_rnt, ↓q_ran, ↓q_rorr, ↓q_rite, ↓q_ridx, ↓q_rslc, ↓q_rrev, ↓q_rcall, ↓q_rbi, ↓q_rjoin, ↓q_rlc, ↓q_rfs, ↓q_rdct, ↓q_retN, ↓q_pas, ↓q_brk, ↓q_cnt, ↓q_exs0, ↓q_exs1, q_add_int, q_add_str, q_add_lst, q_add_tup, q_sub_int, q_mul_int, q_mul_lst, q_mul_tup, q_fdiv_int, q_mod_int, q_pow_int, q_bint, q_bintb, q_blenl, q_blent, q_blens, q_bstri, q_bstrs, q_blistl, q_blistt, q_btupl, q_btupt, q_bmin, q_bmax, q_fmts, q_fmti, backG_mk, pushG_mk, wipe_nil, wipe_cons, back_nil, back_cons, noOwn_nil, slots_nm, slots_tp, pv_val, pv_new, slot_val, slot_new, asInt_int, truV_bl, truV_int, cmpV_eq, cmpV_ne, cmpV_lt, cmpV_le, cmpV_gt, cmpV_ge, eqV_int, eqV_str, items_l, items_t, items_f, slcV_lst, slcV_tup, slcV_fz, revV_tup, revV_lst, idxV_lst, idxV_tup, noOwn_cons, at0, at1, at2, at3, Nxt_nx, Nxt_ret, Nxt_brk, Nxt_cnt, Turn_nx, Turn_cnt, Turn_brk, Turn_ret, Fin'_ret, Fin'_nx, List.getElem?_cons_zero, List.getElem?_cons_succ, List.set_cons_zero, List.set_cons_succ, List.getD_cons_zero, List.getD_cons_succ, List.length_cons, List.length_nil, List.map_cons, List.map_nil, List.cons_append, List.nil_append, List.replicate_succ, List.replicate_zero, Option.map_some, Option.some.injEq, Bool.not_true, Bool.not_false, Bool.and_self, Bool.and_true, Bool.true_and, Bool.false_eq_true, Bool.true_eq_false, if_true, if_false, ite_true, ite_false, reduceIte, true_and, and_true, Nat.reduceAdd, Nat.reduceSub, Nat.reduceLT, Nat.reduceLeDiff, Nat.reducePow, Int.reducePow, Int.reduceToNat, Int.reduceLE, Int.reduceLT, Int.reduceNeg, decide_true, decide_false, Ev.sizeLine_eq, rgOk_eq, Nat.lt_add_left_iff_pos, Nat.zero_lt_succ, Nat.succ_pos, Nat.zero_add, true_or, or_true, Nat.reduceMul, Nat.add_zero, Nat.zero_le, Nat.le_refl]
    refine ⟨by simp at hb; simp; omega, (ts ++ [⟨w1, w2, w3⟩], _, _, _), by simp only [List.map_append, List.map_cons, List.map_nil, tPV]; rfl, F4, by simpa using hb, by omega, fun t ht' => ?_⟩
    rcases List.mem_append.mp ht' with q | q
    · exact ht t q
    · rw [List.mem_singleton] at q
      subst q
      exact ⟨m1, t2, m3⟩
  · simp only [↓q_ok, ↓q_some, ↓q_cst, ↓q_var, ↓q_tup, ↓q_lst, ↓q_bin, ↓q_cmp, ↓q_neg, ↓q_nt, ↓q_an, ↓q_orr, ↓q_ite, ↓q_idx, ↓q_slc, ↓q_rev, ↓q_call, ↓q_bi, ↓q_join, ↓q_app, ↓q_ext, ↓q_lc, ↓q_fs, ↓q_dct, ↓q_evs0, ↓q_evs1, ↓q_opds0, ↓q_opds1, ↓q_no, ↓q_so, ↓q_it, ↓q_rg1, ↓q_rg2, ↓q_tno, ↓q_tso, ↓q_evf0, ↓q_evf1, ↓q_tnt, ↓q_tan, ↓q_tor, ↓q_tite, ↓q_tvar, ↓q_tcst, ↓q_tcmp, ↓q_tidx, ↓q_tcall, ↓q_tbi, ↓q_tslc, ↓q_ovar, ↓q_ocst, ↓q_otup, ↓q_olst, ↓q_obin, ↓q_ocmp, ↓q_oneg, ↓q_ont, ↓q_oan, ↓q_oorr, ↓q_oite, ↓q_oidx, ↓q_oslc, ↓q_orev, ↓q_ocall, ↓q_obi, ↓q_ojoin, ↓q_olc, ↓q_ofs, ↓q_odct, ↓q_lookv, ↓q_looks, ↓q_peek, ↓q_look0, ↓q_look1, ↓q_set, ↓q_bnm, ↓q_btp, ↓q_sets0, ↓q_sets1, ↓q_par0, ↓q_par1, ↓q_own, ↓q_appV, ↓q_extn, ↓q_extl, ↓q_ixr, ↓q_ixt, ↓q_ixl, ↓q_ixs, ↓q_putG, ↓q_add_int, ↓q_add_str, ↓q_add_lst, ↓q_add_tup, ↓q_sub_int, ↓q_mul_int, ↓q_mul_lst, ↓q_mul_tup, ↓q_fdiv_int, ↓q_mod_int, ↓q_pow_int, ↓q_bint, ↓q_bintb, ↓q_blenl, ↓q_blent, ↓q_blens, ↓q_bstri, ↓q_bstrs, ↓q_blistl, ↓q_blistt, ↓q_btupl, ↓q_btupt, ↓q_bmin, ↓q_bmax, ↓q_fmts, ↓q_fmti, ↓q_asg, ↓q_parS, ↓q_put, ↓q_ex, ↓q_iff, ↓q_for, ↓q_retV, ↓q_rcst, ↓q_rtup, ↓q_rlst, ↓q_rbin, ↓q_rcmp, ↓q_rneg, ↓q_rnt, ↓q_ran, ↓q_rorr, ↓q_rite, ↓q_ridx, ↓q_rslc, ↓q_rrev, ↓q_rcall, ↓q_rbi, ↓q_rjoin, ↓q_rlc, ↓q_rfs, ↓q_rdct, ↓q_retN, ↓q_pas, ↓q_brk, ↓q_cnt, ↓q_exs0, ↓q_exs1, q_add_int, q_add_str, q_add_lst, q_add_tup, q_sub_int, q_mul_int, q_mul_lst, q_mul_tup, q_fdiv_int, q_mod_int, q_pow_int, q_bint, q_bintb, q_blenl, q_blent, q_blens, q_bstri, q_bstrs, q_blistl, q_blistt, q_btupl, q_btupt, q_bmin, q_bmax, q_fmts, q_fmti, backG_mk, pushG_mk, wipe_nil, wipe_cons, back_nil, back_cons, noOwn_nil, slots_nm, slots_tp, pv_val, pv_new, slot_val, slot_new, asInt_int, truV_bl, truV_int, cmpV_eq, cmpV_ne, cmpV_lt, cmpV_le, cmpV_gt, cmpV_ge, eqV_int, eqV_str, items_l, items_t, items_f, slcV_lst, slcV_tup, slcV_fz, revV_tup, revV_lst, idxV_lst, idxV_tup, noOwn_cons, at0, at1, at2, at3, Nxt_nx, Nxt_ret, Nxt_brk, Nxt_cnt, Turn_nx, Turn_cnt, Turn_brk, Turn_ret, Fin'_ret, Fin'_nx, List.getElem?_cons_zero, List.getElem?_cons_succ, List.set_cons_zero, List.set_cons_succ, List.getD_cons_zero, List.getD_cons_succ, List.length_cons, List.length_nil, List.map_cons, List.map_nil, List.cons_append, List.nil_append, List.replicate_succ, List.replicate_zero, Option.map_some, Option.some.injEq, Bool.not_true, Bool.not_false, Bool.and_self, Bool.and_true, Bool.true_and, Bool.false_eq_true, Bool.true_eq_false, if_true, if_false, ite_true, ite_false, reduceIte, true_and, and_true, Nat.reduceAdd, Nat.reduceSub, Nat.reduceLT, Nat.reduceLeDiff, Nat.reducePow, Int.reducePow, Int.reduceToNat, Int.reduceLE, Int.reduceLT, Int.reduceNeg, decide_true, decide_false, Ev.sizeLine_eq, rgOk_eq, Nat.lt_add_left_iff_pos, Nat.zero_lt_succ, Nat.succ_pos, Nat.zero_add, true_or, or_true, Nat.reduceMul, Nat.add_zero, Nat.zero_le, Nat.le_refl]
    exact ⟨F, _, rfl, by omega, ht⟩
theorem len_map {α : Type} {xs : List α} {f : α → PV} : (xs.map f).length = xs.length := by simp
/-- a reading -/
theorem get_ok (k : Nat) {hp : List Cell} (F : Fd hp) {b : Base} (hb : BaseOk b) {known : List Str} (h1 : 1 ≤ known.length) (h2 : known.length ≤ 100) (h3 : ∀ w ∈ known, Tx 12 w) {tag : Str} (ht : Tx 12 tag) :
    Gives (calls table (k + 4) 12 [.ref 0, bPV b, .lst (known.map PV.str), .str tag] [] hp) fun r hp => Fd hp ∧ ∃ x, r = .val (rPV x) ∧ RdOk x := by
  refine gives_run (c := calls table (k + 3)) (d := d_l_any_get) (as := [.ref 0, bPV b, .lst (known.map PV.str), .str tag]) rfl ?_
  obtain ⟨ways, guard, last⟩ := b
  have b1 : 1 ≤ ways := hb.lo
  have b2 : ways ≤ 2 := hb.hi
  have hk := AllTx.map h3
  have hl : (known.map PV.str).length = known.length := by simp
  generalize known.map PV.str = L at *
  cases guard <;> cases last
  all_goals
    simp only [d_l_any_get, bPV, ↓q_ok, ↓q_some, ↓q_cst, ↓q_var, ↓q_tup, ↓q_lst, ↓q_bin, ↓q_cmp, ↓q_neg, ↓q_nt, ↓q_an, ↓q_orr, ↓q_ite, ↓q_idx, ↓q_slc, ↓q_rev, ↓q_call, ↓q_bi, ↓q_join, ↓q_app, ↓q_ext, ↓q_lc, ↓q_fs, ↓q_dct, ↓q_evs0, ↓q_evs1, ↓q_opds0, ↓q_opds1, ↓q_no, ↓q_so, ↓q_it, ↓q_rg1, ↓q_rg2, ↓q_tno, ↓q_tso, ↓q_evf0, ↓q_evf1, ↓q_tnt, ↓q_tan, ↓q_tor, ↓q_tite, ↓q_tvar, ↓q_tcst, ↓q_tcmp, ↓q_tidx, ↓q_tcall, ↓q_tbi, ↓q_tslc, ↓q_ovar, ↓q_ocst, ↓q_otup, ↓q_olst, ↓q_obin, ↓q_ocmp, ↓q_oneg, ↓q_ont, ↓q_oan, ↓q_oorr, ↓q_oite, ↓q_oidx, ↓q_oslc, ↓q_orev, ↓q_ocall, ↓q_obi, ↓q_ojoin, ↓q_olc, ↓q_ofs, ↓q_odct, ↓q_lookv, ↓q_looks, ↓q_peek, ↓q_look0, ↓q_look1, ↓q_set, ↓q_bnm, ↓q_btp, ↓q_sets0, ↓q_sets1, ↓q_par0, ↓q_par1, ↓q_own, ↓q_appV, ↓q_extn, ↓q_extl, ↓q_ixr, ↓q_ixt, ↓q_ixl, ↓q_ixs, ↓q_putG, ↓q_add_int, ↓q_add_str, ↓q_add_lst, ↓q_add_tup, ↓q_sub_int, ↓q_mul_int, ↓q_mul_lst, ↓q_mul_tup, ↓q_fdiv_int, ↓q_mod_int, ↓q_pow_int, ↓q_bint, ↓q_bintb, ↓q_blenl, ↓q_blent, ↓q_blens, ↓q_bstri, ↓q_bstrs, ↓q_blistl, ↓q_blistt, ↓q_btupl, ↓q_btupt, ↓q_bmin, ↓q_bmax, ↓q_fmts, ↓q_fmti, ↓q_asg, ↓q_parS, ↓q_put, ↓q_ex, ↓q_iff, ↓q_for, ↓q_retV, ↓q_rcst, ↓q_rtup, ↓q_rlst, ↓q_rbin, ↓q_rcmp, ↓q_rneg, ↓q_rnt, ↓q_ran, ↓q_rorr, ↓q_rite, ↓q_ridx, ↓q_rslc, ↓q_rrev, ↓q_rcall, ↓q_rbi, ↓q_rjoin, ↓q_rlc, ↓q_rfs, ↓q_rdct, ↓q_retN, ↓q_pas, ↓q_brk, ↓q_cnt, ↓q_exs0, ↓q_exs1, q_add_int, q_add_str, q_add_lst, q_add_tup, q_sub_int, q_mul_int, q_mul_lst, q_mul_tup, q_fdiv_int, q_mod_int, q_pow_int, q_bint, q_bintb, q_blenl, q_blent, q_blens, q_bstri, q_bstrs, q_blistl, q_blistt, q_btupl, q_btupt, q_bmin, q_bmax, q_fmts, q_fmti, backG_mk, pushG_mk, wipe_nil, wipe_cons, back_nil, back_cons, noOwn_nil, slots_nm, slots_tp, pv_val, pv_new, slot_val, slot_new, asInt_int, truV_bl, truV_int, cmpV_eq, cmpV_ne, cmpV_lt, cmpV_le, cmpV_gt, cmpV_ge, eqV_int, eqV_str, items_l, items_t, items_f, slcV_lst, slcV_tup, slcV_fz, revV_tup, revV_lst, idxV_lst, idxV_tup, noOwn_cons, at0, at1, at2, at3, Nxt_nx, Nxt_ret, Nxt_brk, Nxt_cnt, Turn_nx, Turn_cnt, Turn_brk, Turn_ret, Fin'_ret, Fin'_nx, List.getElem?_cons_zero, List.getElem?_cons_succ, List.set_cons_zero, List.set_cons_succ, List.getD_cons_zero, List.getD_cons_succ, List.length_cons, List.length_nil, List.map_cons, List.map_nil, List.cons_append, List.nil_append, List.replicate_succ, List.replicate_zero, Option.map_some, Option.some.injEq, Bool.not_true, Bool.not_false, Bool.and_self, Bool.and_true, Bool.true_and, Bool.false_eq_true, Bool.true_eq_false, if_true, if_false, ite_true, ite_false, reduceIte, true_and, and_true, Nat.reduceAdd, Nat.reduceSub, Nat.reduceLT, Nat.reduceLeDiff, Nat.reducePow, Int.reducePow, Int.reduceToNat, Int.reduceLE, Int.reduceLT, Int.reduceNeg, decide_true, decide_false, Ev.sizeLine_eq, rgOk_eq, Nat.lt_add_left_iff_pos, Nat.zero_lt_succ, Nat.succ_pos, Nat.zero_add, true_or, or_true, Nat.reduceMul, Nat.add_zero, Nat.zero_le, Nat.le_refl]
    refine ⟨by ((try simp only [List.length_append, List.length_cons, List.length_nil, List.length_take, List.length_map, List.length_reverse]); omega), by ((try simp only [List.length_append, List.length_cons, List.length_nil, List.length_take, List.length_map, List.length_reverse]); omega), ?_⟩
    refine Ok_callW (any_ok (k + 1) F (by ((try simp only [List.length_append, List.length_cons, List.length_nil, List.length_take, List.length_map, List.length_reverse]); omega)) (by ((try simp only [List.length_append, List.length_cons, List.length_nil, List.length_take, List.length_map, List.length_reverse]); omega))) fun r hp1 ⟨F1, y, hy, hr⟩ => ?_
    subst hr
    obtain ⟨w0, rfl, t0⟩ := ((hk.app (.lit (by decide +kernel))).app (.lit (by decide +kernel))) y hy
    simp only [↓q_ok, ↓q_some, ↓q_cst, ↓q_var, ↓q_tup, ↓q_lst, ↓q_bin, ↓q_cmp, ↓q_neg, ↓q_nt, ↓q_an, ↓q_orr, ↓q_ite, ↓q_idx, ↓q_slc, ↓q_rev, ↓q_call, ↓q_bi, ↓q_join, ↓q_app, ↓q_ext, ↓q_lc, ↓q_fs, ↓q_dct, ↓q_evs0, ↓q_evs1, ↓q_opds0, ↓q_opds1, ↓q_no, ↓q_so, ↓q_it, ↓q_rg1, ↓q_rg2, ↓q_tno, ↓q_tso, ↓q_evf0, ↓q_evf1, ↓q_tnt, ↓q_tan, ↓q_tor, ↓q_tite, ↓q_tvar, ↓q_tcst, ↓q_tcmp, ↓q_tidx, ↓q_tcall, ↓q_tbi, ↓q_tslc, ↓q_ovar, ↓q_ocst, ↓q_otup, ↓q_olst, ↓q_obin, ↓q_ocmp, ↓q_oneg, ↓q_ont, ↓q_oan, ↓q_oorr, ↓q_oite, ↓q_oidx, ↓q_oslc, ↓q_orev, ↓q_ocall, ↓q_obi, ↓q_ojoin, ↓q_olc, ↓q_ofs, ↓q_odct, ↓q_lookv, ↓q_looks, ↓q_peek, ↓q_look0, ↓q_look1, ↓q_set, ↓q_bnm, ↓q_btp, ↓q_sets0, ↓q_sets1, ↓q_par0, ↓q_par1, ↓q_own, ↓q_appV, ↓q_extn, ↓q_extl, ↓q_ixr, ↓q_ixt, ↓q_ixl, ↓q_ixs, ↓q_putG, ↓q_add_int, ↓q_add_str, ↓q_add_lst, ↓q_add_tup, ↓q_sub_int, ↓q_mul_int, ↓q_mul_lst, ↓q_mul_tup, ↓q_fdiv_int, ↓q_mod_int, ↓q_pow_int, ↓q_bint, ↓q_bintb, ↓q_blenl, ↓q_blent, ↓q_blens, ↓q_bstri, ↓q_bstrs, ↓q_blistl, ↓q_blistt, ↓q_btupl, ↓q_btupt, ↓q_bmin, ↓q_bmax, ↓q_fmts, ↓q_fmti, ↓q_asg, ↓q_parS, ↓q_put, ↓q_ex, ↓q_iff, ↓q_for, ↓q_retV, ↓q_rcst, ↓q_rtup, ↓q_rlst, ↓q_rbin, ↓q_rcmp, ↓q_rneg, ↓q_rnt, ↓q_ran, ↓q_rorr, ↓q_rite, ↓q_ridx, ↓q_rslc, ↓q_rrev, ↓q_rcall, ↓q_rbi, ↓q_rjoin, ↓q_rlc, ↓q_rfs, ↓q_rdct, ↓q_retN, ↓q_pas, ↓q_brk, ↓q_cnt, ↓q_exs0, ↓q_exs1, q_add_int, q_add_str, q_add_lst, q_add_tup, q_sub_int, q_mul_int, q_mul_lst, q_mul_tup, q_fdiv_int, q_mod_int, q_pow_int, q_bint, q_bintb, q_blenl, q_blent, q_blens, q_bstri, q_bstrs, q_blistl, q_blistt, q_btupl, q_btupt, q_bmin, q_bmax, q_fmts, q_fmti, backG_mk, pushG_mk, wipe_nil, wipe_cons, back_nil, back_cons, noOwn_nil, slots_nm, slots_tp, pv_val, pv_new, slot_val, slot_new, asInt_int, truV_bl, truV_int, cmpV_eq, cmpV_ne, cmpV_lt, cmpV_le, cmpV_gt, cmpV_ge, eqV_int, eqV_str, items_l, items_t, items_f, slcV_lst, slcV_tup, slcV_fz, revV_tup, revV_lst, idxV_lst, idxV_tup, noOwn_cons, at0, at1, at2, at3, Nxt_nx, Nxt_ret, Nxt_brk, Nxt_cnt, Turn_nx, Turn_cnt, Turn_brk, Turn_ret, Fin'_ret, Fin'_nx, List.getElem?_cons_zero, List.getElem?_cons_succ, List.set_cons_zero, List.set_cons_succ, List.getD_cons_zero, List.getD_cons_succ, List.length_cons, List.length_nil, List.map_cons, List.map_nil, List.cons_append, List.nil_append, List.replicate_succ, List.replicate_zero, Option.map_some, Option.some.injEq, Bool.not_true, Bool.not_false, Bool.and_self, Bool.and_true, Bool.true_and, Bool.false_eq_true, Bool.true_eq_false, if_true, if_false, ite_true, ite_false, reduceIte, true_and, and_true, Nat.reduceAdd, Nat.reduceSub, Nat.reduceLT, Nat.reduceLeDiff, Nat.reducePow, Int.reducePow, Int.reduceToNat, Int.reduceLE, Int.reduceLT, Int.reduceNeg, decide_true, decide_false, Ev.sizeLine_eq, rgOk_eq, Nat.lt_add_left_iff_pos, Nat.zero_lt_succ, Nat.succ_pos, Nat.zero_add, true_or, or_true, Nat.reduceMul, Nat.add_zero, Nat.zero_le, Nat.le_refl]
    refine Ok_callW (any_ok (k + 1) F1 (by decide) (by decide)) fun r hp2 ⟨F2, y, hy, hr⟩ => ?_
    subst hr
    obtain ⟨n, rfl, n0, n1⟩ := intP_of (lo := 0) (hi := 3) (by decide +kernel) hy
    simp only [↓q_ok, ↓q_some, ↓q_cst, ↓q_var, ↓q_tup, ↓q_lst, ↓q_bin, ↓q_cmp, ↓q_neg, ↓q_nt, ↓q_an, ↓q_orr, ↓q_ite, ↓q_idx, ↓q_slc, ↓q_rev, ↓q_call, ↓q_bi, ↓q_join, ↓q_app, ↓q_ext, ↓q_lc, ↓q_fs, ↓q_dct, ↓q_evs0, ↓q_evs1, ↓q_opds0, ↓q_opds1, ↓q_no, ↓q_so, ↓q_it, ↓q_rg1, ↓q_rg2, ↓q_tno, ↓q_tso, ↓q_evf0, ↓q_evf1, ↓q_tnt, ↓q_tan, ↓q_tor, ↓q_tite, ↓q_tvar, ↓q_tcst, ↓q_tcmp, ↓q_tidx, ↓q_tcall, ↓q_tbi, ↓q_tslc, ↓q_ovar, ↓q_ocst, ↓q_otup, ↓q_olst, ↓q_obin, ↓q_ocmp, ↓q_oneg, ↓q_ont, ↓q_oan, ↓q_oorr, ↓q_oite, ↓q_oidx, ↓q_oslc, ↓q_orev, ↓q_ocall, ↓q_obi, ↓q_ojoin, ↓q_olc, ↓q_ofs, ↓q_odct, ↓q_lookv, ↓q_looks, ↓q_peek, ↓q_look0, ↓q_look1, ↓q_set, ↓q_bnm, ↓q_btp, ↓q_sets0, ↓q_sets1, ↓q_par0, ↓q_par1, ↓q_own, ↓q_appV, ↓q_extn, ↓q_extl, ↓q_ixr, ↓q_ixt, ↓q_ixl, ↓q_ixs, ↓q_putG, ↓q_add_int, ↓q_add_str, ↓q_add_lst, ↓q_add_tup, ↓q_sub_int, ↓q_mul_int, ↓q_mul_lst, ↓q_mul_tup, ↓q_fdiv_int, ↓q_mod_int, ↓q_pow_int, ↓q_bint, ↓q_bintb, ↓q_blenl, ↓q_blent, ↓q_blens, ↓q_bstri, ↓q_bstrs, ↓q_blistl, ↓q_blistt, ↓q_btupl, ↓q_btupt, ↓q_bmin, ↓q_bmax, ↓q_fmts, ↓q_fmti, ↓q_asg, ↓q_parS, ↓q_put, ↓q_ex, ↓q_iff, ↓q_for, ↓q_retV, ↓q_rcst, ↓q_rtup, ↓q_rlst, ↓q_rbin, ↓q_rcmp, ↓q_rneg, ↓q_rnt, ↓q_ran, ↓q_rorr, ↓q_rite, ↓q_ridx, ↓q_rslc, ↓q_rrev, ↓q_rcall, ↓q_rbi, ↓q_rjoin, ↓q_rlc, ↓q_rfs, ↓q_rdct, ↓q_retN, ↓q_pas, ↓q_brk, ↓q_cnt, ↓q_exs0, ↓q_exs1, q_add_int, q_add_str, q_add_lst, q_add_tup, q_sub_int, q_mul_int, q_mul_lst, q_mul_tup, q_fdiv_int, q_mod_int, q_pow_int, q_bint, q_bintb, q_blenl, q_blent, q_blens, q_bstri, q_bstrs, q_blistl, q_blistt, q_btupl, q_btupt, q_bmin, q_bmax, q_fmts, q_fmti, backG_mk, pushG_mk, wipe_nil, wipe_cons, back_nil, back_cons, noOwn_nil, slots_nm, slots_tp, pv_val, pv_new, slot_val, slot_new, asInt_int, truV_bl, truV_int, cmpV_eq, cmpV_ne, cmpV_lt, cmpV_le, cmpV_gt, cmpV_ge, eqV_int, eqV_str, items_l, items_t, items_f, slcV_lst, slcV_tup, slcV_fz, revV_tup, revV_lst, idxV_lst, idxV_tup, noOwn_cons, at0, at1, at2, at3, Nxt_nx, Nxt_ret, Nxt_brk, Nxt_cnt, Turn_nx, Turn_cnt, Turn_brk, Turn_ret, Fin'_ret, Fin'_nx, List.getElem?_cons_zero, List.getElem?_cons_succ, List.set_cons_zero, List.set_cons_succ, List.getD_cons_zero, List.getD_cons_succ, List.length_cons, List.length_nil, List.map_cons, List.map_nil, List.cons_append, List.nil_append, List.replicate_succ, List.replicate_zero, Option.map_some, Option.some.injEq, Bool.not_true, Bool.not_false, Bool.and_self, Bool.and_true, Bool.true_and, Bool.false_eq_true, Bool.true_eq_false, if_true, if_false, ite_true, ite_false, reduceIte, true_and, and_true, Nat.reduceAdd, Nat.reduceSub, Nat.reduceLT, Nat.reduceLeDiff, Nat.reducePow, Int.reducePow, Int.reduceToNat, Int.reduceLE, Int.reduceLT, Int.reduceNeg, decide_true, decide_false, Ev.sizeLine_eq, rgOk_eq, Nat.lt_add_left_iff_pos, Nat.zero_lt_succ, Nat.succ_pos, Nat.zero_add, true_or, or_true, Nat.reduceMul, Nat.add_zero, Nat.zero_le, Nat.le_refl]
    refine ⟨by omega, ?_⟩
    refine for_sl (β := List Str × Slot) (fun b sl => (sl.set 5 (.val (.tup (b.1.map PV.str)))).set 6 b.2) (fun i b hp => Fd hp ∧ b.1.length = i + 1 ∧ i ≤ 3 ∧ ∀ w ∈ b.1, Tx 12 w) ([w0], .no) rfl ⟨F2, rfl, by omega, fun w hw => by
      rw [List.mem_singleton] at hw
      subst hw
      exact t0⟩ (fun i x b hp hx ⟨F, hb, hi, ht⟩ => ?_) fun b hp ⟨F, hb, hi, ht'⟩ => ?_
    · obtain ⟨rfl, hi2⟩ := rg_get hx
      obtain ⟨ps, s6⟩ := b
      simp only [↓q_ok, ↓q_some, ↓q_cst, ↓q_var, ↓q_tup, ↓q_lst, ↓q_bin, ↓q_cmp, ↓q_neg, ↓q_nt, ↓q_an, ↓q_orr, ↓q_ite, ↓q_idx, ↓q_slc, ↓q_rev, ↓q_call, ↓q_bi, ↓q_join, ↓q_app, ↓q_ext, ↓q_lc, ↓q_fs, ↓q_dct, ↓q_evs0, ↓q_evs1, ↓q_opds0, ↓q_opds1, ↓q_no, ↓q_so, ↓q_it, ↓q_rg1, ↓q_rg2, ↓q_tno, ↓q_tso, ↓q_evf0, ↓q_evf1, ↓q_tnt, ↓q_tan, ↓q_tor, ↓q_tite, ↓q_tvar, ↓q_tcst, ↓q_tcmp, ↓q_tidx, ↓q_tcall, ↓q_tbi, ↓q_tslc, ↓q_ovar, ↓q_ocst, ↓q_otup, ↓q_olst, ↓q_obin, ↓q_ocmp, ↓q_oneg, ↓q_ont, ↓q_oan, ↓q_oorr, ↓q_oite, ↓q_oidx, ↓q_oslc, ↓q_orev, ↓q_ocall, ↓q_obi, ↓q_ojoin, ↓q_olc, ↓q_ofs, ↓q_odct, ↓q_lookv, ↓q_looks, ↓q_peek, ↓q_look0, ↓q_look1, ↓q_set, ↓q_bnm, ↓q_btp, ↓q_sets0, ↓q_sets1, ↓q_par0, ↓q_par1, ↓q_own, ↓q_appV, ↓q_extn, ↓q_extl, ↓q_ixr, ↓q_ixt, ↓q_ixl, ↓q_ixs, ↓q_putG, ↓q_add_int, ↓q_add_str, ↓q_add_lst, ↓q_add_tup, ↓q_sub_int, ↓q_mul_int, ↓q_mul_lst, ↓q_mul_tup, ↓q_fdiv_int, ↓q_mod_int, ↓q_pow_int, ↓q_bint, ↓q_bintb, ↓q_blenl, ↓q_blent, ↓q_blens, ↓q_bstri, ↓q_bstrs, ↓q_blistl, ↓q_blistt, ↓q_btupl, ↓q_btupt, ↓q_bmin, ↓q_bmax, ↓q_fmts, ↓q_fmti, ↓q_asg, ↓q_parS, ↓q_put, ↓q_ex, ↓q_iff, ↓q_for, ↓q_retV, ↓q_rcst, ↓q_rtup, ↓q_rlst, ↓q_rbin, ↓q_rcmp, ↓q_rneg, ↓q_rnt, ↓q_ran, ↓q_rorr, ↓q_rite, ↓q_ridx, ↓q_rslc, ↓q_rrev, ↓q_rcall, ↓q_rbi, ↓q_rjoin, ↓q_rlc, ↓q_rfs, ↓q_rdct, ↓q_retN, ↓q_pas, ↓q_brk, ↓q_cnt, ↓q_exs0, ↓q_exs1, q_add_int, q_add_str, q_add_lst, q_add_tup, q_sub_int, q_mul_int, q_mul_lst, q_mul_tup, q_fdiv_int, q_mod_int, q_pow_int, q_bint, q_bintb, q_blenl, q_blent, q_blens, q_bstri, q_bstrs, q_blistl, q_blistt, q_btupl, q_btupt, q_bmin, q_bmax, q_fmts, q_fmti, backG_mk, pushG_mk, wipe_nil, wipe_cons, back_nil, back_cons, noOwn_nil, slots_nm, slots_tp, pv_val, pv_new, slot_val, slot_new, asInt_int, truV_bl, truV_int, cmpV_eq, cmpV_ne, cmpV_lt, cmpV_le, cmpV_gt, cmpV_ge, eqV_int, eqV_str, items_l, items_t, items_f, slcV_lst, slcV_tup, slcV_fz, revV_tup, revV_lst, idxV_lst, idxV_tup, noOwn_cons, at0, at1, at2, at3, Nxt_nx, Nxt_ret, Nxt_brk, Nxt_cnt, Turn_nx, Turn_cnt, Turn_brk, Turn_ret, Fin'_ret, Fin'_nx, List.getElem?_cons_zero, List.getElem?_cons_succ, List.set_cons_zero, List.set_cons_succ, List.getD_cons_zero, List.getD_cons_succ, List.length_cons, List.length_nil, List.map_cons, List.map_nil, List.cons_append, List.nil_append, List.replicate_succ, List.replicate_zero, Option.map_some, Option.some.injEq, Bool.not_true, Bool.not_false, Bool.and_self, Bool.and_true, Bool.true_and, Bool.false_eq_true, Bool.true_eq_false, if_true, if_false, ite_true, ite_false, reduceIte, true_and, and_true, Nat.reduceAdd, Nat.reduceSub, Nat.reduceLT, Nat.reduceLeDiff, Nat.reducePow, Int.reducePow, Int.reduceToNat, Int.reduceLE, Int.reduceLT, Int.reduceNeg, decide_true, decide_false, Ev.sizeLine_eq, rgOk_eq, Nat.lt_add_left_iff_pos, Nat.zero_lt_succ, Nat.succ_pos, Nat.zero_add, true_or, or_true, Nat.reduceMul, Nat.add_zero, Nat.zero_le, Nat.le_refl]
      rw [cut_to (by omega)]
      refine Ok_callW (any_ok (k + 1) F (by ((try simp only [List.length_append, List.length_cons, List.length_nil, List.length_take, List.length_map, List.length_reverse]); omega)) (by ((try simp only [List.length_append, List.length_cons, List.length_nil, List.length_take, List.length_map, List.length_reverse]); omega))) fun r hp3 ⟨F3, y, hy, hr⟩ => ?_
      subst hr
      obtain ⟨w1, rfl, t1⟩ := (AllTx.lit (n := 12) (by decide +kernel)).take _ y hy
      simp only [↓q_ok, ↓q_some, ↓q_cst, ↓q_var, ↓q_tup, ↓q_lst, ↓q_bin, ↓q_cmp, ↓q_neg, ↓q_nt, ↓q_an, ↓q_orr, ↓q_ite, ↓q_idx, ↓q_slc, ↓q_rev, ↓q_call, ↓q_bi, ↓q_join, ↓q_app, ↓q_ext, ↓q_lc, ↓q_fs, ↓q_dct, ↓q_evs0, ↓q_evs1, ↓q_opds0, ↓q_opds1, ↓q_no, ↓q_so, ↓q_it, ↓q_rg1, ↓q_rg2, ↓q_tno, ↓q_tso, ↓q_evf0, ↓q_evf1, ↓q_tnt, ↓q_tan, ↓q_tor, ↓q_tite, ↓q_tvar, ↓q_tcst, ↓q_tcmp, ↓q_tidx, ↓q_tcall, ↓q_tbi, ↓q_tslc, ↓q_ovar, ↓q_ocst, ↓q_otup, ↓q_olst, ↓q_obin, ↓q_ocmp, ↓q_oneg, ↓q_ont, ↓q_oan, ↓q_oorr, ↓q_oite, ↓q_oidx, ↓q_oslc, ↓q_orev, ↓q_ocall, ↓q_obi, ↓q_ojoin, ↓q_olc, ↓q_ofs, ↓q_odct, ↓q_lookv, ↓q_looks, ↓q_peek, ↓q_look0, ↓q_look1, ↓q_set, ↓q_bnm, ↓q_btp, ↓q_sets0, ↓q_sets1, ↓q_par0, ↓q_par1, ↓q_own, ↓q_appV, ↓q_extn, ↓q_extl, ↓q_ixr, ↓q_ixt, ↓q_ixl, ↓q_ixs, ↓q_putG, ↓q_add_int, ↓q_add_str, ↓q_add_lst, ↓q_add_tup, ↓q_sub_int, ↓q_mul_int, ↓q_mul_lst, ↓q_mul_tup, ↓q_fdiv_int, ↓q_mod_int, ↓q_pow_int, ↓q_bint, ↓q_bintb, ↓q_blenl, ↓q_blent, ↓q_blens, ↓q_bstri, ↓q_bstrs, ↓q_blistl, ↓q_blistt, ↓q_btupl, ↓q_btupt, ↓q_bmin, ↓q_bmax, ↓q_fmts, ↓q_fmti, ↓q_asg, ↓q_parS, ↓q_put, ↓q_ex, ↓q_iff, ↓q_for, ↓q_retV, ↓q_rcst, ↓q_rtup, ↓q_rlst, ↓q_rbin, ↓q_rcmp, ↓q_rneg, ↓q_rnt, ↓q_ran, ↓q_rorr, ↓q_rite, ↓q_ridx, ↓q_rslc, ↓q_rrev, ↓q_rcall, ↓q_rbi, ↓q_rjoin, ↓q_rlc, ↓q_rfs, ↓q_rdct, ↓q_retN, ↓q_pas, ↓q_brk, ↓q_cnt, ↓q_exs0, ↓q_exs1, q_add_int, q_add_str, q_add_lst, q_add_tup, q_sub_int, q_mul_int, q_mul_lst, q_mul_tup, q_fdiv_int, q_mod_int, q_pow_int, q_bint, q_bintb, q_blenl, q_blent, q_blens, q_bstri, q_bstrs, q_blistl, q_blistt, q_btupl, q_btupt, q_bmin, q_bmax, q_fmts, q_fmti, backG_mk, pushG_mk, wipe_nil, wipe_cons, back_nil, back_cons, noOwn_nil, slots_nm, slots_tp, pv_val, pv_new, slot_val, slot_new, asInt_int, truV_bl, truV_int, cmpV_eq, cmpV_ne, cmpV_lt, cmpV_le, cmpV_gt, cmpV_ge, eqV_int, eqV_str, items_l, items_t, items_f, slcV_lst, slcV_tup, slcV_fz, revV_tup, revV_lst, idxV_lst, idxV_tup, noOwn_cons, at0, at1, at2, at3, Nxt_nx, Nxt_ret, Nxt_brk, Nxt_cnt, Turn_nx, Turn_cnt, Turn_brk, Turn_ret, Fin'_ret, Fin'_nx, List.getElem?_cons_zero, List.getElem?_cons_succ, List.set_cons_zero, List.set_cons_succ, List.getD_cons_zero, List.getD_cons_succ, List.length_cons, List.length_nil, List.map_cons, List.map_nil, List.cons_append, List.nil_append, List.replicate_succ, List.replicate_zero, Option.map_some, Option.some.injEq, Bool.not_true, Bool.not_false, Bool.and_self, Bool.and_true, Bool.true_and, Bool.false_eq_true, Bool.true_eq_false, if_true, if_false, ite_true, ite_false, reduceIte, true_and, and_true, Nat.reduceAdd, Nat.reduceSub, Nat.reduceLT, Nat.reduceLeDiff, Nat.reducePow, Int.reducePow, Int.reduceToNat, Int.reduceLE, Int.reduceLT, Int.reduceNeg, decide_true, decide_false, Ev.sizeLine_eq, rgOk_eq, Nat.lt_add_left_iff_pos, Nat.zero_lt_succ, Nat.succ_pos, Nat.zero_add, true_or, or_true, Nat.reduceMul, Nat.add_zero, Nat.zero_le, Nat.le_refl]
      refine ⟨by simp at hb; simp; omega, (ps ++ [w1], _), by simp only [List.map_append, List.map_cons, List.map_nil]; rfl, F3, by simp at hb ⊢; omega, by omega, fun w hw => ?_⟩
      rcases List.mem_append.mp hw with q | q
      · exact ht w q
      · rw [List.mem_singleton] at q
        subst q
        exact t1
    · simp only [↓q_ok, ↓q_some, ↓q_cst, ↓q_var, ↓q_tup, ↓q_lst, ↓q_bin, ↓q_cmp, ↓q_neg, ↓q_nt, ↓q_an, ↓q_orr, ↓q_ite, ↓q_idx, ↓q_slc, ↓q_rev, ↓q_call, ↓q_bi, ↓q_join, ↓q_app, ↓q_ext, ↓q_lc, ↓q_fs, ↓q_dct, ↓q_evs0, ↓q_evs1, ↓q_opds0, ↓q_opds1, ↓q_no, ↓q_so, ↓q_it, ↓q_rg1, ↓q_rg2, ↓q_tno, ↓q_tso, ↓q_evf0, ↓q_evf1, ↓q_tnt, ↓q_tan, ↓q_tor, ↓q_tite, ↓q_tvar, ↓q_tcst, ↓q_tcmp, ↓q_tidx, ↓q_tcall, ↓q_tbi, ↓q_tslc, ↓q_ovar, ↓q_ocst, ↓q_otup, ↓q_olst, ↓q_obin, ↓q_ocmp, ↓q_oneg, ↓q_ont, ↓q_oan, ↓q_oorr, ↓q_oite, ↓q_oidx, ↓q_oslc, ↓q_orev, ↓q_ocall, ↓q_obi, ↓q_ojoin, ↓q_olc, ↓q_ofs, ↓q_odct, ↓q_lookv, ↓q_looks, ↓q_peek, ↓q_look0, ↓q_look1, ↓q_set, ↓q_bnm, ↓q_btp, ↓q_sets0, ↓q_sets1, ↓q_par0, ↓q_par1, ↓q_own, ↓q_appV, ↓q_extn, ↓q_extl, ↓q_ixr, ↓q_ixt, ↓q_ixl, ↓q_ixs, ↓q_putG, ↓q_add_int, ↓q_add_str, ↓q_add_lst, ↓q_add_tup, ↓q_sub_int, ↓q_mul_int, ↓q_mul_lst, ↓q_mul_tup, ↓q_fdiv_int, ↓q_mod_int, ↓q_pow_int, ↓q_bint, ↓q_bintb, ↓q_blenl, ↓q_blent, ↓q_blens, ↓q_bstri, ↓q_bstrs, ↓q_blistl, ↓q_blistt, ↓q_btupl, ↓q_btupt, ↓q_bmin, ↓q_bmax, ↓q_fmts, ↓q_fmti, ↓q_asg, ↓q_parS, ↓q_put, ↓q_ex, ↓q_iff, ↓q_for, ↓q_retV, ↓q_rcst, ↓q_rtup, ↓q_rlst, ↓q_rbin, ↓q_rcmp, ↓q_rneg, ↓q_rnt, ↓q_ran, ↓q_rorr, ↓q_rite, ↓q_ridx, ↓q_rslc, ↓q_rrev, ↓q_rcall, ↓q_rbi, ↓q_rjoin, ↓q_rlc, ↓q_rfs, ↓q_rdct, ↓q_retN, ↓q_pas, ↓q_brk, ↓q_cnt, ↓q_exs0, ↓q_exs1, q_add_int, q_add_str, q_add_lst, q_add_tup, q_sub_int, q_mul_int, q_mul_lst, q_mul_tup, q_fdiv_int, q_mod_int, q_pow_int, q_bint, q_bintb, q_blenl, q_blent, q_blens, q_bstri, q_bstrs, q_blistl, q_blistt, q_btupl, q_btupt, q_bmin, q_bmax, q_fmts, q_fmti, backG_mk, pushG_mk, wipe_nil, wipe_cons, back_nil, back_cons, noOwn_nil, slots_nm, slots_tp, pv_val, pv_new, slot_val, slot_new, asInt_int, truV_bl, truV_int, cmpV_eq, cmpV_ne, cmpV_lt, cmpV_le, cmpV_gt, cmpV_ge, eqV_int, eqV_str, items_l, items_t, items_f, slcV_lst, slcV_tup, slcV_fz, revV_tup, revV_lst, idxV_lst, idxV_tup, noOwn_cons, at0, at1, at2, at3, Nxt_nx, Nxt_ret, Nxt_brk, Nxt_cnt, Turn_nx, Turn_cnt, Turn_brk, Turn_ret, Fin'_ret, Fin'_nx, List.getElem?_cons_zero, List.getElem?_cons_succ, List.set_cons_zero, List.set_cons_succ, List.getD_cons_zero, List.getD_cons_succ, List.length_cons, List.length_nil, List.map_cons, List.map_nil, List.cons_append, List.nil_append, List.replicate_succ, List.replicate_zero, Option.map_some, Option.some.injEq, Bool.not_true, Bool.not_false, Bool.and_self, Bool.and_true, Bool.true_and, Bool.false_eq_true, Bool.true_eq_false, if_true, if_false, ite_true, ite_false, reduceIte, true_and, and_true, Nat.reduceAdd, Nat.reduceSub, Nat.reduceLT, Nat.reduceLeDiff, Nat.reducePow, Int.reducePow, Int.reduceToNat, Int.reduceLE, Int.reduceLT, Int.reduceNeg, decide_true, decide_false, Ev.sizeLine_eq, rgOk_eq, Nat.lt_add_left_iff_pos, Nat.zero_lt_succ, Nat.succ_pos, Nat.zero_add, true_or, or_true, Nat.reduceMul, Nat.add_zero, Nat.zero_le, Nat.le_refl]
      refine ⟨by ((try simp only [List.length_append, List.length_cons, List.length_nil, List.length_take, List.length_map, List.length_reverse]); omega), by ((try simp only [List.length_append, List.length_cons, List.length_nil, List.length_take, List.length_map, List.length_reverse]); omega), ?_⟩
      refine Ok_callW (tests_ok k F (by ((try simp only [List.length_append, List.length_cons, List.length_nil, List.length_take, List.length_map, List.length_reverse]); omega)) (by ((try simp only [List.length_append, List.length_cons, List.length_nil, List.length_take, List.length_map, List.length_reverse]); omega)) ((hk.app (.lit (by decide +kernel))).app (.lit (by decide +kernel)))) fun r hp3 ⟨F3, ts, hr, hts⟩ => ?_
      subst hr
      simp only [↓q_ok, ↓q_some, ↓q_cst, ↓q_var, ↓q_tup, ↓q_lst, ↓q_bin, ↓q_cmp, ↓q_neg, ↓q_nt, ↓q_an, ↓q_orr, ↓q_ite, ↓q_idx, ↓q_slc, ↓q_rev, ↓q_call, ↓q_bi, ↓q_join, ↓q_app, ↓q_ext, ↓q_lc, ↓q_fs, ↓q_dct, ↓q_evs0, ↓q_evs1, ↓q_opds0, ↓q_opds1, ↓q_no, ↓q_so, ↓q_it, ↓q_rg1, ↓q_rg2, ↓q_tno, ↓q_tso, ↓q_evf0, ↓q_evf1, ↓q_tnt, ↓q_tan, ↓q_tor, ↓q_tite, ↓q_tvar, ↓q_tcst, ↓q_tcmp, ↓q_tidx, ↓q_tcall, ↓q_tbi, ↓q_tslc, ↓q_ovar, ↓q_ocst, ↓q_otup, ↓q_olst, ↓q_obin, ↓q_ocmp, ↓q_oneg, ↓q_ont, ↓q_oan, ↓q_oorr, ↓q_oite, ↓q_oidx, ↓q_oslc, ↓q_orev, ↓q_ocall, ↓q_obi, ↓q_ojoin, ↓q_olc, ↓q_ofs, ↓q_odct, ↓q_lookv, ↓q_looks, ↓q_peek, ↓q_look0, ↓q_look1, ↓q_set, ↓q_bnm, ↓q_btp, ↓q_sets0, ↓q_sets1, ↓q_par0, ↓q_par1, ↓q_own, ↓q_appV, ↓q_extn, ↓q_extl, ↓q_ixr, ↓q_ixt, ↓q_ixl, ↓q_ixs, ↓q_putG, ↓q_add_int, ↓q_add_str, ↓q_add_lst, ↓q_add_tup, ↓q_sub_int, ↓q_mul_int, ↓q_mul_lst, ↓q_mul_tup, ↓q_fdiv_int, ↓q_mod_int, ↓q_pow_int, ↓q_bint, ↓q_bintb, ↓q_blenl, ↓q_blent, ↓q_blens, ↓q_bstri, ↓q_bstrs, ↓q_blistl, ↓q_blistt, ↓q_btupl, ↓q_btupt, ↓q_bmin, ↓q_bmax, ↓q_fmts, ↓q_fmti, ↓q_asg, ↓q_parS, ↓q_put, ↓q_ex, ↓q_iff, ↓q_for, ↓q_retV, ↓q_rcst, ↓q_rtup, ↓q_rlst, ↓q_rbin, ↓q_rcmp, ↓q_rneg, ↓q_rnt, ↓q_ran, ↓q_rorr, ↓q_rite, ↓q_ridx, ↓q_rslc, ↓q_rrev, ↓q_rcall, ↓q_rbi, ↓q_rjoin, ↓q_rlc, ↓q_rfs, ↓q_rdct, ↓q_retN, ↓q_pas, ↓q_brk, ↓q_cnt, ↓q_exs0, ↓q_exs1, q_add_int, q_add_str, q_add_lst, q_add_tup, q_sub_int, q_mul_int, q_mul_lst, q_mul_tup, q_fdiv_int, q_mod_int, q_pow_int, q_bint, q_bintb, q_blenl, q_blent, q_blens, q_bstri, q_bstrs, q_blistl, q_blistt, q_btupl, q_btupt, q_bmin, q_bmax, q_fmts, q_fmti, backG_mk, pushG_mk, wipe_nil, wipe_cons, back_nil, back_cons, noOwn_nil, slots_nm, slots_tp, pv_val, pv_new, slot_val, slot_new, asInt_int, truV_bl, truV_int, cmpV_eq, cmpV_ne, cmpV_lt, cmpV_le, cmpV_gt, cmpV_ge, eqV_int, eqV_str, items_l, items_t, items_f, slcV_lst, slcV_tup, slcV_fz, revV_tup, revV_lst, idxV_lst, idxV_tup, noOwn_cons, at0, at1, at2, at3, Nxt_nx, Nxt_ret, Nxt_brk, Nxt_cnt, Turn_nx, Turn_cnt, Turn_brk, Turn_ret, Fin'_ret, Fin'_nx, List.getElem?_cons_zero, List.getElem?_cons_succ, List.set_cons_zero, List.set_cons_succ, List.getD_cons_zero, List.getD_cons_succ, List.length_cons, List.length_nil, List.map_cons, List.map_nil, List.cons_append, List.nil_append, List.replicate_succ, List.replicate_zero, Option.map_some, Option.some.injEq, Bool.not_true, Bool.not_false, Bool.and_self, Bool.and_true, Bool.true_and, Bool.false_eq_true, Bool.true_eq_false, if_true, if_false, ite_true, ite_false, reduceIte, true_and, and_true, Nat.reduceAdd, Nat.reduceSub, Nat.reduceLT, Nat.reduceLeDiff, Nat.reducePow, Int.reducePow, Int.reduceToNat, Int.reduceLE, Int.reduceLT, Int.reduceNeg, decide_true, decide_false, Ev.sizeLine_eq, rgOk_eq, Nat.lt_add_left_iff_pos, Nat.zero_lt_succ, Nat.succ_pos, Nat.zero_add, true_or, or_true, Nat.reduceMul, Nat.add_zero, Nat.zero_le, Nat.le_refl]
      rw [rg_len] at hb
      exact ⟨F3, ⟨tag, b.1, ts⟩, rfl, ht, by show b.1.length ≤ 4; omega, ht', hts⟩
/-- a place to write at -/
def PlaceP (y : PV) : Prop := ∃ ps : List Str, y = .tup (ps.map PV.str) ∧ ps.length ≤ 2 ∧ ∀ w ∈ ps, Tx 12 w
theorem put_ok (k : Nat) {hp : List Cell} (F : Fd hp) {b : Base} (hb : BaseOk b) {L : List PV} (h1 : 1 ≤ L.length) (h2 : L.length ≤ 100) (hk : AllTx 12 L) :
    Gives (calls table (k + 4) 13 [.ref 0, bPV b, .lst L] [] hp) fun r hp => Fd hp ∧ ∃ x, r = .val (wPV x) ∧ WtOk x := by
  refine gives_run (c := calls table (k + 3)) (d := d_l_any_put) (as := [.ref 0, bPV b, .lst L]) rfl ?_
  obtain ⟨ways, guard, last⟩ := b
  have b1 : 1 ≤ ways := hb.lo
  have b2 : ways ≤ 2 := hb.hi
  cases guard <;> cases last
  all_goals
    simp only [d_l_any_put, bPV, ↓q_ok, ↓q_some, ↓q_cst, ↓q_var, ↓q_tup, ↓q_lst, ↓q_bin, ↓q_cmp, ↓q_neg, ↓q_nt, ↓q_an, ↓q_orr, ↓q_ite, ↓q_idx, ↓q_slc, ↓q_rev, ↓q_call, ↓q_bi, ↓q_join, ↓q_app, ↓q_ext, ↓q_lc, ↓q_fs, ↓q_dct, ↓q_evs0, ↓q_evs1, ↓q_opds0, ↓q_opds1, ↓q_no, ↓q_so, ↓q_it, ↓q_rg1, ↓q_rg2, ↓q_tno, ↓q_tso, ↓q_evf0, ↓q_evf1, ↓q_tnt, ↓q_tan, ↓q_tor, ↓q_tite, ↓q_tvar, ↓q_tcst, ↓q_tcmp, ↓q_tidx, ↓q_tcall, ↓q_tbi, ↓q_tslc, ↓q_ovar, ↓q_ocst, ↓q_otup, ↓q_olst, ↓q_obin, ↓q_ocmp, ↓q_oneg, ↓q_ont, ↓q_oan, ↓q_oorr, ↓q_oite, ↓q_oidx, ↓q_oslc, ↓q_orev, ↓q_ocall, ↓q_obi, ↓q_ojoin, ↓q_olc, ↓q_ofs, ↓q_odct, ↓q_lookv, ↓q_looks, ↓q_peek, ↓q_look0, ↓q_look1, ↓q_set, ↓q_bnm, ↓q_btp, ↓q_sets0, ↓q_sets1, ↓q_par0, ↓q_par1, ↓q_own, ↓q_appV, ↓q_extn, ↓q_extl, ↓q_ixr, ↓q_ixt, ↓q_ixl, ↓q_ixs, ↓q_putG, ↓q_add_int, ↓q_add_str, ↓q_add_lst, ↓q_add_tup, ↓q_sub_int, ↓q_mul_int, ↓q_mul_lst, ↓q_mul_tup, ↓q_fdiv_int, ↓q_mod_int, ↓q_pow_int, ↓q_bint, ↓q_bintb, ↓q_blenl, ↓q_blent, ↓q_blens, ↓q_bstri, ↓q_bstrs, ↓q_blistl, ↓q_blistt, ↓q_btupl, ↓q_btupt, ↓q_bmin, ↓q_bmax, ↓q_fmts, ↓q_fmti, ↓q_asg, ↓q_parS, ↓q_put, ↓q_ex, ↓q_iff, ↓q_for, ↓q_retV, ↓q_rcst, ↓q_rtup, ↓q_rlst, ↓q_rbin, ↓q_rcmp, ↓q_rneg, ↓q_rnt, ↓q_ran, ↓q_rorr, ↓q_rite, ↓q_ridx, ↓q_rslc, ↓q_rrev, ↓q_rcall, ↓q_rbi, ↓q_rjoin, ↓q_rlc, ↓q_rfs, ↓q_rdct, ↓q_retN, ↓q_pas, ↓q_brk, ↓q_cnt, ↓q_exs0, ↓q_exs1, q_add_int, q_add_str, q_add_lst, q_add_tup, q_sub_int, q_mul_int, q_mul_lst, q_mul_tup, q_fdiv_int, q_mod_int, q_pow_int, q_bint, q_bintb, q_blenl, q_blent, q_blens, q_bstri, q_bstrs, q_blistl, q_blistt, q_btupl, q_btupt, q_bmin, q_bmax, q_fmts, q_fmti, backG_mk, pushG_mk, wipe_nil, wipe_cons, back_nil, back_cons, noOwn_nil, slots_nm, slots_tp, pv_val, pv_new, slot_val, slot_new, asInt_int, truV_bl, truV_int, cmpV_eq, cmpV_ne, cmpV_lt, cmpV_le, cmpV_gt, cmpV_ge, eqV_int, eqV_str, items_l, items_t, items_f, slcV_lst, slcV_tup, slcV_fz, revV_tup, revV_lst, idxV_lst, idxV_tup, noOwn_cons, at0, at1, at2, at3, Nxt_nx, Nxt_ret, Nxt_brk, Nxt_cnt, Turn_nx, Turn_cnt, Turn_brk, Turn_ret, Fin'_ret, Fin'_nx, List.getElem?_cons_zero, List.getElem?_cons_succ, List.set_cons_zero, List.set_cons_succ, List.getD_cons_zero, List.getD_cons_succ, List.length_cons, List.length_nil, List.map_cons, List.map_nil, List.cons_append, List.nil_append, List.replicate_succ, List.replicate_zero, Option.map_some, Option.some.injEq, Bool.not_true, Bool.not_false, Bool.and_self, Bool.and_true, Bool.true_and, Bool.false_eq_true, Bool.true_eq_false, if_true, if_false, ite_true, ite_false, reduceIte, true_and, and_true, Nat.reduceAdd, Nat.reduceSub, Nat.reduceLT, Nat.reduceLeDiff, Nat.reducePow, Int.reducePow, Int.reduceToNat, Int.reduceLE, Int.reduceLT, Int.reduceNeg, decide_true, decide_false, Ev.sizeLine_eq, rgOk_eq, Nat.lt_add_left_iff_pos, Nat.zero_lt_succ, Nat.succ_pos, Nat.zero_add, true_or, or_true, Nat.reduceMul, Nat.add_zero, Nat.zero_le, Nat.le_refl]
    refine ⟨by ((try simp only [List.length_append, List.length_cons, List.length_nil, List.length_take, List.length_map, List.length_reverse]); omega), ?_⟩
    refine lc_up (β := Slot) (fun b sl => sl.set 3 b) (fun i b hp => Fd hp ∧ ∃ S, AllTx 12 S ∧ 1 ≤ S.length ∧ S.length ≤ 200 ∧ b = if i = 0 then .own S else .val (.lst S)) (fun _ y => PlaceP y) (.own _) rfl ⟨F, _, hk.app (.lit (by decide +kernel)), by ((try simp only [List.length_append, List.length_cons, List.length_nil, List.length_take, List.length_map, List.length_reverse]); omega), by ((try simp only [List.length_append, List.length_cons, List.length_nil, List.length_take, List.length_map, List.length_reverse]); omega), rfl⟩ ?_ (fun i x b hp hx ⟨F, S, hS, s1, s2, hb⟩ => ?_) fun ys b hp1 ⟨F1, S, hS, s1, s2, hb⟩ e => ?_
    · decide +kernel
    · have hb : b = .own S ∨ b = .val (.lst S) := by
        rw [hb]
        split
        · exact .inl rfl
        · exact .inr rfl
      rcases hb with rfl | rfl
      all_goals
        simp only [↓q_ok, ↓q_some, ↓q_cst, ↓q_var, ↓q_tup, ↓q_lst, ↓q_bin, ↓q_cmp, ↓q_neg, ↓q_nt, ↓q_an, ↓q_orr, ↓q_ite, ↓q_idx, ↓q_slc, ↓q_rev, ↓q_call, ↓q_bi, ↓q_join, ↓q_app, ↓q_ext, ↓q_lc, ↓q_fs, ↓q_dct, ↓q_evs0, ↓q_evs1, ↓q_opds0, ↓q_opds1, ↓q_no, ↓q_so, ↓q_it, ↓q_rg1, ↓q_rg2, ↓q_tno, ↓q_tso, ↓q_evf0, ↓q_evf1, ↓q_tnt, ↓q_tan, ↓q_tor, ↓q_tite, ↓q_tvar, ↓q_tcst, ↓q_tcmp, ↓q_tidx, ↓q_tcall, ↓q_tbi, ↓q_tslc, ↓q_ovar, ↓q_ocst, ↓q_otup, ↓q_olst, ↓q_obin, ↓q_ocmp, ↓q_oneg, ↓q_ont, ↓q_oan, ↓q_oorr, ↓q_oite, ↓q_oidx, ↓q_oslc, ↓q_orev, ↓q_ocall, ↓q_obi, ↓q_ojoin, ↓q_olc, ↓q_ofs, ↓q_odct, ↓q_lookv, ↓q_looks, ↓q_peek, ↓q_look0, ↓q_look1, ↓q_set, ↓q_bnm, ↓q_btp, ↓q_sets0, ↓q_sets1, ↓q_par0, ↓q_par1, ↓q_own, ↓q_appV, ↓q_extn, ↓q_extl, ↓q_ixr, ↓q_ixt, ↓q_ixl, ↓q_ixs, ↓q_putG, ↓q_add_int, ↓q_add_str, ↓q_add_lst, ↓q_add_tup, ↓q_sub_int, ↓q_mul_int, ↓q_mul_lst, ↓q_mul_tup, ↓q_fdiv_int, ↓q_mod_int, ↓q_pow_int, ↓q_bint, ↓q_bintb, ↓q_blenl, ↓q_blent, ↓q_blens, ↓q_bstri, ↓q_bstrs, ↓q_blistl, ↓q_blistt, ↓q_btupl, ↓q_btupt, ↓q_bmin, ↓q_bmax, ↓q_fmts, ↓q_fmti, ↓q_asg, ↓q_parS, ↓q_put, ↓q_ex, ↓q_iff, ↓q_for, ↓q_retV, ↓q_rcst, ↓q_rtup, ↓q_rlst, ↓q_rbin, ↓q_rcmp, ↓q_rneg, ↓q_rnt, ↓q_ran, ↓q_rorr, ↓q_rite, ↓q_ridx, ↓q_rslc, ↓q_rrev, ↓q_rcall, ↓q_rbi, ↓q_rjoin, ↓q_rlc, ↓q_rfs, ↓q_rdct, ↓q_retN, ↓q_pas, ↓q_brk, ↓q_cnt, ↓q_exs0, ↓q_exs1, q_add_int, q_add_str, q_add_lst, q_add_tup, q_sub_int, q_mul_int, q_mul_lst, q_mul_tup, q_fdiv_int, q_mod_int, q_pow_int, q_bint, q_bintb, q_blenl, q_blent, q_blens, q_bstri, q_bstrs, q_blistl, q_blistt, q_btupl, q_btupt, q_bmin, q_bmax, q_fmts, q_fmti, backG_mk, pushG_mk, wipe_nil, wipe_cons, back_nil, back_cons, noOwn_nil, slots_nm, slots_tp, pv_val, pv_new, slot_val, slot_new, asInt_int, truV_bl, truV_int, cmpV_eq, cmpV_ne, cmpV_lt, cmpV_le, cmpV_gt, cmpV_ge, eqV_int, eqV_str, items_l, items_t, items_f, slcV_lst, slcV_tup, slcV_fz, revV_tup, revV_lst, idxV_lst, idxV_tup, noOwn_cons, at0, at1, at2, at3, Nxt_nx, Nxt_ret, Nxt_brk, Nxt_cnt, Turn_nx, Turn_cnt, Turn_brk, Turn_ret, Fin'_ret, Fin'_nx, List.getElem?_cons_zero, List.getElem?_cons_succ, List.set_cons_zero, List.set_cons_succ, List.getD_cons_zero, List.getD_cons_succ, List.length_cons, List.length_nil, List.map_cons, List.map_nil, List.cons_append, List.nil_append, List.replicate_succ, List.replicate_zero, Option.map_some, Option.some.injEq, Bool.not_true, Bool.not_false, Bool.and_self, Bool.and_true, Bool.true_and, Bool.false_eq_true, Bool.true_eq_false, if_true, if_false, ite_true, ite_false, reduceIte, true_and, and_true, Nat.reduceAdd, Nat.reduceSub, Nat.reduceLT, Nat.reduceLeDiff, Nat.reducePow, Int.reducePow, Int.reduceToNat, Int.reduceLE, Int.reduceLT, Int.reduceNeg, decide_true, decide_false, Ev.sizeLine_eq, rgOk_eq, Nat.lt_add_left_iff_pos, Nat.zero_lt_succ, Nat.succ_pos, Nat.zero_add, true_or, or_true, Nat.reduceMul, Nat.add_zero, Nat.zero_le, Nat.le_refl]
        rw [cut_to (by omega)]
        refine Ok_callW (any_ok (k + 1) F (by ((try simp only [List.length_append, List.length_cons, List.length_nil, List.length_take, List.length_map, List.length_reverse]); omega)) (by ((try simp only [List.length_append, List.length_cons, List.length_nil, List.length_take, List.length_map, List.length_reverse]); omega))) fun r hp3 ⟨F3, y, hy, hr⟩ => ?_
        subst hr
        obtain ⟨w1, rfl, t1⟩ := (AllTx.lit (n := 12) (by decide +kernel)).take _ y hy
        simp only [↓q_ok, ↓q_some, ↓q_cst, ↓q_var, ↓q_tup, ↓q_lst, ↓q_bin, ↓q_cmp, ↓q_neg, ↓q_nt, ↓q_an, ↓q_orr, ↓q_ite, ↓q_idx, ↓q_slc, ↓q_rev, ↓q_call, ↓q_bi, ↓q_join, ↓q_app, ↓q_ext, ↓q_lc, ↓q_fs, ↓q_dct, ↓q_evs0, ↓q_evs1, ↓q_opds0, ↓q_opds1, ↓q_no, ↓q_so, ↓q_it, ↓q_rg1, ↓q_rg2, ↓q_tno, ↓q_tso, ↓q_evf0, ↓q_evf1, ↓q_tnt, ↓q_tan, ↓q_tor, ↓q_tite, ↓q_tvar, ↓q_tcst, ↓q_tcmp, ↓q_tidx, ↓q_tcall, ↓q_tbi, ↓q_tslc, ↓q_ovar, ↓q_ocst, ↓q_otup, ↓q_olst, ↓q_obin, ↓q_ocmp, ↓q_oneg, ↓q_ont, ↓q_oan, ↓q_oorr, ↓q_oite, ↓q_oidx, ↓q_oslc, ↓q_orev, ↓q_ocall, ↓q_obi, ↓q_ojoin, ↓q_olc, ↓q_ofs, ↓q_odct, ↓q_lookv, ↓q_looks, ↓q_peek, ↓q_look0, ↓q_look1, ↓q_set, ↓q_bnm, ↓q_btp, ↓q_sets0, ↓q_sets1, ↓q_par0, ↓q_par1, ↓q_own, ↓q_appV, ↓q_extn, ↓q_extl, ↓q_ixr, ↓q_ixt, ↓q_ixl, ↓q_ixs, ↓q_putG, ↓q_add_int, ↓q_add_str, ↓q_add_lst, ↓q_add_tup, ↓q_sub_int, ↓q_mul_int, ↓q_mul_lst, ↓q_mul_tup, ↓q_fdiv_int, ↓q_mod_int, ↓q_pow_int, ↓q_bint, ↓q_bintb, ↓q_blenl, ↓q_blent, ↓q_blens, ↓q_bstri, ↓q_bstrs, ↓q_blistl, ↓q_blistt, ↓q_btupl, ↓q_btupt, ↓q_bmin, ↓q_bmax, ↓q_fmts, ↓q_fmti, ↓q_asg, ↓q_parS, ↓q_put, ↓q_ex, ↓q_iff, ↓q_for, ↓q_retV, ↓q_rcst, ↓q_rtup, ↓q_rlst, ↓q_rbin, ↓q_rcmp, ↓q_rneg, ↓q_rnt, ↓q_ran, ↓q_rorr, ↓q_rite, ↓q_ridx, ↓q_rslc, ↓q_rrev, ↓q_rcall, ↓q_rbi, ↓q_rjoin, ↓q_rlc, ↓q_rfs, ↓q_rdct, ↓q_retN, ↓q_pas, ↓q_brk, ↓q_cnt, ↓q_exs0, ↓q_exs1, q_add_int, q_add_str, q_add_lst, q_add_tup, q_sub_int, q_mul_int, q_mul_lst, q_mul_tup, q_fdiv_int, q_mod_int, q_pow_int, q_bint, q_bintb, q_blenl, q_blent, q_blens, q_bstri, q_bstrs, q_blistl, q_blistt, q_btupl, q_btupt, q_bmin, q_bmax, q_fmts, q_fmti, backG_mk, pushG_mk, wipe_nil, wipe_cons, back_nil, back_cons, noOwn_nil, slots_nm, slots_tp, pv_val, pv_new, slot_val, slot_new, asInt_int, truV_bl, truV_int, cmpV_eq, cmpV_ne, cmpV_lt, cmpV_le, cmpV_gt, cmpV_ge, eqV_int, eqV_str, items_l, items_t, items_f, slcV_lst, slcV_tup, slcV_fz, revV_tup, revV_lst, idxV_lst, idxV_tup, noOwn_cons, at0, at1, at2, at3, Nxt_nx, Nxt_ret, Nxt_brk, Nxt_cnt, Turn_nx, Turn_cnt, Turn_brk, Turn_ret, Fin'_ret, Fin'_nx, List.getElem?_cons_zero, List.getElem?_cons_succ, List.set_cons_zero, List.set_cons_succ, List.getD_cons_zero, List.getD_cons_succ, List.length_cons, List.length_nil, List.map_cons, List.map_nil, List.cons_append, List.nil_append, List.replicate_succ, List.replicate_zero, Option.map_some, Option.some.injEq, Bool.not_true, Bool.not_false, Bool.and_self, Bool.and_true, Bool.true_and, Bool.false_eq_true, Bool.true_eq_false, if_true, if_false, ite_true, ite_false, reduceIte, true_and, and_true, Nat.reduceAdd, Nat.reduceSub, Nat.reduceLT, Nat.reduceLeDiff, Nat.reducePow, Int.reducePow, Int.reduceToNat, Int.reduceLE, Int.reduceLT, Int.reduceNeg, decide_true, decide_false, Ev.sizeLine_eq, rgOk_eq, Nat.lt_add_left_iff_pos, Nat.zero_lt_succ, Nat.succ_pos, Nat.zero_add, true_or, or_true, Nat.reduceMul, Nat.add_zero, Nat.zero_le, Nat.le_refl]
        refine Ok_callW (any_ok (k + 1) F3 (by ((try simp only [List.length_append, List.length_cons, List.length_nil, List.length_take, List.length_map, List.length_reverse]); omega)) (by ((try simp only [List.length_append, List.length_cons, List.length_nil, List.length_take, List.length_map, List.length_reverse]); omega))) fun r hp4 ⟨F4, y, hy, hr⟩ => ?_
        subst hr
        obtain ⟨w2, rfl, t2⟩ := hS y hy
        simp only [↓q_ok, ↓q_some, ↓q_cst, ↓q_var, ↓q_tup, ↓q_lst, ↓q_bin, ↓q_cmp, ↓q_neg, ↓q_nt, ↓q_an, ↓q_orr, ↓q_ite, ↓q_idx, ↓q_slc, ↓q_rev, ↓q_call, ↓q_bi, ↓q_join, ↓q_app, ↓q_ext, ↓q_lc, ↓q_fs, ↓q_dct, ↓q_evs0, ↓q_evs1, ↓q_opds0, ↓q_opds1, ↓q_no, ↓q_so, ↓q_it, ↓q_rg1, ↓q_rg2, ↓q_tno, ↓q_tso, ↓q_evf0, ↓q_evf1, ↓q_tnt, ↓q_tan, ↓q_tor, ↓q_tite, ↓q_tvar, ↓q_tcst, ↓q_tcmp, ↓q_tidx, ↓q_tcall, ↓q_tbi, ↓q_tslc, ↓q_ovar, ↓q_ocst, ↓q_otup, ↓q_olst, ↓q_obin, ↓q_ocmp, ↓q_oneg, ↓q_ont, ↓q_oan, ↓q_oorr, ↓q_oite, ↓q_oidx, ↓q_oslc, ↓q_orev, ↓q_ocall, ↓q_obi, ↓q_ojoin, ↓q_olc, ↓q_ofs, ↓q_odct, ↓q_lookv, ↓q_looks, ↓q_peek, ↓q_look0, ↓q_look1, ↓q_set, ↓q_bnm, ↓q_btp, ↓q_sets0, ↓q_sets1, ↓q_par0, ↓q_par1, ↓q_own, ↓q_appV, ↓q_extn, ↓q_extl, ↓q_ixr, ↓q_ixt, ↓q_ixl, ↓q_ixs, ↓q_putG, ↓q_add_int, ↓q_add_str, ↓q_add_lst, ↓q_add_tup, ↓q_sub_int, ↓q_mul_int, ↓q_mul_lst, ↓q_mul_tup, ↓q_fdiv_int, ↓q_mod_int, ↓q_pow_int, ↓q_bint, ↓q_bintb, ↓q_blenl, ↓q_blent, ↓q_blens, ↓q_bstri, ↓q_bstrs, ↓q_blistl, ↓q_blistt, ↓q_btupl, ↓q_btupt, ↓q_bmin, ↓q_bmax, ↓q_fmts, ↓q_fmti, ↓q_asg, ↓q_parS, ↓q_put, ↓q_ex, ↓q_iff, ↓q_for, ↓q_retV, ↓q_rcst, ↓q_rtup, ↓q_rlst, ↓q_rbin, ↓q_rcmp, ↓q_rneg, ↓q_rnt, ↓q_ran, ↓q_rorr, ↓q_rite, ↓q_ridx, ↓q_rslc, ↓q_rrev, ↓q_rcall, ↓q_rbi, ↓q_rjoin, ↓q_rlc, ↓q_rfs, ↓q_rdct, ↓q_retN, ↓q_pas, ↓q_brk, ↓q_cnt, ↓q_exs0, ↓q_exs1, q_add_int, q_add_str, q_add_lst, q_add_tup, q_sub_int, q_mul_int, q_mul_lst, q_mul_tup, q_fdiv_int, q_mod_int, q_pow_int, q_bint, q_bintb, q_blenl, q_blent, q_blens, q_bstri, q_bstrs, q_blistl, q_blistt, q_btupl, q_btupt, q_bmin, q_bmax, q_fmts, q_fmti, backG_mk, pushG_mk, wipe_nil, wipe_cons, back_nil, back_cons, noOwn_nil, slots_nm, slots_tp, pv_val, pv_new, slot_val, slot_new, asInt_int, truV_bl, truV_int, cmpV_eq, cmpV_ne, cmpV_lt, cmpV_le, cmpV_gt, cmpV_ge, eqV_int, eqV_str, items_l, items_t, items_f, slcV_lst, slcV_tup, slcV_fz, revV_tup, revV_lst, idxV_lst, idxV_tup, noOwn_cons, at0, at1, at2, at3, Nxt_nx, Nxt_ret, Nxt_brk, Nxt_cnt, Turn_nx, Turn_cnt, Turn_brk, Turn_ret, Fin'_ret, Fin'_nx, List.getElem?_cons_zero, List.getElem?_cons_succ, List.set_cons_zero, List.set_cons_succ, List.getD_cons_zero, List.getD_cons_succ, List.length_cons, List.length_nil, List.map_cons, List.map_nil, List.cons_append, List.nil_append, List.replicate_succ, List.replicate_zero, Option.map_some, Option.some.injEq, Bool.not_true, Bool.not_false, Bool.and_self, Bool.and_true, Bool.true_and, Bool.false_eq_true, Bool.true_eq_false, if_true, if_false, ite_true, ite_false, reduceIte, true_and, and_true, Nat.reduceAdd, Nat.reduceSub, Nat.reduceLT, Nat.reduceLeDiff, Nat.reducePow, Int.reducePow, Int.reduceToNat, Int.reduceLE, Int.reduceLT, Int.reduceNeg, decide_true, decide_false, Ev.sizeLine_eq, rgOk_eq, Nat.lt_add_left_iff_pos, Nat.zero_lt_succ, Nat.succ_pos, Nat.zero_add, true_or, or_true, Nat.reduceMul, Nat.add_zero, Nat.zero_le, Nat.le_refl]
        refine ⟨⟨[w1, w2], rfl, Nat.le_refl 2, fun w hw => ?_⟩, _, rfl, F4, S, hS, s1, s2, rfl⟩
        simp only [List.mem_cons, List.not_mem_nil, or_false] at hw
        rcases hw with rfl | rfl
        · exact t1
        · exact t2
    · have hb : b = .val (.lst S) := by
        rw [hb]
        rfl
      subst hb
      have hl : ys.length = 4 := e.length
      have hall : ∀ y ∈ ys, PlaceP y := fun y hy => by
        obtain ⟨x, _, h⟩ := e.all y hy
        exact h
      have hlit : ∀ y ∈ [PV.tup [.str "first"], PV.tup [.str "last"]], PlaceP y := fun y hy => by
        simp only [List.mem_cons, List.not_mem_nil, or_false] at hy
        rcases hy with rfl | rfl
        · exact ⟨["first"], rfl, by decide, fun w hw => by
            rw [List.mem_singleton] at hw
            subst hw
            exact Tx.by (by decide +kernel)⟩
        · exact ⟨["last"], rfl, by decide, fun w hw => by
            rw [List.mem_singleton] at hw
            subst hw
            exact Tx.by (by decide +kernel)⟩
      simp only [↓q_ok, ↓q_some, ↓q_cst, ↓q_var, ↓q_tup, ↓q_lst, ↓q_bin, ↓q_cmp, ↓q_neg, ↓q_nt, ↓q_an, ↓q_orr, ↓q_ite, ↓q_idx, ↓q_slc, ↓q_rev, ↓q_call, ↓q_bi, ↓q_join, ↓q_app, ↓q_ext, ↓q_lc, ↓q_fs, ↓q_dct, ↓q_evs0, ↓q_evs1, ↓q_opds0, ↓q_opds1, ↓q_no, ↓q_so, ↓q_it, ↓q_rg1, ↓q_rg2, ↓q_tno, ↓q_tso, ↓q_evf0, ↓q_evf1, ↓q_tnt, ↓q_tan, ↓q_tor, ↓q_tite, ↓q_tvar, ↓q_tcst, ↓q_tcmp, ↓q_tidx, ↓q_tcall, ↓q_tbi, ↓q_tslc, ↓q_ovar, ↓q_ocst, ↓q_otup, ↓q_olst, ↓q_obin, ↓q_ocmp, ↓q_oneg, ↓q_ont, ↓q_oan, ↓q_oorr, ↓q_oite, ↓q_oidx, ↓q_oslc, ↓q_orev, ↓q_ocall, ↓q_obi, ↓q_ojoin, ↓q_olc, ↓q_ofs, ↓q_odct, ↓q_lookv, ↓q_looks, ↓q_peek, ↓q_look0, ↓q_look1, ↓q_set, ↓q_bnm, ↓q_btp, ↓q_sets0, ↓q_sets1, ↓q_par0, ↓q_par1, ↓q_own, ↓q_appV, ↓q_extn, ↓q_extl, ↓q_ixr, ↓q_ixt, ↓q_ixl, ↓q_ixs, ↓q_putG, ↓q_add_int, ↓q_add_str, ↓q_add_lst, ↓q_add_tup, ↓q_sub_int, ↓q_mul_int, ↓q_mul_lst, ↓q_mul_tup, ↓q_fdiv_int, ↓q_mod_int, ↓q_pow_int, ↓q_bint, ↓q_bintb, ↓q_blenl, ↓q_blent, ↓q_blens, ↓q_bstri, ↓q_bstrs, ↓q_blistl, ↓q_blistt, ↓q_btupl, ↓q_btupt, ↓q_bmin, ↓q_bmax, ↓q_fmts, ↓q_fmti, ↓q_asg, ↓q_parS, ↓q_put, ↓q_ex, ↓q_iff, ↓q_for, ↓q_retV, ↓q_rcst, ↓q_rtup, ↓q_rlst, ↓q_rbin, ↓q_rcmp, ↓q_rneg, ↓q_rnt, ↓q_ran, ↓q_rorr, ↓q_rite, ↓q_ridx, ↓q_rslc, ↓q_rrev, ↓q_rcall, ↓q_rbi, ↓q_rjoin, ↓q_rlc, ↓q_rfs, ↓q_rdct, ↓q_retN, ↓q_pas, ↓q_brk, ↓q_cnt, ↓q_exs0, ↓q_exs1, q_add_int, q_add_str, q_add_lst, q_add_tup, q_sub_int, q_mul_int, q_mul_lst, q_mul_tup, q_fdiv_int, q_mod_int, q_pow_int, q_bint, q_bintb, q_blenl, q_blent, q_blens, q_bstri, q_bstrs, q_blistl, q_blistt, q_btupl, q_btupt, q_bmin, q_bmax, q_fmts, q_fmti, backG_mk, pushG_mk, wipe_nil, wipe_cons, back_nil, back_cons, noOwn_nil, slots_nm, slots_tp, pv_val, pv_new, slot_val, slot_new, asInt_int, truV_bl, truV_int, cmpV_eq, cmpV_ne, cmpV_lt, cmpV_le, cmpV_gt, cmpV_ge, eqV_int, eqV_str, items_l, items_t, items_f, slcV_lst, slcV_tup, slcV_fz, revV_tup, revV_lst, idxV_lst, idxV_tup, noOwn_cons, at0, at1, at2, at3, Nxt_nx, Nxt_ret, Nxt_brk, Nxt_cnt, Turn_nx, Turn_cnt, Turn_brk, Turn_ret, Fin'_ret, Fin'_nx, List.getElem?_cons_zero, List.getElem?_cons_succ, List.set_cons_zero, List.set_cons_succ, List.getD_cons_zero, List.getD_cons_succ, List.length_cons, List.length_nil, List.map_cons, List.map_nil, List.cons_append, List.nil_append, List.replicate_succ, List.replicate_zero, Option.map_some, Option.some.injEq, Bool.not_true, Bool.not_false, Bool.and_self, Bool.and_true, Bool.true_and, Bool.false_eq_true, Bool.true_eq_false, if_true, if_false, ite_true, ite_false, reduceIte, true_and, and_true, Nat.reduceAdd, Nat.reduceSub, Nat.reduceLT, Nat.reduceLeDiff, Nat.reducePow, Int.reducePow, Int.reduceToNat, Int.reduceLE, Int.reduceLT, Int.reduceNeg, decide_true, decide_false, Ev.sizeLine_eq, rgOk_eq, Nat.lt_add_left_iff_pos, Nat.zero_lt_succ, Nat.succ_pos, Nat.zero_add, true_or, or_true, Nat.reduceMul, Nat.add_zero, Nat.zero_le, Nat.le_refl]
      refine ⟨by ((try simp only [List.length_append, List.length_cons, List.length_nil, List.length_take, List.length_map, List.length_reverse]); omega), by ((try simp only [List.length_append, List.length_cons, List.length_nil, List.length_take, List.length_map, List.length_reverse]); omega), ?_⟩
      refine Ok_callW (any_ok (k + 1) F1 (by ((try simp only [List.length_append, List.length_cons, List.length_nil, List.length_take, List.length_map, List.length_reverse]); omega)) (by ((try simp only [List.length_append, List.length_cons, List.length_nil, List.length_take, List.length_map, List.length_reverse]); omega))) fun r hp3 ⟨F3, y, hy, hr⟩ => ?_
      subst hr
      have hp : PlaceP y := by
        simp only [List.mem_append] at hy
        rcases hy with (q | q) | q
        · exact hall y q
        · first
            | exact hlit y (List.mem_cons_of_mem _ q)
            | exact hlit y (by simp at q; simp [q])
            | cases q
        · first
            | exact hlit y (by simp at q; simp [q])
            | cases q
      obtain ⟨ps, rfl, pl, pt⟩ := hp
      simp only [↓q_ok, ↓q_some, ↓q_cst, ↓q_var, ↓q_tup, ↓q_lst, ↓q_bin, ↓q_cmp, ↓q_neg, ↓q_nt, ↓q_an, ↓q_orr, ↓q_ite, ↓q_idx, ↓q_slc, ↓q_rev, ↓q_call, ↓q_bi, ↓q_join, ↓q_app, ↓q_ext, ↓q_lc, ↓q_fs, ↓q_dct, ↓q_evs0, ↓q_evs1, ↓q_opds0, ↓q_opds1, ↓q_no, ↓q_so, ↓q_it, ↓q_rg1, ↓q_rg2, ↓q_tno, ↓q_tso, ↓q_evf0, ↓q_evf1, ↓q_tnt, ↓q_tan, ↓q_tor, ↓q_tite, ↓q_tvar, ↓q_tcst, ↓q_tcmp, ↓q_tidx, ↓q_tcall, ↓q_tbi, ↓q_tslc, ↓q_ovar, ↓q_ocst, ↓q_otup, ↓q_olst, ↓q_obin, ↓q_ocmp, ↓q_oneg, ↓q_ont, ↓q_oan, ↓q_oorr, ↓q_oite, ↓q_oidx, ↓q_oslc, ↓q_orev, ↓q_ocall, ↓q_obi, ↓q_ojoin, ↓q_olc, ↓q_ofs, ↓q_odct, ↓q_lookv, ↓q_looks, ↓q_peek, ↓q_look0, ↓q_look1, ↓q_set, ↓q_bnm, ↓q_btp, ↓q_sets0, ↓q_sets1, ↓q_par0, ↓q_par1, ↓q_own, ↓q_appV, ↓q_extn, ↓q_extl, ↓q_ixr, ↓q_ixt, ↓q_ixl, ↓q_ixs, ↓q_putG, ↓q_add_int, ↓q_add_str, ↓q_add_lst, ↓q_add_tup, ↓q_sub_int, ↓q_mul_int, ↓q_mul_lst, ↓q_mul_tup, ↓q_fdiv_int, ↓q_mod_int, ↓q_pow_int, ↓q_bint, ↓q_bintb, ↓q_blenl, ↓q_blent, ↓q_blens, ↓q_bstri, ↓q_bstrs, ↓q_blistl, ↓q_blistt, ↓q_btupl, ↓q_btupt, ↓q_bmin, ↓q_bmax, ↓q_fmts, ↓q_fmti, ↓q_asg, ↓q_parS, ↓q_put, ↓q_ex, ↓q_iff, ↓q_for, ↓q_retV, ↓q_rcst, ↓q_rtup, ↓q_rlst, ↓q_rbin, ↓q_rcmp, ↓q_rneg, ↓q_rnt, ↓q_ran, ↓q_rorr, ↓q_rite, ↓q_ridx, ↓q_rslc, ↓q_rrev, ↓q_rcall, ↓q_rbi, ↓q_rjoin, ↓q_rlc, ↓q_rfs, ↓q_rdct, ↓q_retN, ↓q_pas, ↓q_brk, ↓q_cnt, ↓q_exs0, ↓q_exs1, q_add_int, q_add_str, q_add_lst, q_add_tup, q_sub_int, q_mul_int, q_mul_lst, q_mul_tup, q_fdiv_int, q_mod_int, q_pow_int, q_bint, q_bintb, q_blenl, q_blent, q_blens, q_bstri, q_bstrs, q_blistl, q_blistt, q_btupl, q_btupt, q_bmin, q_bmax, q_fmts, q_fmti, backG_mk, pushG_mk, wipe_nil, wipe_cons, back_nil, back_cons, noOwn_nil, slots_nm, slots_tp, pv_val, pv_new, slot_val, slot_new, asInt_int, truV_bl, truV_int, cmpV_eq, cmpV_ne, cmpV_lt, cmpV_le, cmpV_gt, cmpV_ge, eqV_int, eqV_str, items_l, items_t, items_f, slcV_lst, slcV_tup, slcV_fz, revV_tup, revV_lst, idxV_lst, idxV_tup, noOwn_cons, at0, at1, at2, at3, Nxt_nx, Nxt_ret, Nxt_brk, Nxt_cnt, Turn_nx, Turn_cnt, Turn_brk, Turn_ret, Fin'_ret, Fin'_nx, List.getElem?_cons_zero, List.getElem?_cons_succ, List.set_cons_zero, List.set_cons_succ, List.getD_cons_zero, List.getD_cons_succ, List.length_cons, List.length_nil, List.map_cons, List.map_nil, List.cons_append, List.nil_append, List.replicate_succ, List.replicate_zero, Option.map_some, Option.some.injEq, Bool.not_true, Bool.not_false, Bool.and_self, Bool.and_true, Bool.true_and, Bool.false_eq_true, Bool.true_eq_false, if_true, if_false, ite_true, ite_false, reduceIte, true_and, and_true, Nat.reduceAdd, Nat.reduceSub, Nat.reduceLT, Nat.reduceLeDiff, Nat.reducePow, Int.reducePow, Int.reduceToNat, Int.reduceLE, Int.reduceLT, Int.reduceNeg, decide_true, decide_false, Ev.sizeLine_eq, rgOk_eq, Nat.lt_add_left_iff_pos, Nat.zero_lt_succ, Nat.succ_pos, Nat.zero_add, true_or, or_true, Nat.reduceMul, Nat.add_zero, Nat.zero_le, Nat.le_refl]
      refine ⟨by ((try simp only [List.length_append, List.length_cons, List.length_nil, List.length_take, List.length_map, List.length_reverse]); omega), ?_⟩
      refine Ok_callW (any_ok (k + 1) F3 (by ((try simp only [List.length_append, List.length_cons, List.length_nil, List.length_take, List.length_map, List.length_reverse]); omega)) (by ((try simp only [List.length_append, List.length_cons, List.length_nil, List.length_take, List.length_map, List.length_reverse]); omega))) fun r hp4 ⟨F4, y, hy, hr⟩ => ?_
      subst hr
      obtain ⟨w3, rfl, t3⟩ := (hS.app (.lit (by decide +kernel))) y hy
      simp only [↓q_ok, ↓q_some, ↓q_cst, ↓q_var, ↓q_tup, ↓q_lst, ↓q_bin, ↓q_cmp, ↓q_neg, ↓q_nt, ↓q_an, ↓q_orr, ↓q_ite, ↓q_idx, ↓q_slc, ↓q_rev, ↓q_call, ↓q_bi, ↓q_join, ↓q_app, ↓q_ext, ↓q_lc, ↓q_fs, ↓q_dct, ↓q_evs0, ↓q_evs1, ↓q_opds0, ↓q_opds1, ↓q_no, ↓q_so, ↓q_it, ↓q_rg1, ↓q_rg2, ↓q_tno, ↓q_tso, ↓q_evf0, ↓q_evf1, ↓q_tnt, ↓q_tan, ↓q_tor, ↓q_tite, ↓q_tvar, ↓q_tcst, ↓q_tcmp, ↓q_tidx, ↓q_tcall, ↓q_tbi, ↓q_tslc, ↓q_ovar, ↓q_ocst, ↓q_otup, ↓q_olst, ↓q_obin, ↓q_ocmp, ↓q_oneg, ↓q_ont, ↓q_oan, ↓q_oorr, ↓q_oite, ↓q_oidx, ↓q_oslc, ↓q_orev, ↓q_ocall, ↓q_obi, ↓q_ojoin, ↓q_olc, ↓q_ofs, ↓q_odct, ↓q_lookv, ↓q_looks, ↓q_peek, ↓q_look0, ↓q_look1, ↓q_set, ↓q_bnm, ↓q_btp, ↓q_sets0, ↓q_sets1, ↓q_par0, ↓q_par1, ↓q_own, ↓q_appV, ↓q_extn, ↓q_extl, ↓q_ixr, ↓q_ixt, ↓q_ixl, ↓q_ixs, ↓q_putG, ↓q_add_int, ↓q_add_str, ↓q_add_lst, ↓q_add_tup, ↓q_sub_int, ↓q_mul_int, ↓q_mul_lst, ↓q_mul_tup, ↓q_fdiv_int, ↓q_mod_int, ↓q_pow_int, ↓q_bint, ↓q_bintb, ↓q_blenl, ↓q_blent, ↓q_blens, ↓q_bstri, ↓q_bstrs, ↓q_blistl, ↓q_blistt, ↓q_btupl, ↓q_btupt, ↓q_bmin, ↓q_bmax, ↓q_fmts, ↓q_fmti, ↓q_asg, ↓q_parS, ↓q_put, ↓q_ex, ↓q_iff, ↓q_for, ↓q_retV, ↓q_rcst, ↓q_rtup, ↓q_rlst, ↓q_rbin, ↓q_rcmp, ↓q_rneg, ↓q_rnt, ↓q_ran, ↓q_rorr, ↓q_rite, ↓q_ridx, ↓q_rslc, ↓q_rrev, ↓q_rcall, ↓q_rbi, ↓q_rjoin, ↓q_rlc, ↓q_rfs, ↓q_rdct, ↓q_retN, ↓q_pas, ↓q_brk, ↓q_cnt, ↓q_exs0, ↓q_exs1, q_add_int, q_add_str, q_add_lst, q_add_tup, q_sub_int, q_mul_int, q_mul_lst, q_mul_tup, q_fdiv_int, q_mod_int, q_pow_int, q_bint, q_bintb, q_blenl, q_blent, q_blens, q_bstri, q_bstrs, q_blistl, q_blistt, q_btupl, q_btupt, q_bmin, q_bmax, q_fmts, q_fmti, backG_mk, pushG_mk, wipe_nil, wipe_cons, back_nil, back_cons, noOwn_nil, slots_nm, slots_tp, pv_val, pv_new, slot_val, slot_new, asInt_int, truV_bl, truV_int, cmpV_eq, cmpV_ne, cmpV_lt, cmpV_le, cmpV_gt, cmpV_ge, eqV_int, eqV_str, items_l, items_t, items_f, slcV_lst, slcV_tup, slcV_fz, revV_tup, revV_lst, idxV_lst, idxV_tup, noOwn_cons, at0, at1, at2, at3, Nxt_nx, Nxt_ret, Nxt_brk, Nxt_cnt, Turn_nx, Turn_cnt, Turn_brk, Turn_ret, Fin'_ret, Fin'_nx, List.getElem?_cons_zero, List.getElem?_cons_succ, List.set_cons_zero, List.set_cons_succ, List.getD_cons_zero, List.getD_cons_succ, List.length_cons, List.length_nil, List.map_cons, List.map_nil, List.cons_append, List.nil_append, List.replicate_succ, List.replicate_zero, Option.map_some, Option.some.injEq, Bool.not_true, Bool.not_false, Bool.and_self, Bool.and_true, Bool.true_and, Bool.false_eq_true, Bool.true_eq_false, if_true, if_false, ite_true, ite_false, reduceIte, true_and, and_true, Nat.reduceAdd, Nat.reduceSub, Nat.reduceLT, Nat.reduceLeDiff, Nat.reducePow, Int.reducePow, Int.reduceToNat, Int.reduceLE, Int.reduceLT, Int.reduceNeg, decide_true, decide_false, Ev.sizeLine_eq, rgOk_eq, Nat.lt_add_left_iff_pos, Nat.zero_lt_succ, Nat.succ_pos, Nat.zero_add, true_or, or_true, Nat.reduceMul, Nat.add_zero, Nat.zero_le, Nat.le_refl]
      refine ⟨by ((try simp only [List.length_append, List.length_cons, List.length_nil, List.length_take, List.length_map, List.length_reverse]); omega), ?_⟩
      refine Ok_callW (tests_ok k F4 (by ((try simp only [List.length_append, List.length_cons, List.length_nil, List.length_take, List.length_map, List.length_reverse]); omega)) (by ((try simp only [List.length_append, List.length_cons, List.length_nil, List.length_take, List.length_map, List.length_reverse]); omega)) (hS.app (.lit (by decide +kernel)))) fun r hp5 ⟨F5, ts, hr, hts⟩ => ?_
      subst hr
      simp only [↓q_ok, ↓q_some, ↓q_cst, ↓q_var, ↓q_tup, ↓q_lst, ↓q_bin, ↓q_cmp, ↓q_neg, ↓q_nt, ↓q_an, ↓q_orr, ↓q_ite, ↓q_idx, ↓q_slc, ↓q_rev, ↓q_call, ↓q_bi, ↓q_join, ↓q_app, ↓q_ext, ↓q_lc, ↓q_fs, ↓q_dct, ↓q_evs0, ↓q_evs1, ↓q_opds0, ↓q_opds1, ↓q_no, ↓q_so, ↓q_it, ↓q_rg1, ↓q_rg2, ↓q_tno, ↓q_tso, ↓q_evf0, ↓q_evf1, ↓q_tnt, ↓q_tan, ↓q_tor, ↓q_tite, ↓q_tvar, ↓q_tcst, ↓q_tcmp, ↓q_tidx, ↓q_tcall, ↓q_tbi, ↓q_tslc, ↓q_ovar, ↓q_ocst, ↓q_otup, ↓q_olst, ↓q_obin, ↓q_ocmp, ↓q_oneg, ↓q_ont, ↓q_oan, ↓q_oorr, ↓q_oite, ↓q_oidx, ↓q_oslc, ↓q_orev, ↓q_ocall, ↓q_obi, ↓q_ojoin, ↓q_olc, ↓q_ofs, ↓q_odct, ↓q_lookv, ↓q_looks, ↓q_peek, ↓q_look0, ↓q_look1, ↓q_set, ↓q_bnm, ↓q_btp, ↓q_sets0, ↓q_sets1, ↓q_par0, ↓q_par1, ↓q_own, ↓q_appV, ↓q_extn, ↓q_extl, ↓q_ixr, ↓q_ixt, ↓q_ixl, ↓q_ixs, ↓q_putG, ↓q_add_int, ↓q_add_str, ↓q_add_lst, ↓q_add_tup, ↓q_sub_int, ↓q_mul_int, ↓q_mul_lst, ↓q_mul_tup, ↓q_fdiv_int, ↓q_mod_int, ↓q_pow_int, ↓q_bint, ↓q_bintb, ↓q_blenl, ↓q_blent, ↓q_blens, ↓q_bstri, ↓q_bstrs, ↓q_blistl, ↓q_blistt, ↓q_btupl, ↓q_btupt, ↓q_bmin, ↓q_bmax, ↓q_fmts, ↓q_fmti, ↓q_asg, ↓q_parS, ↓q_put, ↓q_ex, ↓q_iff, ↓q_for, ↓q_retV, ↓q_rcst, ↓q_rtup, ↓q_rlst, ↓q_rbin, ↓q_rcmp, ↓q_rneg, ↓q_rnt, ↓q_ran, ↓q_rorr, ↓q_rite, ↓q_ridx, ↓q_rslc, ↓q_rrev, ↓q_rcall, ↓q_rbi, ↓q_rjoin, ↓q_rlc, ↓q_rfs, ↓q_rdct, ↓q_retN, ↓q_pas, ↓q_brk, ↓q_cnt, ↓q_exs0, ↓q_exs1, q_add_int, q_add_str, q_add_lst, q_add_tup, q_sub_int, q_mul_int, q_mul_lst, q_mul_tup, q_fdiv_int, q_mod_int, q_pow_int, q_bint, q_bintb, q_blenl, q_blent, q_blens, q_bstri, q_bstrs, q_blistl, q_blistt, q_btupl, q_btupt, q_bmin, q_bmax, q_fmts, q_fmti, backG_mk, pushG_mk, wipe_nil, wipe_cons, back_nil, back_cons, noOwn_nil, slots_nm, slots_tp, pv_val, pv_new, slot_val, slot_new, asInt_int, truV_bl, truV_int, cmpV_eq, cmpV_ne, cmpV_lt, cmpV_le, cmpV_gt, cmpV_ge, eqV_int, eqV_str, items_l, items_t, items_f, slcV_lst, slcV_tup, slcV_fz, revV_tup, revV_lst, idxV_lst, idxV_tup, noOwn_cons, at0, at1, at2, at3, Nxt_nx, Nxt_ret, Nxt_brk, Nxt_cnt, Turn_nx, Turn_cnt, Turn_brk, Turn_ret, Fin'_ret, Fin'_nx, List.getElem?_cons_zero, List.getElem?_cons_succ, List.set_cons_zero, List.set_cons_succ, List.getD_cons_zero, List.getD_cons_succ, List.length_cons, List.length_nil, List.map_cons, List.map_nil, List.cons_append, List.nil_append, List.replicate_succ, List.replicate_zero, Option.map_some, Option.some.injEq, Bool.not_true, Bool.not_false, Bool.and_self, Bool.and_true, Bool.true_and, Bool.false_eq_true, Bool.true_eq_false, if_true, if_false, ite_true, ite_false, reduceIte, true_and, and_true, Nat.reduceAdd, Nat.reduceSub, Nat.reduceLT, Nat.reduceLeDiff, Nat.reducePow, Int.reducePow, Int.reduceToNat, Int.reduceLE, Int.reduceLT, Int.reduceNeg, decide_true, decide_false, Ev.sizeLine_eq, rgOk_eq, Nat.lt_add_left_iff_pos, Nat.zero_lt_succ, Nat.succ_pos, Nat.zero_add, true_or, or_true, Nat.reduceMul, Nat.add_zero, Nat.zero_le, Nat.le_refl]
      exact ⟨F5, ⟨ps, w3, ts⟩, rfl, pl, pt, t3, hts⟩
end K09
namespace K09
open PySem Ev
def baseP : PV → Bool
  | .tup [.int i, .bl _, .bl _] => decide (1 ≤ i ∧ i ≤ 2)
  | _ => false
theorem baseP_of {L : List PV} {v : PV} (h : L.all baseP = true) (m : v ∈ L) : ∃ b, v = bPV b ∧ BaseOk b := by
  have := List.all_eq_true.mp h v m
  unfold baseP at this
  split at this
  · have q := of_decide_eq_true this
    exact ⟨⟨_, _, _⟩, rfl, q.1, q.2⟩
  · cases this
theorem plan_ok (k : Nat) {hp : List Cell} (F : Fd hp) {most : Int} (m1 : 1 ≤ most) (m2 : most ≤ 6) :
    Gives (calls table (k + 5) 3 [.ref 0, .int most] [] hp) fun r hp => Fd hp ∧ ∃ p, r = .val (pPV p) ∧ PlanOk 2 6 12 p ∧ 1 ≤ p.names.length := by
  refine gives_run (c := calls table (k + 4)) (d := d_l_plan) (as := [.ref 0, .int most]) rfl ?_
  simp only [d_l_plan, ↓q_ok, ↓q_some, ↓q_cst, ↓q_var, ↓q_tup, ↓q_lst, ↓q_bin, ↓q_cmp, ↓q_neg, ↓q_nt, ↓q_an, ↓q_orr, ↓q_ite, ↓q_idx, ↓q_slc, ↓q_rev, ↓q_call, ↓q_bi, ↓q_join, ↓q_app, ↓q_ext, ↓q_lc, ↓q_fs, ↓q_dct, ↓q_evs0, ↓q_evs1, ↓q_opds0, ↓q_opds1, ↓q_no, ↓q_so, ↓q_it, ↓q_rg1, ↓q_rg2, ↓q_tno, ↓q_tso, ↓q_evf0, ↓q_evf1, ↓q_tnt, ↓q_tan, ↓q_tor, ↓q_tite, ↓q_tvar, ↓q_tcst, ↓q_tcmp, ↓q_tidx, ↓q_tcall, ↓q_tbi, ↓q_tslc, ↓q_ovar, ↓q_ocst, ↓q_otup, ↓q_olst, ↓q_obin, ↓q_ocmp, ↓q_oneg, ↓q_ont, ↓q_oan, ↓q_oorr, ↓q_oite, ↓q_oidx, ↓q_oslc, ↓q_orev, ↓q_ocall, ↓q_obi, ↓q_ojoin, ↓q_olc, ↓q_ofs, ↓q_odct, ↓q_lookv, ↓q_looks, ↓q_peek, ↓q_look0, ↓q_look1, ↓q_set, ↓q_bnm, ↓q_btp, ↓q_sets0, ↓q_sets1, ↓q_par0, ↓q_par1, ↓q_own, ↓q_appV, ↓q_extn, ↓q_extl, ↓q_ixr, ↓q_ixt, ↓q_ixl, ↓q_ixs, ↓q_putG, ↓q_add_int, ↓q_add_str, ↓q_add_lst, ↓q_add_tup, ↓q_sub_int, ↓q_mul_int, ↓q_mul_lst, ↓q_mul_tup, ↓q_fdiv_int, ↓q_mod_int, ↓q_pow_int, ↓q_bint, ↓q_bintb, ↓q_blenl, ↓q_blent, ↓q_blens, ↓q_bstri, ↓q_bstrs, ↓q_blistl, ↓q_blistt, ↓q_btupl, ↓q_btupt, ↓q_bmin, ↓q_bmax, ↓q_fmts, ↓q_fmti, ↓q_asg, ↓q_parS, ↓q_put, ↓q_ex, ↓q_iff, ↓q_for, ↓q_retV, ↓q_rcst, ↓q_rtup, ↓q_rlst, ↓q_rbin, ↓q_rcmp, ↓q_rneg, ↓q_rnt, ↓q_ran, ↓q_rorr, ↓q_rite, ↓q_ridx, ↓q_rslc, ↓q_rrev, ↓q_rcall, ↓q_rbi, ↓q_rjoin, ↓q_rlc, ↓q_rfs, ↓q_rdct, ↓q_retN, ↓q_pas, ↓q_brk, ↓q_cnt, ↓q_exs0, ↓q_exs1, q_add_int, q_add_str, q_add_lst, q_add_tup, q_sub_int, q_mul_int, q_mul_lst, q_mul_tup, q_fdiv_int, q_mod_int, q_pow_int, q_bint, q_bintb, q_blenl, q_blent, q_blens, q_bstri, q_bstrs, q_blistl, q_blistt, q_btupl, q_btupt, q_bmin, q_bmax, q_fmts, q_fmti, backG_mk, pushG_mk, wipe_nil, wipe_cons, back_nil, back_cons, noOwn_nil, slots_nm, slots_tp, pv_val, pv_new, slot_val, slot_new, asInt_int, truV_bl, truV_int, cmpV_eq, cmpV_ne, cmpV_lt, cmpV_le, cmpV_gt, cmpV_ge, eqV_int, eqV_str, items_l, items_t, items_f, slcV_lst, slcV_tup, slcV_fz, revV_tup, revV_lst, idxV_lst, idxV_tup, noOwn_cons, at0, at1, at2, at3, Nxt_nx, Nxt_ret, Nxt_brk, Nxt_cnt, Turn_nx, Turn_cnt, Turn_brk, Turn_ret, Fin'_ret, Fin'_nx, List.getElem?_cons_zero, List.getElem?_cons_succ, List.set_cons_zero, List.set_cons_succ, List.getD_cons_zero, List.getD_cons_succ, List.length_cons, List.length_nil, List.map_cons, List.map_nil, List.cons_append, List.nil_append, List.replicate_succ, List.replicate_zero, Option.map_some, Option.some.injEq, Bool.not_true, Bool.not_false, Bool.and_self, Bool.and_true, Bool.true_and, Bool.false_eq_true, Bool.true_eq_false, if_true, if_false, ite_true, ite_false, reduceIte, true_and, and_true, Nat.reduceAdd, Nat.reduceSub, Nat.reduceLT, Nat.reduceLeDiff, Nat.reducePow, Int.reducePow, Int.reduceToNat, Int.reduceLE, Int.reduceLT, Int.reduceNeg, decide_true, decide_false, Ev.sizeLine_eq, rgOk_eq, Nat.lt_add_left_iff_pos, Nat.zero_lt_succ, Nat.succ_pos, Nat.zero_add, true_or, or_true, Nat.reduceMul, Nat.add_zero, Nat.zero_le, Nat.le_refl]
  refine Ok_callW (any_ok (k + 2) F (by decide) (by decide)) fun r hp1 ⟨F1, y, hy, hr⟩ => ?_
  subst hr
  obtain ⟨b, rfl, hb⟩ := baseP_of (by decide +kernel) hy
  simp only [↓q_ok, ↓q_some, ↓q_cst, ↓q_var, ↓q_tup, ↓q_lst, ↓q_bin, ↓q_cmp, ↓q_neg, ↓q_nt, ↓q_an, ↓q_orr, ↓q_ite, ↓q_idx, ↓q_slc, ↓q_rev, ↓q_call, ↓q_bi, ↓q_join, ↓q_app, ↓q_ext, ↓q_lc, ↓q_fs, ↓q_dct, ↓q_evs0, ↓q_evs1, ↓q_opds0, ↓q_opds1, ↓q_no, ↓q_so, ↓q_it, ↓q_rg1, ↓q_rg2, ↓q_tno, ↓q_tso, ↓q_evf0, ↓q_evf1, ↓q_tnt, ↓q_tan, ↓q_tor, ↓q_tite, ↓q_tvar, ↓q_tcst, ↓q_tcmp, ↓q_tidx, ↓q_tcall, ↓q_tbi, ↓q_tslc, ↓q_ovar, ↓q_ocst, ↓q_otup, ↓q_olst, ↓q_obin, ↓q_ocmp, ↓q_oneg, ↓q_ont, ↓q_oan, ↓q_oorr, ↓q_oite, ↓q_oidx, ↓q_oslc, ↓q_orev, ↓q_ocall, ↓q_obi, ↓q_ojoin, ↓q_olc, ↓q_ofs, ↓q_odct, ↓q_lookv, ↓q_looks, ↓q_peek, ↓q_look0, ↓q_look1, ↓q_set, ↓q_bnm, ↓q_btp, ↓q_sets0, ↓q_sets1, ↓q_par0, ↓q_par1, ↓q_own, ↓q_appV, ↓q_extn, ↓q_extl, ↓q_ixr, ↓q_ixt, ↓q_ixl, ↓q_ixs, ↓q_putG, ↓q_add_int, ↓q_add_str, ↓q_add_lst, ↓q_add_tup, ↓q_sub_int, ↓q_mul_int, ↓q_mul_lst, ↓q_mul_tup, ↓q_fdiv_int, ↓q_mod_int, ↓q_pow_int, ↓q_bint, ↓q_bintb, ↓q_blenl, ↓q_blent, ↓q_blens, ↓q_bstri, ↓q_bstrs, ↓q_blistl, ↓q_blistt, ↓q_btupl, ↓q_btupt, ↓q_bmin, ↓q_bmax, ↓q_fmts, ↓q_fmti, ↓q_asg, ↓q_parS, ↓q_put, ↓q_ex, ↓q_iff, ↓q_for, ↓q_retV, ↓q_rcst, ↓q_rtup, ↓q_rlst, ↓q_rbin, ↓q_rcmp, ↓q_rneg, ↓q_rnt, ↓q_ran, ↓q_rorr, ↓q_rite, ↓q_ridx, ↓q_rslc, ↓q_rrev, ↓q_rcall, ↓q_rbi, ↓q_rjoin, ↓q_rlc, ↓q_rfs, ↓q_rdct, ↓q_retN, ↓q_pas, ↓q_brk, ↓q_cnt, ↓q_exs0, ↓q_exs1, q_add_int, q_add_str, q_add_lst, q_add_tup, q_sub_int, q_mul_int, q_mul_lst, q_mul_tup, q_fdiv_int, q_mod_int, q_pow_int, q_bint, q_bintb, q_blenl, q_blent, q_blens, q_bstri, q_bstrs, q_blistl, q_blistt, q_btupl, q_btupt, q_bmin, q_bmax, q_fmts, q_fmti, backG_mk, pushG_mk, wipe_nil, wipe_cons, back_nil, back_cons, noOwn_nil, slots_nm, slots_tp, pv_val, pv_new, slot_val, slot_new, asInt_int, truV_bl, truV_int, cmpV_eq, cmpV_ne, cmpV_lt, cmpV_le, cmpV_gt, cmpV_ge, eqV_int, eqV_str, items_l, items_t, items_f, slcV_lst, slcV_tup, slcV_fz, revV_tup, revV_lst, idxV_lst, idxV_tup, noOwn_cons, at0, at1, at2, at3, Nxt_nx, Nxt_ret, Nxt_brk, Nxt_cnt, Turn_nx, Turn_cnt, Turn_brk, Turn_ret, Fin'_ret, Fin'_nx, List.getElem?_cons_zero, List.getElem?_cons_succ, List.set_cons_zero, List.set_cons_succ, List.getD_cons_zero, List.getD_cons_succ, List.length_cons, List.length_nil, List.map_cons, List.map_nil, List.cons_append, List.nil_append, List.replicate_succ, List.replicate_zero, Option.map_some, Option.some.injEq, Bool.not_true, Bool.not_false, Bool.and_self, Bool.and_true, Bool.true_and, Bool.false_eq_true, Bool.true_eq_false, if_true, if_false, ite_true, ite_false, reduceIte, true_and, and_true, Nat.reduceAdd, Nat.reduceSub, Nat.reduceLT, Nat.reduceLeDiff, Nat.reducePow, Int.reducePow, Int.reduceToNat, Int.reduceLE, Int.reduceLT, Int.reduceNeg, decide_true, decide_false, Ev.sizeLine_eq, rgOk_eq, Nat.lt_add_left_iff_pos, Nat.zero_lt_succ, Nat.succ_pos, Nat.zero_add, true_or, or_true, Nat.reduceMul, Nat.add_zero, Nat.zero_le, Nat.le_refl]
  refine Ok_callW (draw_ok (k + 3) F1 (by omega) (by omega)) fun r hp2 ⟨F2, many, hr, n0, n1⟩ => ?_
  subst hr
  simp only [↓q_ok, ↓q_some, ↓q_cst, ↓q_var, ↓q_tup, ↓q_lst, ↓q_bin, ↓q_cmp, ↓q_neg, ↓q_nt, ↓q_an, ↓q_orr, ↓q_ite, ↓q_idx, ↓q_slc, ↓q_rev, ↓q_call, ↓q_bi, ↓q_join, ↓q_app, ↓q_ext, ↓q_lc, ↓q_fs, ↓q_dct, ↓q_evs0, ↓q_evs1, ↓q_opds0, ↓q_opds1, ↓q_no, ↓q_so, ↓q_it, ↓q_rg1, ↓q_rg2, ↓q_tno, ↓q_tso, ↓q_evf0, ↓q_evf1, ↓q_tnt, ↓q_tan, ↓q_tor, ↓q_tite, ↓q_tvar, ↓q_tcst, ↓q_tcmp, ↓q_tidx, ↓q_tcall, ↓q_tbi, ↓q_tslc, ↓q_ovar, ↓q_ocst, ↓q_otup, ↓q_olst, ↓q_obin, ↓q_ocmp, ↓q_oneg, ↓q_ont, ↓q_oan, ↓q_oorr, ↓q_oite, ↓q_oidx, ↓q_oslc, ↓q_orev, ↓q_ocall, ↓q_obi, ↓q_ojoin, ↓q_olc, ↓q_ofs, ↓q_odct, ↓q_lookv, ↓q_looks, ↓q_peek, ↓q_look0, ↓q_look1, ↓q_set, ↓q_bnm, ↓q_btp, ↓q_sets0, ↓q_sets1, ↓q_par0, ↓q_par1, ↓q_own, ↓q_appV, ↓q_extn, ↓q_extl, ↓q_ixr, ↓q_ixt, ↓q_ixl, ↓q_ixs, ↓q_putG, ↓q_add_int, ↓q_add_str, ↓q_add_lst, ↓q_add_tup, ↓q_sub_int, ↓q_mul_int, ↓q_mul_lst, ↓q_mul_tup, ↓q_fdiv_int, ↓q_mod_int, ↓q_pow_int, ↓q_bint, ↓q_bintb, ↓q_blenl, ↓q_blent, ↓q_blens, ↓q_bstri, ↓q_bstrs, ↓q_blistl, ↓q_blistt, ↓q_btupl, ↓q_btupt, ↓q_bmin, ↓q_bmax, ↓q_fmts, ↓q_fmti, ↓q_asg, ↓q_parS, ↓q_put, ↓q_ex, ↓q_iff, ↓q_for, ↓q_retV, ↓q_rcst, ↓q_rtup, ↓q_rlst, ↓q_rbin, ↓q_rcmp, ↓q_rneg, ↓q_rnt, ↓q_ran, ↓q_rorr, ↓q_rite, ↓q_ridx, ↓q_rslc, ↓q_rrev, ↓q_rcall, ↓q_rbi, ↓q_rjoin, ↓q_rlc, ↓q_rfs, ↓q_rdct, ↓q_retN, ↓q_pas, ↓q_brk, ↓q_cnt, ↓q_exs0, ↓q_exs1, q_add_int, q_add_str, q_add_lst, q_add_tup, q_sub_int, q_mul_int, q_mul_lst, q_mul_tup, q_fdiv_int, q_mod_int, q_pow_int, q_bint, q_bintb, q_blenl, q_blent, q_blens, q_bstri, q_bstrs, q_blistl, q_blistt, q_btupl, q_btupt, q_bmin, q_bmax, q_fmts, q_fmti, backG_mk, pushG_mk, wipe_nil, wipe_cons, back_nil, back_cons, noOwn_nil, slots_nm, slots_tp, pv_val, pv_new, slot_val, slot_new, asInt_int, truV_bl, truV_int, cmpV_eq, cmpV_ne, cmpV_lt, cmpV_le, cmpV_gt, cmpV_ge, eqV_int, eqV_str, items_l, items_t, items_f, slcV_lst, slcV_tup, slcV_fz, revV_tup, revV_lst, idxV_lst, idxV_tup, noOwn_cons, at0, at1, at2, at3, Nxt_nx, Nxt_ret, Nxt_brk, Nxt_cnt, Turn_nx, Turn_cnt, Turn_brk, Turn_ret, Fin'_ret, Fin'_nx, List.getElem?_cons_zero, List.getElem?_cons_succ, List.set_cons_zero, List.set_cons_succ, List.getD_cons_zero, List.getD_cons_succ, List.length_cons, List.length_nil, List.map_cons, List.map_nil, List.cons_append, List.nil_append, List.replicate_succ, List.replicate_zero, Option.map_some, Option.some.injEq, Bool.not_true, Bool.not_false, Bool.and_self, Bool.and_true, Bool.true_and, Bool.false_eq_true, Bool.true_eq_false, if_true, if_false, ite_true, ite_false, reduceIte, true_and, and_true, Nat.reduceAdd, Nat.reduceSub, Nat.reduceLT, Nat.reduceLeDiff, Nat.reducePow, Int.reducePow, Int.reduceToNat, Int.reduceLE, Int.reduceLT, Int.reduceNeg, decide_true, decide_false, Ev.sizeLine_eq, rgOk_eq, Nat.lt_add_left_iff_pos, Nat.zero_lt_succ, Nat.succ_pos, Nat.zero_add, true_or, or_true, Nat.reduceMul, Nat.add_zero, Nat.zero_le, Nat.le_refl]
  refine Ok_callW (words_ok (k + 2) F2 (by omega) (by omega)) fun r hp3 ⟨F3, ws, hr, hwl, hws⟩ => ?_
  subst hr
  simp only [↓q_ok, ↓q_some, ↓q_cst, ↓q_var, ↓q_tup, ↓q_lst, ↓q_bin, ↓q_cmp, ↓q_neg, ↓q_nt, ↓q_an, ↓q_orr, ↓q_ite, ↓q_idx, ↓q_slc, ↓q_rev, ↓q_call, ↓q_bi, ↓q_join, ↓q_app, ↓q_ext, ↓q_lc, ↓q_fs, ↓q_dct, ↓q_evs0, ↓q_evs1, ↓q_opds0, ↓q_opds1, ↓q_no, ↓q_so, ↓q_it, ↓q_rg1, ↓q_rg2, ↓q_tno, ↓q_tso, ↓q_evf0, ↓q_evf1, ↓q_tnt, ↓q_tan, ↓q_tor, ↓q_tite, ↓q_tvar, ↓q_tcst, ↓q_tcmp, ↓q_tidx, ↓q_tcall, ↓q_tbi, ↓q_tslc, ↓q_ovar, ↓q_ocst, ↓q_otup, ↓q_olst, ↓q_obin, ↓q_ocmp, ↓q_oneg, ↓q_ont, ↓q_oan, ↓q_oorr, ↓q_oite, ↓q_oidx, ↓q_oslc, ↓q_orev, ↓q_ocall, ↓q_obi, ↓q_ojoin, ↓q_olc, ↓q_ofs, ↓q_odct, ↓q_lookv, ↓q_looks, ↓q_peek, ↓q_look0, ↓q_look1, ↓q_set, ↓q_bnm, ↓q_btp, ↓q_sets0, ↓q_sets1, ↓q_par0, ↓q_par1, ↓q_own, ↓q_appV, ↓q_extn, ↓q_extl, ↓q_ixr, ↓q_ixt, ↓q_ixl, ↓q_ixs, ↓q_putG, ↓q_add_int, ↓q_add_str, ↓q_add_lst, ↓q_add_tup, ↓q_sub_int, ↓q_mul_int, ↓q_mul_lst, ↓q_mul_tup, ↓q_fdiv_int, ↓q_mod_int, ↓q_pow_int, ↓q_bint, ↓q_bintb, ↓q_blenl, ↓q_blent, ↓q_blens, ↓q_bstri, ↓q_bstrs, ↓q_blistl, ↓q_blistt, ↓q_btupl, ↓q_btupt, ↓q_bmin, ↓q_bmax, ↓q_fmts, ↓q_fmti, ↓q_asg, ↓q_parS, ↓q_put, ↓q_ex, ↓q_iff, ↓q_for, ↓q_retV, ↓q_rcst, ↓q_rtup, ↓q_rlst, ↓q_rbin, ↓q_rcmp, ↓q_rneg, ↓q_rnt, ↓q_ran, ↓q_rorr, ↓q_rite, ↓q_ridx, ↓q_rslc, ↓q_rrev, ↓q_rcall, ↓q_rbi, ↓q_rjoin, ↓q_rlc, ↓q_rfs, ↓q_rdct, ↓q_retN, ↓q_pas, ↓q_brk, ↓q_cnt, ↓q_exs0, ↓q_exs1, q_add_int, q_add_str, q_add_lst, q_add_tup, q_sub_int, q_mul_int, q_mul_lst, q_mul_tup, q_fdiv_int, q_mod_int, q_pow_int, q_bint, q_bintb, q_blenl, q_blent, q_blens, q_bstri, q_bstrs, q_blistl, q_blistt, q_btupl, q_btupt, q_bmin, q_bmax, q_fmts, q_fmti, backG_mk, pushG_mk, wipe_nil, wipe_cons, back_nil, back_cons, noOwn_nil, slots_nm, slots_tp, pv_val, pv_new, slot_val, slot_new, asInt_int, truV_bl, truV_int, cmpV_eq, cmpV_ne, cmpV_lt, cmpV_le, cmpV_gt, cmpV_ge, eqV_int, eqV_str, items_l, items_t, items_f, slcV_lst, slcV_tup, slcV_fz, revV_tup, revV_lst, idxV_lst, idxV_tup, noOwn_cons, at0, at1, at2, at3, Nxt_nx, Nxt_ret, Nxt_brk, Nxt_cnt, Turn_nx, Turn_cnt, Turn_brk, Turn_ret, Fin'_ret, Fin'_nx, List.getElem?_cons_zero, List.getElem?_cons_succ, List.set_cons_zero, List.set_cons_succ, List.getD_cons_zero, List.getD_cons_succ, List.length_cons, List.length_nil, List.map_cons, List.map_nil, List.cons_append, List.nil_append, List.replicate_succ, List.replicate_zero, Option.map_some, Option.some.injEq, Bool.not_true, Bool.not_false, Bool.and_self, Bool.and_true, Bool.true_and, Bool.false_eq_true, Bool.true_eq_false, if_true, if_false, ite_true, ite_false, reduceIte, true_and, and_true, Nat.reduceAdd, Nat.reduceSub, Nat.reduceLT, Nat.reduceLeDiff, Nat.reducePow, Int.reducePow, Int.reduceToNat, Int.reduceLE, Int.reduceLT, Int.reduceNeg, decide_true, decide_false, Ev.sizeLine_eq, rgOk_eq, Nat.lt_add_left_iff_pos, Nat.zero_lt_succ, Nat.succ_pos, Nat.zero_add, true_or, or_true, Nat.reduceMul, Nat.add_zero, Nat.zero_le, Nat.le_refl]
  refine Ok_callW (draw_ok (k + 3) F3 (by omega) (by omega)) fun r hp4 ⟨F4, dd, hr, d0, d1⟩ => ?_
  subst hr
  simp only [↓q_ok, ↓q_some, ↓q_cst, ↓q_var, ↓q_tup, ↓q_lst, ↓q_bin, ↓q_cmp, ↓q_neg, ↓q_nt, ↓q_an, ↓q_orr, ↓q_ite, ↓q_idx, ↓q_slc, ↓q_rev, ↓q_call, ↓q_bi, ↓q_join, ↓q_app, ↓q_ext, ↓q_lc, ↓q_fs, ↓q_dct, ↓q_evs0, ↓q_evs1, ↓q_opds0, ↓q_opds1, ↓q_no, ↓q_so, ↓q_it, ↓q_rg1, ↓q_rg2, ↓q_tno, ↓q_tso, ↓q_evf0, ↓q_evf1, ↓q_tnt, ↓q_tan, ↓q_tor, ↓q_tite, ↓q_tvar, ↓q_tcst, ↓q_tcmp, ↓q_tidx, ↓q_tcall, ↓q_tbi, ↓q_tslc, ↓q_ovar, ↓q_ocst, ↓q_otup, ↓q_olst, ↓q_obin, ↓q_ocmp, ↓q_oneg, ↓q_ont, ↓q_oan, ↓q_oorr, ↓q_oite, ↓q_oidx, ↓q_oslc, ↓q_orev, ↓q_ocall, ↓q_obi, ↓q_ojoin, ↓q_olc, ↓q_ofs, ↓q_odct, ↓q_lookv, ↓q_looks, ↓q_peek, ↓q_look0, ↓q_look1, ↓q_set, ↓q_bnm, ↓q_btp, ↓q_sets0, ↓q_sets1, ↓q_par0, ↓q_par1, ↓q_own, ↓q_appV, ↓q_extn, ↓q_extl, ↓q_ixr, ↓q_ixt, ↓q_ixl, ↓q_ixs, ↓q_putG, ↓q_add_int, ↓q_add_str, ↓q_add_lst, ↓q_add_tup, ↓q_sub_int, ↓q_mul_int, ↓q_mul_lst, ↓q_mul_tup, ↓q_fdiv_int, ↓q_mod_int, ↓q_pow_int, ↓q_bint, ↓q_bintb, ↓q_blenl, ↓q_blent, ↓q_blens, ↓q_bstri, ↓q_bstrs, ↓q_blistl, ↓q_blistt, ↓q_btupl, ↓q_btupt, ↓q_bmin, ↓q_bmax, ↓q_fmts, ↓q_fmti, ↓q_asg, ↓q_parS, ↓q_put, ↓q_ex, ↓q_iff, ↓q_for, ↓q_retV, ↓q_rcst, ↓q_rtup, ↓q_rlst, ↓q_rbin, ↓q_rcmp, ↓q_rneg, ↓q_rnt, ↓q_ran, ↓q_rorr, ↓q_rite, ↓q_ridx, ↓q_rslc, ↓q_rrev, ↓q_rcall, ↓q_rbi, ↓q_rjoin, ↓q_rlc, ↓q_rfs, ↓q_rdct, ↓q_retN, ↓q_pas, ↓q_brk, ↓q_cnt, ↓q_exs0, ↓q_exs1, q_add_int, q_add_str, q_add_lst, q_add_tup, q_sub_int, q_mul_int, q_mul_lst, q_mul_tup, q_fdiv_int, q_mod_int, q_pow_int, q_bint, q_bintb, q_blenl, q_blent, q_blens, q_bstri, q_bstrs, q_blistl, q_blistt, q_btupl, q_btupt, q_bmin, q_bmax, q_fmts, q_fmti, backG_mk, pushG_mk, wipe_nil, wipe_cons, back_nil, back_cons, noOwn_nil, slots_nm, slots_tp, pv_val, pv_new, slot_val, slot_new, asInt_int, truV_bl, truV_int, cmpV_eq, cmpV_ne, cmpV_lt, cmpV_le, cmpV_gt, cmpV_ge, eqV_int, eqV_str, items_l, items_t, items_f, slcV_lst, slcV_tup, slcV_fz, revV_tup, revV_lst, idxV_lst, idxV_tup, noOwn_cons, at0, at1, at2, at3, Nxt_nx, Nxt_ret, Nxt_brk, Nxt_cnt, Turn_nx, Turn_cnt, Turn_brk, Turn_ret, Fin'_ret, Fin'_nx, List.getElem?_cons_zero, List.getElem?_cons_succ, List.set_cons_zero, List.set_cons_succ, List.getD_cons_zero, List.getD_cons_succ, List.length_cons, List.length_nil, List.map_cons, List.map_nil, List.cons_append, List.nil_append, List.replicate_succ, List.replicate_zero, Option.map_some, Option.some.injEq, Bool.not_true, Bool.not_false, Bool.and_self, Bool.and_true, Bool.true_and, Bool.false_eq_true, Bool.true_eq_false, if_true, if_false, ite_true, ite_false, reduceIte, true_and, and_true, Nat.reduceAdd, Nat.reduceSub, Nat.reduceLT, Nat.reduceLeDiff, Nat.reducePow, Int.reducePow, Int.reduceToNat, Int.reduceLE, Int.reduceLT, Int.reduceNeg, decide_true, decide_false, Ev.sizeLine_eq, rgOk_eq, Nat.lt_add_left_iff_pos, Nat.zero_lt_succ, Nat.succ_pos, Nat.zero_add, true_or, or_true, Nat.reduceMul, Nat.add_zero, Nat.zero_le, Nat.le_refl]
  rw [cut_to (by omega)]
  refine ⟨by omega, ?_⟩
  have hal := AllTx.map hws
  have hln : (ws.map PV.str).length = many.toNat + 2 := by simp; omega
  have hlz : (ws.map PV.str).length = ws.length := by simp
  generalize ws.map PV.str = W at *
  obtain ⟨names, hn, hnt⟩ := (hal.take (1 + dd).toNat).ex
  have hnl : names.length = (1 + dd).toNat := by
    have := congrArg List.length hn
    simp only [List.length_take, List.length_map] at this
    omega
  rw [hn]
  refine for_sl (β := List Rd × Slot × Slot) (fun b sl => ((sl.set 5 (.val (.tup (b.1.map rPV)))).set 7 b.2.1).set 9 b.2.2)
    (fun i b hp => Fd hp ∧ b.1.length = i ∧ i ≤ many.toNat ∧ (∀ r ∈ b.1, RdOk r) ∧ ∃ S : List Str, b.2.1 = .own (S.map PV.str) ∧ S.length = names.length + i ∧ ∀ w ∈ S, Tx 12 w) ([], .own (names.map PV.str), .no) rfl
    ⟨F4, rfl, by omega, nofun, names, rfl, by omega, hnt⟩ (fun i x b2 hp hx ⟨F, hb1, hi, hr, S, hS, sl, st⟩ => ?_) fun b2 hp ⟨F, hb1, hi, hr, S, hS, sl, st⟩ => ?_
  · obtain ⟨rfl, hi2⟩ := rg_get hx
    obtain ⟨rs, s7, s9⟩ := b2
    simp only at hS hb1
    subst hS
    simp only [↓q_ok, ↓q_some, ↓q_cst, ↓q_var, ↓q_tup, ↓q_lst, ↓q_bin, ↓q_cmp, ↓q_neg, ↓q_nt, ↓q_an, ↓q_orr, ↓q_ite, ↓q_idx, ↓q_slc, ↓q_rev, ↓q_call, ↓q_bi, ↓q_join, ↓q_app, ↓q_ext, ↓q_lc, ↓q_fs, ↓q_dct, ↓q_evs0, ↓q_evs1, ↓q_opds0, ↓q_opds1, ↓q_no, ↓q_so, ↓q_it, ↓q_rg1, ↓q_rg2, ↓q_tno, ↓q_tso, ↓q_evf0, ↓q_evf1, ↓q_tnt, ↓q_tan, ↓q_tor, ↓q_tite, ↓q_tvar, ↓q_tcst, ↓q_tcmp, ↓q_tidx, ↓q_tcall, ↓q_tbi, ↓q_tslc, ↓q_ovar, ↓q_ocst, ↓q_otup, ↓q_olst, ↓q_obin, ↓q_ocmp, ↓q_oneg, ↓q_ont, ↓q_oan, ↓q_oorr, ↓q_oite, ↓q_oidx, ↓q_oslc, ↓q_orev, ↓q_ocall, ↓q_obi, ↓q_ojoin, ↓q_olc, ↓q_ofs, ↓q_odct, ↓q_lookv, ↓q_looks, ↓q_peek, ↓q_look0, ↓q_look1, ↓q_set, ↓q_bnm, ↓q_btp, ↓q_sets0, ↓q_sets1, ↓q_par0, ↓q_par1, ↓q_own, ↓q_appV, ↓q_extn, ↓q_extl, ↓q_ixr, ↓q_ixt, ↓q_ixl, ↓q_ixs, ↓q_putG, ↓q_add_int, ↓q_add_str, ↓q_add_lst, ↓q_add_tup, ↓q_sub_int, ↓q_mul_int, ↓q_mul_lst, ↓q_mul_tup, ↓q_fdiv_int, ↓q_mod_int, ↓q_pow_int, ↓q_bint, ↓q_bintb, ↓q_blenl, ↓q_blent, ↓q_blens, ↓q_bstri, ↓q_bstrs, ↓q_blistl, ↓q_blistt, ↓q_btupl, ↓q_btupt, ↓q_bmin, ↓q_bmax, ↓q_fmts, ↓q_fmti, ↓q_asg, ↓q_parS, ↓q_put, ↓q_ex, ↓q_iff, ↓q_for, ↓q_retV, ↓q_rcst, ↓q_rtup, ↓q_rlst, ↓q_rbin, ↓q_rcmp, ↓q_rneg, ↓q_rnt, ↓q_ran, ↓q_rorr, ↓q_rite, ↓q_ridx, ↓q_rslc, ↓q_rrev, ↓q_rcall, ↓q_rbi, ↓q_rjoin, ↓q_rlc, ↓q_rfs, ↓q_rdct, ↓q_retN, ↓q_pas, ↓q_brk, ↓q_cnt, ↓q_exs0, ↓q_exs1, q_add_int, q_add_str, q_add_lst, q_add_tup, q_sub_int, q_mul_int, q_mul_lst, q_mul_tup, q_fdiv_int, q_mod_int, q_pow_int, q_bint, q_bintb, q_blenl, q_blent, q_blens, q_bstri, q_bstrs, q_blistl, q_blistt, q_btupl, q_btupt, q_bmin, q_bmax, q_fmts, q_fmti, backG_mk, pushG_mk, wipe_nil, wipe_cons, back_nil, back_cons, noOwn_nil, slots_nm, slots_tp, pv_val, pv_new, slot_val, slot_new, asInt_int, truV_bl, truV_int, cmpV_eq, cmpV_ne, cmpV_lt, cmpV_le, cmpV_gt, cmpV_ge, eqV_int, eqV_str, items_l, items_t, items_f, slcV_lst, slcV_tup, slcV_fz, revV_tup, revV_lst, idxV_lst, idxV_tup, noOwn_cons, at0, at1, at2, at3, Nxt_nx, Nxt_ret, Nxt_brk, Nxt_cnt, Turn_nx, Turn_cnt, Turn_brk, Turn_ret, Fin'_ret, Fin'_nx, List.getElem?_cons_zero, List.getElem?_cons_succ, List.set_cons_zero, List.set_cons_succ, List.getD_cons_zero, List.getD_cons_succ, List.length_cons, List.length_nil, List.map_cons, List.map_nil, List.cons_append, List.nil_append, List.replicate_succ, List.replicate_zero, Option.map_some, Option.some.injEq, Bool.not_true, Bool.not_false, Bool.and_self, Bool.and_true, Bool.true_and, Bool.false_eq_true, Bool.true_eq_false, if_true, if_false, ite_true, ite_false, reduceIte, true_and, and_true, Nat.reduceAdd, Nat.reduceSub, Nat.reduceLT, Nat.reduceLeDiff, Nat.reducePow, Int.reducePow, Int.reduceToNat, Int.reduceLE, Int.reduceLT, Int.reduceNeg, decide_true, decide_false, Ev.sizeLine_eq, rgOk_eq, Nat.lt_add_left_iff_pos, Nat.zero_lt_succ, Nat.succ_pos, Nat.zero_add, true_or, or_true, Nat.reduceMul, Nat.add_zero, Nat.zero_le, Nat.le_refl]
    refine Ok_at (by omega) (by omega) fun y hy => ?_
    obtain ⟨w, rfl, tw⟩ := hal y (List.mem_of_getElem? hy)
    simp only [↓q_ok, ↓q_some, ↓q_cst, ↓q_var, ↓q_tup, ↓q_lst, ↓q_bin, ↓q_cmp, ↓q_neg, ↓q_nt, ↓q_an, ↓q_orr, ↓q_ite, ↓q_idx, ↓q_slc, ↓q_rev, ↓q_call, ↓q_bi, ↓q_join, ↓q_app, ↓q_ext, ↓q_lc, ↓q_fs, ↓q_dct, ↓q_evs0, ↓q_evs1, ↓q_opds0, ↓q_opds1, ↓q_no, ↓q_so, ↓q_it, ↓q_rg1, ↓q_rg2, ↓q_tno, ↓q_tso, ↓q_evf0, ↓q_evf1, ↓q_tnt, ↓q_tan, ↓q_tor, ↓q_tite, ↓q_tvar, ↓q_tcst, ↓q_tcmp, ↓q_tidx, ↓q_tcall, ↓q_tbi, ↓q_tslc, ↓q_ovar, ↓q_ocst, ↓q_otup, ↓q_olst, ↓q_obin, ↓q_ocmp, ↓q_oneg, ↓q_ont, ↓q_oan, ↓q_oorr, ↓q_oite, ↓q_oidx, ↓q_oslc, ↓q_orev, ↓q_ocall, ↓q_obi, ↓q_ojoin, ↓q_olc, ↓q_ofs, ↓q_odct, ↓q_lookv, ↓q_looks, ↓q_peek, ↓q_look0, ↓q_look1, ↓q_set, ↓q_bnm, ↓q_btp, ↓q_sets0, ↓q_sets1, ↓q_par0, ↓q_par1, ↓q_own, ↓q_appV, ↓q_extn, ↓q_extl, ↓q_ixr, ↓q_ixt, ↓q_ixl, ↓q_ixs, ↓q_putG, ↓q_add_int, ↓q_add_str, ↓q_add_lst, ↓q_add_tup, ↓q_sub_int, ↓q_mul_int, ↓q_mul_lst, ↓q_mul_tup, ↓q_fdiv_int, ↓q_mod_int, ↓q_pow_int, ↓q_bint, ↓q_bintb, ↓q_blenl, ↓q_blent, ↓q_blens, ↓q_bstri, ↓q_bstrs, ↓q_blistl, ↓q_blistt, ↓q_btupl, ↓q_btupt, ↓q_bmin, ↓q_bmax, ↓q_fmts, ↓q_fmti, ↓q_asg, ↓q_parS, ↓q_put, ↓q_ex, ↓q_iff, ↓q_for, ↓q_retV, ↓q_rcst, ↓q_rtup, ↓q_rlst, ↓q_rbin, ↓q_rcmp, ↓q_rneg, ↓q_rnt, ↓q_ran, ↓q_rorr, ↓q_rite, ↓q_ridx, ↓q_rslc, ↓q_rrev, ↓q_rcall, ↓q_rbi, ↓q_rjoin, ↓q_rlc, ↓q_rfs, ↓q_rdct, ↓q_retN, ↓q_pas, ↓q_brk, ↓q_cnt, ↓q_exs0, ↓q_exs1, q_add_int, q_add_str, q_add_lst, q_add_tup, q_sub_int, q_mul_int, q_mul_lst, q_mul_tup, q_fdiv_int, q_mod_int, q_pow_int, q_bint, q_bintb, q_blenl, q_blent, q_blens, q_bstri, q_bstrs, q_blistl, q_blistt, q_btupl, q_btupt, q_bmin, q_bmax, q_fmts, q_fmti, backG_mk, pushG_mk, wipe_nil, wipe_cons, back_nil, back_cons, noOwn_nil, slots_nm, slots_tp, pv_val, pv_new, slot_val, slot_new, asInt_int, truV_bl, truV_int, cmpV_eq, cmpV_ne, cmpV_lt, cmpV_le, cmpV_gt, cmpV_ge, eqV_int, eqV_str, items_l, items_t, items_f, slcV_lst, slcV_tup, slcV_fz, revV_tup, revV_lst, idxV_lst, idxV_tup, noOwn_cons, at0, at1, at2, at3, Nxt_nx, Nxt_ret, Nxt_brk, Nxt_cnt, Turn_nx, Turn_cnt, Turn_brk, Turn_ret, Fin'_ret, Fin'_nx, List.getElem?_cons_zero, List.getElem?_cons_succ, List.set_cons_zero, List.set_cons_succ, List.getD_cons_zero, List.getD_cons_succ, List.length_cons, List.length_nil, List.map_cons, List.map_nil, List.cons_append, List.nil_append, List.replicate_succ, List.replicate_zero, Option.map_some, Option.some.injEq, Bool.not_true, Bool.not_false, Bool.and_self, Bool.and_true, Bool.true_and, Bool.false_eq_true, Bool.true_eq_false, if_true, if_false, ite_true, ite_false, reduceIte, true_and, and_true, Nat.reduceAdd, Nat.reduceSub, Nat.reduceLT, Nat.reduceLeDiff, Nat.reducePow, Int.reducePow, Int.reduceToNat, Int.reduceLE, Int.reduceLT, Int.reduceNeg, decide_true, decide_false, Ev.sizeLine_eq, rgOk_eq, Nat.lt_add_left_iff_pos, Nat.zero_lt_succ, Nat.succ_pos, Nat.zero_add, true_or, or_true, Nat.reduceMul, Nat.add_zero, Nat.zero_le, Nat.le_refl]
    refine Ok_callW (get_ok k F hb (by omega) (by omega) st tw) fun r hp5 ⟨F5, x, hr2, hx⟩ => ?_
    subst hr2
    simp only [↓q_ok, ↓q_some, ↓q_cst, ↓q_var, ↓q_tup, ↓q_lst, ↓q_bin, ↓q_cmp, ↓q_neg, ↓q_nt, ↓q_an, ↓q_orr, ↓q_ite, ↓q_idx, ↓q_slc, ↓q_rev, ↓q_call, ↓q_bi, ↓q_join, ↓q_app, ↓q_ext, ↓q_lc, ↓q_fs, ↓q_dct, ↓q_evs0, ↓q_evs1, ↓q_opds0, ↓q_opds1, ↓q_no, ↓q_so, ↓q_it, ↓q_rg1, ↓q_rg2, ↓q_tno, ↓q_tso, ↓q_evf0, ↓q_evf1, ↓q_tnt, ↓q_tan, ↓q_tor, ↓q_tite, ↓q_tvar, ↓q_tcst, ↓q_tcmp, ↓q_tidx, ↓q_tcall, ↓q_tbi, ↓q_tslc, ↓q_ovar, ↓q_ocst, ↓q_otup, ↓q_olst, ↓q_obin, ↓q_ocmp, ↓q_oneg, ↓q_ont, ↓q_oan, ↓q_oorr, ↓q_oite, ↓q_oidx, ↓q_oslc, ↓q_orev, ↓q_ocall, ↓q_obi, ↓q_ojoin, ↓q_olc, ↓q_ofs, ↓q_odct, ↓q_lookv, ↓q_looks, ↓q_peek, ↓q_look0, ↓q_look1, ↓q_set, ↓q_bnm, ↓q_btp, ↓q_sets0, ↓q_sets1, ↓q_par0, ↓q_par1, ↓q_own, ↓q_appV, ↓q_extn, ↓q_extl, ↓q_ixr, ↓q_ixt, ↓q_ixl, ↓q_ixs, ↓q_putG, ↓q_add_int, ↓q_add_str, ↓q_add_lst, ↓q_add_tup, ↓q_sub_int, ↓q_mul_int, ↓q_mul_lst, ↓q_mul_tup, ↓q_fdiv_int, ↓q_mod_int, ↓q_pow_int, ↓q_bint, ↓q_bintb, ↓q_blenl, ↓q_blent, ↓q_blens, ↓q_bstri, ↓q_bstrs, ↓q_blistl, ↓q_blistt, ↓q_btupl, ↓q_btupt, ↓q_bmin, ↓q_bmax, ↓q_fmts, ↓q_fmti, ↓q_asg, ↓q_parS, ↓q_put, ↓q_ex, ↓q_iff, ↓q_for, ↓q_retV, ↓q_rcst, ↓q_rtup, ↓q_rlst, ↓q_rbin, ↓q_rcmp, ↓q_rneg, ↓q_rnt, ↓q_ran, ↓q_rorr, ↓q_rite, ↓q_ridx, ↓q_rslc, ↓q_rrev, ↓q_rcall, ↓q_rbi, ↓q_rjoin, ↓q_rlc, ↓q_rfs, ↓q_rdct, ↓q_retN, ↓q_pas, ↓q_brk, ↓q_cnt, ↓q_exs0, ↓q_exs1, q_add_int, q_add_str, q_add_lst, q_add_tup, q_sub_int, q_mul_int, q_mul_lst, q_mul_tup, q_fdiv_int, q_mod_int, q_pow_int, q_bint, q_bintb, q_blenl, q_blent, q_blens, q_bstri, q_bstrs, q_blistl, q_blistt, q_btupl, q_btupt, q_bmin, q_bmax, q_fmts, q_fmti, backG_mk, pushG_mk, wipe_nil, wipe_cons, back_nil, back_cons, noOwn_nil, slots_nm, slots_tp, pv_val, pv_new, slot_val, slot_new, asInt_int, truV_bl, truV_int, cmpV_eq, cmpV_ne, cmpV_lt, cmpV_le, cmpV_gt, cmpV_ge, eqV_int, eqV_str, items_l, items_t, items_f, slcV_lst, slcV_tup, slcV_fz, revV_tup, revV_lst, idxV_lst, idxV_tup, noOwn_cons, at0, at1, at2, at3, Nxt_nx, Nxt_ret, Nxt_brk, Nxt_cnt, Turn_nx, Turn_cnt, Turn_brk, Turn_ret, Fin'_ret, Fin'_nx, List.getElem?_cons_zero, List.getElem?_cons_succ, List.set_cons_zero, List.set_cons_succ, List.getD_cons_zero, List.getD_cons_succ, List.length_cons, List.length_nil, List.map_cons, List.map_nil, List.cons_append, List.nil_append, List.replicate_succ, List.replicate_zero, Option.map_some, Option.some.injEq, Bool.not_true, Bool.not_false, Bool.and_self, Bool.and_true, Bool.true_and, Bool.false_eq_true, Bool.true_eq_false, if_true, if_false, ite_true, ite_false, reduceIte, true_and, and_true, Nat.reduceAdd, Nat.reduceSub, Nat.reduceLT, Nat.reduceLeDiff, Nat.reducePow, Int.reducePow, Int.reduceToNat, Int.reduceLE, Int.reduceLT, Int.reduceNeg, decide_true, decide_false, Ev.sizeLine_eq, rgOk_eq, Nat.lt_add_left_iff_pos, Nat.zero_lt_succ, Nat.succ_pos, Nat.zero_add, true_or, or_true, Nat.reduceMul, Nat.add_zero, Nat.zero_le, Nat.le_refl]
    refine ⟨by ((try simp only [List.length_append, List.length_cons, List.length_nil, List.length_take, List.length_map, List.length_reverse]); omega), ?_⟩
    refine Ok_at (by omega) (by omega) fun y hy => ?_
    obtain ⟨w2, rfl, tw2⟩ := hal y (List.mem_of_getElem? hy)
    simp only [↓q_ok, ↓q_some, ↓q_cst, ↓q_var, ↓q_tup, ↓q_lst, ↓q_bin, ↓q_cmp, ↓q_neg, ↓q_nt, ↓q_an, ↓q_orr, ↓q_ite, ↓q_idx, ↓q_slc, ↓q_rev, ↓q_call, ↓q_bi, ↓q_join, ↓q_app, ↓q_ext, ↓q_lc, ↓q_fs, ↓q_dct, ↓q_evs0, ↓q_evs1, ↓q_opds0, ↓q_opds1, ↓q_no, ↓q_so, ↓q_it, ↓q_rg1, ↓q_rg2, ↓q_tno, ↓q_tso, ↓q_evf0, ↓q_evf1, ↓q_tnt, ↓q_tan, ↓q_tor, ↓q_tite, ↓q_tvar, ↓q_tcst, ↓q_tcmp, ↓q_tidx, ↓q_tcall, ↓q_tbi, ↓q_tslc, ↓q_ovar, ↓q_ocst, ↓q_otup, ↓q_olst, ↓q_obin, ↓q_ocmp, ↓q_oneg, ↓q_ont, ↓q_oan, ↓q_oorr, ↓q_oite, ↓q_oidx, ↓q_oslc, ↓q_orev, ↓q_ocall, ↓q_obi, ↓q_ojoin, ↓q_olc, ↓q_ofs, ↓q_odct, ↓q_lookv, ↓q_looks, ↓q_peek, ↓q_look0, ↓q_look1, ↓q_set, ↓q_bnm, ↓q_btp, ↓q_sets0, ↓q_sets1, ↓q_par0, ↓q_par1, ↓q_own, ↓q_appV, ↓q_extn, ↓q_extl, ↓q_ixr, ↓q_ixt, ↓q_ixl, ↓q_ixs, ↓q_putG, ↓q_add_int, ↓q_add_str, ↓q_add_lst, ↓q_add_tup, ↓q_sub_int, ↓q_mul_int, ↓q_mul_lst, ↓q_mul_tup, ↓q_fdiv_int, ↓q_mod_int, ↓q_pow_int, ↓q_bint, ↓q_bintb, ↓q_blenl, ↓q_blent, ↓q_blens, ↓q_bstri, ↓q_bstrs, ↓q_blistl, ↓q_blistt, ↓q_btupl, ↓q_btupt, ↓q_bmin, ↓q_bmax, ↓q_fmts, ↓q_fmti, ↓q_asg, ↓q_parS, ↓q_put, ↓q_ex, ↓q_iff, ↓q_for, ↓q_retV, ↓q_rcst, ↓q_rtup, ↓q_rlst, ↓q_rbin, ↓q_rcmp, ↓q_rneg, ↓q_rnt, ↓q_ran, ↓q_rorr, ↓q_rite, ↓q_ridx, ↓q_rslc, ↓q_rrev, ↓q_rcall, ↓q_rbi, ↓q_rjoin, ↓q_rlc, ↓q_rfs, ↓q_rdct, ↓q_retN, ↓q_pas, ↓q_brk, ↓q_cnt, ↓q_exs0, ↓q_exs1, q_add_int, q_add_str, q_add_lst, q_add_tup, q_sub_int, q_mul_int, q_mul_lst, q_mul_tup, q_fdiv_int, q_mod_int, q_pow_int, q_bint, q_bintb, q_blenl, q_blent, q_blens, q_bstri, q_bstrs, q_blistl, q_blistt, q_btupl, q_btupt, q_bmin, q_bmax, q_fmts, q_fmti, backG_mk, pushG_mk, wipe_nil, wipe_cons, back_nil, back_cons, noOwn_nil, slots_nm, slots_tp, pv_val, pv_new, slot_val, slot_new, asInt_int, truV_bl, truV_int, cmpV_eq, cmpV_ne, cmpV_lt, cmpV_le, cmpV_gt, cmpV_ge, eqV_int, eqV_str, items_l, items_t, items_f, slcV_lst, slcV_tup, slcV_fz, revV_tup, revV_lst, idxV_lst, idxV_tup, noOwn_cons, at0, at1, at2, at3, Nxt_nx, Nxt_ret, Nxt_brk, Nxt_cnt, Turn_nx, Turn_cnt, Turn_brk, Turn_ret, Fin'_ret, Fin'_nx, List.getElem?_cons_zero, List.getElem?_cons_succ, List.set_cons_zero, List.set_cons_succ, List.getD_cons_zero, List.getD_cons_succ, List.length_cons, List.length_nil, List.map_cons, List.map_nil, List.cons_append, List.nil_append, List.replicate_succ, List.replicate_zero, Option.map_some, Option.some.injEq, Bool.not_true, Bool.not_false, Bool.and_self, Bool.and_true, Bool.true_and, Bool.false_eq_true, Bool.true_eq_false, if_true, if_false, ite_true, ite_false, reduceIte, true_and, and_true, Nat.reduceAdd, Nat.reduceSub, Nat.reduceLT, Nat.reduceLeDiff, Nat.reducePow, Int.reducePow, Int.reduceToNat, Int.reduceLE, Int.reduceLT, Int.reduceNeg, decide_true, decide_false, Ev.sizeLine_eq, rgOk_eq, Nat.lt_add_left_iff_pos, Nat.zero_lt_succ, Nat.succ_pos, Nat.zero_add, true_or, or_true, Nat.reduceMul, Nat.add_zero, Nat.zero_le, Nat.le_refl]
    refine ⟨by ((try simp only [List.length_append, List.length_cons, List.length_nil, List.length_take, List.length_map, List.length_reverse]); omega), (rs ++ [x], .own ((S ++ [w2]).map PV.str), _), by simp only [List.map_append, List.map_cons, List.map_nil]; rfl, F5, by simp; omega, by omega, fun r hr' => ?_, _, rfl, by simp; omega, fun v hv => ?_⟩
    · rcases List.mem_append.mp hr' with q | q
      · exact hr r q
      · rw [List.mem_singleton] at q
        subst q
        exact hx
    · rcases List.mem_append.mp hv with q | q
      · exact st v q
      · rw [List.mem_singleton] at q
        subst q
        exact tw2
  · rw [rg_len] at hb1 hi sl
    obtain ⟨rs, s7, s9⟩ := b2
    simp only at hS hb1
    subst hS
    have sal := AllTx.map st
    have sln : (S.map PV.str).length = S.length := by simp
    generalize S.map PV.str = SL at *
    simp only [↓q_ok, ↓q_some, ↓q_cst, ↓q_var, ↓q_tup, ↓q_lst, ↓q_bin, ↓q_cmp, ↓q_neg, ↓q_nt, ↓q_an, ↓q_orr, ↓q_ite, ↓q_idx, ↓q_slc, ↓q_rev, ↓q_call, ↓q_bi, ↓q_join, ↓q_app, ↓q_ext, ↓q_lc, ↓q_fs, ↓q_dct, ↓q_evs0, ↓q_evs1, ↓q_opds0, ↓q_opds1, ↓q_no, ↓q_so, ↓q_it, ↓q_rg1, ↓q_rg2, ↓q_tno, ↓q_tso, ↓q_evf0, ↓q_evf1, ↓q_tnt, ↓q_tan, ↓q_tor, ↓q_tite, ↓q_tvar, ↓q_tcst, ↓q_tcmp, ↓q_tidx, ↓q_tcall, ↓q_tbi, ↓q_tslc, ↓q_ovar, ↓q_ocst, ↓q_otup, ↓q_olst, ↓q_obin, ↓q_ocmp, ↓q_oneg, ↓q_ont, ↓q_oan, ↓q_oorr, ↓q_oite, ↓q_oidx, ↓q_oslc, ↓q_orev, ↓q_ocall, ↓q_obi, ↓q_ojoin, ↓q_olc, ↓q_ofs, ↓q_odct, ↓q_lookv, ↓q_looks, ↓q_peek, ↓q_look0, ↓q_look1, ↓q_set, ↓q_bnm, ↓q_btp, ↓q_sets0, ↓q_sets1, ↓q_par0, ↓q_par1, ↓q_own, ↓q_appV, ↓q_extn, ↓q_extl, ↓q_ixr, ↓q_ixt, ↓q_ixl, ↓q_ixs, ↓q_putG, ↓q_add_int, ↓q_add_str, ↓q_add_lst, ↓q_add_tup, ↓q_sub_int, ↓q_mul_int, ↓q_mul_lst, ↓q_mul_tup, ↓q_fdiv_int, ↓q_mod_int, ↓q_pow_int, ↓q_bint, ↓q_bintb, ↓q_blenl, ↓q_blent, ↓q_blens, ↓q_bstri, ↓q_bstrs, ↓q_blistl, ↓q_blistt, ↓q_btupl, ↓q_btupt, ↓q_bmin, ↓q_bmax, ↓q_fmts, ↓q_fmti, ↓q_asg, ↓q_parS, ↓q_put, ↓q_ex, ↓q_iff, ↓q_for, ↓q_retV, ↓q_rcst, ↓q_rtup, ↓q_rlst, ↓q_rbin, ↓q_rcmp, ↓q_rneg, ↓q_rnt, ↓q_ran, ↓q_rorr, ↓q_rite, ↓q_ridx, ↓q_rslc, ↓q_rrev, ↓q_rcall, ↓q_rbi, ↓q_rjoin, ↓q_rlc, ↓q_rfs, ↓q_rdct, ↓q_retN, ↓q_pas, ↓q_brk, ↓q_cnt, ↓q_exs0, ↓q_exs1, q_add_int, q_add_str, q_add_lst, q_add_tup, q_sub_int, q_mul_int, q_mul_lst, q_mul_tup, q_fdiv_int, q_mod_int, q_pow_int, q_bint, q_bintb, q_blenl, q_blent, q_blens, q_bstri, q_bstrs, q_blistl, q_blistt, q_btupl, q_btupt, q_bmin, q_bmax, q_fmts, q_fmti, backG_mk, pushG_mk, wipe_nil, wipe_cons, back_nil, back_cons, noOwn_nil, slots_nm, slots_tp, pv_val, pv_new, slot_val, slot_new, asInt_int, truV_bl, truV_int, cmpV_eq, cmpV_ne, cmpV_lt, cmpV_le, cmpV_gt, cmpV_ge, eqV_int, eqV_str, items_l, items_t, items_f, slcV_lst, slcV_tup, slcV_fz, revV_tup, revV_lst, idxV_lst, idxV_tup, noOwn_cons, at0, at1, at2, at3, Nxt_nx, Nxt_ret, Nxt_brk, Nxt_cnt, Turn_nx, Turn_cnt, Turn_brk, Turn_ret, Fin'_ret, Fin'_nx, List.getElem?_cons_zero, List.getElem?_cons_succ, List.set_cons_zero, List.set_cons_succ, List.getD_cons_zero, List.getD_cons_succ, List.length_cons, List.length_nil, List.map_cons, List.map_nil, List.cons_append, List.nil_append, List.replicate_succ, List.replicate_zero, Option.map_some, Option.some.injEq, Bool.not_true, Bool.not_false, Bool.and_self, Bool.and_true, Bool.true_and, Bool.false_eq_true, Bool.true_eq_false, if_true, if_false, ite_true, ite_false, reduceIte, true_and, and_true, Nat.reduceAdd, Nat.reduceSub, Nat.reduceLT, Nat.reduceLeDiff, Nat.reducePow, Int.reducePow, Int.reduceToNat, Int.reduceLE, Int.reduceLT, Int.reduceNeg, decide_true, decide_false, Ev.sizeLine_eq, rgOk_eq, Nat.lt_add_left_iff_pos, Nat.zero_lt_succ, Nat.succ_pos, Nat.zero_add, true_or, or_true, Nat.reduceMul, Nat.add_zero, Nat.zero_le, Nat.le_refl]
    refine Ok_callW (draw_ok (k + 3) F (by omega) (by omega)) fun r hp6 ⟨F6, np, hr2, p0, p1⟩ => ?_
    subst hr2
    simp only [↓q_ok, ↓q_some, ↓q_cst, ↓q_var, ↓q_tup, ↓q_lst, ↓q_bin, ↓q_cmp, ↓q_neg, ↓q_nt, ↓q_an, ↓q_orr, ↓q_ite, ↓q_idx, ↓q_slc, ↓q_rev, ↓q_call, ↓q_bi, ↓q_join, ↓q_app, ↓q_ext, ↓q_lc, ↓q_fs, ↓q_dct, ↓q_evs0, ↓q_evs1, ↓q_opds0, ↓q_opds1, ↓q_no, ↓q_so, ↓q_it, ↓q_rg1, ↓q_rg2, ↓q_tno, ↓q_tso, ↓q_evf0, ↓q_evf1, ↓q_tnt, ↓q_tan, ↓q_tor, ↓q_tite, ↓q_tvar, ↓q_tcst, ↓q_tcmp, ↓q_tidx, ↓q_tcall, ↓q_tbi, ↓q_tslc, ↓q_ovar, ↓q_ocst, ↓q_otup, ↓q_olst, ↓q_obin, ↓q_ocmp, ↓q_oneg, ↓q_ont, ↓q_oan, ↓q_oorr, ↓q_oite, ↓q_oidx, ↓q_oslc, ↓q_orev, ↓q_ocall, ↓q_obi, ↓q_ojoin, ↓q_olc, ↓q_ofs, ↓q_odct, ↓q_lookv, ↓q_looks, ↓q_peek, ↓q_look0, ↓q_look1, ↓q_set, ↓q_bnm, ↓q_btp, ↓q_sets0, ↓q_sets1, ↓q_par0, ↓q_par1, ↓q_own, ↓q_appV, ↓q_extn, ↓q_extl, ↓q_ixr, ↓q_ixt, ↓q_ixl, ↓q_ixs, ↓q_putG, ↓q_add_int, ↓q_add_str, ↓q_add_lst, ↓q_add_tup, ↓q_sub_int, ↓q_mul_int, ↓q_mul_lst, ↓q_mul_tup, ↓q_fdiv_int, ↓q_mod_int, ↓q_pow_int, ↓q_bint, ↓q_bintb, ↓q_blenl, ↓q_blent, ↓q_blens, ↓q_bstri, ↓q_bstrs, ↓q_blistl, ↓q_blistt, ↓q_btupl, ↓q_btupt, ↓q_bmin, ↓q_bmax, ↓q_fmts, ↓q_fmti, ↓q_asg, ↓q_parS, ↓q_put, ↓q_ex, ↓q_iff, ↓q_for, ↓q_retV, ↓q_rcst, ↓q_rtup, ↓q_rlst, ↓q_rbin, ↓q_rcmp, ↓q_rneg, ↓q_rnt, ↓q_ran, ↓q_rorr, ↓q_rite, ↓q_ridx, ↓q_rslc, ↓q_rrev, ↓q_rcall, ↓q_rbi, ↓q_rjoin, ↓q_rlc, ↓q_rfs, ↓q_rdct, ↓q_retN, ↓q_pas, ↓q_brk, ↓q_cnt, ↓q_exs0, ↓q_exs1, q_add_int, q_add_str, q_add_lst, q_add_tup, q_sub_int, q_mul_int, q_mul_lst, q_mul_tup, q_fdiv_int, q_mod_int, q_pow_int, q_bint, q_bintb, q_blenl, q_blent, q_blens, q_bstri, q_bstrs, q_blistl, q_blistt, q_btupl, q_btupt, q_bmin, q_bmax, q_fmts, q_fmti, backG_mk, pushG_mk, wipe_nil, wipe_cons, back_nil, back_cons, noOwn_nil, slots_nm, slots_tp, pv_val, pv_new, slot_val, slot_new, asInt_int, truV_bl, truV_int, cmpV_eq, cmpV_ne, cmpV_lt, cmpV_le, cmpV_gt, cmpV_ge, eqV_int, eqV_str, items_l, items_t, items_f, slcV_lst, slcV_tup, slcV_fz, revV_tup, revV_lst, idxV_lst, idxV_tup, noOwn_cons, at0, at1, at2, at3, Nxt_nx, Nxt_ret, Nxt_brk, Nxt_cnt, Turn_nx, Turn_cnt, Turn_brk, Turn_ret, Fin'_ret, Fin'_nx, List.getElem?_cons_zero, List.getElem?_cons_succ, List.set_cons_zero, List.set_cons_succ, List.getD_cons_zero, List.getD_cons_succ, List.length_cons, List.length_nil, List.map_cons, List.map_nil, List.cons_append, List.nil_append, List.replicate_succ, List.replicate_zero, Option.map_some, Option.some.injEq, Bool.not_true, Bool.not_false, Bool.and_self, Bool.and_true, Bool.true_and, Bool.false_eq_true, Bool.true_eq_false, if_true, if_false, ite_true, ite_false, reduceIte, true_and, and_true, Nat.reduceAdd, Nat.reduceSub, Nat.reduceLT, Nat.reduceLeDiff, Nat.reducePow, Int.reducePow, Int.reduceToNat, Int.reduceLE, Int.reduceLT, Int.reduceNeg, decide_true, decide_false, Ev.sizeLine_eq, rgOk_eq, Nat.lt_add_left_iff_pos, Nat.zero_lt_succ, Nat.succ_pos, Nat.zero_add, true_or, or_true, Nat.reduceMul, Nat.add_zero, Nat.zero_le, Nat.le_refl]
    refine ⟨by omega, ?_⟩
    refine lc_up (β := Slot) (fun b sl => sl.set 7 b) (fun i b hp => Fd hp ∧ (b = .own SL ∨ b = .val (.lst SL))) (fun _ y => ∃ w, y = wPV w ∧ WtOk w) (.own SL) rfl ⟨F6, .inl rfl⟩ ?_ (fun i x b3 hp hx ⟨F, hb3⟩ => ?_) fun ys b3 hp7 ⟨F7, hb3⟩ e => ?_
    · rw [rg_len]
      omega
    · rcases hb3 with rfl | rfl
      all_goals
        simp only [↓q_ok, ↓q_some, ↓q_cst, ↓q_var, ↓q_tup, ↓q_lst, ↓q_bin, ↓q_cmp, ↓q_neg, ↓q_nt, ↓q_an, ↓q_orr, ↓q_ite, ↓q_idx, ↓q_slc, ↓q_rev, ↓q_call, ↓q_bi, ↓q_join, ↓q_app, ↓q_ext, ↓q_lc, ↓q_fs, ↓q_dct, ↓q_evs0, ↓q_evs1, ↓q_opds0, ↓q_opds1, ↓q_no, ↓q_so, ↓q_it, ↓q_rg1, ↓q_rg2, ↓q_tno, ↓q_tso, ↓q_evf0, ↓q_evf1, ↓q_tnt, ↓q_tan, ↓q_tor, ↓q_tite, ↓q_tvar, ↓q_tcst, ↓q_tcmp, ↓q_tidx, ↓q_tcall, ↓q_tbi, ↓q_tslc, ↓q_ovar, ↓q_ocst, ↓q_otup, ↓q_olst, ↓q_obin, ↓q_ocmp, ↓q_oneg, ↓q_ont, ↓q_oan, ↓q_oorr, ↓q_oite, ↓q_oidx, ↓q_oslc, ↓q_orev, ↓q_ocall, ↓q_obi, ↓q_ojoin, ↓q_olc, ↓q_ofs, ↓q_odct, ↓q_lookv, ↓q_looks, ↓q_peek, ↓q_look0, ↓q_look1, ↓q_set, ↓q_bnm, ↓q_btp, ↓q_sets0, ↓q_sets1, ↓q_par0, ↓q_par1, ↓q_own, ↓q_appV, ↓q_extn, ↓q_extl, ↓q_ixr, ↓q_ixt, ↓q_ixl, ↓q_ixs, ↓q_putG, ↓q_add_int, ↓q_add_str, ↓q_add_lst, ↓q_add_tup, ↓q_sub_int, ↓q_mul_int, ↓q_mul_lst, ↓q_mul_tup, ↓q_fdiv_int, ↓q_mod_int, ↓q_pow_int, ↓q_bint, ↓q_bintb, ↓q_blenl, ↓q_blent, ↓q_blens, ↓q_bstri, ↓q_bstrs, ↓q_blistl, ↓q_blistt, ↓q_btupl, ↓q_btupt, ↓q_bmin, ↓q_bmax, ↓q_fmts, ↓q_fmti, ↓q_asg, ↓q_parS, ↓q_put, ↓q_ex, ↓q_iff, ↓q_for, ↓q_retV, ↓q_rcst, ↓q_rtup, ↓q_rlst, ↓q_rbin, ↓q_rcmp, ↓q_rneg, ↓q_rnt, ↓q_ran, ↓q_rorr, ↓q_rite, ↓q_ridx, ↓q_rslc, ↓q_rrev, ↓q_rcall, ↓q_rbi, ↓q_rjoin, ↓q_rlc, ↓q_rfs, ↓q_rdct, ↓q_retN, ↓q_pas, ↓q_brk, ↓q_cnt, ↓q_exs0, ↓q_exs1, q_add_int, q_add_str, q_add_lst, q_add_tup, q_sub_int, q_mul_int, q_mul_lst, q_mul_tup, q_fdiv_int, q_mod_int, q_pow_int, q_bint, q_bintb, q_blenl, q_blent, q_blens, q_bstri, q_bstrs, q_blistl, q_blistt, q_btupl, q_btupt, q_bmin, q_bmax, q_fmts, q_fmti, backG_mk, pushG_mk, wipe_nil, wipe_cons, back_nil, back_cons, noOwn_nil, slots_nm, slots_tp, pv_val, pv_new, slot_val, slot_new, asInt_int, truV_bl, truV_int, cmpV_eq, cmpV_ne, cmpV_lt, cmpV_le, cmpV_gt, cmpV_ge, eqV_int, eqV_str, items_l, items_t, items_f, slcV_lst, slcV_tup, slcV_fz, revV_tup, revV_lst, idxV_lst, idxV_tup, noOwn_cons, at0, at1, at2, at3, Nxt_nx, Nxt_ret, Nxt_brk, Nxt_cnt, Turn_nx, Turn_cnt, Turn_brk, Turn_ret, Fin'_ret, Fin'_nx, List.getElem?_cons_zero, List.getElem?_cons_succ, List.set_cons_zero, List.set_cons_succ, List.getD_cons_zero, List.getD_cons_succ, List.length_cons, List.length_nil, List.map_cons, List.map_nil, List.cons_append, List.nil_append, List.replicate_succ, List.replicate_zero, Option.map_some, Option.some.injEq, Bool.not_true, Bool.not_false, Bool.and_self, Bool.and_true, Bool.true_and, Bool.false_eq_true, Bool.true_eq_false, if_true, if_false, ite_true, ite_false, reduceIte, true_and, and_true, Nat.reduceAdd, Nat.reduceSub, Nat.reduceLT, Nat.reduceLeDiff, Nat.reducePow, Int.reducePow, Int.reduceToNat, Int.reduceLE, Int.reduceLT, Int.reduceNeg, decide_true, decide_false, Ev.sizeLine_eq, rgOk_eq, Nat.lt_add_left_iff_pos, Nat.zero_lt_succ, Nat.succ_pos, Nat.zero_add, true_or, or_true, Nat.reduceMul, Nat.add_zero, Nat.zero_le, Nat.le_refl]
        refine Ok_callW (put_ok k F hb (by omega) (by omega) sal) fun r hp8 ⟨F8, x, hr2, hx⟩ => ?_
        subst hr2
        simp only [↓q_ok, ↓q_some, ↓q_cst, ↓q_var, ↓q_tup, ↓q_lst, ↓q_bin, ↓q_cmp, ↓q_neg, ↓q_nt, ↓q_an, ↓q_orr, ↓q_ite, ↓q_idx, ↓q_slc, ↓q_rev, ↓q_call, ↓q_bi, ↓q_join, ↓q_app, ↓q_ext, ↓q_lc, ↓q_fs, ↓q_dct, ↓q_evs0, ↓q_evs1, ↓q_opds0, ↓q_opds1, ↓q_no, ↓q_so, ↓q_it, ↓q_rg1, ↓q_rg2, ↓q_tno, ↓q_tso, ↓q_evf0, ↓q_evf1, ↓q_tnt, ↓q_tan, ↓q_tor, ↓q_tite, ↓q_tvar, ↓q_tcst, ↓q_tcmp, ↓q_tidx, ↓q_tcall, ↓q_tbi, ↓q_tslc, ↓q_ovar, ↓q_ocst, ↓q_otup, ↓q_olst, ↓q_obin, ↓q_ocmp, ↓q_oneg, ↓q_ont, ↓q_oan, ↓q_oorr, ↓q_oite, ↓q_oidx, ↓q_oslc, ↓q_orev, ↓q_ocall, ↓q_obi, ↓q_ojoin, ↓q_olc, ↓q_ofs, ↓q_odct, ↓q_lookv, ↓q_looks, ↓q_peek, ↓q_look0, ↓q_look1, ↓q_set, ↓q_bnm, ↓q_btp, ↓q_sets0, ↓q_sets1, ↓q_par0, ↓q_par1, ↓q_own, ↓q_appV, ↓q_extn, ↓q_extl, ↓q_ixr, ↓q_ixt, ↓q_ixl, ↓q_ixs, ↓q_putG, ↓q_add_int, ↓q_add_str, ↓q_add_lst, ↓q_add_tup, ↓q_sub_int, ↓q_mul_int, ↓q_mul_lst, ↓q_mul_tup, ↓q_fdiv_int, ↓q_mod_int, ↓q_pow_int, ↓q_bint, ↓q_bintb, ↓q_blenl, ↓q_blent, ↓q_blens, ↓q_bstri, ↓q_bstrs, ↓q_blistl, ↓q_blistt, ↓q_btupl, ↓q_btupt, ↓q_bmin, ↓q_bmax, ↓q_fmts, ↓q_fmti, ↓q_asg, ↓q_parS, ↓q_put, ↓q_ex, ↓q_iff, ↓q_for, ↓q_retV, ↓q_rcst, ↓q_rtup, ↓q_rlst, ↓q_rbin, ↓q_rcmp, ↓q_rneg, ↓q_rnt, ↓q_ran, ↓q_rorr, ↓q_rite, ↓q_ridx, ↓q_rslc, ↓q_rrev, ↓q_rcall, ↓q_rbi, ↓q_rjoin, ↓q_rlc, ↓q_rfs, ↓q_rdct, ↓q_retN, ↓q_pas, ↓q_brk, ↓q_cnt, ↓q_exs0, ↓q_exs1, q_add_int, q_add_str, q_add_lst, q_add_tup, q_sub_int, q_mul_int, q_mul_lst, q_mul_tup, q_fdiv_int, q_mod_int, q_pow_int, q_bint, q_bintb, q_blenl, q_blent, q_blens, q_bstri, q_bstrs, q_blistl, q_blistt, q_btupl, q_btupt, q_bmin, q_bmax, q_fmts, q_fmti, backG_mk, pushG_mk, wipe_nil, wipe_cons, back_nil, back_cons, noOwn_nil, slots_nm, slots_tp, pv_val, pv_new, slot_val, slot_new, asInt_int, truV_bl, truV_int, cmpV_eq, cmpV_ne, cmpV_lt, cmpV_le, cmpV_gt, cmpV_ge, eqV_int, eqV_str, items_l, items_t, items_f, slcV_lst, slcV_tup, slcV_fz, revV_tup, revV_lst, idxV_lst, idxV_tup, noOwn_cons, at0, at1, at2, at3, Nxt_nx, Nxt_ret, Nxt_brk, Nxt_cnt, Turn_nx, Turn_cnt, Turn_brk, Turn_ret, Fin'_ret, Fin'_nx, List.getElem?_cons_zero, List.getElem?_cons_succ, List.set_cons_zero, List.set_cons_succ, List.getD_cons_zero, List.getD_cons_succ, List.length_cons, List.length_nil, List.map_cons, List.map_nil, List.cons_append, List.nil_append, List.replicate_succ, List.replicate_zero, Option.map_some, Option.some.injEq, Bool.not_true, Bool.not_false, Bool.and_self, Bool.and_true, Bool.true_and, Bool.false_eq_true, Bool.true_eq_false, if_true, if_false, ite_true, ite_false, reduceIte, true_and, and_true, Nat.reduceAdd, Nat.reduceSub, Nat.reduceLT, Nat.reduceLeDiff, Nat.reducePow, Int.reducePow, Int.reduceToNat, Int.reduceLE, Int.reduceLT, Int.reduceNeg, decide_true, decide_false, Ev.sizeLine_eq, rgOk_eq, Nat.lt_add_left_iff_pos, Nat.zero_lt_succ, Nat.succ_pos, Nat.zero_add, true_or, or_true, Nat.reduceMul, Nat.add_zero, Nat.zero_le, Nat.le_refl]
        exact ⟨⟨x, rfl, hx⟩, _, rfl, F8, .inr rfl⟩
    · obtain ⟨writes, rfl, wl, wt⟩ := e.map fun x y h => h
      rw [rg_len] at wl
      simp only [↓q_ok, ↓q_some, ↓q_cst, ↓q_var, ↓q_tup, ↓q_lst, ↓q_bin, ↓q_cmp, ↓q_neg, ↓q_nt, ↓q_an, ↓q_orr, ↓q_ite, ↓q_idx, ↓q_slc, ↓q_rev, ↓q_call, ↓q_bi, ↓q_join, ↓q_app, ↓q_ext, ↓q_lc, ↓q_fs, ↓q_dct, ↓q_evs0, ↓q_evs1, ↓q_opds0, ↓q_opds1, ↓q_no, ↓q_so, ↓q_it, ↓q_rg1, ↓q_rg2, ↓q_tno, ↓q_tso, ↓q_evf0, ↓q_evf1, ↓q_tnt, ↓q_tan, ↓q_tor, ↓q_tite, ↓q_tvar, ↓q_tcst, ↓q_tcmp, ↓q_tidx, ↓q_tcall, ↓q_tbi, ↓q_tslc, ↓q_ovar, ↓q_ocst, ↓q_otup, ↓q_olst, ↓q_obin, ↓q_ocmp, ↓q_oneg, ↓q_ont, ↓q_oan, ↓q_oorr, ↓q_oite, ↓q_oidx, ↓q_oslc, ↓q_orev, ↓q_ocall, ↓q_obi, ↓q_ojoin, ↓q_olc, ↓q_ofs, ↓q_odct, ↓q_lookv, ↓q_looks, ↓q_peek, ↓q_look0, ↓q_look1, ↓q_set, ↓q_bnm, ↓q_btp, ↓q_sets0, ↓q_sets1, ↓q_par0, ↓q_par1, ↓q_own, ↓q_appV, ↓q_extn, ↓q_extl, ↓q_ixr, ↓q_ixt, ↓q_ixl, ↓q_ixs, ↓q_putG, ↓q_add_int, ↓q_add_str, ↓q_add_lst, ↓q_add_tup, ↓q_sub_int, ↓q_mul_int, ↓q_mul_lst, ↓q_mul_tup, ↓q_fdiv_int, ↓q_mod_int, ↓q_pow_int, ↓q_bint, ↓q_bintb, ↓q_blenl, ↓q_blent, ↓q_blens, ↓q_bstri, ↓q_bstrs, ↓q_blistl, ↓q_blistt, ↓q_btupl, ↓q_btupt, ↓q_bmin, ↓q_bmax, ↓q_fmts, ↓q_fmti, ↓q_asg, ↓q_parS, ↓q_put, ↓q_ex, ↓q_iff, ↓q_for, ↓q_retV, ↓q_rcst, ↓q_rtup, ↓q_rlst, ↓q_rbin, ↓q_rcmp, ↓q_rneg, ↓q_rnt, ↓q_ran, ↓q_rorr, ↓q_rite, ↓q_ridx, ↓q_rslc, ↓q_rrev, ↓q_rcall, ↓q_rbi, ↓q_rjoin, ↓q_rlc, ↓q_rfs, ↓q_rdct, ↓q_retN, ↓q_pas, ↓q_brk, ↓q_cnt, ↓q_exs0, ↓q_exs1, q_add_int, q_add_str, q_add_lst, q_add_tup, q_sub_int, q_mul_int, q_mul_lst, q_mul_tup, q_fdiv_int, q_mod_int, q_pow_int, q_bint, q_bintb, q_blenl, q_blent, q_blens, q_bstri, q_bstrs, q_blistl, q_blistt, q_btupl, q_btupt, q_bmin, q_bmax, q_fmts, q_fmti, backG_mk, pushG_mk, wipe_nil, wipe_cons, back_nil, back_cons, noOwn_nil, slots_nm, slots_tp, pv_val, pv_new, slot_val, slot_new, asInt_int, truV_bl, truV_int, cmpV_eq, cmpV_ne, cmpV_lt, cmpV_le, cmpV_gt, cmpV_ge, eqV_int, eqV_str, items_l, items_t, items_f, slcV_lst, slcV_tup, slcV_fz, revV_tup, revV_lst, idxV_lst, idxV_tup, noOwn_cons, at0, at1, at2, at3, Nxt_nx, Nxt_ret, Nxt_brk, Nxt_cnt, Turn_nx, Turn_cnt, Turn_brk, Turn_ret, Fin'_ret, Fin'_nx, List.getElem?_cons_zero, List.getElem?_cons_succ, List.set_cons_zero, List.set_cons_succ, List.getD_cons_zero, List.getD_cons_succ, List.length_cons, List.length_nil, List.map_cons, List.map_nil, List.cons_append, List.nil_append, List.replicate_succ, List.replicate_zero, Option.map_some, Option.some.injEq, Bool.not_true, Bool.not_false, Bool.and_self, Bool.and_true, Bool.true_and, Bool.false_eq_true, Bool.true_eq_false, if_true, if_false, ite_true, ite_false, reduceIte, true_and, and_true, Nat.reduceAdd, Nat.reduceSub, Nat.reduceLT, Nat.reduceLeDiff, Nat.reducePow, Int.reducePow, Int.reduceToNat, Int.reduceLE, Int.reduceLT, Int.reduceNeg, decide_true, decide_false, Ev.sizeLine_eq, rgOk_eq, Nat.lt_add_left_iff_pos, Nat.zero_lt_succ, Nat.succ_pos, Nat.zero_add, true_or, or_true, Nat.reduceMul, Nat.add_zero, Nat.zero_le, Nat.le_refl]
      exact ⟨F7, ⟨b, names, rs, writes⟩, rfl, ⟨hb, by show names.length ≤ 2; omega, hnt, by show rs.length ≤ 6; omega, hr, by show writes.length ≤ 12; omega, wt⟩, by show 1 ≤ names.length; omega⟩
end K09
namespace K09
open PySem Ev

/-! ### the texts -/
def testT (t : Test) : Str := Txt.join ":" [t.one, t.sign, t.two]
def testsT (ts : List Test) : Str := if ts.isEmpty = true then "-" else Txt.join "," (ts.map testT)
def readT (r : Rd) : Str := (("read " : Str) ++ r.tag ++ " " ++ Txt.join "." r.path ++ " " ++ testsT r.tests : Str)
def writeT (w : Wt) : Str := (("write " : Str) ++ Txt.join "." w.place ++ " " ++ w.worth ++ " " ++ testsT w.tests : Str)
def makeT (b : Base) : Str := (("make " : Str) ++ (toString b.ways : String) ++ " " ++ (if b.guard = true then ("guard" : Str) else "open") ++ " " ++ (if b.last = true then ("last" : Str) else "free") : Str)
def namesT (ns : List Str) : Str := (("names " : Str) ++ Txt.join "," ns : Str)
def linesT (p : Plan) : List Str := [makeT p.base, namesT p.names] ++ p.reads.map readT ++ p.writes.map writeT
def textT (p : Plan) : Str := Txt.join "\n" (linesT p)
theorem tx_lit {n : Nat} {x : Str} (h : txB n x = true) : Tx n x := Tx.by h
theorem testT_tx {t : Test} (h : TestOk t) : Tx 39 (testT t) := by
  have := Tx.join (s := ":") (m := 1) (n := 12) (Tx.by (by decide +kernel)) (ts := [t.one, t.sign, t.two]) (fun x hx => by
    simp only [List.mem_cons, List.not_mem_nil, or_false] at hx
    rcases hx with rfl | rfl | rfl
    · exact h.one
    · exact h.sign
    · exact h.two) (k := 3) (by simp)
  exact this
theorem testsT_tx {ts : List Test} (h : TestsOk ts) : Tx 120 (testsT ts) := by
  unfold testsT
  split
  · exact Tx.by (by decide +kernel)
  · have := Tx.join (s := ",") (m := 1) (n := 39) (Tx.by (by decide +kernel)) (ts := ts.map testT) (fun x hx => by
      obtain ⟨t, ht, rfl⟩ := List.mem_map.mp hx
      exact testT_tx (h.all t ht)) (k := 3) (by simpa using h.len)
    exact this
theorem path_tx {ps : List Str} {k : Nat} (hl : ps.length ≤ k) (h : ∀ w ∈ ps, Tx 12 w) : Tx (k * 13) (Txt.join "." ps) := Tx.join (s := ".") (m := 1) (n := 12) (Tx.by (by decide +kernel)) h hl
theorem readT_tx {r : Rd} (h : RdOk r) : Tx 200 (readT r) := by
  have := (((((Tx.by (n := 5) (x := "read ") (by decide +kernel)).app h.tag).app (Tx.by (n := 1) (x := " ") (by decide +kernel))).app (path_tx h.plen h.path)).app (Tx.by (n := 1) (x := " ") (by decide +kernel))).app (testsT_tx h.tests)
  exact this.mono (by decide)
theorem writeT_tx {w : Wt} (h : WtOk w) : Tx 200 (writeT w) := by
  have := (((((Tx.by (n := 6) (x := "write ") (by decide +kernel)).app (path_tx h.plen h.place)).app (Tx.by (n := 1) (x := " ") (by decide +kernel))).app h.worth).app (Tx.by (n := 1) (x := " ") (by decide +kernel))).app (testsT_tx h.tests)
  exact this.mono (by decide)
theorem namesT_tx {ns : List Str} (hl : ns.length ≤ 4) (h : ∀ w ∈ ns, Tx 12 w) : Tx 200 (namesT ns) := by
  have := (Tx.by (n := 6) (x := "names ") (by decide +kernel)).app (Tx.join (s := ",") (m := 1) (n := 12) (Tx.by (by decide +kernel)) h hl)
  exact this.mono (by decide)
theorem ways_cases {b : Base} (h : BaseOk b) : b.ways = 1 ∨ b.ways = 2 := by
  have := h.lo
  have := h.hi
  omega
theorem makeT_tx {b : Base} (h : BaseOk b) : Tx 200 (makeT b) := by
  obtain ⟨ways, guard, last⟩ := b
  rcases ways_cases h with rfl | rfl <;> cases guard <;> cases last <;> exact Tx.by (by decide +kernel)
theorem linesT_tx {p : Plan} {b d : Nat} (h : PlanOk 4 b d p) : ∀ t ∈ linesT p, Tx 200 t := by
  intro t ht
  unfold linesT at ht
  simp only [List.mem_append, List.mem_cons, List.not_mem_nil, or_false] at ht
  rcases ht with ((rfl | rfl) | q) | q
  · exact makeT_tx h.base
  · exact namesT_tx h.nlen h.names
  · obtain ⟨r, hr, rfl⟩ := List.mem_map.mp q
    exact readT_tx (h.reads r hr)
  · obtain ⟨r, hr, rfl⟩ := List.mem_map.mp q
    exact writeT_tx (h.writes r hr)
theorem linesT_len {p : Plan} {b d : Nat} (h : PlanOk 4 b d p) : (linesT p).length ≤ 2 + b + d := by
  have h1 := h.rlen
  have h2 := h.wlen
  unfold linesT
  simp only [List.length_append, List.length_cons, List.length_nil, List.length_map]
  omega
theorem textT_tx {p : Plan} {b d : Nat} (h : PlanOk 4 b d p) : Tx ((2 + b + d) * 201) (textT p) := Tx.join (s := "\n") (m := 1) (n := 200) (Tx.by (by decide +kernel)) (linesT_tx h) (linesT_len h)

/-! ### the defs -/
theorem jTest (t : Test) (h : TestOk t) : joinV (.str ":") (tPV t) = some (.str (testT t)) :=
  join_t (ts := [t.one, t.sign, t.two]) (s := ":") (m := 1) (n := 12) (k := 3) (Tx.by (by decide +kernel)) (fun x hx => by
    simp only [List.mem_cons, List.not_mem_nil, or_false] at hx
    rcases hx with rfl | rfl | rfl
    · exact h.one
    · exact h.sign
    · exact h.two) (by simp) (by decide)
theorem jTests (ts : List Test) (h : TestsOk ts) : joinV (.str ",") (.lst (ts.map fun t => PV.str (testT t))) = some (.str (Txt.join "," (ts.map testT))) := by
  have := join_l (ts := ts.map testT) (s := ",") (m := 1) (n := 39) (k := 3) (Tx.by (by decide +kernel)) (fun x hx => by
    obtain ⟨t, ht, rfl⟩ := List.mem_map.mp hx
    exact testT_tx (h.all t ht)) (by simpa using h.len) (by decide)
  rw [List.map_map] at this
  exact this
theorem tests_text_ok (k : Nat) {hp : List Cell} {ts : List Test} (h : TestsOk ts) : Gives (calls table (k + 1) 23 [.tup (ts.map tPV)] [] hp) fun r hp' => r = .val (.str (testsT ts)) ∧ hp' = hp := by
  refine gives_run (c := calls table k) (d := d_tests_text) (as := [.tup (ts.map tPV)]) rfl ?_
  have hl := h.len
  simp only [d_tests_text, decide_eq_true_eq, ↓q_ok, ↓q_some, ↓q_cst, ↓q_var, ↓q_tup, ↓q_lst, ↓q_bin, ↓q_cmp, ↓q_neg, ↓q_nt, ↓q_an, ↓q_orr, ↓q_ite, ↓q_idx, ↓q_slc, ↓q_rev, ↓q_call, ↓q_bi, ↓q_join, ↓q_app, ↓q_ext, ↓q_lc, ↓q_fs, ↓q_dct, ↓q_evs0, ↓q_evs1, ↓q_opds0, ↓q_opds1, ↓q_no, ↓q_so, ↓q_it, ↓q_rg1, ↓q_rg2, ↓q_tno, ↓q_tso, ↓q_evf0, ↓q_evf1, ↓q_tnt, ↓q_tan, ↓q_tor, ↓q_tite, ↓q_tvar, ↓q_tcst, ↓q_tcmp, ↓q_tidx, ↓q_tcall, ↓q_tbi, ↓q_tslc, ↓q_ovar, ↓q_ocst, ↓q_otup, ↓q_olst, ↓q_obin, ↓q_ocmp, ↓q_oneg, ↓q_ont, ↓q_oan, ↓q_oorr, ↓q_oite, ↓q_oidx, ↓q_oslc, ↓q_orev, ↓q_ocall, ↓q_obi, ↓q_ojoin, ↓q_olc, ↓q_ofs, ↓q_odct, ↓q_lookv, ↓q_looks, ↓q_peek, ↓q_look0, ↓q_look1, ↓q_set, ↓q_bnm, ↓q_btp, ↓q_sets0, ↓q_sets1, ↓q_par0, ↓q_par1, ↓q_own, ↓q_appV, ↓q_extn, ↓q_extl, ↓q_ixr, ↓q_ixt, ↓q_ixl, ↓q_ixs, ↓q_putG, ↓q_add_int, ↓q_add_str, ↓q_add_lst, ↓q_add_tup, ↓q_sub_int, ↓q_mul_int, ↓q_mul_lst, ↓q_mul_tup, ↓q_fdiv_int, ↓q_mod_int, ↓q_pow_int, ↓q_bint, ↓q_bintb, ↓q_blenl, ↓q_blent, ↓q_blens, ↓q_bstri, ↓q_bstrs, ↓q_blistl, ↓q_blistt, ↓q_btupl, ↓q_btupt, ↓q_bmin, ↓q_bmax, ↓q_fmts, ↓q_fmti, ↓q_asg, ↓q_parS, ↓q_put, ↓q_ex, ↓q_iff, ↓q_for, ↓q_retV, ↓q_rcst, ↓q_rtup, ↓q_rlst, ↓q_rbin, ↓q_rcmp, ↓q_rneg, ↓q_rnt, ↓q_ran, ↓q_rorr, ↓q_rite, ↓q_ridx, ↓q_rslc, ↓q_rrev, ↓q_rcall, ↓q_rbi, ↓q_rjoin, ↓q_rlc, ↓q_rfs, ↓q_rdct, ↓q_retN, ↓q_pas, ↓q_brk, ↓q_cnt, ↓q_exs0, ↓q_exs1, q_add_int, q_add_str, q_add_lst, q_add_tup, q_sub_int, q_mul_int, q_mul_lst, q_mul_tup, q_fdiv_int, q_mod_int, q_pow_int, q_bint, q_bintb, q_blenl, q_blent, q_blens, q_bstri, q_bstrs, q_blistl, q_blistt, q_btupl, q_btupt, q_bmin, q_bmax, q_fmts, q_fmti, backG_mk, pushG_mk, wipe_nil, wipe_cons, back_nil, back_cons, noOwn_nil, slots_nm, slots_tp, pv_val, pv_new, slot_val, slot_new, asInt_int, truV_bl, truV_int, cmpV_eq, cmpV_ne, cmpV_lt, cmpV_le, cmpV_gt, cmpV_ge, eqV_int, eqV_str, items_l, items_t, items_f, slcV_lst, slcV_tup, slcV_fz, revV_tup, revV_lst, idxV_lst, idxV_tup, noOwn_cons, at0, at1, at2, at3, Nxt_nx, Nxt_ret, Nxt_brk, Nxt_cnt, Turn_nx, Turn_cnt, Turn_brk, Turn_ret, Fin'_ret, Fin'_nx, List.getElem?_cons_zero, List.getElem?_cons_succ, List.set_cons_zero, List.set_cons_succ, List.getD_cons_zero, List.getD_cons_succ, List.length_cons, List.length_nil, List.map_cons, List.map_nil, List.cons_append, List.nil_append, List.replicate_succ, List.replicate_zero, Option.map_some, Option.some.injEq, Bool.not_true, Bool.not_false, Bool.and_self, Bool.and_true, Bool.true_and, Bool.false_eq_true, Bool.true_eq_false, if_true, if_false, ite_true, ite_false, reduceIte, true_and, and_true, Nat.reduceAdd, Nat.reduceSub, Nat.reduceLT, Nat.reduceLeDiff, Nat.reducePow, Int.reducePow, Int.reduceToNat, Int.reduceLE, Int.reduceLT, Int.reduceNeg, decide_true, decide_false, Ev.sizeLine_eq, rgOk_eq, Nat.lt_add_left_iff_pos, Nat.zero_lt_succ, Nat.succ_pos, Nat.zero_add, true_or, or_true, Nat.reduceMul, Nat.add_zero, Nat.zero_le, Nat.le_refl]
  unfold testsT
  split
  · rename_i hp0
    refine lc_map (f := tPV) (h := fun t => PV.str (testT t)) (· = hp) ts [] hp rfl (by ((try simp only [List.length_append, List.length_cons, List.length_nil, List.length_take, List.length_map, List.length_reverse]); omega)) (fun t ht hp' e => ?_) fun hp' e => ?_
    · subst e
      simp only [jTest t (h.all t ht), ↓q_ok, ↓q_some, ↓q_cst, ↓q_var, ↓q_tup, ↓q_lst, ↓q_bin, ↓q_cmp, ↓q_neg, ↓q_nt, ↓q_an, ↓q_orr, ↓q_ite, ↓q_idx, ↓q_slc, ↓q_rev, ↓q_call, ↓q_bi, ↓q_join, ↓q_app, ↓q_ext, ↓q_lc, ↓q_fs, ↓q_dct, ↓q_evs0, ↓q_evs1, ↓q_opds0, ↓q_opds1, ↓q_no, ↓q_so, ↓q_it, ↓q_rg1, ↓q_rg2, ↓q_tno, ↓q_tso, ↓q_evf0, ↓q_evf1, ↓q_tnt, ↓q_tan, ↓q_tor, ↓q_tite, ↓q_tvar, ↓q_tcst, ↓q_tcmp, ↓q_tidx, ↓q_tcall, ↓q_tbi, ↓q_tslc, ↓q_ovar, ↓q_ocst, ↓q_otup, ↓q_olst, ↓q_obin, ↓q_ocmp, ↓q_oneg, ↓q_ont, ↓q_oan, ↓q_oorr, ↓q_oite, ↓q_oidx, ↓q_oslc, ↓q_orev, ↓q_ocall, ↓q_obi, ↓q_ojoin, ↓q_olc, ↓q_ofs, ↓q_odct, ↓q_lookv, ↓q_looks, ↓q_peek, ↓q_look0, ↓q_look1, ↓q_set, ↓q_bnm, ↓q_btp, ↓q_sets0, ↓q_sets1, ↓q_par0, ↓q_par1, ↓q_own, ↓q_appV, ↓q_extn, ↓q_extl, ↓q_ixr, ↓q_ixt, ↓q_ixl, ↓q_ixs, ↓q_putG, ↓q_add_int, ↓q_add_str, ↓q_add_lst, ↓q_add_tup, ↓q_sub_int, ↓q_mul_int, ↓q_mul_lst, ↓q_mul_tup, ↓q_fdiv_int, ↓q_mod_int, ↓q_pow_int, ↓q_bint, ↓q_bintb, ↓q_blenl, ↓q_blent, ↓q_blens, ↓q_bstri, ↓q_bstrs, ↓q_blistl, ↓q_blistt, ↓q_btupl, ↓q_btupt, ↓q_bmin, ↓q_bmax, ↓q_fmts, ↓q_fmti, ↓q_asg, ↓q_parS, ↓q_put, ↓q_ex, ↓q_iff, ↓q_for, ↓q_retV, ↓q_rcst, ↓q_rtup, ↓q_rlst, ↓q_rbin, ↓q_rcmp, ↓q_rneg, ↓q_rnt, ↓q_ran, ↓q_rorr, ↓q_rite, ↓q_ridx, ↓q_rslc, ↓q_rrev, ↓q_rcall, ↓q_rbi, ↓q_rjoin, ↓q_rlc, ↓q_rfs, ↓q_rdct, ↓q_retN, ↓q_pas, ↓q_brk, ↓q_cnt, ↓q_exs0, ↓q_exs1, q_add_int, q_add_str, q_add_lst, q_add_tup, q_sub_int, q_mul_int, q_mul_lst, q_mul_tup, q_fdiv_int, q_mod_int, q_pow_int, q_bint, q_bintb, q_blenl, q_blent, q_blens, q_bstri, q_bstrs, q_blistl, q_blistt, q_btupl, q_btupt, q_bmin, q_bmax, q_fmts, q_fmti, backG_mk, pushG_mk, wipe_nil, wipe_cons, back_nil, back_cons, noOwn_nil, slots_nm, slots_tp, pv_val, pv_new, slot_val, slot_new, asInt_int, truV_bl, truV_int, cmpV_eq, cmpV_ne, cmpV_lt, cmpV_le, cmpV_gt, cmpV_ge, eqV_int, eqV_str, items_l, items_t, items_f, slcV_lst, slcV_tup, slcV_fz, revV_tup, revV_lst, idxV_lst, idxV_tup, noOwn_cons, at0, at1, at2, at3, Nxt_nx, Nxt_ret, Nxt_brk, Nxt_cnt, Turn_nx, Turn_cnt, Turn_brk, Turn_ret, Fin'_ret, Fin'_nx, List.getElem?_cons_zero, List.getElem?_cons_succ, List.set_cons_zero, List.set_cons_succ, List.getD_cons_zero, List.getD_cons_succ, List.length_cons, List.length_nil, List.map_cons, List.map_nil, List.cons_append, List.nil_append, List.replicate_succ, List.replicate_zero, Option.map_some, Option.some.injEq, Bool.not_true, Bool.not_false, Bool.and_self, Bool.and_true, Bool.true_and, Bool.false_eq_true, Bool.true_eq_false, if_true, if_false, ite_true, ite_false, reduceIte, true_and, and_true, Nat.reduceAdd, Nat.reduceSub, Nat.reduceLT, Nat.reduceLeDiff, Nat.reducePow, Int.reducePow, Int.reduceToNat, Int.reduceLE, Int.reduceLT, Int.reduceNeg, decide_true, decide_false, Ev.sizeLine_eq, rgOk_eq, Nat.lt_add_left_iff_pos, Nat.zero_lt_succ, Nat.succ_pos, Nat.zero_add, true_or, or_true, Nat.reduceMul, Nat.add_zero, Nat.zero_le, Nat.le_refl]
    · subst e
      simp only [jTests ts h, ↓q_ok, ↓q_some, ↓q_cst, ↓q_var, ↓q_tup, ↓q_lst, ↓q_bin, ↓q_cmp, ↓q_neg, ↓q_nt, ↓q_an, ↓q_orr, ↓q_ite, ↓q_idx, ↓q_slc, ↓q_rev, ↓q_call, ↓q_bi, ↓q_join, ↓q_app, ↓q_ext, ↓q_lc, ↓q_fs, ↓q_dct, ↓q_evs0, ↓q_evs1, ↓q_opds0, ↓q_opds1, ↓q_no, ↓q_so, ↓q_it, ↓q_rg1, ↓q_rg2, ↓q_tno, ↓q_tso, ↓q_evf0, ↓q_evf1, ↓q_tnt, ↓q_tan, ↓q_tor, ↓q_tite, ↓q_tvar, ↓q_tcst, ↓q_tcmp, ↓q_tidx, ↓q_tcall, ↓q_tbi, ↓q_tslc, ↓q_ovar, ↓q_ocst, ↓q_otup, ↓q_olst, ↓q_obin, ↓q_ocmp, ↓q_oneg, ↓q_ont, ↓q_oan, ↓q_oorr, ↓q_oite, ↓q_oidx, ↓q_oslc, ↓q_orev, ↓q_ocall, ↓q_obi, ↓q_ojoin, ↓q_olc, ↓q_ofs, ↓q_odct, ↓q_lookv, ↓q_looks, ↓q_peek, ↓q_look0, ↓q_look1, ↓q_set, ↓q_bnm, ↓q_btp, ↓q_sets0, ↓q_sets1, ↓q_par0, ↓q_par1, ↓q_own, ↓q_appV, ↓q_extn, ↓q_extl, ↓q_ixr, ↓q_ixt, ↓q_ixl, ↓q_ixs, ↓q_putG, ↓q_add_int, ↓q_add_str, ↓q_add_lst, ↓q_add_tup, ↓q_sub_int, ↓q_mul_int, ↓q_mul_lst, ↓q_mul_tup, ↓q_fdiv_int, ↓q_mod_int, ↓q_pow_int, ↓q_bint, ↓q_bintb, ↓q_blenl, ↓q_blent, ↓q_blens, ↓q_bstri, ↓q_bstrs, ↓q_blistl, ↓q_blistt, ↓q_btupl, ↓q_btupt, ↓q_bmin, ↓q_bmax, ↓q_fmts, ↓q_fmti, ↓q_asg, ↓q_parS, ↓q_put, ↓q_ex, ↓q_iff, ↓q_for, ↓q_retV, ↓q_rcst, ↓q_rtup, ↓q_rlst, ↓q_rbin, ↓q_rcmp, ↓q_rneg, ↓q_rnt, ↓q_ran, ↓q_rorr, ↓q_rite, ↓q_ridx, ↓q_rslc, ↓q_rrev, ↓q_rcall, ↓q_rbi, ↓q_rjoin, ↓q_rlc, ↓q_rfs, ↓q_rdct, ↓q_retN, ↓q_pas, ↓q_brk, ↓q_cnt, ↓q_exs0, ↓q_exs1, q_add_int, q_add_str, q_add_lst, q_add_tup, q_sub_int, q_mul_int, q_mul_lst, q_mul_tup, q_fdiv_int, q_mod_int, q_pow_int, q_bint, q_bintb, q_blenl, q_blent, q_blens, q_bstri, q_bstrs, q_blistl, q_blistt, q_btupl, q_btupt, q_bmin, q_bmax, q_fmts, q_fmti, backG_mk, pushG_mk, wipe_nil, wipe_cons, back_nil, back_cons, noOwn_nil, slots_nm, slots_tp, pv_val, pv_new, slot_val, slot_new, asInt_int, truV_bl, truV_int, cmpV_eq, cmpV_ne, cmpV_lt, cmpV_le, cmpV_gt, cmpV_ge, eqV_int, eqV_str, items_l, items_t, items_f, slcV_lst, slcV_tup, slcV_fz, revV_tup, revV_lst, idxV_lst, idxV_tup, noOwn_cons, at0, at1, at2, at3, Nxt_nx, Nxt_ret, Nxt_brk, Nxt_cnt, Turn_nx, Turn_cnt, Turn_brk, Turn_ret, Fin'_ret, Fin'_nx, List.getElem?_cons_zero, List.getElem?_cons_succ, List.set_cons_zero, List.set_cons_succ, List.getD_cons_zero, List.getD_cons_succ, List.length_cons, List.length_nil, List.map_cons, List.map_nil, List.cons_append, List.nil_append, List.replicate_succ, List.replicate_zero, Option.map_some, Option.some.injEq, Bool.not_true, Bool.not_false, Bool.and_self, Bool.and_true, Bool.true_and, Bool.false_eq_true, Bool.true_eq_false, if_true, if_false, ite_true, ite_false, reduceIte, true_and, and_true, Nat.reduceAdd, Nat.reduceSub, Nat.reduceLT, Nat.reduceLeDiff, Nat.reducePow, Int.reducePow, Int.reduceToNat, Int.reduceLE, Int.reduceLT, Int.reduceNeg, decide_true, decide_false, Ev.sizeLine_eq, rgOk_eq, Nat.lt_add_left_iff_pos, Nat.zero_lt_succ, Nat.succ_pos, Nat.zero_add, true_or, or_true, Nat.reduceMul, Nat.add_zero, Nat.zero_le, Nat.le_refl]
      rw [if_neg]
      intro q
      cases ts with
      | nil => simp at hp0
      | cons _ _ => cases q
  · rename_i hp0
    have : ts = [] := by
      cases ts with
      | nil => rfl
      | cons _ _ => exact absurd (by simp) hp0
    subst this
    rfl
theorem fit_test {t : Test} (h : TestOk t) : Fit 1 159 (tPV t) := by
  have : Fits 0 50 [.str t.one, .str t.sign, .str t.two] := .cons (Fit.str h.one) (.cons (Fit.str h.sign) (.cons (Fit.str h.two) .nil))
  exact Fit.tup this (n := 3) (by simp)
theorem fit_tests {ts : List Test} (h : TestsOk ts) : Fit 2 486 (.tup (ts.map tPV)) := by
  have : Fits 1 159 (ts.map tPV) := Fits.of fun v hv => by
    obtain ⟨t, ht, rfl⟩ := List.mem_map.mp hv
    exact fit_test (h.all t ht)
  exact Fit.tup this (n := 3) (by simpa using h.len)
theorem jTestL (t : Test) (h : TestOk t) : joinV (.str ":") (.lst [.str t.one, .str t.sign, .str t.two]) = some (.str (testT t)) := jTest t h
theorem tests_word_ok (k : Nat) {hp : List Cell} {ts : List Test} (h : TestsOk ts) : Gives (calls table (k + 1) 22 [.tup (ts.map tPV)] [] hp) fun r hp' => r = .val (.str (testsT ts)) ∧ hp' = hp := by
  refine gives_run (c := calls table k) (d := d_l_tests_word) (as := [.tup (ts.map tPV)]) rfl ?_
  have hl := h.len
  have he : (ts.map tPV).isEmpty = ts.isEmpty := by cases ts <;> rfl
  simp only [d_l_tests_word, (fit_tests h).eq_t (by decide), he, ↓q_ok, ↓q_some, ↓q_cst, ↓q_var, ↓q_tup, ↓q_lst, ↓q_bin, ↓q_cmp, ↓q_neg, ↓q_nt, ↓q_an, ↓q_orr, ↓q_ite, ↓q_idx, ↓q_slc, ↓q_rev, ↓q_call, ↓q_bi, ↓q_join, ↓q_app, ↓q_ext, ↓q_lc, ↓q_fs, ↓q_dct, ↓q_evs0, ↓q_evs1, ↓q_opds0, ↓q_opds1, ↓q_no, ↓q_so, ↓q_it, ↓q_rg1, ↓q_rg2, ↓q_tno, ↓q_tso, ↓q_evf0, ↓q_evf1, ↓q_tnt, ↓q_tan, ↓q_tor, ↓q_tite, ↓q_tvar, ↓q_tcst, ↓q_tcmp, ↓q_tidx, ↓q_tcall, ↓q_tbi, ↓q_tslc, ↓q_ovar, ↓q_ocst, ↓q_otup, ↓q_olst, ↓q_obin, ↓q_ocmp, ↓q_oneg, ↓q_ont, ↓q_oan, ↓q_oorr, ↓q_oite, ↓q_oidx, ↓q_oslc, ↓q_orev, ↓q_ocall, ↓q_obi, ↓q_ojoin, ↓q_olc, ↓q_ofs, ↓q_odct, ↓q_lookv, ↓q_looks, ↓q_peek, ↓q_look0, ↓q_look1, ↓q_set, ↓q_bnm, ↓q_btp, ↓q_sets0, ↓q_sets1, ↓q_par0, ↓q_par1, ↓q_own, ↓q_appV, ↓q_extn, ↓q_extl, ↓q_ixr, ↓q_ixt, ↓q_ixl, ↓q_ixs, ↓q_putG, ↓q_add_int, ↓q_add_str, ↓q_add_lst, ↓q_add_tup, ↓q_sub_int, ↓q_mul_int, ↓q_mul_lst, ↓q_mul_tup, ↓q_fdiv_int, ↓q_mod_int, ↓q_pow_int, ↓q_bint, ↓q_bintb, ↓q_blenl, ↓q_blent, ↓q_blens, ↓q_bstri, ↓q_bstrs, ↓q_blistl, ↓q_blistt, ↓q_btupl, ↓q_btupt, ↓q_bmin, ↓q_bmax, ↓q_fmts, ↓q_fmti, ↓q_asg, ↓q_parS, ↓q_put, ↓q_ex, ↓q_iff, ↓q_for, ↓q_retV, ↓q_rcst, ↓q_rtup, ↓q_rlst, ↓q_rbin, ↓q_rcmp, ↓q_rneg, ↓q_rnt, ↓q_ran, ↓q_rorr, ↓q_rite, ↓q_ridx, ↓q_rslc, ↓q_rrev, ↓q_rcall, ↓q_rbi, ↓q_rjoin, ↓q_rlc, ↓q_rfs, ↓q_rdct, ↓q_retN, ↓q_pas, ↓q_brk, ↓q_cnt, ↓q_exs0, ↓q_exs1, q_add_int, q_add_str, q_add_lst, q_add_tup, q_sub_int, q_mul_int, q_mul_lst, q_mul_tup, q_fdiv_int, q_mod_int, q_pow_int, q_bint, q_bintb, q_blenl, q_blent, q_blens, q_bstri, q_bstrs, q_blistl, q_blistt, q_btupl, q_btupt, q_bmin, q_bmax, q_fmts, q_fmti, backG_mk, pushG_mk, wipe_nil, wipe_cons, back_nil, back_cons, noOwn_nil, slots_nm, slots_tp, pv_val, pv_new, slot_val, slot_new, asInt_int, truV_bl, truV_int, cmpV_eq, cmpV_ne, cmpV_lt, cmpV_le, cmpV_gt, cmpV_ge, eqV_int, eqV_str, items_l, items_t, items_f, slcV_lst, slcV_tup, slcV_fz, revV_tup, revV_lst, idxV_lst, idxV_tup, noOwn_cons, at0, at1, at2, at3, Nxt_nx, Nxt_ret, Nxt_brk, Nxt_cnt, Turn_nx, Turn_cnt, Turn_brk, Turn_ret, Fin'_ret, Fin'_nx, List.getElem?_cons_zero, List.getElem?_cons_succ, List.set_cons_zero, List.set_cons_succ, List.getD_cons_zero, List.getD_cons_succ, List.length_cons, List.length_nil, List.map_cons, List.map_nil, List.cons_append, List.nil_append, List.replicate_succ, List.replicate_zero, Option.map_some, Option.some.injEq, Bool.not_true, Bool.not_false, Bool.and_self, Bool.and_true, Bool.true_and, Bool.false_eq_true, Bool.true_eq_false, if_true, if_false, ite_true, ite_false, reduceIte, true_and, and_true, Nat.reduceAdd, Nat.reduceSub, Nat.reduceLT, Nat.reduceLeDiff, Nat.reducePow, Int.reducePow, Int.reduceToNat, Int.reduceLE, Int.reduceLT, Int.reduceNeg, decide_true, decide_false, Ev.sizeLine_eq, rgOk_eq, Nat.lt_add_left_iff_pos, Nat.zero_lt_succ, Nat.succ_pos, Nat.zero_add, true_or, or_true, Nat.reduceMul, Nat.add_zero, Nat.zero_le, Nat.le_refl]
  unfold testsT
  split
  · rename_i hp0
    refine lc_map (f := tPV) (h := fun t => PV.str (testT t)) (· = hp) ts [] hp rfl (by ((try simp only [List.length_append, List.length_cons, List.length_nil, List.length_take, List.length_map, List.length_reverse]); omega)) (fun t ht hp' e => ?_) fun hp' e => ?_
    · subst e
      simp only [tPV, jTestL t (h.all t ht), ↓q_ok, ↓q_some, ↓q_cst, ↓q_var, ↓q_tup, ↓q_lst, ↓q_bin, ↓q_cmp, ↓q_neg, ↓q_nt, ↓q_an, ↓q_orr, ↓q_ite, ↓q_idx, ↓q_slc, ↓q_rev, ↓q_call, ↓q_bi, ↓q_join, ↓q_app, ↓q_ext, ↓q_lc, ↓q_fs, ↓q_dct, ↓q_evs0, ↓q_evs1, ↓q_opds0, ↓q_opds1, ↓q_no, ↓q_so, ↓q_it, ↓q_rg1, ↓q_rg2, ↓q_tno, ↓q_tso, ↓q_evf0, ↓q_evf1, ↓q_tnt, ↓q_tan, ↓q_tor, ↓q_tite, ↓q_tvar, ↓q_tcst, ↓q_tcmp, ↓q_tidx, ↓q_tcall, ↓q_tbi, ↓q_tslc, ↓q_ovar, ↓q_ocst, ↓q_otup, ↓q_olst, ↓q_obin, ↓q_ocmp, ↓q_oneg, ↓q_ont, ↓q_oan, ↓q_oorr, ↓q_oite, ↓q_oidx, ↓q_oslc, ↓q_orev, ↓q_ocall, ↓q_obi, ↓q_ojoin, ↓q_olc, ↓q_ofs, ↓q_odct, ↓q_lookv, ↓q_looks, ↓q_peek, ↓q_look0, ↓q_look1, ↓q_set, ↓q_bnm, ↓q_btp, ↓q_sets0, ↓q_sets1, ↓q_par0, ↓q_par1, ↓q_own, ↓q_appV, ↓q_extn, ↓q_extl, ↓q_ixr, ↓q_ixt, ↓q_ixl, ↓q_ixs, ↓q_putG, ↓q_add_int, ↓q_add_str, ↓q_add_lst, ↓q_add_tup, ↓q_sub_int, ↓q_mul_int, ↓q_mul_lst, ↓q_mul_tup, ↓q_fdiv_int, ↓q_mod_int, ↓q_pow_int, ↓q_bint, ↓q_bintb, ↓q_blenl, ↓q_blent, ↓q_blens, ↓q_bstri, ↓q_bstrs, ↓q_blistl, ↓q_blistt, ↓q_btupl, ↓q_btupt, ↓q_bmin, ↓q_bmax, ↓q_fmts, ↓q_fmti, ↓q_asg, ↓q_parS, ↓q_put, ↓q_ex, ↓q_iff, ↓q_for, ↓q_retV, ↓q_rcst, ↓q_rtup, ↓q_rlst, ↓q_rbin, ↓q_rcmp, ↓q_rneg, ↓q_rnt, ↓q_ran, ↓q_rorr, ↓q_rite, ↓q_ridx, ↓q_rslc, ↓q_rrev, ↓q_rcall, ↓q_rbi, ↓q_rjoin, ↓q_rlc, ↓q_rfs, ↓q_rdct, ↓q_retN, ↓q_pas, ↓q_brk, ↓q_cnt, ↓q_exs0, ↓q_exs1, q_add_int, q_add_str, q_add_lst, q_add_tup, q_sub_int, q_mul_int, q_mul_lst, q_mul_tup, q_fdiv_int, q_mod_int, q_pow_int, q_bint, q_bintb, q_blenl, q_blent, q_blens, q_bstri, q_bstrs, q_blistl, q_blistt, q_btupl, q_btupt, q_bmin, q_bmax, q_fmts, q_fmti, backG_mk, pushG_mk, wipe_nil, wipe_cons, back_nil, back_cons, noOwn_nil, slots_nm, slots_tp, pv_val, pv_new, slot_val, slot_new, asInt_int, truV_bl, truV_int, cmpV_eq, cmpV_ne, cmpV_lt, cmpV_le, cmpV_gt, cmpV_ge, eqV_int, eqV_str, items_l, items_t, items_f, slcV_lst, slcV_tup, slcV_fz, revV_tup, revV_lst, idxV_lst, idxV_tup, noOwn_cons, at0, at1, at2, at3, Nxt_nx, Nxt_ret, Nxt_brk, Nxt_cnt, Turn_nx, Turn_cnt, Turn_brk, Turn_ret, Fin'_ret, Fin'_nx, List.getElem?_cons_zero, List.getElem?_cons_succ, List.set_cons_zero, List.set_cons_succ, List.getD_cons_zero, List.getD_cons_succ, List.length_cons, List.length_nil, List.map_cons, List.map_nil, List.cons_append, List.nil_append, List.replicate_succ, List.replicate_zero, Option.map_some, Option.some.injEq, Bool.not_true, Bool.not_false, Bool.and_self, Bool.and_true, Bool.true_and, Bool.false_eq_true, Bool.true_eq_false, if_true, if_false, ite_true, ite_false, reduceIte, true_and, and_true, Nat.reduceAdd, Nat.reduceSub, Nat.reduceLT, Nat.reduceLeDiff, Nat.reducePow, Int.reducePow, Int.reduceToNat, Int.reduceLE, Int.reduceLT, Int.reduceNeg, decide_true, decide_false, Ev.sizeLine_eq, rgOk_eq, Nat.lt_add_left_iff_pos, Nat.zero_lt_succ, Nat.succ_pos, Nat.zero_add, true_or, or_true, Nat.reduceMul, Nat.add_zero, Nat.zero_le, Nat.le_refl]
    · subst e
      simp only [jTests ts h, ↓q_ok, ↓q_some, ↓q_cst, ↓q_var, ↓q_tup, ↓q_lst, ↓q_bin, ↓q_cmp, ↓q_neg, ↓q_nt, ↓q_an, ↓q_orr, ↓q_ite, ↓q_idx, ↓q_slc, ↓q_rev, ↓q_call, ↓q_bi, ↓q_join, ↓q_app, ↓q_ext, ↓q_lc, ↓q_fs, ↓q_dct, ↓q_evs0, ↓q_evs1, ↓q_opds0, ↓q_opds1, ↓q_no, ↓q_so, ↓q_it, ↓q_rg1, ↓q_rg2, ↓q_tno, ↓q_tso, ↓q_evf0, ↓q_evf1, ↓q_tnt, ↓q_tan, ↓q_tor, ↓q_tite, ↓q_tvar, ↓q_tcst, ↓q_tcmp, ↓q_tidx, ↓q_tcall, ↓q_tbi, ↓q_tslc, ↓q_ovar, ↓q_ocst, ↓q_otup, ↓q_olst, ↓q_obin, ↓q_ocmp, ↓q_oneg, ↓q_ont, ↓q_oan, ↓q_oorr, ↓q_oite, ↓q_oidx, ↓q_oslc, ↓q_orev, ↓q_ocall, ↓q_obi, ↓q_ojoin, ↓q_olc, ↓q_ofs, ↓q_odct, ↓q_lookv, ↓q_looks, ↓q_peek, ↓q_look0, ↓q_look1, ↓q_set, ↓q_bnm, ↓q_btp, ↓q_sets0, ↓q_sets1, ↓q_par0, ↓q_par1, ↓q_own, ↓q_appV, ↓q_extn, ↓q_extl, ↓q_ixr, ↓q_ixt, ↓q_ixl, ↓q_ixs, ↓q_putG, ↓q_add_int, ↓q_add_str, ↓q_add_lst, ↓q_add_tup, ↓q_sub_int, ↓q_mul_int, ↓q_mul_lst, ↓q_mul_tup, ↓q_fdiv_int, ↓q_mod_int, ↓q_pow_int, ↓q_bint, ↓q_bintb, ↓q_blenl, ↓q_blent, ↓q_blens, ↓q_bstri, ↓q_bstrs, ↓q_blistl, ↓q_blistt, ↓q_btupl, ↓q_btupt, ↓q_bmin, ↓q_bmax, ↓q_fmts, ↓q_fmti, ↓q_asg, ↓q_parS, ↓q_put, ↓q_ex, ↓q_iff, ↓q_for, ↓q_retV, ↓q_rcst, ↓q_rtup, ↓q_rlst, ↓q_rbin, ↓q_rcmp, ↓q_rneg, ↓q_rnt, ↓q_ran, ↓q_rorr, ↓q_rite, ↓q_ridx, ↓q_rslc, ↓q_rrev, ↓q_rcall, ↓q_rbi, ↓q_rjoin, ↓q_rlc, ↓q_rfs, ↓q_rdct, ↓q_retN, ↓q_pas, ↓q_brk, ↓q_cnt, ↓q_exs0, ↓q_exs1, q_add_int, q_add_str, q_add_lst, q_add_tup, q_sub_int, q_mul_int, q_mul_lst, q_mul_tup, q_fdiv_int, q_mod_int, q_pow_int, q_bint, q_bintb, q_blenl, q_blent, q_blens, q_bstri, q_bstrs, q_blistl, q_blistt, q_btupl, q_btupt, q_bmin, q_bmax, q_fmts, q_fmti, backG_mk, pushG_mk, wipe_nil, wipe_cons, back_nil, back_cons, noOwn_nil, slots_nm, slots_tp, pv_val, pv_new, slot_val, slot_new, asInt_int, truV_bl, truV_int, cmpV_eq, cmpV_ne, cmpV_lt, cmpV_le, cmpV_gt, cmpV_ge, eqV_int, eqV_str, items_l, items_t, items_f, slcV_lst, slcV_tup, slcV_fz, revV_tup, revV_lst, idxV_lst, idxV_tup, noOwn_cons, at0, at1, at2, at3, Nxt_nx, Nxt_ret, Nxt_brk, Nxt_cnt, Turn_nx, Turn_cnt, Turn_brk, Turn_ret, Fin'_ret, Fin'_nx, List.getElem?_cons_zero, List.getElem?_cons_succ, List.set_cons_zero, List.set_cons_succ, List.getD_cons_zero, List.getD_cons_succ, List.length_cons, List.length_nil, List.map_cons, List.map_nil, List.cons_append, List.nil_append, List.replicate_succ, List.replicate_zero, Option.map_some, Option.some.injEq, Bool.not_true, Bool.not_false, Bool.and_self, Bool.and_true, Bool.true_and, Bool.false_eq_true, Bool.true_eq_false, if_true, if_false, ite_true, ite_false, reduceIte, true_and, and_true, Nat.reduceAdd, Nat.reduceSub, Nat.reduceLT, Nat.reduceLeDiff, Nat.reducePow, Int.reducePow, Int.reduceToNat, Int.reduceLE, Int.reduceLT, Int.reduceNeg, decide_true, decide_false, Ev.sizeLine_eq, rgOk_eq, Nat.lt_add_left_iff_pos, Nat.zero_lt_succ, Nat.succ_pos, Nat.zero_add, true_or, or_true, Nat.reduceMul, Nat.add_zero, Nat.zero_le, Nat.le_refl]
      rw [if_neg]
      intro q
      rw [q] at hp0
      cases hp0
  · rename_i hp0
    have : ts.isEmpty = true := by
      cases q : ts.isEmpty with
      | true => rfl
      | false => exact absurd (by rw [q]; rfl) hp0
    rw [if_pos this]
theorem app_ok (x y : Str) {n m : Nat} (hx : Tx n x) (hy : Tx m y) (h : n + m ≤ 16777216) : (x.length + y.length ≤ 16777216) = True := by
  have := hx.len
  have := hy.len
  simp
  omega
theorem jPath {ps : List Str} {k : Nat} (hl : ps.length ≤ k) (hk : k ≤ 100) (h : ∀ w ∈ ps, Tx 12 w) : joinV (.str ".") (.tup (ps.map PV.str)) = some (.str (Txt.join "." ps)) := join_t (s := ".") (m := 1) (n := 12) (Tx.by (by decide +kernel)) h hl (by omega)
theorem jPathL {ps : List Str} {k : Nat} (hl : ps.length ≤ k) (hk : k ≤ 100) (h : ∀ w ∈ ps, Tx 12 w) : joinV (.str ".") (.lst (ps.map PV.str)) = some (.str (Txt.join "." ps)) := jPath hl hk h
theorem jNames {ps : List Str} {k : Nat} (hl : ps.length ≤ k) (hk : k ≤ 100) (h : ∀ w ∈ ps, Tx 12 w) : joinV (.str ",") (.tup (ps.map PV.str)) = some (.str (Txt.join "," ps)) := join_t (s := ",") (m := 1) (n := 12) (Tx.by (by decide +kernel)) h hl (by omega)
theorem jNamesL {ps : List Str} {k : Nat} (hl : ps.length ≤ k) (hk : k ≤ 100) (h : ∀ w ∈ ps, Tx 12 w) : joinV (.str ",") (.lst (ps.map PV.str)) = some (.str (Txt.join "," ps)) := jNames hl hk h
theorem l_read : (("read " : String) : Str).length = 5 := by decide +kernel
theorem l_write : (("write " : String) : Str).length = 6 := by decide +kernel
theorem l_make : (("make " : String) : Str).length = 5 := by decide +kernel
theorem l_names : (("names " : String) : Str).length = 6 := by decide +kernel
theorem l_sp : ((" " : String) : Str).length = 1 := by decide +kernel
theorem make_text_ok (k : Nat) {hp : List Cell} {b : Base} (h : BaseOk b) : Gives (calls table (k + 1) 18 [bPV b] [] hp) fun r hp' => r = .val (.str (makeT b)) ∧ hp' = hp := by
  refine gives_run (c := calls table k) (d := d_make_text) (as := [bPV b]) rfl ?_
  obtain ⟨ways, guard, last⟩ := b
  rcases ways_cases h with rfl | rfl <;> cases guard <;> cases last
  all_goals
    simp only [d_make_text, bPV, empty_app, ↓q_ok, ↓q_some, ↓q_cst, ↓q_var, ↓q_tup, ↓q_lst, ↓q_bin, ↓q_cmp, ↓q_neg, ↓q_nt, ↓q_an, ↓q_orr, ↓q_ite, ↓q_idx, ↓q_slc, ↓q_rev, ↓q_call, ↓q_bi, ↓q_join, ↓q_app, ↓q_ext, ↓q_lc, ↓q_fs, ↓q_dct, ↓q_evs0, ↓q_evs1, ↓q_opds0, ↓q_opds1, ↓q_no, ↓q_so, ↓q_it, ↓q_rg1, ↓q_rg2, ↓q_tno, ↓q_tso, ↓q_evf0, ↓q_evf1, ↓q_tnt, ↓q_tan, ↓q_tor, ↓q_tite, ↓q_tvar, ↓q_tcst, ↓q_tcmp, ↓q_tidx, ↓q_tcall, ↓q_tbi, ↓q_tslc, ↓q_ovar, ↓q_ocst, ↓q_otup, ↓q_olst, ↓q_obin, ↓q_ocmp, ↓q_oneg, ↓q_ont, ↓q_oan, ↓q_oorr, ↓q_oite, ↓q_oidx, ↓q_oslc, ↓q_orev, ↓q_ocall, ↓q_obi, ↓q_ojoin, ↓q_olc, ↓q_ofs, ↓q_odct, ↓q_lookv, ↓q_looks, ↓q_peek, ↓q_look0, ↓q_look1, ↓q_set, ↓q_bnm, ↓q_btp, ↓q_sets0, ↓q_sets1, ↓q_par0, ↓q_par1, ↓q_own, ↓q_appV, ↓q_extn, ↓q_extl, ↓q_ixr, ↓q_ixt, ↓q_ixl, ↓q_ixs, ↓q_putG, ↓q_add_int, ↓q_add_str, ↓q_add_lst, ↓q_add_tup, ↓q_sub_int, ↓q_mul_int, ↓q_mul_lst, ↓q_mul_tup, ↓q_fdiv_int, ↓q_mod_int, ↓q_pow_int, ↓q_bint, ↓q_bintb, ↓q_blenl, ↓q_blent, ↓q_blens, ↓q_bstri, ↓q_bstrs, ↓q_blistl, ↓q_blistt, ↓q_btupl, ↓q_btupt, ↓q_bmin, ↓q_bmax, ↓q_fmts, ↓q_fmti, ↓q_asg, ↓q_parS, ↓q_put, ↓q_ex, ↓q_iff, ↓q_for, ↓q_retV, ↓q_rcst, ↓q_rtup, ↓q_rlst, ↓q_rbin, ↓q_rcmp, ↓q_rneg, ↓q_rnt, ↓q_ran, ↓q_rorr, ↓q_rite, ↓q_ridx, ↓q_rslc, ↓q_rrev, ↓q_rcall, ↓q_rbi, ↓q_rjoin, ↓q_rlc, ↓q_rfs, ↓q_rdct, ↓q_retN, ↓q_pas, ↓q_brk, ↓q_cnt, ↓q_exs0, ↓q_exs1, q_add_int, q_add_str, q_add_lst, q_add_tup, q_sub_int, q_mul_int, q_mul_lst, q_mul_tup, q_fdiv_int, q_mod_int, q_pow_int, q_bint, q_bintb, q_blenl, q_blent, q_blens, q_bstri, q_bstrs, q_blistl, q_blistt, q_btupl, q_btupt, q_bmin, q_bmax, q_fmts, q_fmti, backG_mk, pushG_mk, wipe_nil, wipe_cons, back_nil, back_cons, noOwn_nil, slots_nm, slots_tp, pv_val, pv_new, slot_val, slot_new, asInt_int, truV_bl, truV_int, cmpV_eq, cmpV_ne, cmpV_lt, cmpV_le, cmpV_gt, cmpV_ge, eqV_int, eqV_str, items_l, items_t, items_f, slcV_lst, slcV_tup, slcV_fz, revV_tup, revV_lst, idxV_lst, idxV_tup, noOwn_cons, at0, at1, at2, at3, Nxt_nx, Nxt_ret, Nxt_brk, Nxt_cnt, Turn_nx, Turn_cnt, Turn_brk, Turn_ret, Fin'_ret, Fin'_nx, List.getElem?_cons_zero, List.getElem?_cons_succ, List.set_cons_zero, List.set_cons_succ, List.getD_cons_zero, List.getD_cons_succ, List.length_cons, List.length_nil, List.map_cons, List.map_nil, List.cons_append, List.nil_append, List.replicate_succ, List.replicate_zero, Option.map_some, Option.some.injEq, Bool.not_true, Bool.not_false, Bool.and_self, Bool.and_true, Bool.true_and, Bool.false_eq_true, Bool.true_eq_false, if_true, if_false, ite_true, ite_false, reduceIte, true_and, and_true, Nat.reduceAdd, Nat.reduceSub, Nat.reduceLT, Nat.reduceLeDiff, Nat.reducePow, Int.reducePow, Int.reduceToNat, Int.reduceLE, Int.reduceLT, Int.reduceNeg, decide_true, decide_false, Ev.sizeLine_eq, rgOk_eq, Nat.lt_add_left_iff_pos, Nat.zero_lt_succ, Nat.succ_pos, Nat.zero_add, true_or, or_true, Nat.reduceMul, Nat.add_zero, Nat.zero_le, Nat.le_refl]
    repeat' apply And.intro
    all_goals first | rfl | decide +kernel
theorem read_text_ok (k : Nat) {hp : List Cell} {r : Rd} (h : RdOk r) : Gives (calls table (k + 2) 19 [rPV r] [] hp) fun x hp' => x = .val (.str (readT r)) ∧ hp' = hp := by
  refine gives_run (c := calls table (k + 1)) (d := d_read_text) (as := [rPV r]) rfl ?_
  have t1 := h.tag.len
  have t2 := (path_tx h.plen h.path).len
  have t3 := (testsT_tx h.tests).len
  simp only [d_read_text, rPV, empty_app, strLen_append, l_read, l_sp, jPath h.plen (by decide) h.path, ↓q_ok, ↓q_some, ↓q_cst, ↓q_var, ↓q_tup, ↓q_lst, ↓q_bin, ↓q_cmp, ↓q_neg, ↓q_nt, ↓q_an, ↓q_orr, ↓q_ite, ↓q_idx, ↓q_slc, ↓q_rev, ↓q_call, ↓q_bi, ↓q_join, ↓q_app, ↓q_ext, ↓q_lc, ↓q_fs, ↓q_dct, ↓q_evs0, ↓q_evs1, ↓q_opds0, ↓q_opds1, ↓q_no, ↓q_so, ↓q_it, ↓q_rg1, ↓q_rg2, ↓q_tno, ↓q_tso, ↓q_evf0, ↓q_evf1, ↓q_tnt, ↓q_tan, ↓q_tor, ↓q_tite, ↓q_tvar, ↓q_tcst, ↓q_tcmp, ↓q_tidx, ↓q_tcall, ↓q_tbi, ↓q_tslc, ↓q_ovar, ↓q_ocst, ↓q_otup, ↓q_olst, ↓q_obin, ↓q_ocmp, ↓q_oneg, ↓q_ont, ↓q_oan, ↓q_oorr, ↓q_oite, ↓q_oidx, ↓q_oslc, ↓q_orev, ↓q_ocall, ↓q_obi, ↓q_ojoin, ↓q_olc, ↓q_ofs, ↓q_odct, ↓q_lookv, ↓q_looks, ↓q_peek, ↓q_look0, ↓q_look1, ↓q_set, ↓q_bnm, ↓q_btp, ↓q_sets0, ↓q_sets1, ↓q_par0, ↓q_par1, ↓q_own, ↓q_appV, ↓q_extn, ↓q_extl, ↓q_ixr, ↓q_ixt, ↓q_ixl, ↓q_ixs, ↓q_putG, ↓q_add_int, ↓q_add_str, ↓q_add_lst, ↓q_add_tup, ↓q_sub_int, ↓q_mul_int, ↓q_mul_lst, ↓q_mul_tup, ↓q_fdiv_int, ↓q_mod_int, ↓q_pow_int, ↓q_bint, ↓q_bintb, ↓q_blenl, ↓q_blent, ↓q_blens, ↓q_bstri, ↓q_bstrs, ↓q_blistl, ↓q_blistt, ↓q_btupl, ↓q_btupt, ↓q_bmin, ↓q_bmax, ↓q_fmts, ↓q_fmti, ↓q_asg, ↓q_parS, ↓q_put, ↓q_ex, ↓q_iff, ↓q_for, ↓q_retV, ↓q_rcst, ↓q_rtup, ↓q_rlst, ↓q_rbin, ↓q_rcmp, ↓q_rneg, ↓q_rnt, ↓q_ran, ↓q_rorr, ↓q_rite, ↓q_ridx, ↓q_rslc, ↓q_rrev, ↓q_rcall, ↓q_rbi, ↓q_rjoin, ↓q_rlc, ↓q_rfs, ↓q_rdct, ↓q_retN, ↓q_pas, ↓q_brk, ↓q_cnt, ↓q_exs0, ↓q_exs1, q_add_int, q_add_str, q_add_lst, q_add_tup, q_sub_int, q_mul_int, q_mul_lst, q_mul_tup, q_fdiv_int, q_mod_int, q_pow_int, q_bint, q_bintb, q_blenl, q_blent, q_blens, q_bstri, q_bstrs, q_blistl, q_blistt, q_btupl, q_btupt, q_bmin, q_bmax, q_fmts, q_fmti, backG_mk, pushG_mk, wipe_nil, wipe_cons, back_nil, back_cons, noOwn_nil, slots_nm, slots_tp, pv_val, pv_new, slot_val, slot_new, asInt_int, truV_bl, truV_int, cmpV_eq, cmpV_ne, cmpV_lt, cmpV_le, cmpV_gt, cmpV_ge, eqV_int, eqV_str, items_l, items_t, items_f, slcV_lst, slcV_tup, slcV_fz, revV_tup, revV_lst, idxV_lst, idxV_tup, noOwn_cons, at0, at1, at2, at3, Nxt_nx, Nxt_ret, Nxt_brk, Nxt_cnt, Turn_nx, Turn_cnt, Turn_brk, Turn_ret, Fin'_ret, Fin'_nx, List.getElem?_cons_zero, List.getElem?_cons_succ, List.set_cons_zero, List.set_cons_succ, List.getD_cons_zero, List.getD_cons_succ, List.length_cons, List.length_nil, List.map_cons, List.map_nil, List.cons_append, List.nil_append, List.replicate_succ, List.replicate_zero, Option.map_some, Option.some.injEq, Bool.not_true, Bool.not_false, Bool.and_self, Bool.and_true, Bool.true_and, Bool.false_eq_true, Bool.true_eq_false, if_true, if_false, ite_true, ite_false, reduceIte, true_and, and_true, Nat.reduceAdd, Nat.reduceSub, Nat.reduceLT, Nat.reduceLeDiff, Nat.reducePow, Int.reducePow, Int.reduceToNat, Int.reduceLE, Int.reduceLT, Int.reduceNeg, decide_true, decide_false, Ev.sizeLine_eq, rgOk_eq, Nat.lt_add_left_iff_pos, Nat.zero_lt_succ, Nat.succ_pos, Nat.zero_add, true_or, or_true, Nat.reduceMul, Nat.add_zero, Nat.zero_le, Nat.le_refl]
  repeat (refine ⟨by omega, ?_⟩)
  refine Ok_callW (tests_text_ok k h.tests) fun x hp' ⟨hr, he⟩ => ?_
  subst hr he
  simp only [strLen_append, l_read, l_sp, ↓q_ok, ↓q_some, ↓q_cst, ↓q_var, ↓q_tup, ↓q_lst, ↓q_bin, ↓q_cmp, ↓q_neg, ↓q_nt, ↓q_an, ↓q_orr, ↓q_ite, ↓q_idx, ↓q_slc, ↓q_rev, ↓q_call, ↓q_bi, ↓q_join, ↓q_app, ↓q_ext, ↓q_lc, ↓q_fs, ↓q_dct, ↓q_evs0, ↓q_evs1, ↓q_opds0, ↓q_opds1, ↓q_no, ↓q_so, ↓q_it, ↓q_rg1, ↓q_rg2, ↓q_tno, ↓q_tso, ↓q_evf0, ↓q_evf1, ↓q_tnt, ↓q_tan, ↓q_tor, ↓q_tite, ↓q_tvar, ↓q_tcst, ↓q_tcmp, ↓q_tidx, ↓q_tcall, ↓q_tbi, ↓q_tslc, ↓q_ovar, ↓q_ocst, ↓q_otup, ↓q_olst, ↓q_obin, ↓q_ocmp, ↓q_oneg, ↓q_ont, ↓q_oan, ↓q_oorr, ↓q_oite, ↓q_oidx, ↓q_oslc, ↓q_orev, ↓q_ocall, ↓q_obi, ↓q_ojoin, ↓q_olc, ↓q_ofs, ↓q_odct, ↓q_lookv, ↓q_looks, ↓q_peek, ↓q_look0, ↓q_look1, ↓q_set, ↓q_bnm, ↓q_btp, ↓q_sets0, ↓q_sets1, ↓q_par0, ↓q_par1, ↓q_own, ↓q_appV, ↓q_extn, ↓q_extl, ↓q_ixr, ↓q_ixt, ↓q_ixl, ↓q_ixs, ↓q_putG, ↓q_add_int, ↓q_add_str, ↓q_add_lst, ↓q_add_tup, ↓q_sub_int, ↓q_mul_int, ↓q_mul_lst, ↓q_mul_tup, ↓q_fdiv_int, ↓q_mod_int, ↓q_pow_int, ↓q_bint, ↓q_bintb, ↓q_blenl, ↓q_blent, ↓q_blens, ↓q_bstri, ↓q_bstrs, ↓q_blistl, ↓q_blistt, ↓q_btupl, ↓q_btupt, ↓q_bmin, ↓q_bmax, ↓q_fmts, ↓q_fmti, ↓q_asg, ↓q_parS, ↓q_put, ↓q_ex, ↓q_iff, ↓q_for, ↓q_retV, ↓q_rcst, ↓q_rtup, ↓q_rlst, ↓q_rbin, ↓q_rcmp, ↓q_rneg, ↓q_rnt, ↓q_ran, ↓q_rorr, ↓q_rite, ↓q_ridx, ↓q_rslc, ↓q_rrev, ↓q_rcall, ↓q_rbi, ↓q_rjoin, ↓q_rlc, ↓q_rfs, ↓q_rdct, ↓q_retN, ↓q_pas, ↓q_brk, ↓q_cnt, ↓q_exs0, ↓q_exs1, q_add_int, q_add_str, q_add_lst, q_add_tup, q_sub_int, q_mul_int, q_mul_lst, q_mul_tup, q_fdiv_int, q_mod_int, q_pow_int, q_bint, q_bintb, q_blenl, q_blent, q_blens, q_bstri, q_bstrs, q_blistl, q_blistt, q_btupl, q_btupt, q_bmin, q_bmax, q_fmts, q_fmti, backG_mk, pushG_mk, wipe_nil, wipe_cons, back_nil, back_cons, noOwn_nil, slots_nm, slots_tp, pv_val, pv_new, slot_val, slot_new, asInt_int, truV_bl, truV_int, cmpV_eq, cmpV_ne, cmpV_lt, cmpV_le, cmpV_gt, cmpV_ge, eqV_int, eqV_str, items_l, items_t, items_f, slcV_lst, slcV_tup, slcV_fz, revV_tup, revV_lst, idxV_lst, idxV_tup, noOwn_cons, at0, at1, at2, at3, Nxt_nx, Nxt_ret, Nxt_brk, Nxt_cnt, Turn_nx, Turn_cnt, Turn_brk, Turn_ret, Fin'_ret, Fin'_nx, List.getElem?_cons_zero, List.getElem?_cons_succ, List.set_cons_zero, List.set_cons_succ, List.getD_cons_zero, List.getD_cons_succ, List.length_cons, List.length_nil, List.map_cons, List.map_nil, List.cons_append, List.nil_append, List.replicate_succ, List.replicate_zero, Option.map_some, Option.some.injEq, Bool.not_true, Bool.not_false, Bool.and_self, Bool.and_true, Bool.true_and, Bool.false_eq_true, Bool.true_eq_false, if_true, if_false, ite_true, ite_false, reduceIte, true_and, and_true, Nat.reduceAdd, Nat.reduceSub, Nat.reduceLT, Nat.reduceLeDiff, Nat.reducePow, Int.reducePow, Int.reduceToNat, Int.reduceLE, Int.reduceLT, Int.reduceNeg, decide_true, decide_false, Ev.sizeLine_eq, rgOk_eq, Nat.lt_add_left_iff_pos, Nat.zero_lt_succ, Nat.succ_pos, Nat.zero_add, true_or, or_true, Nat.reduceMul, Nat.add_zero, Nat.zero_le, Nat.le_refl]
  repeat (refine ⟨by omega, ?_⟩)
  rfl
theorem write_text_ok (k : Nat) {hp : List Cell} {w : Wt} (h : WtOk w) : Gives (calls table (k + 2) 20 [wPV w] [] hp) fun x hp' => x = .val (.str (writeT w)) ∧ hp' = hp := by
  refine gives_run (c := calls table (k + 1)) (d := d_write_text) (as := [wPV w]) rfl ?_
  have t1 := h.worth.len
  have t2 := (path_tx h.plen h.place).len
  have t3 := (testsT_tx h.tests).len
  simp only [d_write_text, wPV, empty_app, strLen_append, l_write, l_sp, jPath h.plen (by decide) h.place, ↓q_ok, ↓q_some, ↓q_cst, ↓q_var, ↓q_tup, ↓q_lst, ↓q_bin, ↓q_cmp, ↓q_neg, ↓q_nt, ↓q_an, ↓q_orr, ↓q_ite, ↓q_idx, ↓q_slc, ↓q_rev, ↓q_call, ↓q_bi, ↓q_join, ↓q_app, ↓q_ext, ↓q_lc, ↓q_fs, ↓q_dct, ↓q_evs0, ↓q_evs1, ↓q_opds0, ↓q_opds1, ↓q_no, ↓q_so, ↓q_it, ↓q_rg1, ↓q_rg2, ↓q_tno, ↓q_tso, ↓q_evf0, ↓q_evf1, ↓q_tnt, ↓q_tan, ↓q_tor, ↓q_tite, ↓q_tvar, ↓q_tcst, ↓q_tcmp, ↓q_tidx, ↓q_tcall, ↓q_tbi, ↓q_tslc, ↓q_ovar, ↓q_ocst, ↓q_otup, ↓q_olst, ↓q_obin, ↓q_ocmp, ↓q_oneg, ↓q_ont, ↓q_oan, ↓q_oorr, ↓q_oite, ↓q_oidx, ↓q_oslc, ↓q_orev, ↓q_ocall, ↓q_obi, ↓q_ojoin, ↓q_olc, ↓q_ofs, ↓q_odct, ↓q_lookv, ↓q_looks, ↓q_peek, ↓q_look0, ↓q_look1, ↓q_set, ↓q_bnm, ↓q_btp, ↓q_sets0, ↓q_sets1, ↓q_par0, ↓q_par1, ↓q_own, ↓q_appV, ↓q_extn, ↓q_extl, ↓q_ixr, ↓q_ixt, ↓q_ixl, ↓q_ixs, ↓q_putG, ↓q_add_int, ↓q_add_str, ↓q_add_lst, ↓q_add_tup, ↓q_sub_int, ↓q_mul_int, ↓q_mul_lst, ↓q_mul_tup, ↓q_fdiv_int, ↓q_mod_int, ↓q_pow_int, ↓q_bint, ↓q_bintb, ↓q_blenl, ↓q_blent, ↓q_blens, ↓q_bstri, ↓q_bstrs, ↓q_blistl, ↓q_blistt, ↓q_btupl, ↓q_btupt, ↓q_bmin, ↓q_bmax, ↓q_fmts, ↓q_fmti, ↓q_asg, ↓q_parS, ↓q_put, ↓q_ex, ↓q_iff, ↓q_for, ↓q_retV, ↓q_rcst, ↓q_rtup, ↓q_rlst, ↓q_rbin, ↓q_rcmp, ↓q_rneg, ↓q_rnt, ↓q_ran, ↓q_rorr, ↓q_rite, ↓q_ridx, ↓q_rslc, ↓q_rrev, ↓q_rcall, ↓q_rbi, ↓q_rjoin, ↓q_rlc, ↓q_rfs, ↓q_rdct, ↓q_retN, ↓q_pas, ↓q_brk, ↓q_cnt, ↓q_exs0, ↓q_exs1, q_add_int, q_add_str, q_add_lst, q_add_tup, q_sub_int, q_mul_int, q_mul_lst, q_mul_tup, q_fdiv_int, q_mod_int, q_pow_int, q_bint, q_bintb, q_blenl, q_blent, q_blens, q_bstri, q_bstrs, q_blistl, q_blistt, q_btupl, q_btupt, q_bmin, q_bmax, q_fmts, q_fmti, backG_mk, pushG_mk, wipe_nil, wipe_cons, back_nil, back_cons, noOwn_nil, slots_nm, slots_tp, pv_val, pv_new, slot_val, slot_new, asInt_int, truV_bl, truV_int, cmpV_eq, cmpV_ne, cmpV_lt, cmpV_le, cmpV_gt, cmpV_ge, eqV_int, eqV_str, items_l, items_t, items_f, slcV_lst, slcV_tup, slcV_fz, revV_tup, revV_lst, idxV_lst, idxV_tup, noOwn_cons, at0, at1, at2, at3, Nxt_nx, Nxt_ret, Nxt_brk, Nxt_cnt, Turn_nx, Turn_cnt, Turn_brk, Turn_ret, Fin'_ret, Fin'_nx, List.getElem?_cons_zero, List.getElem?_cons_succ, List.set_cons_zero, List.set_cons_succ, List.getD_cons_zero, List.getD_cons_succ, List.length_cons, List.length_nil, List.map_cons, List.map_nil, List.cons_append, List.nil_append, List.replicate_succ, List.replicate_zero, Option.map_some, Option.some.injEq, Bool.not_true, Bool.not_false, Bool.and_self, Bool.and_true, Bool.true_and, Bool.false_eq_true, Bool.true_eq_false, if_true, if_false, ite_true, ite_false, reduceIte, true_and, and_true, Nat.reduceAdd, Nat.reduceSub, Nat.reduceLT, Nat.reduceLeDiff, Nat.reducePow, Int.reducePow, Int.reduceToNat, Int.reduceLE, Int.reduceLT, Int.reduceNeg, decide_true, decide_false, Ev.sizeLine_eq, rgOk_eq, Nat.lt_add_left_iff_pos, Nat.zero_lt_succ, Nat.succ_pos, Nat.zero_add, true_or, or_true, Nat.reduceMul, Nat.add_zero, Nat.zero_le, Nat.le_refl]
  repeat (refine ⟨by omega, ?_⟩)
  refine Ok_callW (tests_text_ok k h.tests) fun x hp' ⟨hr, he⟩ => ?_
  subst hr he
  simp only [strLen_append, l_write, l_sp, ↓q_ok, ↓q_some, ↓q_cst, ↓q_var, ↓q_tup, ↓q_lst, ↓q_bin, ↓q_cmp, ↓q_neg, ↓q_nt, ↓q_an, ↓q_orr, ↓q_ite, ↓q_idx, ↓q_slc, ↓q_rev, ↓q_call, ↓q_bi, ↓q_join, ↓q_app, ↓q_ext, ↓q_lc, ↓q_fs, ↓q_dct, ↓q_evs0, ↓q_evs1, ↓q_opds0, ↓q_opds1, ↓q_no, ↓q_so, ↓q_it, ↓q_rg1, ↓q_rg2, ↓q_tno, ↓q_tso, ↓q_evf0, ↓q_evf1, ↓q_tnt, ↓q_tan, ↓q_tor, ↓q_tite, ↓q_tvar, ↓q_tcst, ↓q_tcmp, ↓q_tidx, ↓q_tcall, ↓q_tbi, ↓q_tslc, ↓q_ovar, ↓q_ocst, ↓q_otup, ↓q_olst, ↓q_obin, ↓q_ocmp, ↓q_oneg, ↓q_ont, ↓q_oan, ↓q_oorr, ↓q_oite, ↓q_oidx, ↓q_oslc, ↓q_orev, ↓q_ocall, ↓q_obi, ↓q_ojoin, ↓q_olc, ↓q_ofs, ↓q_odct, ↓q_lookv, ↓q_looks, ↓q_peek, ↓q_look0, ↓q_look1, ↓q_set, ↓q_bnm, ↓q_btp, ↓q_sets0, ↓q_sets1, ↓q_par0, ↓q_par1, ↓q_own, ↓q_appV, ↓q_extn, ↓q_extl, ↓q_ixr, ↓q_ixt, ↓q_ixl, ↓q_ixs, ↓q_putG, ↓q_add_int, ↓q_add_str, ↓q_add_lst, ↓q_add_tup, ↓q_sub_int, ↓q_mul_int, ↓q_mul_lst, ↓q_mul_tup, ↓q_fdiv_int, ↓q_mod_int, ↓q_pow_int, ↓q_bint, ↓q_bintb, ↓q_blenl, ↓q_blent, ↓q_blens, ↓q_bstri, ↓q_bstrs, ↓q_blistl, ↓q_blistt, ↓q_btupl, ↓q_btupt, ↓q_bmin, ↓q_bmax, ↓q_fmts, ↓q_fmti, ↓q_asg, ↓q_parS, ↓q_put, ↓q_ex, ↓q_iff, ↓q_for, ↓q_retV, ↓q_rcst, ↓q_rtup, ↓q_rlst, ↓q_rbin, ↓q_rcmp, ↓q_rneg, ↓q_rnt, ↓q_ran, ↓q_rorr, ↓q_rite, ↓q_ridx, ↓q_rslc, ↓q_rrev, ↓q_rcall, ↓q_rbi, ↓q_rjoin, ↓q_rlc, ↓q_rfs, ↓q_rdct, ↓q_retN, ↓q_pas, ↓q_brk, ↓q_cnt, ↓q_exs0, ↓q_exs1, q_add_int, q_add_str, q_add_lst, q_add_tup, q_sub_int, q_mul_int, q_mul_lst, q_mul_tup, q_fdiv_int, q_mod_int, q_pow_int, q_bint, q_bintb, q_blenl, q_blent, q_blens, q_bstri, q_bstrs, q_blistl, q_blistt, q_btupl, q_btupt, q_bmin, q_bmax, q_fmts, q_fmti, backG_mk, pushG_mk, wipe_nil, wipe_cons, back_nil, back_cons, noOwn_nil, slots_nm, slots_tp, pv_val, pv_new, slot_val, slot_new, asInt_int, truV_bl, truV_int, cmpV_eq, cmpV_ne, cmpV_lt, cmpV_le, cmpV_gt, cmpV_ge, eqV_int, eqV_str, items_l, items_t, items_f, slcV_lst, slcV_tup, slcV_fz, revV_tup, revV_lst, idxV_lst, idxV_tup, noOwn_cons, at0, at1, at2, at3, Nxt_nx, Nxt_ret, Nxt_brk, Nxt_cnt, Turn_nx, Turn_cnt, Turn_brk, Turn_ret, Fin'_ret, Fin'_nx, List.getElem?_cons_zero, List.getElem?_cons_succ, List.set_cons_zero, List.set_cons_succ, List.getD_cons_zero, List.getD_cons_succ, List.length_cons, List.length_nil, List.map_cons, List.map_nil, List.cons_append, List.nil_append, List.replicate_succ, List.replicate_zero, Option.map_some, Option.some.injEq, Bool.not_true, Bool.not_false, Bool.and_self, Bool.and_true, Bool.true_and, Bool.false_eq_true, Bool.true_eq_false, if_true, if_false, ite_true, ite_false, reduceIte, true_and, and_true, Nat.reduceAdd, Nat.reduceSub, Nat.reduceLT, Nat.reduceLeDiff, Nat.reducePow, Int.reducePow, Int.reduceToNat, Int.reduceLE, Int.reduceLT, Int.reduceNeg, decide_true, decide_false, Ev.sizeLine_eq, rgOk_eq, Nat.lt_add_left_iff_pos, Nat.zero_lt_succ, Nat.succ_pos, Nat.zero_add, true_or, or_true, Nat.reduceMul, Nat.add_zero, Nat.zero_le, Nat.le_refl]
  repeat (refine ⟨by omega, ?_⟩)
  rfl
theorem jLines {ls : List Str} {k : Nat} (hl : ls.length ≤ k) (hk : k ≤ 1000) (h : ∀ w ∈ ls, Tx 200 w) : joinV (.str "\n") (.lst (ls.map PV.str)) = some (.str (Txt.join "\n" ls)) := join_l (s := "\n") (m := 1) (n := 200) (Tx.by (by decide +kernel)) h hl (by omega)
theorem routine_ok (k : Nat) {hp : List Cell} {p : Plan} {b d : Nat} (h : PlanOk 4 b d p) (hb : b ≤ 100) (hd : d ≤ 100) : Gives (run (calls table (k + 2)) d_routine_text [pPV p] hp) fun x hp' => x = .val (.str (textT p)) ∧ hp' = hp := by
  refine gives_run rfl ?_
  obtain ⟨base, names, reads, writes⟩ := p
  have t2 : (Txt.join "," names).length ≤ 52 := (Tx.join (s := ",") (m := 1) (n := 12) (Tx.by (by decide +kernel)) h.names h.nlen).len
  have hrl : reads.length ≤ b := h.rlen
  have hwl : writes.length ≤ d := h.wlen
  have hnl : names.length ≤ 4 := h.nlen
  simp only [d_routine_text, pPV, empty_app, strLen_append, l_names, l_sp, ↓q_ok, ↓q_some, ↓q_cst, ↓q_var, ↓q_tup, ↓q_lst, ↓q_bin, ↓q_cmp, ↓q_neg, ↓q_nt, ↓q_an, ↓q_orr, ↓q_ite, ↓q_idx, ↓q_slc, ↓q_rev, ↓q_call, ↓q_bi, ↓q_join, ↓q_app, ↓q_ext, ↓q_lc, ↓q_fs, ↓q_dct, ↓q_evs0, ↓q_evs1, ↓q_opds0, ↓q_opds1, ↓q_no, ↓q_so, ↓q_it, ↓q_rg1, ↓q_rg2, ↓q_tno, ↓q_tso, ↓q_evf0, ↓q_evf1, ↓q_tnt, ↓q_tan, ↓q_tor, ↓q_tite, ↓q_tvar, ↓q_tcst, ↓q_tcmp, ↓q_tidx, ↓q_tcall, ↓q_tbi, ↓q_tslc, ↓q_ovar, ↓q_ocst, ↓q_otup, ↓q_olst, ↓q_obin, ↓q_ocmp, ↓q_oneg, ↓q_ont, ↓q_oan, ↓q_oorr, ↓q_oite, ↓q_oidx, ↓q_oslc, ↓q_orev, ↓q_ocall, ↓q_obi, ↓q_ojoin, ↓q_olc, ↓q_ofs, ↓q_odct, ↓q_lookv, ↓q_looks, ↓q_peek, ↓q_look0, ↓q_look1, ↓q_set, ↓q_bnm, ↓q_btp, ↓q_sets0, ↓q_sets1, ↓q_par0, ↓q_par1, ↓q_own, ↓q_appV, ↓q_extn, ↓q_extl, ↓q_ixr, ↓q_ixt, ↓q_ixl, ↓q_ixs, ↓q_putG, ↓q_add_int, ↓q_add_str, ↓q_add_lst, ↓q_add_tup, ↓q_sub_int, ↓q_mul_int, ↓q_mul_lst, ↓q_mul_tup, ↓q_fdiv_int, ↓q_mod_int, ↓q_pow_int, ↓q_bint, ↓q_bintb, ↓q_blenl, ↓q_blent, ↓q_blens, ↓q_bstri, ↓q_bstrs, ↓q_blistl, ↓q_blistt, ↓q_btupl, ↓q_btupt, ↓q_bmin, ↓q_bmax, ↓q_fmts, ↓q_fmti, ↓q_asg, ↓q_parS, ↓q_put, ↓q_ex, ↓q_iff, ↓q_for, ↓q_retV, ↓q_rcst, ↓q_rtup, ↓q_rlst, ↓q_rbin, ↓q_rcmp, ↓q_rneg, ↓q_rnt, ↓q_ran, ↓q_rorr, ↓q_rite, ↓q_ridx, ↓q_rslc, ↓q_rrev, ↓q_rcall, ↓q_rbi, ↓q_rjoin, ↓q_rlc, ↓q_rfs, ↓q_rdct, ↓q_retN, ↓q_pas, ↓q_brk, ↓q_cnt, ↓q_exs0, ↓q_exs1, q_add_int, q_add_str, q_add_lst, q_add_tup, q_sub_int, q_mul_int, q_mul_lst, q_mul_tup, q_fdiv_int, q_mod_int, q_pow_int, q_bint, q_bintb, q_blenl, q_blent, q_blens, q_bstri, q_bstrs, q_blistl, q_blistt, q_btupl, q_btupt, q_bmin, q_bmax, q_fmts, q_fmti, backG_mk, pushG_mk, wipe_nil, wipe_cons, back_nil, back_cons, noOwn_nil, slots_nm, slots_tp, pv_val, pv_new, slot_val, slot_new, asInt_int, truV_bl, truV_int, cmpV_eq, cmpV_ne, cmpV_lt, cmpV_le, cmpV_gt, cmpV_ge, eqV_int, eqV_str, items_l, items_t, items_f, slcV_lst, slcV_tup, slcV_fz, revV_tup, revV_lst, idxV_lst, idxV_tup, noOwn_cons, at0, at1, at2, at3, Nxt_nx, Nxt_ret, Nxt_brk, Nxt_cnt, Turn_nx, Turn_cnt, Turn_brk, Turn_ret, Fin'_ret, Fin'_nx, List.getElem?_cons_zero, List.getElem?_cons_succ, List.set_cons_zero, List.set_cons_succ, List.getD_cons_zero, List.getD_cons_succ, List.length_cons, List.length_nil, List.map_cons, List.map_nil, List.cons_append, List.nil_append, List.replicate_succ, List.replicate_zero, Option.map_some, Option.some.injEq, Bool.not_true, Bool.not_false, Bool.and_self, Bool.and_true, Bool.true_and, Bool.false_eq_true, Bool.true_eq_false, if_true, if_false, ite_true, ite_false, reduceIte, true_and, and_true, Nat.reduceAdd, Nat.reduceSub, Nat.reduceLT, Nat.reduceLeDiff, Nat.reducePow, Int.reducePow, Int.reduceToNat, Int.reduceLE, Int.reduceLT, Int.reduceNeg, decide_true, decide_false, Ev.sizeLine_eq, rgOk_eq, Nat.lt_add_left_iff_pos, Nat.zero_lt_succ, Nat.succ_pos, Nat.zero_add, true_or, or_true, Nat.reduceMul, Nat.add_zero, Nat.zero_le, Nat.le_refl]
  refine Ok_callW (make_text_ok (k + 1) h.base) fun x hp' ⟨hr, he⟩ => ?_
  subst hr he
  simp only [jNames hnl (by decide) h.names, empty_app, strLen_append, l_names, ↓q_ok, ↓q_some, ↓q_cst, ↓q_var, ↓q_tup, ↓q_lst, ↓q_bin, ↓q_cmp, ↓q_neg, ↓q_nt, ↓q_an, ↓q_orr, ↓q_ite, ↓q_idx, ↓q_slc, ↓q_rev, ↓q_call, ↓q_bi, ↓q_join, ↓q_app, ↓q_ext, ↓q_lc, ↓q_fs, ↓q_dct, ↓q_evs0, ↓q_evs1, ↓q_opds0, ↓q_opds1, ↓q_no, ↓q_so, ↓q_it, ↓q_rg1, ↓q_rg2, ↓q_tno, ↓q_tso, ↓q_evf0, ↓q_evf1, ↓q_tnt, ↓q_tan, ↓q_tor, ↓q_tite, ↓q_tvar, ↓q_tcst, ↓q_tcmp, ↓q_tidx, ↓q_tcall, ↓q_tbi, ↓q_tslc, ↓q_ovar, ↓q_ocst, ↓q_otup, ↓q_olst, ↓q_obin, ↓q_ocmp, ↓q_oneg, ↓q_ont, ↓q_oan, ↓q_oorr, ↓q_oite, ↓q_oidx, ↓q_oslc, ↓q_orev, ↓q_ocall, ↓q_obi, ↓q_ojoin, ↓q_olc, ↓q_ofs, ↓q_odct, ↓q_lookv, ↓q_looks, ↓q_peek, ↓q_look0, ↓q_look1, ↓q_set, ↓q_bnm, ↓q_btp, ↓q_sets0, ↓q_sets1, ↓q_par0, ↓q_par1, ↓q_own, ↓q_appV, ↓q_extn, ↓q_extl, ↓q_ixr, ↓q_ixt, ↓q_ixl, ↓q_ixs, ↓q_putG, ↓q_add_int, ↓q_add_str, ↓q_add_lst, ↓q_add_tup, ↓q_sub_int, ↓q_mul_int, ↓q_mul_lst, ↓q_mul_tup, ↓q_fdiv_int, ↓q_mod_int, ↓q_pow_int, ↓q_bint, ↓q_bintb, ↓q_blenl, ↓q_blent, ↓q_blens, ↓q_bstri, ↓q_bstrs, ↓q_blistl, ↓q_blistt, ↓q_btupl, ↓q_btupt, ↓q_bmin, ↓q_bmax, ↓q_fmts, ↓q_fmti, ↓q_asg, ↓q_parS, ↓q_put, ↓q_ex, ↓q_iff, ↓q_for, ↓q_retV, ↓q_rcst, ↓q_rtup, ↓q_rlst, ↓q_rbin, ↓q_rcmp, ↓q_rneg, ↓q_rnt, ↓q_ran, ↓q_rorr, ↓q_rite, ↓q_ridx, ↓q_rslc, ↓q_rrev, ↓q_rcall, ↓q_rbi, ↓q_rjoin, ↓q_rlc, ↓q_rfs, ↓q_rdct, ↓q_retN, ↓q_pas, ↓q_brk, ↓q_cnt, ↓q_exs0, ↓q_exs1, q_add_int, q_add_str, q_add_lst, q_add_tup, q_sub_int, q_mul_int, q_mul_lst, q_mul_tup, q_fdiv_int, q_mod_int, q_pow_int, q_bint, q_bintb, q_blenl, q_blent, q_blens, q_bstri, q_bstrs, q_blistl, q_blistt, q_btupl, q_btupt, q_bmin, q_bmax, q_fmts, q_fmti, backG_mk, pushG_mk, wipe_nil, wipe_cons, back_nil, back_cons, noOwn_nil, slots_nm, slots_tp, pv_val, pv_new, slot_val, slot_new, asInt_int, truV_bl, truV_int, cmpV_eq, cmpV_ne, cmpV_lt, cmpV_le, cmpV_gt, cmpV_ge, eqV_int, eqV_str, items_l, items_t, items_f, slcV_lst, slcV_tup, slcV_fz, revV_tup, revV_lst, idxV_lst, idxV_tup, noOwn_cons, at0, at1, at2, at3, Nxt_nx, Nxt_ret, Nxt_brk, Nxt_cnt, Turn_nx, Turn_cnt, Turn_brk, Turn_ret, Fin'_ret, Fin'_nx, List.getElem?_cons_zero, List.getElem?_cons_succ, List.set_cons_zero, List.set_cons_succ, List.getD_cons_zero, List.getD_cons_succ, List.length_cons, List.length_nil, List.map_cons, List.map_nil, List.cons_append, List.nil_append, List.replicate_succ, List.replicate_zero, Option.map_some, Option.some.injEq, Bool.not_true, Bool.not_false, Bool.and_self, Bool.and_true, Bool.true_and, Bool.false_eq_true, Bool.true_eq_false, if_true, if_false, ite_true, ite_false, reduceIte, true_and, and_true, Nat.reduceAdd, Nat.reduceSub, Nat.reduceLT, Nat.reduceLeDiff, Nat.reducePow, Int.reducePow, Int.reduceToNat, Int.reduceLE, Int.reduceLT, Int.reduceNeg, decide_true, decide_false, Ev.sizeLine_eq, rgOk_eq, Nat.lt_add_left_iff_pos, Nat.zero_lt_succ, Nat.succ_pos, Nat.zero_add, true_or, or_true, Nat.reduceMul, Nat.add_zero, Nat.zero_le, Nat.le_refl]
  repeat (refine ⟨by omega, ?_⟩)
  refine lc_map (f := rPV) (h := fun r => PV.str (readT r)) (· = hp') reads [] hp' rfl (by ((try simp only [List.length_append, List.length_cons, List.length_nil, List.length_take, List.length_map, List.length_reverse]); omega)) (fun r hr hq e => ?_) fun hq e => ?_
  · subst e
    simp only [↓q_ok, ↓q_some, ↓q_cst, ↓q_var, ↓q_tup, ↓q_lst, ↓q_bin, ↓q_cmp, ↓q_neg, ↓q_nt, ↓q_an, ↓q_orr, ↓q_ite, ↓q_idx, ↓q_slc, ↓q_rev, ↓q_call, ↓q_bi, ↓q_join, ↓q_app, ↓q_ext, ↓q_lc, ↓q_fs, ↓q_dct, ↓q_evs0, ↓q_evs1, ↓q_opds0, ↓q_opds1, ↓q_no, ↓q_so, ↓q_it, ↓q_rg1, ↓q_rg2, ↓q_tno, ↓q_tso, ↓q_evf0, ↓q_evf1, ↓q_tnt, ↓q_tan, ↓q_tor, ↓q_tite, ↓q_tvar, ↓q_tcst, ↓q_tcmp, ↓q_tidx, ↓q_tcall, ↓q_tbi, ↓q_tslc, ↓q_ovar, ↓q_ocst, ↓q_otup, ↓q_olst, ↓q_obin, ↓q_ocmp, ↓q_oneg, ↓q_ont, ↓q_oan, ↓q_oorr, ↓q_oite, ↓q_oidx, ↓q_oslc, ↓q_orev, ↓q_ocall, ↓q_obi, ↓q_ojoin, ↓q_olc, ↓q_ofs, ↓q_odct, ↓q_lookv, ↓q_looks, ↓q_peek, ↓q_look0, ↓q_look1, ↓q_set, ↓q_bnm, ↓q_btp, ↓q_sets0, ↓q_sets1, ↓q_par0, ↓q_par1, ↓q_own, ↓q_appV, ↓q_extn, ↓q_extl, ↓q_ixr, ↓q_ixt, ↓q_ixl, ↓q_ixs, ↓q_putG, ↓q_add_int, ↓q_add_str, ↓q_add_lst, ↓q_add_tup, ↓q_sub_int, ↓q_mul_int, ↓q_mul_lst, ↓q_mul_tup, ↓q_fdiv_int, ↓q_mod_int, ↓q_pow_int, ↓q_bint, ↓q_bintb, ↓q_blenl, ↓q_blent, ↓q_blens, ↓q_bstri, ↓q_bstrs, ↓q_blistl, ↓q_blistt, ↓q_btupl, ↓q_btupt, ↓q_bmin, ↓q_bmax, ↓q_fmts, ↓q_fmti, ↓q_asg, ↓q_parS, ↓q_put, ↓q_ex, ↓q_iff, ↓q_for, ↓q_retV, ↓q_rcst, ↓q_rtup, ↓q_rlst, ↓q_rbin, ↓q_rcmp, ↓q_rneg, ↓q_rnt, ↓q_ran, ↓q_rorr, ↓q_rite, ↓q_ridx, ↓q_rslc, ↓q_rrev, ↓q_rcall, ↓q_rbi, ↓q_rjoin, ↓q_rlc, ↓q_rfs, ↓q_rdct, ↓q_retN, ↓q_pas, ↓q_brk, ↓q_cnt, ↓q_exs0, ↓q_exs1, q_add_int, q_add_str, q_add_lst, q_add_tup, q_sub_int, q_mul_int, q_mul_lst, q_mul_tup, q_fdiv_int, q_mod_int, q_pow_int, q_bint, q_bintb, q_blenl, q_blent, q_blens, q_bstri, q_bstrs, q_blistl, q_blistt, q_btupl, q_btupt, q_bmin, q_bmax, q_fmts, q_fmti, backG_mk, pushG_mk, wipe_nil, wipe_cons, back_nil, back_cons, noOwn_nil, slots_nm, slots_tp, pv_val, pv_new, slot_val, slot_new, asInt_int, truV_bl, truV_int, cmpV_eq, cmpV_ne, cmpV_lt, cmpV_le, cmpV_gt, cmpV_ge, eqV_int, eqV_str, items_l, items_t, items_f, slcV_lst, slcV_tup, slcV_fz, revV_tup, revV_lst, idxV_lst, idxV_tup, noOwn_cons, at0, at1, at2, at3, Nxt_nx, Nxt_ret, Nxt_brk, Nxt_cnt, Turn_nx, Turn_cnt, Turn_brk, Turn_ret, Fin'_ret, Fin'_nx, List.getElem?_cons_zero, List.getElem?_cons_succ, List.set_cons_zero, List.set_cons_succ, List.getD_cons_zero, List.getD_cons_succ, List.length_cons, List.length_nil, List.map_cons, List.map_nil, List.cons_append, List.nil_append, List.replicate_succ, List.replicate_zero, Option.map_some, Option.some.injEq, Bool.not_true, Bool.not_false, Bool.and_self, Bool.and_true, Bool.true_and, Bool.false_eq_true, Bool.true_eq_false, if_true, if_false, ite_true, ite_false, reduceIte, true_and, and_true, Nat.reduceAdd, Nat.reduceSub, Nat.reduceLT, Nat.reduceLeDiff, Nat.reducePow, Int.reducePow, Int.reduceToNat, Int.reduceLE, Int.reduceLT, Int.reduceNeg, decide_true, decide_false, Ev.sizeLine_eq, rgOk_eq, Nat.lt_add_left_iff_pos, Nat.zero_lt_succ, Nat.succ_pos, Nat.zero_add, true_or, or_true, Nat.reduceMul, Nat.add_zero, Nat.zero_le, Nat.le_refl]
    refine Ok_callW (read_text_ok k (h.reads r hr)) fun x hq' ⟨hr, he⟩ => ?_
    subst hr he
    simp only [↓q_ok, ↓q_some, ↓q_cst, ↓q_var, ↓q_tup, ↓q_lst, ↓q_bin, ↓q_cmp, ↓q_neg, ↓q_nt, ↓q_an, ↓q_orr, ↓q_ite, ↓q_idx, ↓q_slc, ↓q_rev, ↓q_call, ↓q_bi, ↓q_join, ↓q_app, ↓q_ext, ↓q_lc, ↓q_fs, ↓q_dct, ↓q_evs0, ↓q_evs1, ↓q_opds0, ↓q_opds1, ↓q_no, ↓q_so, ↓q_it, ↓q_rg1, ↓q_rg2, ↓q_tno, ↓q_tso, ↓q_evf0, ↓q_evf1, ↓q_tnt, ↓q_tan, ↓q_tor, ↓q_tite, ↓q_tvar, ↓q_tcst, ↓q_tcmp, ↓q_tidx, ↓q_tcall, ↓q_tbi, ↓q_tslc, ↓q_ovar, ↓q_ocst, ↓q_otup, ↓q_olst, ↓q_obin, ↓q_ocmp, ↓q_oneg, ↓q_ont, ↓q_oan, ↓q_oorr, ↓q_oite, ↓q_oidx, ↓q_oslc, ↓q_orev, ↓q_ocall, ↓q_obi, ↓q_ojoin, ↓q_olc, ↓q_ofs, ↓q_odct, ↓q_lookv, ↓q_looks, ↓q_peek, ↓q_look0, ↓q_look1, ↓q_set, ↓q_bnm, ↓q_btp, ↓q_sets0, ↓q_sets1, ↓q_par0, ↓q_par1, ↓q_own, ↓q_appV, ↓q_extn, ↓q_extl, ↓q_ixr, ↓q_ixt, ↓q_ixl, ↓q_ixs, ↓q_putG, ↓q_add_int, ↓q_add_str, ↓q_add_lst, ↓q_add_tup, ↓q_sub_int, ↓q_mul_int, ↓q_mul_lst, ↓q_mul_tup, ↓q_fdiv_int, ↓q_mod_int, ↓q_pow_int, ↓q_bint, ↓q_bintb, ↓q_blenl, ↓q_blent, ↓q_blens, ↓q_bstri, ↓q_bstrs, ↓q_blistl, ↓q_blistt, ↓q_btupl, ↓q_btupt, ↓q_bmin, ↓q_bmax, ↓q_fmts, ↓q_fmti, ↓q_asg, ↓q_parS, ↓q_put, ↓q_ex, ↓q_iff, ↓q_for, ↓q_retV, ↓q_rcst, ↓q_rtup, ↓q_rlst, ↓q_rbin, ↓q_rcmp, ↓q_rneg, ↓q_rnt, ↓q_ran, ↓q_rorr, ↓q_rite, ↓q_ridx, ↓q_rslc, ↓q_rrev, ↓q_rcall, ↓q_rbi, ↓q_rjoin, ↓q_rlc, ↓q_rfs, ↓q_rdct, ↓q_retN, ↓q_pas, ↓q_brk, ↓q_cnt, ↓q_exs0, ↓q_exs1, q_add_int, q_add_str, q_add_lst, q_add_tup, q_sub_int, q_mul_int, q_mul_lst, q_mul_tup, q_fdiv_int, q_mod_int, q_pow_int, q_bint, q_bintb, q_blenl, q_blent, q_blens, q_bstri, q_bstrs, q_blistl, q_blistt, q_btupl, q_btupt, q_bmin, q_bmax, q_fmts, q_fmti, backG_mk, pushG_mk, wipe_nil, wipe_cons, back_nil, back_cons, noOwn_nil, slots_nm, slots_tp, pv_val, pv_new, slot_val, slot_new, asInt_int, truV_bl, truV_int, cmpV_eq, cmpV_ne, cmpV_lt, cmpV_le, cmpV_gt, cmpV_ge, eqV_int, eqV_str, items_l, items_t, items_f, slcV_lst, slcV_tup, slcV_fz, revV_tup, revV_lst, idxV_lst, idxV_tup, noOwn_cons, at0, at1, at2, at3, Nxt_nx, Nxt_ret, Nxt_brk, Nxt_cnt, Turn_nx, Turn_cnt, Turn_brk, Turn_ret, Fin'_ret, Fin'_nx, List.getElem?_cons_zero, List.getElem?_cons_succ, List.set_cons_zero, List.set_cons_succ, List.getD_cons_zero, List.getD_cons_succ, List.length_cons, List.length_nil, List.map_cons, List.map_nil, List.cons_append, List.nil_append, List.replicate_succ, List.replicate_zero, Option.map_some, Option.some.injEq, Bool.not_true, Bool.not_false, Bool.and_self, Bool.and_true, Bool.true_and, Bool.false_eq_true, Bool.true_eq_false, if_true, if_false, ite_true, ite_false, reduceIte, true_and, and_true, Nat.reduceAdd, Nat.reduceSub, Nat.reduceLT, Nat.reduceLeDiff, Nat.reducePow, Int.reducePow, Int.reduceToNat, Int.reduceLE, Int.reduceLT, Int.reduceNeg, decide_true, decide_false, Ev.sizeLine_eq, rgOk_eq, Nat.lt_add_left_iff_pos, Nat.zero_lt_succ, Nat.succ_pos, Nat.zero_add, true_or, or_true, Nat.reduceMul, Nat.add_zero, Nat.zero_le, Nat.le_refl]
  · subst e
    simp only [↓q_ok, ↓q_some, ↓q_cst, ↓q_var, ↓q_tup, ↓q_lst, ↓q_bin, ↓q_cmp, ↓q_neg, ↓q_nt, ↓q_an, ↓q_orr, ↓q_ite, ↓q_idx, ↓q_slc, ↓q_rev, ↓q_call, ↓q_bi, ↓q_join, ↓q_app, ↓q_ext, ↓q_lc, ↓q_fs, ↓q_dct, ↓q_evs0, ↓q_evs1, ↓q_opds0, ↓q_opds1, ↓q_no, ↓q_so, ↓q_it, ↓q_rg1, ↓q_rg2, ↓q_tno, ↓q_tso, ↓q_evf0, ↓q_evf1, ↓q_tnt, ↓q_tan, ↓q_tor, ↓q_tite, ↓q_tvar, ↓q_tcst, ↓q_tcmp, ↓q_tidx, ↓q_tcall, ↓q_tbi, ↓q_tslc, ↓q_ovar, ↓q_ocst, ↓q_otup, ↓q_olst, ↓q_obin, ↓q_ocmp, ↓q_oneg, ↓q_ont, ↓q_oan, ↓q_oorr, ↓q_oite, ↓q_oidx, ↓q_oslc, ↓q_orev, ↓q_ocall, ↓q_obi, ↓q_ojoin, ↓q_olc, ↓q_ofs, ↓q_odct, ↓q_lookv, ↓q_looks, ↓q_peek, ↓q_look0, ↓q_look1, ↓q_set, ↓q_bnm, ↓q_btp, ↓q_sets0, ↓q_sets1, ↓q_par0, ↓q_par1, ↓q_own, ↓q_appV, ↓q_extn, ↓q_extl, ↓q_ixr, ↓q_ixt, ↓q_ixl, ↓q_ixs, ↓q_putG, ↓q_add_int, ↓q_add_str, ↓q_add_lst, ↓q_add_tup, ↓q_sub_int, ↓q_mul_int, ↓q_mul_lst, ↓q_mul_tup, ↓q_fdiv_int, ↓q_mod_int, ↓q_pow_int, ↓q_bint, ↓q_bintb, ↓q_blenl, ↓q_blent, ↓q_blens, ↓q_bstri, ↓q_bstrs, ↓q_blistl, ↓q_blistt, ↓q_btupl, ↓q_btupt, ↓q_bmin, ↓q_bmax, ↓q_fmts, ↓q_fmti, ↓q_asg, ↓q_parS, ↓q_put, ↓q_ex, ↓q_iff, ↓q_for, ↓q_retV, ↓q_rcst, ↓q_rtup, ↓q_rlst, ↓q_rbin, ↓q_rcmp, ↓q_rneg, ↓q_rnt, ↓q_ran, ↓q_rorr, ↓q_rite, ↓q_ridx, ↓q_rslc, ↓q_rrev, ↓q_rcall, ↓q_rbi, ↓q_rjoin, ↓q_rlc, ↓q_rfs, ↓q_rdct, ↓q_retN, ↓q_pas, ↓q_brk, ↓q_cnt, ↓q_exs0, ↓q_exs1, q_add_int, q_add_str, q_add_lst, q_add_tup, q_sub_int, q_mul_int, q_mul_lst, q_mul_tup, q_fdiv_int, q_mod_int, q_pow_int, q_bint, q_bintb, q_blenl, q_blent, q_blens, q_bstri, q_bstrs, q_blistl, q_blistt, q_btupl, q_btupt, q_bmin, q_bmax, q_fmts, q_fmti, backG_mk, pushG_mk, wipe_nil, wipe_cons, back_nil, back_cons, noOwn_nil, slots_nm, slots_tp, pv_val, pv_new, slot_val, slot_new, asInt_int, truV_bl, truV_int, cmpV_eq, cmpV_ne, cmpV_lt, cmpV_le, cmpV_gt, cmpV_ge, eqV_int, eqV_str, items_l, items_t, items_f, slcV_lst, slcV_tup, slcV_fz, revV_tup, revV_lst, idxV_lst, idxV_tup, noOwn_cons, at0, at1, at2, at3, Nxt_nx, Nxt_ret, Nxt_brk, Nxt_cnt, Turn_nx, Turn_cnt, Turn_brk, Turn_ret, Fin'_ret, Fin'_nx, List.getElem?_cons_zero, List.getElem?_cons_succ, List.set_cons_zero, List.set_cons_succ, List.getD_cons_zero, List.getD_cons_succ, List.length_cons, List.length_nil, List.map_cons, List.map_nil, List.cons_append, List.nil_append, List.replicate_succ, List.replicate_zero, Option.map_some, Option.some.injEq, Bool.not_true, Bool.not_false, Bool.and_self, Bool.and_true, Bool.true_and, Bool.false_eq_true, Bool.true_eq_false, if_true, if_false, ite_true, ite_false, reduceIte, true_and, and_true, Nat.reduceAdd, Nat.reduceSub, Nat.reduceLT, Nat.reduceLeDiff, Nat.reducePow, Int.reducePow, Int.reduceToNat, Int.reduceLE, Int.reduceLT, Int.reduceNeg, decide_true, decide_false, Ev.sizeLine_eq, rgOk_eq, Nat.lt_add_left_iff_pos, Nat.zero_lt_succ, Nat.succ_pos, Nat.zero_add, true_or, or_true, Nat.reduceMul, Nat.add_zero, Nat.zero_le, Nat.le_refl]
    refine ⟨by ((try simp only [List.length_append, List.length_cons, List.length_nil, List.length_take, List.length_map, List.length_reverse]); omega), ?_⟩
    refine lc_map (f := wPV) (h := fun r => PV.str (writeT r)) (· = hq) writes [] hq rfl (by ((try simp only [List.length_append, List.length_cons, List.length_nil, List.length_take, List.length_map, List.length_reverse]); omega)) (fun r hr hq' e => ?_) fun hq' e => ?_
    · subst e
      simp only [↓q_ok, ↓q_some, ↓q_cst, ↓q_var, ↓q_tup, ↓q_lst, ↓q_bin, ↓q_cmp, ↓q_neg, ↓q_nt, ↓q_an, ↓q_orr, ↓q_ite, ↓q_idx, ↓q_slc, ↓q_rev, ↓q_call, ↓q_bi, ↓q_join, ↓q_app, ↓q_ext, ↓q_lc, ↓q_fs, ↓q_dct, ↓q_evs0, ↓q_evs1, ↓q_opds0, ↓q_opds1, ↓q_no, ↓q_so, ↓q_it, ↓q_rg1, ↓q_rg2, ↓q_tno, ↓q_tso, ↓q_evf0, ↓q_evf1, ↓q_tnt, ↓q_tan, ↓q_tor, ↓q_tite, ↓q_tvar, ↓q_tcst, ↓q_tcmp, ↓q_tidx, ↓q_tcall, ↓q_tbi, ↓q_tslc, ↓q_ovar, ↓q_ocst, ↓q_otup, ↓q_olst, ↓q_obin, ↓q_ocmp, ↓q_oneg, ↓q_ont, ↓q_oan, ↓q_oorr, ↓q_oite, ↓q_oidx, ↓q_oslc, ↓q_orev, ↓q_ocall, ↓q_obi, ↓q_ojoin, ↓q_olc, ↓q_ofs, ↓q_odct, ↓q_lookv, ↓q_looks, ↓q_peek, ↓q_look0, ↓q_look1, ↓q_set, ↓q_bnm, ↓q_btp, ↓q_sets0, ↓q_sets1, ↓q_par0, ↓q_par1, ↓q_own, ↓q_appV, ↓q_extn, ↓q_extl, ↓q_ixr, ↓q_ixt, ↓q_ixl, ↓q_ixs, ↓q_putG, ↓q_add_int, ↓q_add_str, ↓q_add_lst, ↓q_add_tup, ↓q_sub_int, ↓q_mul_int, ↓q_mul_lst, ↓q_mul_tup, ↓q_fdiv_int, ↓q_mod_int, ↓q_pow_int, ↓q_bint, ↓q_bintb, ↓q_blenl, ↓q_blent, ↓q_blens, ↓q_bstri, ↓q_bstrs, ↓q_blistl, ↓q_blistt, ↓q_btupl, ↓q_btupt, ↓q_bmin, ↓q_bmax, ↓q_fmts, ↓q_fmti, ↓q_asg, ↓q_parS, ↓q_put, ↓q_ex, ↓q_iff, ↓q_for, ↓q_retV, ↓q_rcst, ↓q_rtup, ↓q_rlst, ↓q_rbin, ↓q_rcmp, ↓q_rneg, ↓q_rnt, ↓q_ran, ↓q_rorr, ↓q_rite, ↓q_ridx, ↓q_rslc, ↓q_rrev, ↓q_rcall, ↓q_rbi, ↓q_rjoin, ↓q_rlc, ↓q_rfs, ↓q_rdct, ↓q_retN, ↓q_pas, ↓q_brk, ↓q_cnt, ↓q_exs0, ↓q_exs1, q_add_int, q_add_str, q_add_lst, q_add_tup, q_sub_int, q_mul_int, q_mul_lst, q_mul_tup, q_fdiv_int, q_mod_int, q_pow_int, q_bint, q_bintb, q_blenl, q_blent, q_blens, q_bstri, q_bstrs, q_blistl, q_blistt, q_btupl, q_btupt, q_bmin, q_bmax, q_fmts, q_fmti, backG_mk, pushG_mk, wipe_nil, wipe_cons, back_nil, back_cons, noOwn_nil, slots_nm, slots_tp, pv_val, pv_new, slot_val, slot_new, asInt_int, truV_bl, truV_int, cmpV_eq, cmpV_ne, cmpV_lt, cmpV_le, cmpV_gt, cmpV_ge, eqV_int, eqV_str, items_l, items_t, items_f, slcV_lst, slcV_tup, slcV_fz, revV_tup, revV_lst, idxV_lst, idxV_tup, noOwn_cons, at0, at1, at2, at3, Nxt_nx, Nxt_ret, Nxt_brk, Nxt_cnt, Turn_nx, Turn_cnt, Turn_brk, Turn_ret, Fin'_ret, Fin'_nx, List.getElem?_cons_zero, List.getElem?_cons_succ, List.set_cons_zero, List.set_cons_succ, List.getD_cons_zero, List.getD_cons_succ, List.length_cons, List.length_nil, List.map_cons, List.map_nil, List.cons_append, List.nil_append, List.replicate_succ, List.replicate_zero, Option.map_some, Option.some.injEq, Bool.not_true, Bool.not_false, Bool.and_self, Bool.and_true, Bool.true_and, Bool.false_eq_true, Bool.true_eq_false, if_true, if_false, ite_true, ite_false, reduceIte, true_and, and_true, Nat.reduceAdd, Nat.reduceSub, Nat.reduceLT, Nat.reduceLeDiff, Nat.reducePow, Int.reducePow, Int.reduceToNat, Int.reduceLE, Int.reduceLT, Int.reduceNeg, decide_true, decide_false, Ev.sizeLine_eq, rgOk_eq, Nat.lt_add_left_iff_pos, Nat.zero_lt_succ, Nat.succ_pos, Nat.zero_add, true_or, or_true, Nat.reduceMul, Nat.add_zero, Nat.zero_le, Nat.le_refl]
      refine Ok_callW (write_text_ok k (h.writes r hr)) fun x hq'' ⟨hr, he⟩ => ?_
      subst hr he
      simp only [↓q_ok, ↓q_some, ↓q_cst, ↓q_var, ↓q_tup, ↓q_lst, ↓q_bin, ↓q_cmp, ↓q_neg, ↓q_nt, ↓q_an, ↓q_orr, ↓q_ite, ↓q_idx, ↓q_slc, ↓q_rev, ↓q_call, ↓q_bi, ↓q_join, ↓q_app, ↓q_ext, ↓q_lc, ↓q_fs, ↓q_dct, ↓q_evs0, ↓q_evs1, ↓q_opds0, ↓q_opds1, ↓q_no, ↓q_so, ↓q_it, ↓q_rg1, ↓q_rg2, ↓q_tno, ↓q_tso, ↓q_evf0, ↓q_evf1, ↓q_tnt, ↓q_tan, ↓q_tor, ↓q_tite, ↓q_tvar, ↓q_tcst, ↓q_tcmp, ↓q_tidx, ↓q_tcall, ↓q_tbi, ↓q_tslc, ↓q_ovar, ↓q_ocst, ↓q_otup, ↓q_olst, ↓q_obin, ↓q_ocmp, ↓q_oneg, ↓q_ont, ↓q_oan, ↓q_oorr, ↓q_oite, ↓q_oidx, ↓q_oslc, ↓q_orev, ↓q_ocall, ↓q_obi, ↓q_ojoin, ↓q_olc, ↓q_ofs, ↓q_odct, ↓q_lookv, ↓q_looks, ↓q_peek, ↓q_look0, ↓q_look1, ↓q_set, ↓q_bnm, ↓q_btp, ↓q_sets0, ↓q_sets1, ↓q_par0, ↓q_par1, ↓q_own, ↓q_appV, ↓q_extn, ↓q_extl, ↓q_ixr, ↓q_ixt, ↓q_ixl, ↓q_ixs, ↓q_putG, ↓q_add_int, ↓q_add_str, ↓q_add_lst, ↓q_add_tup, ↓q_sub_int, ↓q_mul_int, ↓q_mul_lst, ↓q_mul_tup, ↓q_fdiv_int, ↓q_mod_int, ↓q_pow_int, ↓q_bint, ↓q_bintb, ↓q_blenl, ↓q_blent, ↓q_blens, ↓q_bstri, ↓q_bstrs, ↓q_blistl, ↓q_blistt, ↓q_btupl, ↓q_btupt, ↓q_bmin, ↓q_bmax, ↓q_fmts, ↓q_fmti, ↓q_asg, ↓q_parS, ↓q_put, ↓q_ex, ↓q_iff, ↓q_for, ↓q_retV, ↓q_rcst, ↓q_rtup, ↓q_rlst, ↓q_rbin, ↓q_rcmp, ↓q_rneg, ↓q_rnt, ↓q_ran, ↓q_rorr, ↓q_rite, ↓q_ridx, ↓q_rslc, ↓q_rrev, ↓q_rcall, ↓q_rbi, ↓q_rjoin, ↓q_rlc, ↓q_rfs, ↓q_rdct, ↓q_retN, ↓q_pas, ↓q_brk, ↓q_cnt, ↓q_exs0, ↓q_exs1, q_add_int, q_add_str, q_add_lst, q_add_tup, q_sub_int, q_mul_int, q_mul_lst, q_mul_tup, q_fdiv_int, q_mod_int, q_pow_int, q_bint, q_bintb, q_blenl, q_blent, q_blens, q_bstri, q_bstrs, q_blistl, q_blistt, q_btupl, q_btupt, q_bmin, q_bmax, q_fmts, q_fmti, backG_mk, pushG_mk, wipe_nil, wipe_cons, back_nil, back_cons, noOwn_nil, slots_nm, slots_tp, pv_val, pv_new, slot_val, slot_new, asInt_int, truV_bl, truV_int, cmpV_eq, cmpV_ne, cmpV_lt, cmpV_le, cmpV_gt, cmpV_ge, eqV_int, eqV_str, items_l, items_t, items_f, slcV_lst, slcV_tup, slcV_fz, revV_tup, revV_lst, idxV_lst, idxV_tup, noOwn_cons, at0, at1, at2, at3, Nxt_nx, Nxt_ret, Nxt_brk, Nxt_cnt, Turn_nx, Turn_cnt, Turn_brk, Turn_ret, Fin'_ret, Fin'_nx, List.getElem?_cons_zero, List.getElem?_cons_succ, List.set_cons_zero, List.set_cons_succ, List.getD_cons_zero, List.getD_cons_succ, List.length_cons, List.length_nil, List.map_cons, List.map_nil, List.cons_append, List.nil_append, List.replicate_succ, List.replicate_zero, Option.map_some, Option.some.injEq, Bool.not_true, Bool.not_false, Bool.and_self, Bool.and_true, Bool.true_and, Bool.false_eq_true, Bool.true_eq_false, if_true, if_false, ite_true, ite_false, reduceIte, true_and, and_true, Nat.reduceAdd, Nat.reduceSub, Nat.reduceLT, Nat.reduceLeDiff, Nat.reducePow, Int.reducePow, Int.reduceToNat, Int.reduceLE, Int.reduceLT, Int.reduceNeg, decide_true, decide_false, Ev.sizeLine_eq, rgOk_eq, Nat.lt_add_left_iff_pos, Nat.zero_lt_succ, Nat.succ_pos, Nat.zero_add, true_or, or_true, Nat.reduceMul, Nat.add_zero, Nat.zero_le, Nat.le_refl]
    · subst e
      have e : PV.str (makeT base) :: PV.str (("names " : Str) ++ Txt.join "," names) :: (reads.map (fun r => PV.str (readT r)) ++ writes.map (fun r => PV.str (writeT r))) = (linesT ⟨base, names, reads, writes⟩).map PV.str := by
        simp only [linesT, List.map_append, List.map_map, List.map_cons, List.map_nil, List.cons_append, List.nil_append]
        rfl
      simp only [e, jLines (linesT_len h) (by omega) (linesT_tx h), ↓q_ok, ↓q_some, ↓q_cst, ↓q_var, ↓q_tup, ↓q_lst, ↓q_bin, ↓q_cmp, ↓q_neg, ↓q_nt, ↓q_an, ↓q_orr, ↓q_ite, ↓q_idx, ↓q_slc, ↓q_rev, ↓q_call, ↓q_bi, ↓q_join, ↓q_app, ↓q_ext, ↓q_lc, ↓q_fs, ↓q_dct, ↓q_evs0, ↓q_evs1, ↓q_opds0, ↓q_opds1, ↓q_no, ↓q_so, ↓q_it, ↓q_rg1, ↓q_rg2, ↓q_tno, ↓q_tso, ↓q_evf0, ↓q_evf1, ↓q_tnt, ↓q_tan, ↓q_tor, ↓q_tite, ↓q_tvar, ↓q_tcst, ↓q_tcmp, ↓q_tidx, ↓q_tcall, ↓q_tbi, ↓q_tslc, ↓q_ovar, ↓q_ocst, ↓q_otup, ↓q_olst, ↓q_obin, ↓q_ocmp, ↓q_oneg, ↓q_ont, ↓q_oan, ↓q_oorr, ↓q_oite, ↓q_oidx, ↓q_oslc, ↓q_orev, ↓q_ocall, ↓q_obi, ↓q_ojoin, ↓q_olc, ↓q_ofs, ↓q_odct, ↓q_lookv, ↓q_looks, ↓q_peek, ↓q_look0, ↓q_look1, ↓q_set, ↓q_bnm, ↓q_btp, ↓q_sets0, ↓q_sets1, ↓q_par0, ↓q_par1, ↓q_own, ↓q_appV, ↓q_extn, ↓q_extl, ↓q_ixr, ↓q_ixt, ↓q_ixl, ↓q_ixs, ↓q_putG, ↓q_add_int, ↓q_add_str, ↓q_add_lst, ↓q_add_tup, ↓q_sub_int, ↓q_mul_int, ↓q_mul_lst, ↓q_mul_tup, ↓q_fdiv_int, ↓q_mod_int, ↓q_pow_int, ↓q_bint, ↓q_bintb, ↓q_blenl, ↓q_blent, ↓q_blens, ↓q_bstri, ↓q_bstrs, ↓q_blistl, ↓q_blistt, ↓q_btupl, ↓q_btupt, ↓q_bmin, ↓q_bmax, ↓q_fmts, ↓q_fmti, ↓q_asg, ↓q_parS, ↓q_put, ↓q_ex, ↓q_iff, ↓q_for, ↓q_retV, ↓q_rcst, ↓q_rtup, ↓q_rlst, ↓q_rbin, ↓q_rcmp, ↓q_rneg, ↓q_rnt, ↓q_ran, ↓q_rorr, ↓q_rite, ↓q_ridx, ↓q_rslc, ↓q_rrev, ↓q_rcall, ↓q_rbi, ↓q_rjoin, ↓q_rlc, ↓q_rfs, ↓q_rdct, ↓q_retN, ↓q_pas, ↓q_brk, ↓q_cnt, ↓q_exs0, ↓q_exs1, q_add_int, q_add_str, q_add_lst, q_add_tup, q_sub_int, q_mul_int, q_mul_lst, q_mul_tup, q_fdiv_int, q_mod_int, q_pow_int, q_bint, q_bintb, q_blenl, q_blent, q_blens, q_bstri, q_bstrs, q_blistl, q_blistt, q_btupl, q_btupt, q_bmin, q_bmax, q_fmts, q_fmti, backG_mk, pushG_mk, wipe_nil, wipe_cons, back_nil, back_cons, noOwn_nil, slots_nm, slots_tp, pv_val, pv_new, slot_val, slot_new, asInt_int, truV_bl, truV_int, cmpV_eq, cmpV_ne, cmpV_lt, cmpV_le, cmpV_gt, cmpV_ge, eqV_int, eqV_str, items_l, items_t, items_f, slcV_lst, slcV_tup, slcV_fz, revV_tup, revV_lst, idxV_lst, idxV_tup, noOwn_cons, at0, at1, at2, at3, Nxt_nx, Nxt_ret, Nxt_brk, Nxt_cnt, Turn_nx, Turn_cnt, Turn_brk, Turn_ret, Fin'_ret, Fin'_nx, List.getElem?_cons_zero, List.getElem?_cons_succ, List.set_cons_zero, List.set_cons_succ, List.getD_cons_zero, List.getD_cons_succ, List.length_cons, List.length_nil, List.map_cons, List.map_nil, List.cons_append, List.nil_append, List.replicate_succ, List.replicate_zero, Option.map_some, Option.some.injEq, Bool.not_true, Bool.not_false, Bool.and_self, Bool.and_true, Bool.true_and, Bool.false_eq_true, Bool.true_eq_false, if_true, if_false, ite_true, ite_false, reduceIte, true_and, and_true, Nat.reduceAdd, Nat.reduceSub, Nat.reduceLT, Nat.reduceLeDiff, Nat.reducePow, Int.reducePow, Int.reduceToNat, Int.reduceLE, Int.reduceLT, Int.reduceNeg, decide_true, decide_false, Ev.sizeLine_eq, rgOk_eq, Nat.lt_add_left_iff_pos, Nat.zero_lt_succ, Nat.succ_pos, Nat.zero_add, true_or, or_true, Nat.reduceMul, Nat.add_zero, Nat.zero_le, Nat.le_refl]
      refine ⟨by ((try simp only [List.length_append, List.length_cons, List.length_nil, List.length_take, List.length_map, List.length_reverse]); omega), ?_⟩
      rfl
theorem l_gd : (("guard" : String) : Str).length = 5 := by decide +kernel
theorem l_op : (("open" : String) : Str).length = 4 := by decide +kernel
theorem l_la : (("last" : String) : Str).length = 4 := by decide +kernel
theorem l_fr : (("free" : String) : Str).length = 4 := by decide +kernel
theorem lines_ok (k : Nat) {hp : List Cell} {p : Plan} {b d : Nat} (h : PlanOk 4 b d p) (hb : b ≤ 100) (hd : d ≤ 100) : Gives (calls table (k + 2) 16 [pPV p] [] hp) fun x hp' => x = .new ((linesT p).map PV.str) ∧ hp' = hp := by
  refine gives_run (c := calls table (k + 1)) (d := d_l_lines) (as := [pPV p]) rfl ?_
  obtain ⟨base, names, reads, writes⟩ := p
  have t2 : (Txt.join "," names).length ≤ 52 := (Tx.join (s := ",") (m := 1) (n := 12) (Tx.by (by decide +kernel)) h.names h.nlen).len
  have hrl : reads.length ≤ b := h.rlen
  have hwl : writes.length ≤ d := h.wlen
  have hnl : names.length ≤ 4 := h.nlen
  have hn : ∀ w ∈ names, Tx 12 w := h.names
  have hr : ∀ w ∈ reads, RdOk w := h.reads
  have hw : ∀ w ∈ writes, WtOk w := h.writes
  obtain ⟨ways, guard, last⟩ := base
  have w1 : ways.natAbs.log2 < 1920 := by
    rcases ways_cases h.base with e | e
    · have e : ways = 1 := e
      subst e
      decide +kernel
    · have e : ways = 2 := e
      subst e
      decide +kernel
  have w2 : ((toString ways : String) : Str).length ≤ 1 := by
    rcases ways_cases h.base with e | e
    · have e : ways = 1 := e
      subst e
      decide +kernel
    · have e : ways = 2 := e
      subst e
      decide +kernel
  generalize hmk : makeT ⟨ways, guard, last⟩ = mk
  have fin : (linesT ⟨⟨ways, guard, last⟩, names, reads, writes⟩) = [mk, namesT names] ++ reads.map readT ++ writes.map writeT := by
    unfold linesT
    rw [hmk]
  cases guard <;> cases last
  all_goals
    simp only [d_l_lines, pPV, bPV, w1, strLen_append, l_make, l_names, l_sp, l_gd, l_op, l_la, l_fr, jNamesL hnl (by decide) hn, ↓q_ok, ↓q_some, ↓q_cst, ↓q_var, ↓q_tup, ↓q_lst, ↓q_bin, ↓q_cmp, ↓q_neg, ↓q_nt, ↓q_an, ↓q_orr, ↓q_ite, ↓q_idx, ↓q_slc, ↓q_rev, ↓q_call, ↓q_bi, ↓q_join, ↓q_app, ↓q_ext, ↓q_lc, ↓q_fs, ↓q_dct, ↓q_evs0, ↓q_evs1, ↓q_opds0, ↓q_opds1, ↓q_no, ↓q_so, ↓q_it, ↓q_rg1, ↓q_rg2, ↓q_tno, ↓q_tso, ↓q_evf0, ↓q_evf1, ↓q_tnt, ↓q_tan, ↓q_tor, ↓q_tite, ↓q_tvar, ↓q_tcst, ↓q_tcmp, ↓q_tidx, ↓q_tcall, ↓q_tbi, ↓q_tslc, ↓q_ovar, ↓q_ocst, ↓q_otup, ↓q_olst, ↓q_obin, ↓q_ocmp, ↓q_oneg, ↓q_ont, ↓q_oan, ↓q_oorr, ↓q_oite, ↓q_oidx, ↓q_oslc, ↓q_orev, ↓q_ocall, ↓q_obi, ↓q_ojoin, ↓q_olc, ↓q_ofs, ↓q_odct, ↓q_lookv, ↓q_looks, ↓q_peek, ↓q_look0, ↓q_look1, ↓q_set, ↓q_bnm, ↓q_btp, ↓q_sets0, ↓q_sets1, ↓q_par0, ↓q_par1, ↓q_own, ↓q_appV, ↓q_extn, ↓q_extl, ↓q_ixr, ↓q_ixt, ↓q_ixl, ↓q_ixs, ↓q_putG, ↓q_add_int, ↓q_add_str, ↓q_add_lst, ↓q_add_tup, ↓q_sub_int, ↓q_mul_int, ↓q_mul_lst, ↓q_mul_tup, ↓q_fdiv_int, ↓q_mod_int, ↓q_pow_int, ↓q_bint, ↓q_bintb, ↓q_blenl, ↓q_blent, ↓q_blens, ↓q_bstri, ↓q_bstrs, ↓q_blistl, ↓q_blistt, ↓q_btupl, ↓q_btupt, ↓q_bmin, ↓q_bmax, ↓q_fmts, ↓q_fmti, ↓q_asg, ↓q_parS, ↓q_put, ↓q_ex, ↓q_iff, ↓q_for, ↓q_retV, ↓q_rcst, ↓q_rtup, ↓q_rlst, ↓q_rbin, ↓q_rcmp, ↓q_rneg, ↓q_rnt, ↓q_ran, ↓q_rorr, ↓q_rite, ↓q_ridx, ↓q_rslc, ↓q_rrev, ↓q_rcall, ↓q_rbi, ↓q_rjoin, ↓q_rlc, ↓q_rfs, ↓q_rdct, ↓q_retN, ↓q_pas, ↓q_brk, ↓q_cnt, ↓q_exs0, ↓q_exs1, q_add_int, q_add_str, q_add_lst, q_add_tup, q_sub_int, q_mul_int, q_mul_lst, q_mul_tup, q_fdiv_int, q_mod_int, q_pow_int, q_bint, q_bintb, q_blenl, q_blent, q_blens, q_bstri, q_bstrs, q_blistl, q_blistt, q_btupl, q_btupt, q_bmin, q_bmax, q_fmts, q_fmti, backG_mk, pushG_mk, wipe_nil, wipe_cons, back_nil, back_cons, noOwn_nil, slots_nm, slots_tp, pv_val, pv_new, slot_val, slot_new, asInt_int, truV_bl, truV_int, cmpV_eq, cmpV_ne, cmpV_lt, cmpV_le, cmpV_gt, cmpV_ge, eqV_int, eqV_str, items_l, items_t, items_f, slcV_lst, slcV_tup, slcV_fz, revV_tup, revV_lst, idxV_lst, idxV_tup, noOwn_cons, at0, at1, at2, at3, Nxt_nx, Nxt_ret, Nxt_brk, Nxt_cnt, Turn_nx, Turn_cnt, Turn_brk, Turn_ret, Fin'_ret, Fin'_nx, List.getElem?_cons_zero, List.getElem?_cons_succ, List.set_cons_zero, List.set_cons_succ, List.getD_cons_zero, List.getD_cons_succ, List.length_cons, List.length_nil, List.map_cons, List.map_nil, List.cons_append, List.nil_append, List.replicate_succ, List.replicate_zero, Option.map_some, Option.some.injEq, Bool.not_true, Bool.not_false, Bool.and_self, Bool.and_true, Bool.true_and, Bool.false_eq_true, Bool.true_eq_false, if_true, if_false, ite_true, ite_false, reduceIte, true_and, and_true, Nat.reduceAdd, Nat.reduceSub, Nat.reduceLT, Nat.reduceLeDiff, Nat.reducePow, Int.reducePow, Int.reduceToNat, Int.reduceLE, Int.reduceLT, Int.reduceNeg, decide_true, decide_false, Ev.sizeLine_eq, rgOk_eq, Nat.lt_add_left_iff_pos, Nat.zero_lt_succ, Nat.succ_pos, Nat.zero_add, true_or, or_true, Nat.reduceMul, Nat.add_zero, Nat.zero_le, Nat.le_refl]
    repeat (refine ⟨by omega, ?_⟩)
    refine for_sl (β := List Str × Slot × Slot × Slot) (fun b sl => (((sl.set 3 (.own (b.1.map PV.str))).set 4 b.2.1).set 5 b.2.2.1).set 6 b.2.2.2) (fun i b hp' => hp' = hp ∧ i ≤ reads.length ∧ b.1 = [mk, namesT names] ++ (reads.take i).map readT) ([mk, namesT names], .no, .no, .no)
      (by rw [← hmk]; rfl) ⟨rfl, Nat.zero_le _, rfl⟩ (fun i x b hp' hx ⟨e0, hi, e⟩ => ?_) fun b hp' ⟨e0, hi, e⟩ => ?_
    · obtain ⟨r, hx1, rfl⟩ := map_get hx
      obtain ⟨ls, s4, s5, s6⟩ := b
      subst e0
      have e : ls = [mk, namesT names] ++ (reads.take i).map readT := e
      have hlen : ls.length ≤ 2 + reads.length := by
        rw [e]
        simp
        omega
      have hi2 := (List.getElem?_eq_some_iff.mp hx1).1
      have hrr := hr r (List.mem_of_getElem? hx1)
      have t4 := hrr.tag.len
      have t5 := (path_tx hrr.plen hrr.path).len
      have t6 := (testsT_tx hrr.tests).len
      simp only [rPV, strLen_append, l_read, l_sp, jPathL hrr.plen (by decide) hrr.path, ↓q_ok, ↓q_some, ↓q_cst, ↓q_var, ↓q_tup, ↓q_lst, ↓q_bin, ↓q_cmp, ↓q_neg, ↓q_nt, ↓q_an, ↓q_orr, ↓q_ite, ↓q_idx, ↓q_slc, ↓q_rev, ↓q_call, ↓q_bi, ↓q_join, ↓q_app, ↓q_ext, ↓q_lc, ↓q_fs, ↓q_dct, ↓q_evs0, ↓q_evs1, ↓q_opds0, ↓q_opds1, ↓q_no, ↓q_so, ↓q_it, ↓q_rg1, ↓q_rg2, ↓q_tno, ↓q_tso, ↓q_evf0, ↓q_evf1, ↓q_tnt, ↓q_tan, ↓q_tor, ↓q_tite, ↓q_tvar, ↓q_tcst, ↓q_tcmp, ↓q_tidx, ↓q_tcall, ↓q_tbi, ↓q_tslc, ↓q_ovar, ↓q_ocst, ↓q_otup, ↓q_olst, ↓q_obin, ↓q_ocmp, ↓q_oneg, ↓q_ont, ↓q_oan, ↓q_oorr, ↓q_oite, ↓q_oidx, ↓q_oslc, ↓q_orev, ↓q_ocall, ↓q_obi, ↓q_ojoin, ↓q_olc, ↓q_ofs, ↓q_odct, ↓q_lookv, ↓q_looks, ↓q_peek, ↓q_look0, ↓q_look1, ↓q_set, ↓q_bnm, ↓q_btp, ↓q_sets0, ↓q_sets1, ↓q_par0, ↓q_par1, ↓q_own, ↓q_appV, ↓q_extn, ↓q_extl, ↓q_ixr, ↓q_ixt, ↓q_ixl, ↓q_ixs, ↓q_putG, ↓q_add_int, ↓q_add_str, ↓q_add_lst, ↓q_add_tup, ↓q_sub_int, ↓q_mul_int, ↓q_mul_lst, ↓q_mul_tup, ↓q_fdiv_int, ↓q_mod_int, ↓q_pow_int, ↓q_bint, ↓q_bintb, ↓q_blenl, ↓q_blent, ↓q_blens, ↓q_bstri, ↓q_bstrs, ↓q_blistl, ↓q_blistt, ↓q_btupl, ↓q_btupt, ↓q_bmin, ↓q_bmax, ↓q_fmts, ↓q_fmti, ↓q_asg, ↓q_parS, ↓q_put, ↓q_ex, ↓q_iff, ↓q_for, ↓q_retV, ↓q_rcst, ↓q_rtup, ↓q_rlst, ↓q_rbin, ↓q_rcmp, ↓q_rneg, ↓q_rnt, ↓q_ran, ↓q_rorr, ↓q_rite, ↓q_ridx, ↓q_rslc, ↓q_rrev, ↓q_rcall, ↓q_rbi, ↓q_rjoin, ↓q_rlc, ↓q_rfs, ↓q_rdct, ↓q_retN, ↓q_pas, ↓q_brk, ↓q_cnt, ↓q_exs0, ↓q_exs1, q_add_int, q_add_str, q_add_lst, q_add_tup, q_sub_int, q_mul_int, q_mul_lst, q_mul_tup, q_fdiv_int, q_mod_int, q_pow_int, q_bint, q_bintb, q_blenl, q_blent, q_blens, q_bstri, q_bstrs, q_blistl, q_blistt, q_btupl, q_btupt, q_bmin, q_bmax, q_fmts, q_fmti, backG_mk, pushG_mk, wipe_nil, wipe_cons, back_nil, back_cons, noOwn_nil, slots_nm, slots_tp, pv_val, pv_new, slot_val, slot_new, asInt_int, truV_bl, truV_int, cmpV_eq, cmpV_ne, cmpV_lt, cmpV_le, cmpV_gt, cmpV_ge, eqV_int, eqV_str, items_l, items_t, items_f, slcV_lst, slcV_tup, slcV_fz, revV_tup, revV_lst, idxV_lst, idxV_tup, noOwn_cons, at0, at1, at2, at3, Nxt_nx, Nxt_ret, Nxt_brk, Nxt_cnt, Turn_nx, Turn_cnt, Turn_brk, Turn_ret, Fin'_ret, Fin'_nx, List.getElem?_cons_zero, List.getElem?_cons_succ, List.set_cons_zero, List.set_cons_succ, List.getD_cons_zero, List.getD_cons_succ, List.length_cons, List.length_nil, List.map_cons, List.map_nil, List.cons_append, List.nil_append, List.replicate_succ, List.replicate_zero, Option.map_some, Option.some.injEq, Bool.not_true, Bool.not_false, Bool.and_self, Bool.and_true, Bool.true_and, Bool.false_eq_true, Bool.true_eq_false, if_true, if_false, ite_true, ite_false, reduceIte, true_and, and_true, Nat.reduceAdd, Nat.reduceSub, Nat.reduceLT, Nat.reduceLeDiff, Nat.reducePow, Int.reducePow, Int.reduceToNat, Int.reduceLE, Int.reduceLT, Int.reduceNeg, decide_true, decide_false, Ev.sizeLine_eq, rgOk_eq, Nat.lt_add_left_iff_pos, Nat.zero_lt_succ, Nat.succ_pos, Nat.zero_add, true_or, or_true, Nat.reduceMul, Nat.add_zero, Nat.zero_le, Nat.le_refl]
      repeat (refine ⟨by omega, ?_⟩)
      refine Ok_callW (tests_word_ok k hrr.tests) fun x hq ⟨hr', he⟩ => ?_
      subst hr' he
      simp only [strLen_append, l_read, l_sp, List.length_map, ↓q_ok, ↓q_some, ↓q_cst, ↓q_var, ↓q_tup, ↓q_lst, ↓q_bin, ↓q_cmp, ↓q_neg, ↓q_nt, ↓q_an, ↓q_orr, ↓q_ite, ↓q_idx, ↓q_slc, ↓q_rev, ↓q_call, ↓q_bi, ↓q_join, ↓q_app, ↓q_ext, ↓q_lc, ↓q_fs, ↓q_dct, ↓q_evs0, ↓q_evs1, ↓q_opds0, ↓q_opds1, ↓q_no, ↓q_so, ↓q_it, ↓q_rg1, ↓q_rg2, ↓q_tno, ↓q_tso, ↓q_evf0, ↓q_evf1, ↓q_tnt, ↓q_tan, ↓q_tor, ↓q_tite, ↓q_tvar, ↓q_tcst, ↓q_tcmp, ↓q_tidx, ↓q_tcall, ↓q_tbi, ↓q_tslc, ↓q_ovar, ↓q_ocst, ↓q_otup, ↓q_olst, ↓q_obin, ↓q_ocmp, ↓q_oneg, ↓q_ont, ↓q_oan, ↓q_oorr, ↓q_oite, ↓q_oidx, ↓q_oslc, ↓q_orev, ↓q_ocall, ↓q_obi, ↓q_ojoin, ↓q_olc, ↓q_ofs, ↓q_odct, ↓q_lookv, ↓q_looks, ↓q_peek, ↓q_look0, ↓q_look1, ↓q_set, ↓q_bnm, ↓q_btp, ↓q_sets0, ↓q_sets1, ↓q_par0, ↓q_par1, ↓q_own, ↓q_appV, ↓q_extn, ↓q_extl, ↓q_ixr, ↓q_ixt, ↓q_ixl, ↓q_ixs, ↓q_putG, ↓q_add_int, ↓q_add_str, ↓q_add_lst, ↓q_add_tup, ↓q_sub_int, ↓q_mul_int, ↓q_mul_lst, ↓q_mul_tup, ↓q_fdiv_int, ↓q_mod_int, ↓q_pow_int, ↓q_bint, ↓q_bintb, ↓q_blenl, ↓q_blent, ↓q_blens, ↓q_bstri, ↓q_bstrs, ↓q_blistl, ↓q_blistt, ↓q_btupl, ↓q_btupt, ↓q_bmin, ↓q_bmax, ↓q_fmts, ↓q_fmti, ↓q_asg, ↓q_parS, ↓q_put, ↓q_ex, ↓q_iff, ↓q_for, ↓q_retV, ↓q_rcst, ↓q_rtup, ↓q_rlst, ↓q_rbin, ↓q_rcmp, ↓q_rneg, ↓q_rnt, ↓q_ran, ↓q_rorr, ↓q_rite, ↓q_ridx, ↓q_rslc, ↓q_rrev, ↓q_rcall, ↓q_rbi, ↓q_rjoin, ↓q_rlc, ↓q_rfs, ↓q_rdct, ↓q_retN, ↓q_pas, ↓q_brk, ↓q_cnt, ↓q_exs0, ↓q_exs1, q_add_int, q_add_str, q_add_lst, q_add_tup, q_sub_int, q_mul_int, q_mul_lst, q_mul_tup, q_fdiv_int, q_mod_int, q_pow_int, q_bint, q_bintb, q_blenl, q_blent, q_blens, q_bstri, q_bstrs, q_blistl, q_blistt, q_btupl, q_btupt, q_bmin, q_bmax, q_fmts, q_fmti, backG_mk, pushG_mk, wipe_nil, wipe_cons, back_nil, back_cons, noOwn_nil, slots_nm, slots_tp, pv_val, pv_new, slot_val, slot_new, asInt_int, truV_bl, truV_int, cmpV_eq, cmpV_ne, cmpV_lt, cmpV_le, cmpV_gt, cmpV_ge, eqV_int, eqV_str, items_l, items_t, items_f, slcV_lst, slcV_tup, slcV_fz, revV_tup, revV_lst, idxV_lst, idxV_tup, noOwn_cons, at0, at1, at2, at3, Nxt_nx, Nxt_ret, Nxt_brk, Nxt_cnt, Turn_nx, Turn_cnt, Turn_brk, Turn_ret, Fin'_ret, Fin'_nx, List.getElem?_cons_zero, List.getElem?_cons_succ, List.set_cons_zero, List.set_cons_succ, List.getD_cons_zero, List.getD_cons_succ, List.length_cons, List.length_nil, List.map_cons, List.map_nil, List.cons_append, List.nil_append, List.replicate_succ, List.replicate_zero, Option.map_some, Option.some.injEq, Bool.not_true, Bool.not_false, Bool.and_self, Bool.and_true, Bool.true_and, Bool.false_eq_true, Bool.true_eq_false, if_true, if_false, ite_true, ite_false, reduceIte, true_and, and_true, Nat.reduceAdd, Nat.reduceSub, Nat.reduceLT, Nat.reduceLeDiff, Nat.reducePow, Int.reducePow, Int.reduceToNat, Int.reduceLE, Int.reduceLT, Int.reduceNeg, decide_true, decide_false, Ev.sizeLine_eq, rgOk_eq, Nat.lt_add_left_iff_pos, Nat.zero_lt_succ, Nat.succ_pos, Nat.zero_add, true_or, or_true, Nat.reduceMul, Nat.add_zero, Nat.zero_le, Nat.le_refl]
      repeat (refine ⟨by omega, ?_⟩)
      refine ⟨(ls ++ [readT r], _, _, _), by simp only [List.map_append, List.map_cons, List.map_nil]; rfl, by omega, ?_⟩
      rw [take_succ' hx1, e]
      simp
    · obtain ⟨ls, s4, s5, s6⟩ := b
      subst e0
      have e : ls = [mk, namesT names] ++ (reads.take (reads.map rPV).length).map readT := e
      rw [List.length_map, List.take_length] at e
      simp only [↓q_ok, ↓q_some, ↓q_cst, ↓q_var, ↓q_tup, ↓q_lst, ↓q_bin, ↓q_cmp, ↓q_neg, ↓q_nt, ↓q_an, ↓q_orr, ↓q_ite, ↓q_idx, ↓q_slc, ↓q_rev, ↓q_call, ↓q_bi, ↓q_join, ↓q_app, ↓q_ext, ↓q_lc, ↓q_fs, ↓q_dct, ↓q_evs0, ↓q_evs1, ↓q_opds0, ↓q_opds1, ↓q_no, ↓q_so, ↓q_it, ↓q_rg1, ↓q_rg2, ↓q_tno, ↓q_tso, ↓q_evf0, ↓q_evf1, ↓q_tnt, ↓q_tan, ↓q_tor, ↓q_tite, ↓q_tvar, ↓q_tcst, ↓q_tcmp, ↓q_tidx, ↓q_tcall, ↓q_tbi, ↓q_tslc, ↓q_ovar, ↓q_ocst, ↓q_otup, ↓q_olst, ↓q_obin, ↓q_ocmp, ↓q_oneg, ↓q_ont, ↓q_oan, ↓q_oorr, ↓q_oite, ↓q_oidx, ↓q_oslc, ↓q_orev, ↓q_ocall, ↓q_obi, ↓q_ojoin, ↓q_olc, ↓q_ofs, ↓q_odct, ↓q_lookv, ↓q_looks, ↓q_peek, ↓q_look0, ↓q_look1, ↓q_set, ↓q_bnm, ↓q_btp, ↓q_sets0, ↓q_sets1, ↓q_par0, ↓q_par1, ↓q_own, ↓q_appV, ↓q_extn, ↓q_extl, ↓q_ixr, ↓q_ixt, ↓q_ixl, ↓q_ixs, ↓q_putG, ↓q_add_int, ↓q_add_str, ↓q_add_lst, ↓q_add_tup, ↓q_sub_int, ↓q_mul_int, ↓q_mul_lst, ↓q_mul_tup, ↓q_fdiv_int, ↓q_mod_int, ↓q_pow_int, ↓q_bint, ↓q_bintb, ↓q_blenl, ↓q_blent, ↓q_blens, ↓q_bstri, ↓q_bstrs, ↓q_blistl, ↓q_blistt, ↓q_btupl, ↓q_btupt, ↓q_bmin, ↓q_bmax, ↓q_fmts, ↓q_fmti, ↓q_asg, ↓q_parS, ↓q_put, ↓q_ex, ↓q_iff, ↓q_for, ↓q_retV, ↓q_rcst, ↓q_rtup, ↓q_rlst, ↓q_rbin, ↓q_rcmp, ↓q_rneg, ↓q_rnt, ↓q_ran, ↓q_rorr, ↓q_rite, ↓q_ridx, ↓q_rslc, ↓q_rrev, ↓q_rcall, ↓q_rbi, ↓q_rjoin, ↓q_rlc, ↓q_rfs, ↓q_rdct, ↓q_retN, ↓q_pas, ↓q_brk, ↓q_cnt, ↓q_exs0, ↓q_exs1, q_add_int, q_add_str, q_add_lst, q_add_tup, q_sub_int, q_mul_int, q_mul_lst, q_mul_tup, q_fdiv_int, q_mod_int, q_pow_int, q_bint, q_bintb, q_blenl, q_blent, q_blens, q_bstri, q_bstrs, q_blistl, q_blistt, q_btupl, q_btupt, q_bmin, q_bmax, q_fmts, q_fmti, backG_mk, pushG_mk, wipe_nil, wipe_cons, back_nil, back_cons, noOwn_nil, slots_nm, slots_tp, pv_val, pv_new, slot_val, slot_new, asInt_int, truV_bl, truV_int, cmpV_eq, cmpV_ne, cmpV_lt, cmpV_le, cmpV_gt, cmpV_ge, eqV_int, eqV_str, items_l, items_t, items_f, slcV_lst, slcV_tup, slcV_fz, revV_tup, revV_lst, idxV_lst, idxV_tup, noOwn_cons, at0, at1, at2, at3, Nxt_nx, Nxt_ret, Nxt_brk, Nxt_cnt, Turn_nx, Turn_cnt, Turn_brk, Turn_ret, Fin'_ret, Fin'_nx, List.getElem?_cons_zero, List.getElem?_cons_succ, List.set_cons_zero, List.set_cons_succ, List.getD_cons_zero, List.getD_cons_succ, List.length_cons, List.length_nil, List.map_cons, List.map_nil, List.cons_append, List.nil_append, List.replicate_succ, List.replicate_zero, Option.map_some, Option.some.injEq, Bool.not_true, Bool.not_false, Bool.and_self, Bool.and_true, Bool.true_and, Bool.false_eq_true, Bool.true_eq_false, if_true, if_false, ite_true, ite_false, reduceIte, true_and, and_true, Nat.reduceAdd, Nat.reduceSub, Nat.reduceLT, Nat.reduceLeDiff, Nat.reducePow, Int.reducePow, Int.reduceToNat, Int.reduceLE, Int.reduceLT, Int.reduceNeg, decide_true, decide_false, Ev.sizeLine_eq, rgOk_eq, Nat.lt_add_left_iff_pos, Nat.zero_lt_succ, Nat.succ_pos, Nat.zero_add, true_or, or_true, Nat.reduceMul, Nat.add_zero, Nat.zero_le, Nat.le_refl]
      refine for_sl (β := List Str × Slot × Slot × Slot) (fun b sl => (((sl.set 3 (.own (b.1.map PV.str))).set 6 b.2.1).set 7 b.2.2.1).set 8 b.2.2.2) (fun i b hp'' => hp'' = hp' ∧ i ≤ writes.length ∧ b.1 = ls ++ (writes.take i).map writeT) (ls, s6, .no, .no)
        rfl ⟨rfl, Nat.zero_le _, by simp⟩ (fun i x b hp'' hx ⟨e0, hi, e1⟩ => ?_) fun b hp'' ⟨e0, hi, e1⟩ => ?_
      · obtain ⟨r, hx1, rfl⟩ := map_get hx
        obtain ⟨ls2, s4, s5, s6⟩ := b
        subst e0
        have e1 : ls2 = ls ++ (writes.take i).map writeT := e1
        have hlen : ls2.length ≤ 2 + reads.length + writes.length := by
          rw [e1, e]
          simp
          omega
        have hi2 := (List.getElem?_eq_some_iff.mp hx1).1
        have hrr := hw r (List.mem_of_getElem? hx1)
        have t4 := hrr.worth.len
        have t5 := (path_tx hrr.plen hrr.place).len
        have t6 := (testsT_tx hrr.tests).len
        simp only [wPV, strLen_append, l_write, l_sp, jPathL hrr.plen (by decide) hrr.place, ↓q_ok, ↓q_some, ↓q_cst, ↓q_var, ↓q_tup, ↓q_lst, ↓q_bin, ↓q_cmp, ↓q_neg, ↓q_nt, ↓q_an, ↓q_orr, ↓q_ite, ↓q_idx, ↓q_slc, ↓q_rev, ↓q_call, ↓q_bi, ↓q_join, ↓q_app, ↓q_ext, ↓q_lc, ↓q_fs, ↓q_dct, ↓q_evs0, ↓q_evs1, ↓q_opds0, ↓q_opds1, ↓q_no, ↓q_so, ↓q_it, ↓q_rg1, ↓q_rg2, ↓q_tno, ↓q_tso, ↓q_evf0, ↓q_evf1, ↓q_tnt, ↓q_tan, ↓q_tor, ↓q_tite, ↓q_tvar, ↓q_tcst, ↓q_tcmp, ↓q_tidx, ↓q_tcall, ↓q_tbi, ↓q_tslc, ↓q_ovar, ↓q_ocst, ↓q_otup, ↓q_olst, ↓q_obin, ↓q_ocmp, ↓q_oneg, ↓q_ont, ↓q_oan, ↓q_oorr, ↓q_oite, ↓q_oidx, ↓q_oslc, ↓q_orev, ↓q_ocall, ↓q_obi, ↓q_ojoin, ↓q_olc, ↓q_ofs, ↓q_odct, ↓q_lookv, ↓q_looks, ↓q_peek, ↓q_look0, ↓q_look1, ↓q_set, ↓q_bnm, ↓q_btp, ↓q_sets0, ↓q_sets1, ↓q_par0, ↓q_par1, ↓q_own, ↓q_appV, ↓q_extn, ↓q_extl, ↓q_ixr, ↓q_ixt, ↓q_ixl, ↓q_ixs, ↓q_putG, ↓q_add_int, ↓q_add_str, ↓q_add_lst, ↓q_add_tup, ↓q_sub_int, ↓q_mul_int, ↓q_mul_lst, ↓q_mul_tup, ↓q_fdiv_int, ↓q_mod_int, ↓q_pow_int, ↓q_bint, ↓q_bintb, ↓q_blenl, ↓q_blent, ↓q_blens, ↓q_bstri, ↓q_bstrs, ↓q_blistl, ↓q_blistt, ↓q_btupl, ↓q_btupt, ↓q_bmin, ↓q_bmax, ↓q_fmts, ↓q_fmti, ↓q_asg, ↓q_parS, ↓q_put, ↓q_ex, ↓q_iff, ↓q_for, ↓q_retV, ↓q_rcst, ↓q_rtup, ↓q_rlst, ↓q_rbin, ↓q_rcmp, ↓q_rneg, ↓q_rnt, ↓q_ran, ↓q_rorr, ↓q_rite, ↓q_ridx, ↓q_rslc, ↓q_rrev, ↓q_rcall, ↓q_rbi, ↓q_rjoin, ↓q_rlc, ↓q_rfs, ↓q_rdct, ↓q_retN, ↓q_pas, ↓q_brk, ↓q_cnt, ↓q_exs0, ↓q_exs1, q_add_int, q_add_str, q_add_lst, q_add_tup, q_sub_int, q_mul_int, q_mul_lst, q_mul_tup, q_fdiv_int, q_mod_int, q_pow_int, q_bint, q_bintb, q_blenl, q_blent, q_blens, q_bstri, q_bstrs, q_blistl, q_blistt, q_btupl, q_btupt, q_bmin, q_bmax, q_fmts, q_fmti, backG_mk, pushG_mk, wipe_nil, wipe_cons, back_nil, back_cons, noOwn_nil, slots_nm, slots_tp, pv_val, pv_new, slot_val, slot_new, asInt_int, truV_bl, truV_int, cmpV_eq, cmpV_ne, cmpV_lt, cmpV_le, cmpV_gt, cmpV_ge, eqV_int, eqV_str, items_l, items_t, items_f, slcV_lst, slcV_tup, slcV_fz, revV_tup, revV_lst, idxV_lst, idxV_tup, noOwn_cons, at0, at1, at2, at3, Nxt_nx, Nxt_ret, Nxt_brk, Nxt_cnt, Turn_nx, Turn_cnt, Turn_brk, Turn_ret, Fin'_ret, Fin'_nx, List.getElem?_cons_zero, List.getElem?_cons_succ, List.set_cons_zero, List.set_cons_succ, List.getD_cons_zero, List.getD_cons_succ, List.length_cons, List.length_nil, List.map_cons, List.map_nil, List.cons_append, List.nil_append, List.replicate_succ, List.replicate_zero, Option.map_some, Option.some.injEq, Bool.not_true, Bool.not_false, Bool.and_self, Bool.and_true, Bool.true_and, Bool.false_eq_true, Bool.true_eq_false, if_true, if_false, ite_true, ite_false, reduceIte, true_and, and_true, Nat.reduceAdd, Nat.reduceSub, Nat.reduceLT, Nat.reduceLeDiff, Nat.reducePow, Int.reducePow, Int.reduceToNat, Int.reduceLE, Int.reduceLT, Int.reduceNeg, decide_true, decide_false, Ev.sizeLine_eq, rgOk_eq, Nat.lt_add_left_iff_pos, Nat.zero_lt_succ, Nat.succ_pos, Nat.zero_add, true_or, or_true, Nat.reduceMul, Nat.add_zero, Nat.zero_le, Nat.le_refl]
        repeat (refine ⟨by omega, ?_⟩)
        refine Ok_callW (tests_word_ok k hrr.tests) fun x hq ⟨hr', he⟩ => ?_
        subst hr' he
        simp only [strLen_append, l_write, l_sp, List.length_map, ↓q_ok, ↓q_some, ↓q_cst, ↓q_var, ↓q_tup, ↓q_lst, ↓q_bin, ↓q_cmp, ↓q_neg, ↓q_nt, ↓q_an, ↓q_orr, ↓q_ite, ↓q_idx, ↓q_slc, ↓q_rev, ↓q_call, ↓q_bi, ↓q_join, ↓q_app, ↓q_ext, ↓q_lc, ↓q_fs, ↓q_dct, ↓q_evs0, ↓q_evs1, ↓q_opds0, ↓q_opds1, ↓q_no, ↓q_so, ↓q_it, ↓q_rg1, ↓q_rg2, ↓q_tno, ↓q_tso, ↓q_evf0, ↓q_evf1, ↓q_tnt, ↓q_tan, ↓q_tor, ↓q_tite, ↓q_tvar, ↓q_tcst, ↓q_tcmp, ↓q_tidx, ↓q_tcall, ↓q_tbi, ↓q_tslc, ↓q_ovar, ↓q_ocst, ↓q_otup, ↓q_olst, ↓q_obin, ↓q_ocmp, ↓q_oneg, ↓q_ont, ↓q_oan, ↓q_oorr, ↓q_oite, ↓q_oidx, ↓q_oslc, ↓q_orev, ↓q_ocall, ↓q_obi, ↓q_ojoin, ↓q_olc, ↓q_ofs, ↓q_odct, ↓q_lookv, ↓q_looks, ↓q_peek, ↓q_look0, ↓q_look1, ↓q_set, ↓q_bnm, ↓q_btp, ↓q_sets0, ↓q_sets1, ↓q_par0, ↓q_par1, ↓q_own, ↓q_appV, ↓q_extn, ↓q_extl, ↓q_ixr, ↓q_ixt, ↓q_ixl, ↓q_ixs, ↓q_putG, ↓q_add_int, ↓q_add_str, ↓q_add_lst, ↓q_add_tup, ↓q_sub_int, ↓q_mul_int, ↓q_mul_lst, ↓q_mul_tup, ↓q_fdiv_int, ↓q_mod_int, ↓q_pow_int, ↓q_bint, ↓q_bintb, ↓q_blenl, ↓q_blent, ↓q_blens, ↓q_bstri, ↓q_bstrs, ↓q_blistl, ↓q_blistt, ↓q_btupl, ↓q_btupt, ↓q_bmin, ↓q_bmax, ↓q_fmts, ↓q_fmti, ↓q_asg, ↓q_parS, ↓q_put, ↓q_ex, ↓q_iff, ↓q_for, ↓q_retV, ↓q_rcst, ↓q_rtup, ↓q_rlst, ↓q_rbin, ↓q_rcmp, ↓q_rneg, ↓q_rnt, ↓q_ran, ↓q_rorr, ↓q_rite, ↓q_ridx, ↓q_rslc, ↓q_rrev, ↓q_rcall, ↓q_rbi, ↓q_rjoin, ↓q_rlc, ↓q_rfs, ↓q_rdct, ↓q_retN, ↓q_pas, ↓q_brk, ↓q_cnt, ↓q_exs0, ↓q_exs1, q_add_int, q_add_str, q_add_lst, q_add_tup, q_sub_int, q_mul_int, q_mul_lst, q_mul_tup, q_fdiv_int, q_mod_int, q_pow_int, q_bint, q_bintb, q_blenl, q_blent, q_blens, q_bstri, q_bstrs, q_blistl, q_blistt, q_btupl, q_btupt, q_bmin, q_bmax, q_fmts, q_fmti, backG_mk, pushG_mk, wipe_nil, wipe_cons, back_nil, back_cons, noOwn_nil, slots_nm, slots_tp, pv_val, pv_new, slot_val, slot_new, asInt_int, truV_bl, truV_int, cmpV_eq, cmpV_ne, cmpV_lt, cmpV_le, cmpV_gt, cmpV_ge, eqV_int, eqV_str, items_l, items_t, items_f, slcV_lst, slcV_tup, slcV_fz, revV_tup, revV_lst, idxV_lst, idxV_tup, noOwn_cons, at0, at1, at2, at3, Nxt_nx, Nxt_ret, Nxt_brk, Nxt_cnt, Turn_nx, Turn_cnt, Turn_brk, Turn_ret, Fin'_ret, Fin'_nx, List.getElem?_cons_zero, List.getElem?_cons_succ, List.set_cons_zero, List.set_cons_succ, List.getD_cons_zero, List.getD_cons_succ, List.length_cons, List.length_nil, List.map_cons, List.map_nil, List.cons_append, List.nil_append, List.replicate_succ, List.replicate_zero, Option.map_some, Option.some.injEq, Bool.not_true, Bool.not_false, Bool.and_self, Bool.and_true, Bool.true_and, Bool.false_eq_true, Bool.true_eq_false, if_true, if_false, ite_true, ite_false, reduceIte, true_and, and_true, Nat.reduceAdd, Nat.reduceSub, Nat.reduceLT, Nat.reduceLeDiff, Nat.reducePow, Int.reducePow, Int.reduceToNat, Int.reduceLE, Int.reduceLT, Int.reduceNeg, decide_true, decide_false, Ev.sizeLine_eq, rgOk_eq, Nat.lt_add_left_iff_pos, Nat.zero_lt_succ, Nat.succ_pos, Nat.zero_add, true_or, or_true, Nat.reduceMul, Nat.add_zero, Nat.zero_le, Nat.le_refl]
        repeat (refine ⟨by omega, ?_⟩)
        refine ⟨(ls2 ++ [writeT r], _, _, _), by simp only [List.map_append, List.map_cons, List.map_nil]; rfl, by omega, ?_⟩
        rw [take_succ' hx1, e1]
        simp
      · obtain ⟨ls2, s4, s5, s6⟩ := b
        subst e0
        have e1 : ls2 = ls ++ (writes.take (writes.map wPV).length).map writeT := e1
        rw [List.length_map, List.take_length] at e1
        simp only [↓q_ok, ↓q_some, ↓q_cst, ↓q_var, ↓q_tup, ↓q_lst, ↓q_bin, ↓q_cmp, ↓q_neg, ↓q_nt, ↓q_an, ↓q_orr, ↓q_ite, ↓q_idx, ↓q_slc, ↓q_rev, ↓q_call, ↓q_bi, ↓q_join, ↓q_app, ↓q_ext, ↓q_lc, ↓q_fs, ↓q_dct, ↓q_evs0, ↓q_evs1, ↓q_opds0, ↓q_opds1, ↓q_no, ↓q_so, ↓q_it, ↓q_rg1, ↓q_rg2, ↓q_tno, ↓q_tso, ↓q_evf0, ↓q_evf1, ↓q_tnt, ↓q_tan, ↓q_tor, ↓q_tite, ↓q_tvar, ↓q_tcst, ↓q_tcmp, ↓q_tidx, ↓q_tcall, ↓q_tbi, ↓q_tslc, ↓q_ovar, ↓q_ocst, ↓q_otup, ↓q_olst, ↓q_obin, ↓q_ocmp, ↓q_oneg, ↓q_ont, ↓q_oan, ↓q_oorr, ↓q_oite, ↓q_oidx, ↓q_oslc, ↓q_orev, ↓q_ocall, ↓q_obi, ↓q_ojoin, ↓q_olc, ↓q_ofs, ↓q_odct, ↓q_lookv, ↓q_looks, ↓q_peek, ↓q_look0, ↓q_look1, ↓q_set, ↓q_bnm, ↓q_btp, ↓q_sets0, ↓q_sets1, ↓q_par0, ↓q_par1, ↓q_own, ↓q_appV, ↓q_extn, ↓q_extl, ↓q_ixr, ↓q_ixt, ↓q_ixl, ↓q_ixs, ↓q_putG, ↓q_add_int, ↓q_add_str, ↓q_add_lst, ↓q_add_tup, ↓q_sub_int, ↓q_mul_int, ↓q_mul_lst, ↓q_mul_tup, ↓q_fdiv_int, ↓q_mod_int, ↓q_pow_int, ↓q_bint, ↓q_bintb, ↓q_blenl, ↓q_blent, ↓q_blens, ↓q_bstri, ↓q_bstrs, ↓q_blistl, ↓q_blistt, ↓q_btupl, ↓q_btupt, ↓q_bmin, ↓q_bmax, ↓q_fmts, ↓q_fmti, ↓q_asg, ↓q_parS, ↓q_put, ↓q_ex, ↓q_iff, ↓q_for, ↓q_retV, ↓q_rcst, ↓q_rtup, ↓q_rlst, ↓q_rbin, ↓q_rcmp, ↓q_rneg, ↓q_rnt, ↓q_ran, ↓q_rorr, ↓q_rite, ↓q_ridx, ↓q_rslc, ↓q_rrev, ↓q_rcall, ↓q_rbi, ↓q_rjoin, ↓q_rlc, ↓q_rfs, ↓q_rdct, ↓q_retN, ↓q_pas, ↓q_brk, ↓q_cnt, ↓q_exs0, ↓q_exs1, q_add_int, q_add_str, q_add_lst, q_add_tup, q_sub_int, q_mul_int, q_mul_lst, q_mul_tup, q_fdiv_int, q_mod_int, q_pow_int, q_bint, q_bintb, q_blenl, q_blent, q_blens, q_bstri, q_bstrs, q_blistl, q_blistt, q_btupl, q_btupt, q_bmin, q_bmax, q_fmts, q_fmti, backG_mk, pushG_mk, wipe_nil, wipe_cons, back_nil, back_cons, noOwn_nil, slots_nm, slots_tp, pv_val, pv_new, slot_val, slot_new, asInt_int, truV_bl, truV_int, cmpV_eq, cmpV_ne, cmpV_lt, cmpV_le, cmpV_gt, cmpV_ge, eqV_int, eqV_str, items_l, items_t, items_f, slcV_lst, slcV_tup, slcV_fz, revV_tup, revV_lst, idxV_lst, idxV_tup, noOwn_cons, at0, at1, at2, at3, Nxt_nx, Nxt_ret, Nxt_brk, Nxt_cnt, Turn_nx, Turn_cnt, Turn_brk, Turn_ret, Fin'_ret, Fin'_nx, List.getElem?_cons_zero, List.getElem?_cons_succ, List.set_cons_zero, List.set_cons_succ, List.getD_cons_zero, List.getD_cons_succ, List.length_cons, List.length_nil, List.map_cons, List.map_nil, List.cons_append, List.nil_append, List.replicate_succ, List.replicate_zero, Option.map_some, Option.some.injEq, Bool.not_true, Bool.not_false, Bool.and_self, Bool.and_true, Bool.true_and, Bool.false_eq_true, Bool.true_eq_false, if_true, if_false, ite_true, ite_false, reduceIte, true_and, and_true, Nat.reduceAdd, Nat.reduceSub, Nat.reduceLT, Nat.reduceLeDiff, Nat.reducePow, Int.reducePow, Int.reduceToNat, Int.reduceLE, Int.reduceLT, Int.reduceNeg, decide_true, decide_false, Ev.sizeLine_eq, rgOk_eq, Nat.lt_add_left_iff_pos, Nat.zero_lt_succ, Nat.succ_pos, Nat.zero_add, true_or, or_true, Nat.reduceMul, Nat.add_zero, Nat.zero_le, Nat.le_refl]
        rw [fin, e1, e]
end K09
namespace K09
open PySem Ev

/-! ### what is shown -/
theorem fit_strs {ws : List Str} {n k : Nat} (h : ∀ w ∈ ws, Tx n w) (hl : ws.length ≤ k) : Fit 1 (k * (4 * n + 2 + 2) + 3) (.tup (ws.map PV.str)) :=
  Fit.tup (Fits.of fun v hv => by
    obtain ⟨t, ht, rfl⟩ := List.mem_map.mp hv
    exact Fit.str (h t ht)) (by simpa using hl)
theorem fit_base {b : Base} (h : BaseOk b) : Fit 1 24 (bPV b) := by
  have h1 : Fit 0 5 (.int b.ways) := by
    rcases ways_cases h with e | e <;> rw [e]
    · exact Fit.int (by decide +kernel) (by decide +kernel)
    · exact Fit.int (by decide +kernel) (by decide +kernel)
  exact Fit.tup (.cons h1 (.cons Fit.bl (.cons Fit.bl .nil))) (n := 3) (by simp)
theorem fit_rd {r : Rd} (h : RdOk r) : Fit 3 1467 (rPV r) := by
  have h1 : Fit 2 486 (.str r.tag) := (Fit.str (d := 0) h.tag).mono (by omega) (by omega)
  have h2 : Fit 2 486 (.tup (r.path.map PV.str)) := (fit_strs h.path h.plen).mono (by omega) (by omega)
  exact Fit.tup (.cons h1 (.cons h2 (.cons (fit_tests h.tests) .nil))) (n := 3) (by simp)
theorem fit_wt {w : Wt} (h : WtOk w) : Fit 3 1467 (wPV w) := by
  have h1 : Fit 2 486 (.str w.worth) := (Fit.str (d := 0) h.worth).mono (by omega) (by omega)
  have h2 : Fit 2 486 (.tup (w.place.map PV.str)) := (fit_strs h.place h.plen).mono (by omega) (by omega)
  exact Fit.tup (.cons h2 (.cons h1 (.cons (fit_tests h.tests) .nil))) (n := 3) (by simp)
theorem fit_plan {p : Plan} (h : PlanOk 4 12 12 p) : Fit 5 70543 (pPV p) := by
  have h1 : Fit 4 17631 (bPV p.base) := (fit_base h.base).mono (by omega) (by omega)
  have h2 : Fit 4 17631 (.tup (p.names.map PV.str)) := (fit_strs h.names h.nlen).mono (by omega) (by omega)
  have h3 : Fit 4 17631 (.tup (p.reads.map rPV)) := Fit.tup (n := 12) (Fits.of fun v hv => by
    obtain ⟨t, ht, rfl⟩ := List.mem_map.mp hv
    exact fit_rd (h.reads t ht)) (by simpa using h.rlen)
  have h4 : Fit 4 17631 (.tup (p.writes.map wPV)) := Fit.tup (n := 12) (Fits.of fun v hv => by
    obtain ⟨t, ht, rfl⟩ := List.mem_map.mp hv
    exact fit_wt (h.writes t ht)) (by simpa using h.wlen)
  exact (Fit.tup (.cons h1 (.cons h2 (.cons h3 (.cons h4 .nil)))) (n := 4) (by simp)).mono (by omega) (by omega)
theorem right_ok (k : Nat) {hp : List Cell} {p : Plan} (h : PlanOk 4 12 12 p) : Gives (calls table (k + 4) 5 [pPV p] [] hp) fun x hp' => x = .val (.bl true) ∧ hp' = hp := by
  refine gives_run (c := calls table (k + 3)) (d := d_l_is_text_right) (as := [pPV p]) rfl ?_
  have hr : biV .repr [pPV p] = some (.val (.str (pPV p).d.shown)) := (fit_plan h).repr rfl (by decide) (by decide)
  have ht := textT_tx h
  have hs : Fit 0 20906 (.str (textT p)) := (Fit.str (d := 0) ht).mono (by omega) (by omega)
  have hl3 : biV .repr [.lst [.str (textT p), .str (textT p), .str (textT p)]] = some (.val (.str (PV.lst [.str (textT p), .str (textT p), .str (textT p)]).d.shown)) :=
    (Fit.lst (.cons hs (.cons hs (.cons hs .nil))) (n := 3) (by simp)).repr rfl (by decide) (by decide)
  have hj : joinV (.str "\n") (.lst ((linesT p).map PV.str)) = some (.str (textT p)) := jLines (linesT_len h) (by decide) (linesT_tx h)
  simp only [d_l_is_text_right, hr, ↓q_ok, ↓q_some, ↓q_cst, ↓q_var, ↓q_tup, ↓q_lst, ↓q_bin, ↓q_cmp, ↓q_neg, ↓q_nt, ↓q_an, ↓q_orr, ↓q_ite, ↓q_idx, ↓q_slc, ↓q_rev, ↓q_call, ↓q_bi, ↓q_join, ↓q_app, ↓q_ext, ↓q_lc, ↓q_fs, ↓q_dct, ↓q_evs0, ↓q_evs1, ↓q_opds0, ↓q_opds1, ↓q_no, ↓q_so, ↓q_it, ↓q_rg1, ↓q_rg2, ↓q_tno, ↓q_tso, ↓q_evf0, ↓q_evf1, ↓q_tnt, ↓q_tan, ↓q_tor, ↓q_tite, ↓q_tvar, ↓q_tcst, ↓q_tcmp, ↓q_tidx, ↓q_tcall, ↓q_tbi, ↓q_tslc, ↓q_ovar, ↓q_ocst, ↓q_otup, ↓q_olst, ↓q_obin, ↓q_ocmp, ↓q_oneg, ↓q_ont, ↓q_oan, ↓q_oorr, ↓q_oite, ↓q_oidx, ↓q_oslc, ↓q_orev, ↓q_ocall, ↓q_obi, ↓q_ojoin, ↓q_olc, ↓q_ofs, ↓q_odct, ↓q_lookv, ↓q_looks, ↓q_peek, ↓q_look0, ↓q_look1, ↓q_set, ↓q_bnm, ↓q_btp, ↓q_sets0, ↓q_sets1, ↓q_par0, ↓q_par1, ↓q_own, ↓q_appV, ↓q_extn, ↓q_extl, ↓q_ixr, ↓q_ixt, ↓q_ixl, ↓q_ixs, ↓q_putG, ↓q_add_int, ↓q_add_str, ↓q_add_lst, ↓q_add_tup, ↓q_sub_int, ↓q_mul_int, ↓q_mul_lst, ↓q_mul_tup, ↓q_fdiv_int, ↓q_mod_int, ↓q_pow_int, ↓q_bint, ↓q_bintb, ↓q_blenl, ↓q_blent, ↓q_blens, ↓q_bstri, ↓q_bstrs, ↓q_blistl, ↓q_blistt, ↓q_btupl, ↓q_btupt, ↓q_bmin, ↓q_bmax, ↓q_fmts, ↓q_fmti, ↓q_asg, ↓q_parS, ↓q_put, ↓q_ex, ↓q_iff, ↓q_for, ↓q_retV, ↓q_rcst, ↓q_rtup, ↓q_rlst, ↓q_rbin, ↓q_rcmp, ↓q_rneg, ↓q_rnt, ↓q_ran, ↓q_rorr, ↓q_rite, ↓q_ridx, ↓q_rslc, ↓q_rrev, ↓q_rcall, ↓q_rbi, ↓q_rjoin, ↓q_rlc, ↓q_rfs, ↓q_rdct, ↓q_retN, ↓q_pas, ↓q_brk, ↓q_cnt, ↓q_exs0, ↓q_exs1, q_add_int, q_add_str, q_add_lst, q_add_tup, q_sub_int, q_mul_int, q_mul_lst, q_mul_tup, q_fdiv_int, q_mod_int, q_pow_int, q_bint, q_bintb, q_blenl, q_blent, q_blens, q_bstri, q_bstrs, q_blistl, q_blistt, q_btupl, q_btupt, q_bmin, q_bmax, q_fmts, q_fmti, backG_mk, pushG_mk, wipe_nil, wipe_cons, back_nil, back_cons, noOwn_nil, slots_nm, slots_tp, pv_val, pv_new, slot_val, slot_new, asInt_int, truV_bl, truV_int, cmpV_eq, cmpV_ne, cmpV_lt, cmpV_le, cmpV_gt, cmpV_ge, eqV_int, eqV_str, items_l, items_t, items_f, slcV_lst, slcV_tup, slcV_fz, revV_tup, revV_lst, idxV_lst, idxV_tup, noOwn_cons, at0, at1, at2, at3, Nxt_nx, Nxt_ret, Nxt_brk, Nxt_cnt, Turn_nx, Turn_cnt, Turn_brk, Turn_ret, Fin'_ret, Fin'_nx, List.getElem?_cons_zero, List.getElem?_cons_succ, List.set_cons_zero, List.set_cons_succ, List.getD_cons_zero, List.getD_cons_succ, List.length_cons, List.length_nil, List.map_cons, List.map_nil, List.cons_append, List.nil_append, List.replicate_succ, List.replicate_zero, Option.map_some, Option.some.injEq, Bool.not_true, Bool.not_false, Bool.and_self, Bool.and_true, Bool.true_and, Bool.false_eq_true, Bool.true_eq_false, if_true, if_false, ite_true, ite_false, reduceIte, true_and, and_true, Nat.reduceAdd, Nat.reduceSub, Nat.reduceLT, Nat.reduceLeDiff, Nat.reducePow, Int.reducePow, Int.reduceToNat, Int.reduceLE, Int.reduceLT, Int.reduceNeg, decide_true, decide_false, Ev.sizeLine_eq, rgOk_eq, Nat.lt_add_left_iff_pos, Nat.zero_lt_succ, Nat.succ_pos, Nat.zero_add, true_or, or_true, Nat.reduceMul, Nat.add_zero, Nat.zero_le, Nat.le_refl]
  refine Ok_callW (lines_ok (k + 1) h (by decide) (by decide)) fun x hp' ⟨hx, he⟩ => ?_
  subst hx he
  simp only [hj, ↓q_ok, ↓q_some, ↓q_cst, ↓q_var, ↓q_tup, ↓q_lst, ↓q_bin, ↓q_cmp, ↓q_neg, ↓q_nt, ↓q_an, ↓q_orr, ↓q_ite, ↓q_idx, ↓q_slc, ↓q_rev, ↓q_call, ↓q_bi, ↓q_join, ↓q_app, ↓q_ext, ↓q_lc, ↓q_fs, ↓q_dct, ↓q_evs0, ↓q_evs1, ↓q_opds0, ↓q_opds1, ↓q_no, ↓q_so, ↓q_it, ↓q_rg1, ↓q_rg2, ↓q_tno, ↓q_tso, ↓q_evf0, ↓q_evf1, ↓q_tnt, ↓q_tan, ↓q_tor, ↓q_tite, ↓q_tvar, ↓q_tcst, ↓q_tcmp, ↓q_tidx, ↓q_tcall, ↓q_tbi, ↓q_tslc, ↓q_ovar, ↓q_ocst, ↓q_otup, ↓q_olst, ↓q_obin, ↓q_ocmp, ↓q_oneg, ↓q_ont, ↓q_oan, ↓q_oorr, ↓q_oite, ↓q_oidx, ↓q_oslc, ↓q_orev, ↓q_ocall, ↓q_obi, ↓q_ojoin, ↓q_olc, ↓q_ofs, ↓q_odct, ↓q_lookv, ↓q_looks, ↓q_peek, ↓q_look0, ↓q_look1, ↓q_set, ↓q_bnm, ↓q_btp, ↓q_sets0, ↓q_sets1, ↓q_par0, ↓q_par1, ↓q_own, ↓q_appV, ↓q_extn, ↓q_extl, ↓q_ixr, ↓q_ixt, ↓q_ixl, ↓q_ixs, ↓q_putG, ↓q_add_int, ↓q_add_str, ↓q_add_lst, ↓q_add_tup, ↓q_sub_int, ↓q_mul_int, ↓q_mul_lst, ↓q_mul_tup, ↓q_fdiv_int, ↓q_mod_int, ↓q_pow_int, ↓q_bint, ↓q_bintb, ↓q_blenl, ↓q_blent, ↓q_blens, ↓q_bstri, ↓q_bstrs, ↓q_blistl, ↓q_blistt, ↓q_btupl, ↓q_btupt, ↓q_bmin, ↓q_bmax, ↓q_fmts, ↓q_fmti, ↓q_asg, ↓q_parS, ↓q_put, ↓q_ex, ↓q_iff, ↓q_for, ↓q_retV, ↓q_rcst, ↓q_rtup, ↓q_rlst, ↓q_rbin, ↓q_rcmp, ↓q_rneg, ↓q_rnt, ↓q_ran, ↓q_rorr, ↓q_rite, ↓q_ridx, ↓q_rslc, ↓q_rrev, ↓q_rcall, ↓q_rbi, ↓q_rjoin, ↓q_rlc, ↓q_rfs, ↓q_rdct, ↓q_retN, ↓q_pas, ↓q_brk, ↓q_cnt, ↓q_exs0, ↓q_exs1, q_add_int, q_add_str, q_add_lst, q_add_tup, q_sub_int, q_mul_int, q_mul_lst, q_mul_tup, q_fdiv_int, q_mod_int, q_pow_int, q_bint, q_bintb, q_blenl, q_blent, q_blens, q_bstri, q_bstrs, q_blistl, q_blistt, q_btupl, q_btupt, q_bmin, q_bmax, q_fmts, q_fmti, backG_mk, pushG_mk, wipe_nil, wipe_cons, back_nil, back_cons, noOwn_nil, slots_nm, slots_tp, pv_val, pv_new, slot_val, slot_new, asInt_int, truV_bl, truV_int, cmpV_eq, cmpV_ne, cmpV_lt, cmpV_le, cmpV_gt, cmpV_ge, eqV_int, eqV_str, items_l, items_t, items_f, slcV_lst, slcV_tup, slcV_fz, revV_tup, revV_lst, idxV_lst, idxV_tup, noOwn_cons, at0, at1, at2, at3, Nxt_nx, Nxt_ret, Nxt_brk, Nxt_cnt, Turn_nx, Turn_cnt, Turn_brk, Turn_ret, Fin'_ret, Fin'_nx, List.getElem?_cons_zero, List.getElem?_cons_succ, List.set_cons_zero, List.set_cons_succ, List.getD_cons_zero, List.getD_cons_succ, List.length_cons, List.length_nil, List.map_cons, List.map_nil, List.cons_append, List.nil_append, List.replicate_succ, List.replicate_zero, Option.map_some, Option.some.injEq, Bool.not_true, Bool.not_false, Bool.and_self, Bool.and_true, Bool.true_and, Bool.false_eq_true, Bool.true_eq_false, if_true, if_false, ite_true, ite_false, reduceIte, true_and, and_true, Nat.reduceAdd, Nat.reduceSub, Nat.reduceLT, Nat.reduceLeDiff, Nat.reducePow, Int.reducePow, Int.reduceToNat, Int.reduceLE, Int.reduceLT, Int.reduceNeg, decide_true, decide_false, Ev.sizeLine_eq, rgOk_eq, Nat.lt_add_left_iff_pos, Nat.zero_lt_succ, Nat.succ_pos, Nat.zero_add, true_or, or_true, Nat.reduceMul, Nat.add_zero, Nat.zero_le, Nat.le_refl]
  refine Ok_callW (routine_ok k h (by decide) (by decide)) fun x hp'' ⟨hx, he⟩ => ?_
  subst hx he
  simp only [↓q_ok, ↓q_some, ↓q_cst, ↓q_var, ↓q_tup, ↓q_lst, ↓q_bin, ↓q_cmp, ↓q_neg, ↓q_nt, ↓q_an, ↓q_orr, ↓q_ite, ↓q_idx, ↓q_slc, ↓q_rev, ↓q_call, ↓q_bi, ↓q_join, ↓q_app, ↓q_ext, ↓q_lc, ↓q_fs, ↓q_dct, ↓q_evs0, ↓q_evs1, ↓q_opds0, ↓q_opds1, ↓q_no, ↓q_so, ↓q_it, ↓q_rg1, ↓q_rg2, ↓q_tno, ↓q_tso, ↓q_evf0, ↓q_evf1, ↓q_tnt, ↓q_tan, ↓q_tor, ↓q_tite, ↓q_tvar, ↓q_tcst, ↓q_tcmp, ↓q_tidx, ↓q_tcall, ↓q_tbi, ↓q_tslc, ↓q_ovar, ↓q_ocst, ↓q_otup, ↓q_olst, ↓q_obin, ↓q_ocmp, ↓q_oneg, ↓q_ont, ↓q_oan, ↓q_oorr, ↓q_oite, ↓q_oidx, ↓q_oslc, ↓q_orev, ↓q_ocall, ↓q_obi, ↓q_ojoin, ↓q_olc, ↓q_ofs, ↓q_odct, ↓q_lookv, ↓q_looks, ↓q_peek, ↓q_look0, ↓q_look1, ↓q_set, ↓q_bnm, ↓q_btp, ↓q_sets0, ↓q_sets1, ↓q_par0, ↓q_par1, ↓q_own, ↓q_appV, ↓q_extn, ↓q_extl, ↓q_ixr, ↓q_ixt, ↓q_ixl, ↓q_ixs, ↓q_putG, ↓q_add_int, ↓q_add_str, ↓q_add_lst, ↓q_add_tup, ↓q_sub_int, ↓q_mul_int, ↓q_mul_lst, ↓q_mul_tup, ↓q_fdiv_int, ↓q_mod_int, ↓q_pow_int, ↓q_bint, ↓q_bintb, ↓q_blenl, ↓q_blent, ↓q_blens, ↓q_bstri, ↓q_bstrs, ↓q_blistl, ↓q_blistt, ↓q_btupl, ↓q_btupt, ↓q_bmin, ↓q_bmax, ↓q_fmts, ↓q_fmti, ↓q_asg, ↓q_parS, ↓q_put, ↓q_ex, ↓q_iff, ↓q_for, ↓q_retV, ↓q_rcst, ↓q_rtup, ↓q_rlst, ↓q_rbin, ↓q_rcmp, ↓q_rneg, ↓q_rnt, ↓q_ran, ↓q_rorr, ↓q_rite, ↓q_ridx, ↓q_rslc, ↓q_rrev, ↓q_rcall, ↓q_rbi, ↓q_rjoin, ↓q_rlc, ↓q_rfs, ↓q_rdct, ↓q_retN, ↓q_pas, ↓q_brk, ↓q_cnt, ↓q_exs0, ↓q_exs1, q_add_int, q_add_str, q_add_lst, q_add_tup, q_sub_int, q_mul_int, q_mul_lst, q_mul_tup, q_fdiv_int, q_mod_int, q_pow_int, q_bint, q_bintb, q_blenl, q_blent, q_blens, q_bstri, q_bstrs, q_blistl, q_blistt, q_btupl, q_btupt, q_bmin, q_bmax, q_fmts, q_fmti, backG_mk, pushG_mk, wipe_nil, wipe_cons, back_nil, back_cons, noOwn_nil, slots_nm, slots_tp, pv_val, pv_new, slot_val, slot_new, asInt_int, truV_bl, truV_int, cmpV_eq, cmpV_ne, cmpV_lt, cmpV_le, cmpV_gt, cmpV_ge, eqV_int, eqV_str, items_l, items_t, items_f, slcV_lst, slcV_tup, slcV_fz, revV_tup, revV_lst, idxV_lst, idxV_tup, noOwn_cons, at0, at1, at2, at3, Nxt_nx, Nxt_ret, Nxt_brk, Nxt_cnt, Turn_nx, Turn_cnt, Turn_brk, Turn_ret, Fin'_ret, Fin'_nx, List.getElem?_cons_zero, List.getElem?_cons_succ, List.set_cons_zero, List.set_cons_succ, List.getD_cons_zero, List.getD_cons_succ, List.length_cons, List.length_nil, List.map_cons, List.map_nil, List.cons_append, List.nil_append, List.replicate_succ, List.replicate_zero, Option.map_some, Option.some.injEq, Bool.not_true, Bool.not_false, Bool.and_self, Bool.and_true, Bool.true_and, Bool.false_eq_true, Bool.true_eq_false, if_true, if_false, ite_true, ite_false, reduceIte, true_and, and_true, Nat.reduceAdd, Nat.reduceSub, Nat.reduceLT, Nat.reduceLeDiff, Nat.reducePow, Int.reducePow, Int.reduceToNat, Int.reduceLE, Int.reduceLT, Int.reduceNeg, decide_true, decide_false, Ev.sizeLine_eq, rgOk_eq, Nat.lt_add_left_iff_pos, Nat.zero_lt_succ, Nat.succ_pos, Nat.zero_add, true_or, or_true, Nat.reduceMul, Nat.add_zero, Nat.zero_le, Nat.le_refl]
  refine Ok_callW (routine_ok k h (by decide) (by decide)) fun x hp'' ⟨hx, he⟩ => ?_
  subst hx he
  simp only [↓q_ok, ↓q_some, ↓q_cst, ↓q_var, ↓q_tup, ↓q_lst, ↓q_bin, ↓q_cmp, ↓q_neg, ↓q_nt, ↓q_an, ↓q_orr, ↓q_ite, ↓q_idx, ↓q_slc, ↓q_rev, ↓q_call, ↓q_bi, ↓q_join, ↓q_app, ↓q_ext, ↓q_lc, ↓q_fs, ↓q_dct, ↓q_evs0, ↓q_evs1, ↓q_opds0, ↓q_opds1, ↓q_no, ↓q_so, ↓q_it, ↓q_rg1, ↓q_rg2, ↓q_tno, ↓q_tso, ↓q_evf0, ↓q_evf1, ↓q_tnt, ↓q_tan, ↓q_tor, ↓q_tite, ↓q_tvar, ↓q_tcst, ↓q_tcmp, ↓q_tidx, ↓q_tcall, ↓q_tbi, ↓q_tslc, ↓q_ovar, ↓q_ocst, ↓q_otup, ↓q_olst, ↓q_obin, ↓q_ocmp, ↓q_oneg, ↓q_ont, ↓q_oan, ↓q_oorr, ↓q_oite, ↓q_oidx, ↓q_oslc, ↓q_orev, ↓q_ocall, ↓q_obi, ↓q_ojoin, ↓q_olc, ↓q_ofs, ↓q_odct, ↓q_lookv, ↓q_looks, ↓q_peek, ↓q_look0, ↓q_look1, ↓q_set, ↓q_bnm, ↓q_btp, ↓q_sets0, ↓q_sets1, ↓q_par0, ↓q_par1, ↓q_own, ↓q_appV, ↓q_extn, ↓q_extl, ↓q_ixr, ↓q_ixt, ↓q_ixl, ↓q_ixs, ↓q_putG, ↓q_add_int, ↓q_add_str, ↓q_add_lst, ↓q_add_tup, ↓q_sub_int, ↓q_mul_int, ↓q_mul_lst, ↓q_mul_tup, ↓q_fdiv_int, ↓q_mod_int, ↓q_pow_int, ↓q_bint, ↓q_bintb, ↓q_blenl, ↓q_blent, ↓q_blens, ↓q_bstri, ↓q_bstrs, ↓q_blistl, ↓q_blistt, ↓q_btupl, ↓q_btupt, ↓q_bmin, ↓q_bmax, ↓q_fmts, ↓q_fmti, ↓q_asg, ↓q_parS, ↓q_put, ↓q_ex, ↓q_iff, ↓q_for, ↓q_retV, ↓q_rcst, ↓q_rtup, ↓q_rlst, ↓q_rbin, ↓q_rcmp, ↓q_rneg, ↓q_rnt, ↓q_ran, ↓q_rorr, ↓q_rite, ↓q_ridx, ↓q_rslc, ↓q_rrev, ↓q_rcall, ↓q_rbi, ↓q_rjoin, ↓q_rlc, ↓q_rfs, ↓q_rdct, ↓q_retN, ↓q_pas, ↓q_brk, ↓q_cnt, ↓q_exs0, ↓q_exs1, q_add_int, q_add_str, q_add_lst, q_add_tup, q_sub_int, q_mul_int, q_mul_lst, q_mul_tup, q_fdiv_int, q_mod_int, q_pow_int, q_bint, q_bintb, q_blenl, q_blent, q_blens, q_bstri, q_bstrs, q_blistl, q_blistt, q_btupl, q_btupt, q_bmin, q_bmax, q_fmts, q_fmti, backG_mk, pushG_mk, wipe_nil, wipe_cons, back_nil, back_cons, noOwn_nil, slots_nm, slots_tp, pv_val, pv_new, slot_val, slot_new, asInt_int, truV_bl, truV_int, cmpV_eq, cmpV_ne, cmpV_lt, cmpV_le, cmpV_gt, cmpV_ge, eqV_int, eqV_str, items_l, items_t, items_f, slcV_lst, slcV_tup, slcV_fz, revV_tup, revV_lst, idxV_lst, idxV_tup, noOwn_cons, at0, at1, at2, at3, Nxt_nx, Nxt_ret, Nxt_brk, Nxt_cnt, Turn_nx, Turn_cnt, Turn_brk, Turn_ret, Fin'_ret, Fin'_nx, List.getElem?_cons_zero, List.getElem?_cons_succ, List.set_cons_zero, List.set_cons_succ, List.getD_cons_zero, List.getD_cons_succ, List.length_cons, List.length_nil, List.map_cons, List.map_nil, List.cons_append, List.nil_append, List.replicate_succ, List.replicate_zero, Option.map_some, Option.some.injEq, Bool.not_true, Bool.not_false, Bool.and_self, Bool.and_true, Bool.true_and, Bool.false_eq_true, Bool.true_eq_false, if_true, if_false, ite_true, ite_false, reduceIte, true_and, and_true, Nat.reduceAdd, Nat.reduceSub, Nat.reduceLT, Nat.reduceLeDiff, Nat.reducePow, Int.reducePow, Int.reduceToNat, Int.reduceLE, Int.reduceLT, Int.reduceNeg, decide_true, decide_false, Ev.sizeLine_eq, rgOk_eq, Nat.lt_add_left_iff_pos, Nat.zero_lt_succ, Nat.succ_pos, Nat.zero_add, true_or, or_true, Nat.reduceMul, Nat.add_zero, Nat.zero_le, Nat.le_refl]
  refine Ok_callW (routine_ok k h (by decide) (by decide)) fun x hp'' ⟨hx, he⟩ => ?_
  subst hx he
  simp only [hr, hl3, List.flatten_cons, List.flatten_nil, List.append_nil, ↓q_ok, ↓q_some, ↓q_cst, ↓q_var, ↓q_tup, ↓q_lst, ↓q_bin, ↓q_cmp, ↓q_neg, ↓q_nt, ↓q_an, ↓q_orr, ↓q_ite, ↓q_idx, ↓q_slc, ↓q_rev, ↓q_call, ↓q_bi, ↓q_join, ↓q_app, ↓q_ext, ↓q_lc, ↓q_fs, ↓q_dct, ↓q_evs0, ↓q_evs1, ↓q_opds0, ↓q_opds1, ↓q_no, ↓q_so, ↓q_it, ↓q_rg1, ↓q_rg2, ↓q_tno, ↓q_tso, ↓q_evf0, ↓q_evf1, ↓q_tnt, ↓q_tan, ↓q_tor, ↓q_tite, ↓q_tvar, ↓q_tcst, ↓q_tcmp, ↓q_tidx, ↓q_tcall, ↓q_tbi, ↓q_tslc, ↓q_ovar, ↓q_ocst, ↓q_otup, ↓q_olst, ↓q_obin, ↓q_ocmp, ↓q_oneg, ↓q_ont, ↓q_oan, ↓q_oorr, ↓q_oite, ↓q_oidx, ↓q_oslc, ↓q_orev, ↓q_ocall, ↓q_obi, ↓q_ojoin, ↓q_olc, ↓q_ofs, ↓q_odct, ↓q_lookv, ↓q_looks, ↓q_peek, ↓q_look0, ↓q_look1, ↓q_set, ↓q_bnm, ↓q_btp, ↓q_sets0, ↓q_sets1, ↓q_par0, ↓q_par1, ↓q_own, ↓q_appV, ↓q_extn, ↓q_extl, ↓q_ixr, ↓q_ixt, ↓q_ixl, ↓q_ixs, ↓q_putG, ↓q_add_int, ↓q_add_str, ↓q_add_lst, ↓q_add_tup, ↓q_sub_int, ↓q_mul_int, ↓q_mul_lst, ↓q_mul_tup, ↓q_fdiv_int, ↓q_mod_int, ↓q_pow_int, ↓q_bint, ↓q_bintb, ↓q_blenl, ↓q_blent, ↓q_blens, ↓q_bstri, ↓q_bstrs, ↓q_blistl, ↓q_blistt, ↓q_btupl, ↓q_btupt, ↓q_bmin, ↓q_bmax, ↓q_fmts, ↓q_fmti, ↓q_asg, ↓q_parS, ↓q_put, ↓q_ex, ↓q_iff, ↓q_for, ↓q_retV, ↓q_rcst, ↓q_rtup, ↓q_rlst, ↓q_rbin, ↓q_rcmp, ↓q_rneg, ↓q_rnt, ↓q_ran, ↓q_rorr, ↓q_rite, ↓q_ridx, ↓q_rslc, ↓q_rrev, ↓q_rcall, ↓q_rbi, ↓q_rjoin, ↓q_rlc, ↓q_rfs, ↓q_rdct, ↓q_retN, ↓q_pas, ↓q_brk, ↓q_cnt, ↓q_exs0, ↓q_exs1, q_add_int, q_add_str, q_add_lst, q_add_tup, q_sub_int, q_mul_int, q_mul_lst, q_mul_tup, q_fdiv_int, q_mod_int, q_pow_int, q_bint, q_bintb, q_blenl, q_blent, q_blens, q_bstri, q_bstrs, q_blistl, q_blistt, q_btupl, q_btupt, q_bmin, q_bmax, q_fmts, q_fmti, backG_mk, pushG_mk, wipe_nil, wipe_cons, back_nil, back_cons, noOwn_nil, slots_nm, slots_tp, pv_val, pv_new, slot_val, slot_new, asInt_int, truV_bl, truV_int, cmpV_eq, cmpV_ne, cmpV_lt, cmpV_le, cmpV_gt, cmpV_ge, eqV_int, eqV_str, items_l, items_t, items_f, slcV_lst, slcV_tup, slcV_fz, revV_tup, revV_lst, idxV_lst, idxV_tup, noOwn_cons, at0, at1, at2, at3, Nxt_nx, Nxt_ret, Nxt_brk, Nxt_cnt, Turn_nx, Turn_cnt, Turn_brk, Turn_ret, Fin'_ret, Fin'_nx, List.getElem?_cons_zero, List.getElem?_cons_succ, List.set_cons_zero, List.set_cons_succ, List.getD_cons_zero, List.getD_cons_succ, List.length_cons, List.length_nil, List.map_cons, List.map_nil, List.cons_append, List.nil_append, List.replicate_succ, List.replicate_zero, Option.map_some, Option.some.injEq, Bool.not_true, Bool.not_false, Bool.and_self, Bool.and_true, Bool.true_and, Bool.false_eq_true, Bool.true_eq_false, if_true, if_false, ite_true, ite_false, reduceIte, true_and, and_true, Nat.reduceAdd, Nat.reduceSub, Nat.reduceLT, Nat.reduceLeDiff, Nat.reducePow, Int.reducePow, Int.reduceToNat, Int.reduceLE, Int.reduceLT, Int.reduceNeg, decide_true, decide_false, Ev.sizeLine_eq, rgOk_eq, Nat.lt_add_left_iff_pos, Nat.zero_lt_succ, Nat.succ_pos, Nat.zero_add, true_or, or_true, Nat.reduceMul, Nat.add_zero, Nat.zero_le, Nat.le_refl]
/-! ### numbers, tasks -/
def numsT (ns : List Int) : Str := if ns.isEmpty = true then "-" else Txt.join "," (ns.map fun i => ((toString i : String) : Str))
structure NumOk (i : Int) : Prop where
  log : i.natAbs.log2 < 1920
  tx : Tx 60 ((toString i : String) : Str)
theorem numsT_tx {ns : List Int} (hl : ns.length ≤ 11) (h : ∀ n ∈ ns, NumOk n) : Tx 700 (numsT ns) := by
  unfold numsT
  split
  · exact Tx.by (by decide +kernel)
  · have := Tx.join (s := ",") (m := 1) (n := 60) (Tx.by (by decide +kernel)) (ts := ns.map fun i => ((toString i : String) : Str)) (fun x hx => by
      obtain ⟨t, ht, rfl⟩ := List.mem_map.mp hx
      exact (h t ht).tx) (k := 11) (by simpa using hl)
    exact this.mono (by decide)
theorem jNums {ns : List Int} (hl : ns.length ≤ 11) (h : ∀ n ∈ ns, NumOk n) : joinV (.str ",") (.lst (ns.map fun i => PV.str ((toString i : String) : Str))) = some (.str (Txt.join "," (ns.map fun i => ((toString i : String) : Str)))) := by
  have := join_l (ts := ns.map fun i => ((toString i : String) : Str)) (s := ",") (m := 1) (n := 60) (k := 11) (Tx.by (by decide +kernel)) (fun x hx => by
    obtain ⟨t, ht, rfl⟩ := List.mem_map.mp hx
    exact (h t ht).tx) (by simpa using hl) (by decide)
  rw [List.map_map] at this
  exact this
theorem numbers_ok (k : Nat) {hp : List Cell} {ns : List Int} (hl : ns.length ≤ 11) (h : ∀ n ∈ ns, NumOk n) : Gives (run (calls table k) d_numbers_text [.tup (ns.map PV.int)] hp) fun x hp' => x = .val (.str (numsT ns)) ∧ hp' = hp := by
  refine gives_run rfl ?_
  simp only [d_numbers_text, decide_eq_true_eq, ↓q_ok, ↓q_some, ↓q_cst, ↓q_var, ↓q_tup, ↓q_lst, ↓q_bin, ↓q_cmp, ↓q_neg, ↓q_nt, ↓q_an, ↓q_orr, ↓q_ite, ↓q_idx, ↓q_slc, ↓q_rev, ↓q_call, ↓q_bi, ↓q_join, ↓q_app, ↓q_ext, ↓q_lc, ↓q_fs, ↓q_dct, ↓q_evs0, ↓q_evs1, ↓q_opds0, ↓q_opds1, ↓q_no, ↓q_so, ↓q_it, ↓q_rg1, ↓q_rg2, ↓q_tno, ↓q_tso, ↓q_evf0, ↓q_evf1, ↓q_tnt, ↓q_tan, ↓q_tor, ↓q_tite, ↓q_tvar, ↓q_tcst, ↓q_tcmp, ↓q_tidx, ↓q_tcall, ↓q_tbi, ↓q_tslc, ↓q_ovar, ↓q_ocst, ↓q_otup, ↓q_olst, ↓q_obin, ↓q_ocmp, ↓q_oneg, ↓q_ont, ↓q_oan, ↓q_oorr, ↓q_oite, ↓q_oidx, ↓q_oslc, ↓q_orev, ↓q_ocall, ↓q_obi, ↓q_ojoin, ↓q_olc, ↓q_ofs, ↓q_odct, ↓q_lookv, ↓q_looks, ↓q_peek, ↓q_look0, ↓q_look1, ↓q_set, ↓q_bnm, ↓q_btp, ↓q_sets0, ↓q_sets1, ↓q_par0, ↓q_par1, ↓q_own, ↓q_appV, ↓q_extn, ↓q_extl, ↓q_ixr, ↓q_ixt, ↓q_ixl, ↓q_ixs, ↓q_putG, ↓q_add_int, ↓q_add_str, ↓q_add_lst, ↓q_add_tup, ↓q_sub_int, ↓q_mul_int, ↓q_mul_lst, ↓q_mul_tup, ↓q_fdiv_int, ↓q_mod_int, ↓q_pow_int, ↓q_bint, ↓q_bintb, ↓q_blenl, ↓q_blent, ↓q_blens, ↓q_bstri, ↓q_bstrs, ↓q_blistl, ↓q_blistt, ↓q_btupl, ↓q_btupt, ↓q_bmin, ↓q_bmax, ↓q_fmts, ↓q_fmti, ↓q_asg, ↓q_parS, ↓q_put, ↓q_ex, ↓q_iff, ↓q_for, ↓q_retV, ↓q_rcst, ↓q_rtup, ↓q_rlst, ↓q_rbin, ↓q_rcmp, ↓q_rneg, ↓q_rnt, ↓q_ran, ↓q_rorr, ↓q_rite, ↓q_ridx, ↓q_rslc, ↓q_rrev, ↓q_rcall, ↓q_rbi, ↓q_rjoin, ↓q_rlc, ↓q_rfs, ↓q_rdct, ↓q_retN, ↓q_pas, ↓q_brk, ↓q_cnt, ↓q_exs0, ↓q_exs1, q_add_int, q_add_str, q_add_lst, q_add_tup, q_sub_int, q_mul_int, q_mul_lst, q_mul_tup, q_fdiv_int, q_mod_int, q_pow_int, q_bint, q_bintb, q_blenl, q_blent, q_blens, q_bstri, q_bstrs, q_blistl, q_blistt, q_btupl, q_btupt, q_bmin, q_bmax, q_fmts, q_fmti, backG_mk, pushG_mk, wipe_nil, wipe_cons, back_nil, back_cons, noOwn_nil, slots_nm, slots_tp, pv_val, pv_new, slot_val, slot_new, asInt_int, truV_bl, truV_int, cmpV_eq, cmpV_ne, cmpV_lt, cmpV_le, cmpV_gt, cmpV_ge, eqV_int, eqV_str, items_l, items_t, items_f, slcV_lst, slcV_tup, slcV_fz, revV_tup, revV_lst, idxV_lst, idxV_tup, noOwn_cons, at0, at1, at2, at3, Nxt_nx, Nxt_ret, Nxt_brk, Nxt_cnt, Turn_nx, Turn_cnt, Turn_brk, Turn_ret, Fin'_ret, Fin'_nx, List.getElem?_cons_zero, List.getElem?_cons_succ, List.set_cons_zero, List.set_cons_succ, List.getD_cons_zero, List.getD_cons_succ, List.length_cons, List.length_nil, List.map_cons, List.map_nil, List.cons_append, List.nil_append, List.replicate_succ, List.replicate_zero, Option.map_some, Option.some.injEq, Bool.not_true, Bool.not_false, Bool.and_self, Bool.and_true, Bool.true_and, Bool.false_eq_true, Bool.true_eq_false, if_true, if_false, ite_true, ite_false, reduceIte, true_and, and_true, Nat.reduceAdd, Nat.reduceSub, Nat.reduceLT, Nat.reduceLeDiff, Nat.reducePow, Int.reducePow, Int.reduceToNat, Int.reduceLE, Int.reduceLT, Int.reduceNeg, decide_true, decide_false, Ev.sizeLine_eq, rgOk_eq, Nat.lt_add_left_iff_pos, Nat.zero_lt_succ, Nat.succ_pos, Nat.zero_add, true_or, or_true, Nat.reduceMul, Nat.add_zero, Nat.zero_le, Nat.le_refl]
  unfold numsT
  split
  · rename_i hp0
    refine lc_map (f := PV.int) (h := fun i => PV.str ((toString i : String) : Str)) (· = hp) ns [] hp rfl (by ((try simp only [List.length_append, List.length_cons, List.length_nil, List.length_take, List.length_map, List.length_reverse]); omega)) (fun t ht hp' e => ?_) fun hp' e => ?_
    · subst e
      simp only [(h t ht).log, ↓q_ok, ↓q_some, ↓q_cst, ↓q_var, ↓q_tup, ↓q_lst, ↓q_bin, ↓q_cmp, ↓q_neg, ↓q_nt, ↓q_an, ↓q_orr, ↓q_ite, ↓q_idx, ↓q_slc, ↓q_rev, ↓q_call, ↓q_bi, ↓q_join, ↓q_app, ↓q_ext, ↓q_lc, ↓q_fs, ↓q_dct, ↓q_evs0, ↓q_evs1, ↓q_opds0, ↓q_opds1, ↓q_no, ↓q_so, ↓q_it, ↓q_rg1, ↓q_rg2, ↓q_tno, ↓q_tso, ↓q_evf0, ↓q_evf1, ↓q_tnt, ↓q_tan, ↓q_tor, ↓q_tite, ↓q_tvar, ↓q_tcst, ↓q_tcmp, ↓q_tidx, ↓q_tcall, ↓q_tbi, ↓q_tslc, ↓q_ovar, ↓q_ocst, ↓q_otup, ↓q_olst, ↓q_obin, ↓q_ocmp, ↓q_oneg, ↓q_ont, ↓q_oan, ↓q_oorr, ↓q_oite, ↓q_oidx, ↓q_oslc, ↓q_orev, ↓q_ocall, ↓q_obi, ↓q_ojoin, ↓q_olc, ↓q_ofs, ↓q_odct, ↓q_lookv, ↓q_looks, ↓q_peek, ↓q_look0, ↓q_look1, ↓q_set, ↓q_bnm, ↓q_btp, ↓q_sets0, ↓q_sets1, ↓q_par0, ↓q_par1, ↓q_own, ↓q_appV, ↓q_extn, ↓q_extl, ↓q_ixr, ↓q_ixt, ↓q_ixl, ↓q_ixs, ↓q_putG, ↓q_add_int, ↓q_add_str, ↓q_add_lst, ↓q_add_tup, ↓q_sub_int, ↓q_mul_int, ↓q_mul_lst, ↓q_mul_tup, ↓q_fdiv_int, ↓q_mod_int, ↓q_pow_int, ↓q_bint, ↓q_bintb, ↓q_blenl, ↓q_blent, ↓q_blens, ↓q_bstri, ↓q_bstrs, ↓q_blistl, ↓q_blistt, ↓q_btupl, ↓q_btupt, ↓q_bmin, ↓q_bmax, ↓q_fmts, ↓q_fmti, ↓q_asg, ↓q_parS, ↓q_put, ↓q_ex, ↓q_iff, ↓q_for, ↓q_retV, ↓q_rcst, ↓q_rtup, ↓q_rlst, ↓q_rbin, ↓q_rcmp, ↓q_rneg, ↓q_rnt, ↓q_ran, ↓q_rorr, ↓q_rite, ↓q_ridx, ↓q_rslc, ↓q_rrev, ↓q_rcall, ↓q_rbi, ↓q_rjoin, ↓q_rlc, ↓q_rfs, ↓q_rdct, ↓q_retN, ↓q_pas, ↓q_brk, ↓q_cnt, ↓q_exs0, ↓q_exs1, q_add_int, q_add_str, q_add_lst, q_add_tup, q_sub_int, q_mul_int, q_mul_lst, q_mul_tup, q_fdiv_int, q_mod_int, q_pow_int, q_bint, q_bintb, q_blenl, q_blent, q_blens, q_bstri, q_bstrs, q_blistl, q_blistt, q_btupl, q_btupt, q_bmin, q_bmax, q_fmts, q_fmti, backG_mk, pushG_mk, wipe_nil, wipe_cons, back_nil, back_cons, noOwn_nil, slots_nm, slots_tp, pv_val, pv_new, slot_val, slot_new, asInt_int, truV_bl, truV_int, cmpV_eq, cmpV_ne, cmpV_lt, cmpV_le, cmpV_gt, cmpV_ge, eqV_int, eqV_str, items_l, items_t, items_f, slcV_lst, slcV_tup, slcV_fz, revV_tup, revV_lst, idxV_lst, idxV_tup, noOwn_cons, at0, at1, at2, at3, Nxt_nx, Nxt_ret, Nxt_brk, Nxt_cnt, Turn_nx, Turn_cnt, Turn_brk, Turn_ret, Fin'_ret, Fin'_nx, List.getElem?_cons_zero, List.getElem?_cons_succ, List.set_cons_zero, List.set_cons_succ, List.getD_cons_zero, List.getD_cons_succ, List.length_cons, List.length_nil, List.map_cons, List.map_nil, List.cons_append, List.nil_append, List.replicate_succ, List.replicate_zero, Option.map_some, Option.some.injEq, Bool.not_true, Bool.not_false, Bool.and_self, Bool.and_true, Bool.true_and, Bool.false_eq_true, Bool.true_eq_false, if_true, if_false, ite_true, ite_false, reduceIte, true_and, and_true, Nat.reduceAdd, Nat.reduceSub, Nat.reduceLT, Nat.reduceLeDiff, Nat.reducePow, Int.reducePow, Int.reduceToNat, Int.reduceLE, Int.reduceLT, Int.reduceNeg, decide_true, decide_false, Ev.sizeLine_eq, rgOk_eq, Nat.lt_add_left_iff_pos, Nat.zero_lt_succ, Nat.succ_pos, Nat.zero_add, true_or, or_true, Nat.reduceMul, Nat.add_zero, Nat.zero_le, Nat.le_refl]
    · subst e
      simp only [jNums hl h, ↓q_ok, ↓q_some, ↓q_cst, ↓q_var, ↓q_tup, ↓q_lst, ↓q_bin, ↓q_cmp, ↓q_neg, ↓q_nt, ↓q_an, ↓q_orr, ↓q_ite, ↓q_idx, ↓q_slc, ↓q_rev, ↓q_call, ↓q_bi, ↓q_join, ↓q_app, ↓q_ext, ↓q_lc, ↓q_fs, ↓q_dct, ↓q_evs0, ↓q_evs1, ↓q_opds0, ↓q_opds1, ↓q_no, ↓q_so, ↓q_it, ↓q_rg1, ↓q_rg2, ↓q_tno, ↓q_tso, ↓q_evf0, ↓q_evf1, ↓q_tnt, ↓q_tan, ↓q_tor, ↓q_tite, ↓q_tvar, ↓q_tcst, ↓q_tcmp, ↓q_tidx, ↓q_tcall, ↓q_tbi, ↓q_tslc, ↓q_ovar, ↓q_ocst, ↓q_otup, ↓q_olst, ↓q_obin, ↓q_ocmp, ↓q_oneg, ↓q_ont, ↓q_oan, ↓q_oorr, ↓q_oite, ↓q_oidx, ↓q_oslc, ↓q_orev, ↓q_ocall, ↓q_obi, ↓q_ojoin, ↓q_olc, ↓q_ofs, ↓q_odct, ↓q_lookv, ↓q_looks, ↓q_peek, ↓q_look0, ↓q_look1, ↓q_set, ↓q_bnm, ↓q_btp, ↓q_sets0, ↓q_sets1, ↓q_par0, ↓q_par1, ↓q_own, ↓q_appV, ↓q_extn, ↓q_extl, ↓q_ixr, ↓q_ixt, ↓q_ixl, ↓q_ixs, ↓q_putG, ↓q_add_int, ↓q_add_str, ↓q_add_lst, ↓q_add_tup, ↓q_sub_int, ↓q_mul_int, ↓q_mul_lst, ↓q_mul_tup, ↓q_fdiv_int, ↓q_mod_int, ↓q_pow_int, ↓q_bint, ↓q_bintb, ↓q_blenl, ↓q_blent, ↓q_blens, ↓q_bstri, ↓q_bstrs, ↓q_blistl, ↓q_blistt, ↓q_btupl, ↓q_btupt, ↓q_bmin, ↓q_bmax, ↓q_fmts, ↓q_fmti, ↓q_asg, ↓q_parS, ↓q_put, ↓q_ex, ↓q_iff, ↓q_for, ↓q_retV, ↓q_rcst, ↓q_rtup, ↓q_rlst, ↓q_rbin, ↓q_rcmp, ↓q_rneg, ↓q_rnt, ↓q_ran, ↓q_rorr, ↓q_rite, ↓q_ridx, ↓q_rslc, ↓q_rrev, ↓q_rcall, ↓q_rbi, ↓q_rjoin, ↓q_rlc, ↓q_rfs, ↓q_rdct, ↓q_retN, ↓q_pas, ↓q_brk, ↓q_cnt, ↓q_exs0, ↓q_exs1, q_add_int, q_add_str, q_add_lst, q_add_tup, q_sub_int, q_mul_int, q_mul_lst, q_mul_tup, q_fdiv_int, q_mod_int, q_pow_int, q_bint, q_bintb, q_blenl, q_blent, q_blens, q_bstri, q_bstrs, q_blistl, q_blistt, q_btupl, q_btupt, q_bmin, q_bmax, q_fmts, q_fmti, backG_mk, pushG_mk, wipe_nil, wipe_cons, back_nil, back_cons, noOwn_nil, slots_nm, slots_tp, pv_val, pv_new, slot_val, slot_new, asInt_int, truV_bl, truV_int, cmpV_eq, cmpV_ne, cmpV_lt, cmpV_le, cmpV_gt, cmpV_ge, eqV_int, eqV_str, items_l, items_t, items_f, slcV_lst, slcV_tup, slcV_fz, revV_tup, revV_lst, idxV_lst, idxV_tup, noOwn_cons, at0, at1, at2, at3, Nxt_nx, Nxt_ret, Nxt_brk, Nxt_cnt, Turn_nx, Turn_cnt, Turn_brk, Turn_ret, Fin'_ret, Fin'_nx, List.getElem?_cons_zero, List.getElem?_cons_succ, List.set_cons_zero, List.set_cons_succ, List.getD_cons_zero, List.getD_cons_succ, List.length_cons, List.length_nil, List.map_cons, List.map_nil, List.cons_append, List.nil_append, List.replicate_succ, List.replicate_zero, Option.map_some, Option.some.injEq, Bool.not_true, Bool.not_false, Bool.and_self, Bool.and_true, Bool.true_and, Bool.false_eq_true, Bool.true_eq_false, if_true, if_false, ite_true, ite_false, reduceIte, true_and, and_true, Nat.reduceAdd, Nat.reduceSub, Nat.reduceLT, Nat.reduceLeDiff, Nat.reducePow, Int.reducePow, Int.reduceToNat, Int.reduceLE, Int.reduceLT, Int.reduceNeg, decide_true, decide_false, Ev.sizeLine_eq, rgOk_eq, Nat.lt_add_left_iff_pos, Nat.zero_lt_succ, Nat.succ_pos, Nat.zero_add, true_or, or_true, Nat.reduceMul, Nat.add_zero, Nat.zero_le, Nat.le_refl]
      rw [if_neg]
      intro q
      cases ns with
      | nil => simp at hp0
      | cons _ _ => cases q
  · rename_i hp0
    have : ns = [] := by
      cases ns with
      | nil => rfl
      | cons _ _ => exact absurd (by simp) hp0
    subst this
    rfl
theorem jTask {ps : List Str} {k : Nat} (hl : ps.length ≤ k) (hk : k ≤ 100) (h : ∀ w ∈ ps, Tx 12 w) : joinV (.str " ") (.tup (ps.map PV.str)) = some (.str (Txt.join " " ps)) := join_t (s := " ") (m := 1) (n := 12) (Tx.by (by decide +kernel)) h hl (by omega)
theorem task_ok (k : Nat) {hp : List Cell} {ws : List Str} (hl : ws.length ≤ 3) (h : ∀ w ∈ ws, Tx 12 w) : Gives (run (calls table k) d_task_text [.tup (ws.map PV.str)] hp) fun x hp' => x = .val (.str (Txt.join " " ws)) ∧ hp' = hp := by
  refine gives_run rfl ?_
  simp only [d_task_text, jTask hl (by decide) h, ↓q_ok, ↓q_some, ↓q_cst, ↓q_var, ↓q_tup, ↓q_lst, ↓q_bin, ↓q_cmp, ↓q_neg, ↓q_nt, ↓q_an, ↓q_orr, ↓q_ite, ↓q_idx, ↓q_slc, ↓q_rev, ↓q_call, ↓q_bi, ↓q_join, ↓q_app, ↓q_ext, ↓q_lc, ↓q_fs, ↓q_dct, ↓q_evs0, ↓q_evs1, ↓q_opds0, ↓q_opds1, ↓q_no, ↓q_so, ↓q_it, ↓q_rg1, ↓q_rg2, ↓q_tno, ↓q_tso, ↓q_evf0, ↓q_evf1, ↓q_tnt, ↓q_tan, ↓q_tor, ↓q_tite, ↓q_tvar, ↓q_tcst, ↓q_tcmp, ↓q_tidx, ↓q_tcall, ↓q_tbi, ↓q_tslc, ↓q_ovar, ↓q_ocst, ↓q_otup, ↓q_olst, ↓q_obin, ↓q_ocmp, ↓q_oneg, ↓q_ont, ↓q_oan, ↓q_oorr, ↓q_oite, ↓q_oidx, ↓q_oslc, ↓q_orev, ↓q_ocall, ↓q_obi, ↓q_ojoin, ↓q_olc, ↓q_ofs, ↓q_odct, ↓q_lookv, ↓q_looks, ↓q_peek, ↓q_look0, ↓q_look1, ↓q_set, ↓q_bnm, ↓q_btp, ↓q_sets0, ↓q_sets1, ↓q_par0, ↓q_par1, ↓q_own, ↓q_appV, ↓q_extn, ↓q_extl, ↓q_ixr, ↓q_ixt, ↓q_ixl, ↓q_ixs, ↓q_putG, ↓q_add_int, ↓q_add_str, ↓q_add_lst, ↓q_add_tup, ↓q_sub_int, ↓q_mul_int, ↓q_mul_lst, ↓q_mul_tup, ↓q_fdiv_int, ↓q_mod_int, ↓q_pow_int, ↓q_bint, ↓q_bintb, ↓q_blenl, ↓q_blent, ↓q_blens, ↓q_bstri, ↓q_bstrs, ↓q_blistl, ↓q_blistt, ↓q_btupl, ↓q_btupt, ↓q_bmin, ↓q_bmax, ↓q_fmts, ↓q_fmti, ↓q_asg, ↓q_parS, ↓q_put, ↓q_ex, ↓q_iff, ↓q_for, ↓q_retV, ↓q_rcst, ↓q_rtup, ↓q_rlst, ↓q_rbin, ↓q_rcmp, ↓q_rneg, ↓q_rnt, ↓q_ran, ↓q_rorr, ↓q_rite, ↓q_ridx, ↓q_rslc, ↓q_rrev, ↓q_rcall, ↓q_rbi, ↓q_rjoin, ↓q_rlc, ↓q_rfs, ↓q_rdct, ↓q_retN, ↓q_pas, ↓q_brk, ↓q_cnt, ↓q_exs0, ↓q_exs1, q_add_int, q_add_str, q_add_lst, q_add_tup, q_sub_int, q_mul_int, q_mul_lst, q_mul_tup, q_fdiv_int, q_mod_int, q_pow_int, q_bint, q_bintb, q_blenl, q_blent, q_blens, q_bstri, q_bstrs, q_blistl, q_blistt, q_btupl, q_btupt, q_bmin, q_bmax, q_fmts, q_fmti, backG_mk, pushG_mk, wipe_nil, wipe_cons, back_nil, back_cons, noOwn_nil, slots_nm, slots_tp, pv_val, pv_new, slot_val, slot_new, asInt_int, truV_bl, truV_int, cmpV_eq, cmpV_ne, cmpV_lt, cmpV_le, cmpV_gt, cmpV_ge, eqV_int, eqV_str, items_l, items_t, items_f, slcV_lst, slcV_tup, slcV_fz, revV_tup, revV_lst, idxV_lst, idxV_tup, noOwn_cons, at0, at1, at2, at3, Nxt_nx, Nxt_ret, Nxt_brk, Nxt_cnt, Turn_nx, Turn_cnt, Turn_brk, Turn_ret, Fin'_ret, Fin'_nx, List.getElem?_cons_zero, List.getElem?_cons_succ, List.set_cons_zero, List.set_cons_succ, List.getD_cons_zero, List.getD_cons_succ, List.length_cons, List.length_nil, List.map_cons, List.map_nil, List.cons_append, List.nil_append, List.replicate_succ, List.replicate_zero, Option.map_some, Option.some.injEq, Bool.not_true, Bool.not_false, Bool.and_self, Bool.and_true, Bool.true_and, Bool.false_eq_true, Bool.true_eq_false, if_true, if_false, ite_true, ite_false, reduceIte, true_and, and_true, Nat.reduceAdd, Nat.reduceSub, Nat.reduceLT, Nat.reduceLeDiff, Nat.reducePow, Int.reducePow, Int.reduceToNat, Int.reduceLE, Int.reduceLT, Int.reduceNeg, decide_true, decide_false, Ev.sizeLine_eq, rgOk_eq, Nat.lt_add_left_iff_pos, Nat.zero_lt_succ, Nat.succ_pos, Nat.zero_add, true_or, or_true, Nat.reduceMul, Nat.add_zero, Nat.zero_le, Nat.le_refl]
end K09
namespace K09
open PySem Ev
def numP : PV → Bool
  | .int i => decide (i.natAbs.log2 < 1920) && txB 60 ((toString i : String) : Str)
  | _ => false
theorem numP_of {L : List PV} {v : PV} (h : L.all numP = true) (m : v ∈ L) : ∃ n, v = .int n ∧ NumOk n := by
  have := List.all_eq_true.mp h v m
  unfold numP at this
  split at this
  · simp only [Bool.and_eq_true] at this
    exact ⟨_, rfl, of_decide_eq_true this.1, Tx.by this.2⟩
  · cases this
def sortP : PV → Bool
  | .tup [.str s, .int m] => txB 12 s && decide (1 ≤ m ∧ m ≤ 2)
  | _ => false
theorem sortP_of {L : List PV} {v : PV} (h : L.all sortP = true) (m : v ∈ L) : ∃ s n, v = .tup [.str s, .int n] ∧ Tx 12 s ∧ 1 ≤ n ∧ n ≤ 2 := by
  have := List.all_eq_true.mp h v m
  unfold sortP at this
  split at this
  · simp only [Bool.and_eq_true, decide_eq_true_eq] at this
    exact ⟨_, _, rfl, Tx.by this.1, this.2.1, this.2.2⟩
  · cases this
theorem fit_nums {ns : List Int} (hl : ns.length ≤ 11) (h : ∀ n ∈ ns, NumOk n) : Fit 1 685 (.tup (ns.map PV.int)) :=
  (Fit.tup (n := 11) (Fits.of (d := 0) (b := 60) fun v hv => by
    obtain ⟨t, ht, rfl⟩ := List.mem_map.mp hv
    exact Fit.int (h t ht).log (h t ht).tx.len) (by simpa using hl)).mono (by omega) (by omega)
theorem rep2 {n : Nat} {x : Str} (h : Tx n x) (hn : n ≤ 10000) : biV .repr [.lst [.str x, .str x]] = some (.val (.str (PV.lst [.str x, .str x]).d.shown)) := by
  have hs : Fit 0 40002 (.str x) := (Fit.str (d := 0) h).mono (by omega) (by omega)
  exact (Fit.lst (.cons hs (.cons hs .nil)) (n := 2) (by simp)).repr rfl (by decide) (by decide)
theorem jTaskL {ps : List Str} {k : Nat} (hl : ps.length ≤ k) (hk : k ≤ 100) (h : ∀ w ∈ ps, Tx 12 w) : joinV (.str " ") (.lst (ps.map PV.str)) = some (.str (Txt.join " " ps)) := jTask hl hk h
theorem words_right_ok (k : Nat) {hp : List Cell} (F : Fd hp) : Gives (calls table (k + 4) 4 [.ref 0] [] hp) fun x hp' => x = .val (.bl true) ∧ Fd hp' := by
  refine gives_run (c := calls table (k + 3)) (d := d_l_are_words_right) (as := [.ref 0]) rfl ?_
  simp only [d_l_are_words_right, ↓q_ok, ↓q_some, ↓q_cst, ↓q_var, ↓q_tup, ↓q_lst, ↓q_bin, ↓q_cmp, ↓q_neg, ↓q_nt, ↓q_an, ↓q_orr, ↓q_ite, ↓q_idx, ↓q_slc, ↓q_rev, ↓q_call, ↓q_bi, ↓q_join, ↓q_app, ↓q_ext, ↓q_lc, ↓q_fs, ↓q_dct, ↓q_evs0, ↓q_evs1, ↓q_opds0, ↓q_opds1, ↓q_no, ↓q_so, ↓q_it, ↓q_rg1, ↓q_rg2, ↓q_tno, ↓q_tso, ↓q_evf0, ↓q_evf1, ↓q_tnt, ↓q_tan, ↓q_tor, ↓q_tite, ↓q_tvar, ↓q_tcst, ↓q_tcmp, ↓q_tidx, ↓q_tcall, ↓q_tbi, ↓q_tslc, ↓q_ovar, ↓q_ocst, ↓q_otup, ↓q_olst, ↓q_obin, ↓q_ocmp, ↓q_oneg, ↓q_ont, ↓q_oan, ↓q_oorr, ↓q_oite, ↓q_oidx, ↓q_oslc, ↓q_orev, ↓q_ocall, ↓q_obi, ↓q_ojoin, ↓q_olc, ↓q_ofs, ↓q_odct, ↓q_lookv, ↓q_looks, ↓q_peek, ↓q_look0, ↓q_look1, ↓q_set, ↓q_bnm, ↓q_btp, ↓q_sets0, ↓q_sets1, ↓q_par0, ↓q_par1, ↓q_own, ↓q_appV, ↓q_extn, ↓q_extl, ↓q_ixr, ↓q_ixt, ↓q_ixl, ↓q_ixs, ↓q_putG, ↓q_add_int, ↓q_add_str, ↓q_add_lst, ↓q_add_tup, ↓q_sub_int, ↓q_mul_int, ↓q_mul_lst, ↓q_mul_tup, ↓q_fdiv_int, ↓q_mod_int, ↓q_pow_int, ↓q_bint, ↓q_bintb, ↓q_blenl, ↓q_blent, ↓q_blens, ↓q_bstri, ↓q_bstrs, ↓q_blistl, ↓q_blistt, ↓q_btupl, ↓q_btupt, ↓q_bmin, ↓q_bmax, ↓q_fmts, ↓q_fmti, ↓q_asg, ↓q_parS, ↓q_put, ↓q_ex, ↓q_iff, ↓q_for, ↓q_retV, ↓q_rcst, ↓q_rtup, ↓q_rlst, ↓q_rbin, ↓q_rcmp, ↓q_rneg, ↓q_rnt, ↓q_ran, ↓q_rorr, ↓q_rite, ↓q_ridx, ↓q_rslc, ↓q_rrev, ↓q_rcall, ↓q_rbi, ↓q_rjoin, ↓q_rlc, ↓q_rfs, ↓q_rdct, ↓q_retN, ↓q_pas, ↓q_brk, ↓q_cnt, ↓q_exs0, ↓q_exs1, q_add_int, q_add_str, q_add_lst, q_add_tup, q_sub_int, q_mul_int, q_mul_lst, q_mul_tup, q_fdiv_int, q_mod_int, q_pow_int, q_bint, q_bintb, q_blenl, q_blent, q_blens, q_bstri, q_bstrs, q_blistl, q_blistt, q_btupl, q_btupt, q_bmin, q_bmax, q_fmts, q_fmti, backG_mk, pushG_mk, wipe_nil, wipe_cons, back_nil, back_cons, noOwn_nil, slots_nm, slots_tp, pv_val, pv_new, slot_val, slot_new, asInt_int, truV_bl, truV_int, cmpV_eq, cmpV_ne, cmpV_lt, cmpV_le, cmpV_gt, cmpV_ge, eqV_int, eqV_str, items_l, items_t, items_f, slcV_lst, slcV_tup, slcV_fz, revV_tup, revV_lst, idxV_lst, idxV_tup, noOwn_cons, at0, at1, at2, at3, Nxt_nx, Nxt_ret, Nxt_brk, Nxt_cnt, Turn_nx, Turn_cnt, Turn_brk, Turn_ret, Fin'_ret, Fin'_nx, List.getElem?_cons_zero, List.getElem?_cons_succ, List.set_cons_zero, List.set_cons_succ, List.getD_cons_zero, List.getD_cons_succ, List.length_cons, List.length_nil, List.map_cons, List.map_nil, List.cons_append, List.nil_append, List.replicate_succ, List.replicate_zero, Option.map_some, Option.some.injEq, Bool.not_true, Bool.not_false, Bool.and_self, Bool.and_true, Bool.true_and, Bool.false_eq_true, Bool.true_eq_false, if_true, if_false, ite_true, ite_false, reduceIte, true_and, and_true, Nat.reduceAdd, Nat.reduceSub, Nat.reduceLT, Nat.reduceLeDiff, Nat.reducePow, Int.reducePow, Int.reduceToNat, Int.reduceLE, Int.reduceLT, Int.reduceNeg, decide_true, decide_false, Ev.sizeLine_eq, rgOk_eq, Nat.lt_add_left_iff_pos, Nat.zero_lt_succ, Nat.succ_pos, Nat.zero_add, true_or, or_true, Nat.reduceMul, Nat.add_zero, Nat.zero_le, Nat.le_refl]
  repeat (refine ⟨by omega, ?_⟩)
  refine Ok_callW (draw_ok (k + 2) F (by omega) (by omega)) fun r hp1 ⟨F1, n, hr, n0, n1⟩ => ?_
  subst hr
  simp only [↓q_ok, ↓q_some, ↓q_cst, ↓q_var, ↓q_tup, ↓q_lst, ↓q_bin, ↓q_cmp, ↓q_neg, ↓q_nt, ↓q_an, ↓q_orr, ↓q_ite, ↓q_idx, ↓q_slc, ↓q_rev, ↓q_call, ↓q_bi, ↓q_join, ↓q_app, ↓q_ext, ↓q_lc, ↓q_fs, ↓q_dct, ↓q_evs0, ↓q_evs1, ↓q_opds0, ↓q_opds1, ↓q_no, ↓q_so, ↓q_it, ↓q_rg1, ↓q_rg2, ↓q_tno, ↓q_tso, ↓q_evf0, ↓q_evf1, ↓q_tnt, ↓q_tan, ↓q_tor, ↓q_tite, ↓q_tvar, ↓q_tcst, ↓q_tcmp, ↓q_tidx, ↓q_tcall, ↓q_tbi, ↓q_tslc, ↓q_ovar, ↓q_ocst, ↓q_otup, ↓q_olst, ↓q_obin, ↓q_ocmp, ↓q_oneg, ↓q_ont, ↓q_oan, ↓q_oorr, ↓q_oite, ↓q_oidx, ↓q_oslc, ↓q_orev, ↓q_ocall, ↓q_obi, ↓q_ojoin, ↓q_olc, ↓q_ofs, ↓q_odct, ↓q_lookv, ↓q_looks, ↓q_peek, ↓q_look0, ↓q_look1, ↓q_set, ↓q_bnm, ↓q_btp, ↓q_sets0, ↓q_sets1, ↓q_par0, ↓q_par1, ↓q_own, ↓q_appV, ↓q_extn, ↓q_extl, ↓q_ixr, ↓q_ixt, ↓q_ixl, ↓q_ixs, ↓q_putG, ↓q_add_int, ↓q_add_str, ↓q_add_lst, ↓q_add_tup, ↓q_sub_int, ↓q_mul_int, ↓q_mul_lst, ↓q_mul_tup, ↓q_fdiv_int, ↓q_mod_int, ↓q_pow_int, ↓q_bint, ↓q_bintb, ↓q_blenl, ↓q_blent, ↓q_blens, ↓q_bstri, ↓q_bstrs, ↓q_blistl, ↓q_blistt, ↓q_btupl, ↓q_btupt, ↓q_bmin, ↓q_bmax, ↓q_fmts, ↓q_fmti, ↓q_asg, ↓q_parS, ↓q_put, ↓q_ex, ↓q_iff, ↓q_for, ↓q_retV, ↓q_rcst, ↓q_rtup, ↓q_rlst, ↓q_rbin, ↓q_rcmp, ↓q_rneg, ↓q_rnt, ↓q_ran, ↓q_rorr, ↓q_rite, ↓q_ridx, ↓q_rslc, ↓q_rrev, ↓q_rcall, ↓q_rbi, ↓q_rjoin, ↓q_rlc, ↓q_rfs, ↓q_rdct, ↓q_retN, ↓q_pas, ↓q_brk, ↓q_cnt, ↓q_exs0, ↓q_exs1, q_add_int, q_add_str, q_add_lst, q_add_tup, q_sub_int, q_mul_int, q_mul_lst, q_mul_tup, q_fdiv_int, q_mod_int, q_pow_int, q_bint, q_bintb, q_blenl, q_blent, q_blens, q_bstri, q_bstrs, q_blistl, q_blistt, q_btupl, q_btupt, q_bmin, q_bmax, q_fmts, q_fmti, backG_mk, pushG_mk, wipe_nil, wipe_cons, back_nil, back_cons, noOwn_nil, slots_nm, slots_tp, pv_val, pv_new, slot_val, slot_new, asInt_int, truV_bl, truV_int, cmpV_eq, cmpV_ne, cmpV_lt, cmpV_le, cmpV_gt, cmpV_ge, eqV_int, eqV_str, items_l, items_t, items_f, slcV_lst, slcV_tup, slcV_fz, revV_tup, revV_lst, idxV_lst, idxV_tup, noOwn_cons, at0, at1, at2, at3, Nxt_nx, Nxt_ret, Nxt_brk, Nxt_cnt, Turn_nx, Turn_cnt, Turn_brk, Turn_ret, Fin'_ret, Fin'_nx, List.getElem?_cons_zero, List.getElem?_cons_succ, List.set_cons_zero, List.set_cons_succ, List.getD_cons_zero, List.getD_cons_succ, List.length_cons, List.length_nil, List.map_cons, List.map_nil, List.cons_append, List.nil_append, List.replicate_succ, List.replicate_zero, Option.map_some, Option.some.injEq, Bool.not_true, Bool.not_false, Bool.and_self, Bool.and_true, Bool.true_and, Bool.false_eq_true, Bool.true_eq_false, if_true, if_false, ite_true, ite_false, reduceIte, true_and, and_true, Nat.reduceAdd, Nat.reduceSub, Nat.reduceLT, Nat.reduceLeDiff, Nat.reducePow, Int.reducePow, Int.reduceToNat, Int.reduceLE, Int.reduceLT, Int.reduceNeg, decide_true, decide_false, Ev.sizeLine_eq, rgOk_eq, Nat.lt_add_left_iff_pos, Nat.zero_lt_succ, Nat.succ_pos, Nat.zero_add, true_or, or_true, Nat.reduceMul, Nat.add_zero, Nat.zero_le, Nat.le_refl]
  refine ⟨by omega, ?_⟩
  refine lc_up (β := Slot) (fun b sl => sl.set 1 b) (fun i b hp => Fd hp ∧ ∃ S, S.all numP = true ∧ 1 ≤ S.length ∧ S.length ≤ 200 ∧ (b = .own S ∨ b = .val (.lst S))) (fun _ y => ∃ n, y = PV.int n ∧ NumOk n) (.own _) rfl ⟨F1, _, by decide +kernel, by decide, by decide, .inl rfl⟩ ?_
    (fun i x b hp hx ⟨F, S, hS, s1, s2, hb⟩ => ?_) fun ys b hp2 ⟨F2, S, hS, s1, s2, hb⟩ e => ?_
  · rw [rg_len]
    omega
  · rcases hb with rfl | rfl
    all_goals
      simp only [↓q_ok, ↓q_some, ↓q_cst, ↓q_var, ↓q_tup, ↓q_lst, ↓q_bin, ↓q_cmp, ↓q_neg, ↓q_nt, ↓q_an, ↓q_orr, ↓q_ite, ↓q_idx, ↓q_slc, ↓q_rev, ↓q_call, ↓q_bi, ↓q_join, ↓q_app, ↓q_ext, ↓q_lc, ↓q_fs, ↓q_dct, ↓q_evs0, ↓q_evs1, ↓q_opds0, ↓q_opds1, ↓q_no, ↓q_so, ↓q_it, ↓q_rg1, ↓q_rg2, ↓q_tno, ↓q_tso, ↓q_evf0, ↓q_evf1, ↓q_tnt, ↓q_tan, ↓q_tor, ↓q_tite, ↓q_tvar, ↓q_tcst, ↓q_tcmp, ↓q_tidx, ↓q_tcall, ↓q_tbi, ↓q_tslc, ↓q_ovar, ↓q_ocst, ↓q_otup, ↓q_olst, ↓q_obin, ↓q_ocmp, ↓q_oneg, ↓q_ont, ↓q_oan, ↓q_oorr, ↓q_oite, ↓q_oidx, ↓q_oslc, ↓q_orev, ↓q_ocall, ↓q_obi, ↓q_ojoin, ↓q_olc, ↓q_ofs, ↓q_odct, ↓q_lookv, ↓q_looks, ↓q_peek, ↓q_look0, ↓q_look1, ↓q_set, ↓q_bnm, ↓q_btp, ↓q_sets0, ↓q_sets1, ↓q_par0, ↓q_par1, ↓q_own, ↓q_appV, ↓q_extn, ↓q_extl, ↓q_ixr, ↓q_ixt, ↓q_ixl, ↓q_ixs, ↓q_putG, ↓q_add_int, ↓q_add_str, ↓q_add_lst, ↓q_add_tup, ↓q_sub_int, ↓q_mul_int, ↓q_mul_lst, ↓q_mul_tup, ↓q_fdiv_int, ↓q_mod_int, ↓q_pow_int, ↓q_bint, ↓q_bintb, ↓q_blenl, ↓q_blent, ↓q_blens, ↓q_bstri, ↓q_bstrs, ↓q_blistl, ↓q_blistt, ↓q_btupl, ↓q_btupt, ↓q_bmin, ↓q_bmax, ↓q_fmts, ↓q_fmti, ↓q_asg, ↓q_parS, ↓q_put, ↓q_ex, ↓q_iff, ↓q_for, ↓q_retV, ↓q_rcst, ↓q_rtup, ↓q_rlst, ↓q_rbin, ↓q_rcmp, ↓q_rneg, ↓q_rnt, ↓q_ran, ↓q_rorr, ↓q_rite, ↓q_ridx, ↓q_rslc, ↓q_rrev, ↓q_rcall, ↓q_rbi, ↓q_rjoin, ↓q_rlc, ↓q_rfs, ↓q_rdct, ↓q_retN, ↓q_pas, ↓q_brk, ↓q_cnt, ↓q_exs0, ↓q_exs1, q_add_int, q_add_str, q_add_lst, q_add_tup, q_sub_int, q_mul_int, q_mul_lst, q_mul_tup, q_fdiv_int, q_mod_int, q_pow_int, q_bint, q_bintb, q_blenl, q_blent, q_blens, q_bstri, q_bstrs, q_blistl, q_blistt, q_btupl, q_btupt, q_bmin, q_bmax, q_fmts, q_fmti, backG_mk, pushG_mk, wipe_nil, wipe_cons, back_nil, back_cons, noOwn_nil, slots_nm, slots_tp, pv_val, pv_new, slot_val, slot_new, asInt_int, truV_bl, truV_int, cmpV_eq, cmpV_ne, cmpV_lt, cmpV_le, cmpV_gt, cmpV_ge, eqV_int, eqV_str, items_l, items_t, items_f, slcV_lst, slcV_tup, slcV_fz, revV_tup, revV_lst, idxV_lst, idxV_tup, noOwn_cons, at0, at1, at2, at3, Nxt_nx, Nxt_ret, Nxt_brk, Nxt_cnt, Turn_nx, Turn_cnt, Turn_brk, Turn_ret, Fin'_ret, Fin'_nx, List.getElem?_cons_zero, List.getElem?_cons_succ, List.set_cons_zero, List.set_cons_succ, List.getD_cons_zero, List.getD_cons_succ, List.length_cons, List.length_nil, List.map_cons, List.map_nil, List.cons_append, List.nil_append, List.replicate_succ, List.replicate_zero, Option.map_some, Option.some.injEq, Bool.not_true, Bool.not_false, Bool.and_self, Bool.and_true, Bool.true_and, Bool.false_eq_true, Bool.true_eq_false, if_true, if_false, ite_true, ite_false, reduceIte, true_and, and_true, Nat.reduceAdd, Nat.reduceSub, Nat.reduceLT, Nat.reduceLeDiff, Nat.reducePow, Int.reducePow, Int.reduceToNat, Int.reduceLE, Int.reduceLT, Int.reduceNeg, decide_true, decide_false, Ev.sizeLine_eq, rgOk_eq, Nat.lt_add_left_iff_pos, Nat.zero_lt_succ, Nat.succ_pos, Nat.zero_add, true_or, or_true, Nat.reduceMul, Nat.add_zero, Nat.zero_le, Nat.le_refl]
      refine Ok_callW (any_ok (k + 1) F (by ((try simp only [List.length_append, List.length_cons, List.length_nil, List.length_take, List.length_map, List.length_reverse]); omega)) (by ((try simp only [List.length_append, List.length_cons, List.length_nil, List.length_take, List.length_map, List.length_reverse]); omega))) fun r hp3 ⟨F3, y, hy, hr⟩ => ?_
      subst hr
      simp only [↓q_ok, ↓q_some, ↓q_cst, ↓q_var, ↓q_tup, ↓q_lst, ↓q_bin, ↓q_cmp, ↓q_neg, ↓q_nt, ↓q_an, ↓q_orr, ↓q_ite, ↓q_idx, ↓q_slc, ↓q_rev, ↓q_call, ↓q_bi, ↓q_join, ↓q_app, ↓q_ext, ↓q_lc, ↓q_fs, ↓q_dct, ↓q_evs0, ↓q_evs1, ↓q_opds0, ↓q_opds1, ↓q_no, ↓q_so, ↓q_it, ↓q_rg1, ↓q_rg2, ↓q_tno, ↓q_tso, ↓q_evf0, ↓q_evf1, ↓q_tnt, ↓q_tan, ↓q_tor, ↓q_tite, ↓q_tvar, ↓q_tcst, ↓q_tcmp, ↓q_tidx, ↓q_tcall, ↓q_tbi, ↓q_tslc, ↓q_ovar, ↓q_ocst, ↓q_otup, ↓q_olst, ↓q_obin, ↓q_ocmp, ↓q_oneg, ↓q_ont, ↓q_oan, ↓q_oorr, ↓q_oite, ↓q_oidx, ↓q_oslc, ↓q_orev, ↓q_ocall, ↓q_obi, ↓q_ojoin, ↓q_olc, ↓q_ofs, ↓q_odct, ↓q_lookv, ↓q_looks, ↓q_peek, ↓q_look0, ↓q_look1, ↓q_set, ↓q_bnm, ↓q_btp, ↓q_sets0, ↓q_sets1, ↓q_par0, ↓q_par1, ↓q_own, ↓q_appV, ↓q_extn, ↓q_extl, ↓q_ixr, ↓q_ixt, ↓q_ixl, ↓q_ixs, ↓q_putG, ↓q_add_int, ↓q_add_str, ↓q_add_lst, ↓q_add_tup, ↓q_sub_int, ↓q_mul_int, ↓q_mul_lst, ↓q_mul_tup, ↓q_fdiv_int, ↓q_mod_int, ↓q_pow_int, ↓q_bint, ↓q_bintb, ↓q_blenl, ↓q_blent, ↓q_blens, ↓q_bstri, ↓q_bstrs, ↓q_blistl, ↓q_blistt, ↓q_btupl, ↓q_btupt, ↓q_bmin, ↓q_bmax, ↓q_fmts, ↓q_fmti, ↓q_asg, ↓q_parS, ↓q_put, ↓q_ex, ↓q_iff, ↓q_for, ↓q_retV, ↓q_rcst, ↓q_rtup, ↓q_rlst, ↓q_rbin, ↓q_rcmp, ↓q_rneg, ↓q_rnt, ↓q_ran, ↓q_rorr, ↓q_rite, ↓q_ridx, ↓q_rslc, ↓q_rrev, ↓q_rcall, ↓q_rbi, ↓q_rjoin, ↓q_rlc, ↓q_rfs, ↓q_rdct, ↓q_retN, ↓q_pas, ↓q_brk, ↓q_cnt, ↓q_exs0, ↓q_exs1, q_add_int, q_add_str, q_add_lst, q_add_tup, q_sub_int, q_mul_int, q_mul_lst, q_mul_tup, q_fdiv_int, q_mod_int, q_pow_int, q_bint, q_bintb, q_blenl, q_blent, q_blens, q_bstri, q_bstrs, q_blistl, q_blistt, q_btupl, q_btupt, q_bmin, q_bmax, q_fmts, q_fmti, backG_mk, pushG_mk, wipe_nil, wipe_cons, back_nil, back_cons, noOwn_nil, slots_nm, slots_tp, pv_val, pv_new, slot_val, slot_new, asInt_int, truV_bl, truV_int, cmpV_eq, cmpV_ne, cmpV_lt, cmpV_le, cmpV_gt, cmpV_ge, eqV_int, eqV_str, items_l, items_t, items_f, slcV_lst, slcV_tup, slcV_fz, revV_tup, revV_lst, idxV_lst, idxV_tup, noOwn_cons, at0, at1, at2, at3, Nxt_nx, Nxt_ret, Nxt_brk, Nxt_cnt, Turn_nx, Turn_cnt, Turn_brk, Turn_ret, Fin'_ret, Fin'_nx, List.getElem?_cons_zero, List.getElem?_cons_succ, List.set_cons_zero, List.set_cons_succ, List.getD_cons_zero, List.getD_cons_succ, List.length_cons, List.length_nil, List.map_cons, List.map_nil, List.cons_append, List.nil_append, List.replicate_succ, List.replicate_zero, Option.map_some, Option.some.injEq, Bool.not_true, Bool.not_false, Bool.and_self, Bool.and_true, Bool.true_and, Bool.false_eq_true, Bool.true_eq_false, if_true, if_false, ite_true, ite_false, reduceIte, true_and, and_true, Nat.reduceAdd, Nat.reduceSub, Nat.reduceLT, Nat.reduceLeDiff, Nat.reducePow, Int.reducePow, Int.reduceToNat, Int.reduceLE, Int.reduceLT, Int.reduceNeg, decide_true, decide_false, Ev.sizeLine_eq, rgOk_eq, Nat.lt_add_left_iff_pos, Nat.zero_lt_succ, Nat.succ_pos, Nat.zero_add, true_or, or_true, Nat.reduceMul, Nat.add_zero, Nat.zero_le, Nat.le_refl]
      exact ⟨numP_of hS hy, _, rfl, F3, S, hS, s1, s2, .inr rfl⟩
  · obtain ⟨ns, rfl, hl, hns⟩ := e.map fun x y h => h
    rw [rg_len] at hl
    have hl : ns.length ≤ 11 := by omega
    have he : (ns.map PV.int).isEmpty = ns.isEmpty := by cases ns <;> rfl
    have hrp := rep2 (numsT_tx hl hns) (by decide)
    simp only [(fit_nums hl hns).eq_t (by decide), he, ↓q_ok, ↓q_some, ↓q_cst, ↓q_var, ↓q_tup, ↓q_lst, ↓q_bin, ↓q_cmp, ↓q_neg, ↓q_nt, ↓q_an, ↓q_orr, ↓q_ite, ↓q_idx, ↓q_slc, ↓q_rev, ↓q_call, ↓q_bi, ↓q_join, ↓q_app, ↓q_ext, ↓q_lc, ↓q_fs, ↓q_dct, ↓q_evs0, ↓q_evs1, ↓q_opds0, ↓q_opds1, ↓q_no, ↓q_so, ↓q_it, ↓q_rg1, ↓q_rg2, ↓q_tno, ↓q_tso, ↓q_evf0, ↓q_evf1, ↓q_tnt, ↓q_tan, ↓q_tor, ↓q_tite, ↓q_tvar, ↓q_tcst, ↓q_tcmp, ↓q_tidx, ↓q_tcall, ↓q_tbi, ↓q_tslc, ↓q_ovar, ↓q_ocst, ↓q_otup, ↓q_olst, ↓q_obin, ↓q_ocmp, ↓q_oneg, ↓q_ont, ↓q_oan, ↓q_oorr, ↓q_oite, ↓q_oidx, ↓q_oslc, ↓q_orev, ↓q_ocall, ↓q_obi, ↓q_ojoin, ↓q_olc, ↓q_ofs, ↓q_odct, ↓q_lookv, ↓q_looks, ↓q_peek, ↓q_look0, ↓q_look1, ↓q_set, ↓q_bnm, ↓q_btp, ↓q_sets0, ↓q_sets1, ↓q_par0, ↓q_par1, ↓q_own, ↓q_appV, ↓q_extn, ↓q_extl, ↓q_ixr, ↓q_ixt, ↓q_ixl, ↓q_ixs, ↓q_putG, ↓q_add_int, ↓q_add_str, ↓q_add_lst, ↓q_add_tup, ↓q_sub_int, ↓q_mul_int, ↓q_mul_lst, ↓q_mul_tup, ↓q_fdiv_int, ↓q_mod_int, ↓q_pow_int, ↓q_bint, ↓q_bintb, ↓q_blenl, ↓q_blent, ↓q_blens, ↓q_bstri, ↓q_bstrs, ↓q_blistl, ↓q_blistt, ↓q_btupl, ↓q_btupt, ↓q_bmin, ↓q_bmax, ↓q_fmts, ↓q_fmti, ↓q_asg, ↓q_parS, ↓q_put, ↓q_ex, ↓q_iff, ↓q_for, ↓q_retV, ↓q_rcst, ↓q_rtup, ↓q_rlst, ↓q_rbin, ↓q_rcmp, ↓q_rneg, ↓q_rnt, ↓q_ran, ↓q_rorr, ↓q_rite, ↓q_ridx, ↓q_rslc, ↓q_rrev, ↓q_rcall, ↓q_rbi, ↓q_rjoin, ↓q_rlc, ↓q_rfs, ↓q_rdct, ↓q_retN, ↓q_pas, ↓q_brk, ↓q_cnt, ↓q_exs0, ↓q_exs1, q_add_int, q_add_str, q_add_lst, q_add_tup, q_sub_int, q_mul_int, q_mul_lst, q_mul_tup, q_fdiv_int, q_mod_int, q_pow_int, q_bint, q_bintb, q_blenl, q_blent, q_blens, q_bstri, q_bstrs, q_blistl, q_blistt, q_btupl, q_btupt, q_bmin, q_bmax, q_fmts, q_fmti, backG_mk, pushG_mk, wipe_nil, wipe_cons, back_nil, back_cons, noOwn_nil, slots_nm, slots_tp, pv_val, pv_new, slot_val, slot_new, asInt_int, truV_bl, truV_int, cmpV_eq, cmpV_ne, cmpV_lt, cmpV_le, cmpV_gt, cmpV_ge, eqV_int, eqV_str, items_l, items_t, items_f, slcV_lst, slcV_tup, slcV_fz, revV_tup, revV_lst, idxV_lst, idxV_tup, noOwn_cons, at0, at1, at2, at3, Nxt_nx, Nxt_ret, Nxt_brk, Nxt_cnt, Turn_nx, Turn_cnt, Turn_brk, Turn_ret, Fin'_ret, Fin'_nx, List.getElem?_cons_zero, List.getElem?_cons_succ, List.set_cons_zero, List.set_cons_succ, List.getD_cons_zero, List.getD_cons_succ, List.length_cons, List.length_nil, List.map_cons, List.map_nil, List.cons_append, List.nil_append, List.replicate_succ, List.replicate_zero, Option.map_some, Option.some.injEq, Bool.not_true, Bool.not_false, Bool.and_self, Bool.and_true, Bool.true_and, Bool.false_eq_true, Bool.true_eq_false, if_true, if_false, ite_true, ite_false, reduceIte, true_and, and_true, Nat.reduceAdd, Nat.reduceSub, Nat.reduceLT, Nat.reduceLeDiff, Nat.reducePow, Int.reducePow, Int.reduceToNat, Int.reduceLE, Int.reduceLT, Int.reduceNeg, decide_true, decide_false, Ev.sizeLine_eq, rgOk_eq, Nat.lt_add_left_iff_pos, Nat.zero_lt_succ, Nat.succ_pos, Nat.zero_add, true_or, or_true, Nat.reduceMul, Nat.add_zero, Nat.zero_le, Nat.le_refl]
    split
    · rename_i hp0
      refine lc_map (f := PV.int) (h := fun i => PV.str ((toString i : String) : Str)) (· = hp2) ns [] hp2 rfl (by ((try simp only [List.length_append, List.length_cons, List.length_nil, List.length_take, List.length_map, List.length_reverse]); omega)) (fun t ht hp' e => ?_) fun hp' e => ?_
      · subst e
        simp only [(hns t ht).log, ↓q_ok, ↓q_some, ↓q_cst, ↓q_var, ↓q_tup, ↓q_lst, ↓q_bin, ↓q_cmp, ↓q_neg, ↓q_nt, ↓q_an, ↓q_orr, ↓q_ite, ↓q_idx, ↓q_slc, ↓q_rev, ↓q_call, ↓q_bi, ↓q_join, ↓q_app, ↓q_ext, ↓q_lc, ↓q_fs, ↓q_dct, ↓q_evs0, ↓q_evs1, ↓q_opds0, ↓q_opds1, ↓q_no, ↓q_so, ↓q_it, ↓q_rg1, ↓q_rg2, ↓q_tno, ↓q_tso, ↓q_evf0, ↓q_evf1, ↓q_tnt, ↓q_tan, ↓q_tor, ↓q_tite, ↓q_tvar, ↓q_tcst, ↓q_tcmp, ↓q_tidx, ↓q_tcall, ↓q_tbi, ↓q_tslc, ↓q_ovar, ↓q_ocst, ↓q_otup, ↓q_olst, ↓q_obin, ↓q_ocmp, ↓q_oneg, ↓q_ont, ↓q_oan, ↓q_oorr, ↓q_oite, ↓q_oidx, ↓q_oslc, ↓q_orev, ↓q_ocall, ↓q_obi, ↓q_ojoin, ↓q_olc, ↓q_ofs, ↓q_odct, ↓q_lookv, ↓q_looks, ↓q_peek, ↓q_look0, ↓q_look1, ↓q_set, ↓q_bnm, ↓q_btp, ↓q_sets0, ↓q_sets1, ↓q_par0, ↓q_par1, ↓q_own, ↓q_appV, ↓q_extn, ↓q_extl, ↓q_ixr, ↓q_ixt, ↓q_ixl, ↓q_ixs, ↓q_putG, ↓q_add_int, ↓q_add_str, ↓q_add_lst, ↓q_add_tup, ↓q_sub_int, ↓q_mul_int, ↓q_mul_lst, ↓q_mul_tup, ↓q_fdiv_int, ↓q_mod_int, ↓q_pow_int, ↓q_bint, ↓q_bintb, ↓q_blenl, ↓q_blent, ↓q_blens, ↓q_bstri, ↓q_bstrs, ↓q_blistl, ↓q_blistt, ↓q_btupl, ↓q_btupt, ↓q_bmin, ↓q_bmax, ↓q_fmts, ↓q_fmti, ↓q_asg, ↓q_parS, ↓q_put, ↓q_ex, ↓q_iff, ↓q_for, ↓q_retV, ↓q_rcst, ↓q_rtup, ↓q_rlst, ↓q_rbin, ↓q_rcmp, ↓q_rneg, ↓q_rnt, ↓q_ran, ↓q_rorr, ↓q_rite, ↓q_ridx, ↓q_rslc, ↓q_rrev, ↓q_rcall, ↓q_rbi, ↓q_rjoin, ↓q_rlc, ↓q_rfs, ↓q_rdct, ↓q_retN, ↓q_pas, ↓q_brk, ↓q_cnt, ↓q_exs0, ↓q_exs1, q_add_int, q_add_str, q_add_lst, q_add_tup, q_sub_int, q_mul_int, q_mul_lst, q_mul_tup, q_fdiv_int, q_mod_int, q_pow_int, q_bint, q_bintb, q_blenl, q_blent, q_blens, q_bstri, q_bstrs, q_blistl, q_blistt, q_btupl, q_btupt, q_bmin, q_bmax, q_fmts, q_fmti, backG_mk, pushG_mk, wipe_nil, wipe_cons, back_nil, back_cons, noOwn_nil, slots_nm, slots_tp, pv_val, pv_new, slot_val, slot_new, asInt_int, truV_bl, truV_int, cmpV_eq, cmpV_ne, cmpV_lt, cmpV_le, cmpV_gt, cmpV_ge, eqV_int, eqV_str, items_l, items_t, items_f, slcV_lst, slcV_tup, slcV_fz, revV_tup, revV_lst, idxV_lst, idxV_tup, noOwn_cons, at0, at1, at2, at3, Nxt_nx, Nxt_ret, Nxt_brk, Nxt_cnt, Turn_nx, Turn_cnt, Turn_brk, Turn_ret, Fin'_ret, Fin'_nx, List.getElem?_cons_zero, List.getElem?_cons_succ, List.set_cons_zero, List.set_cons_succ, List.getD_cons_zero, List.getD_cons_succ, List.length_cons, List.length_nil, List.map_cons, List.map_nil, List.cons_append, List.nil_append, List.replicate_succ, List.replicate_zero, Option.map_some, Option.some.injEq, Bool.not_true, Bool.not_false, Bool.and_self, Bool.and_true, Bool.true_and, Bool.false_eq_true, Bool.true_eq_false, if_true, if_false, ite_true, ite_false, reduceIte, true_and, and_true, Nat.reduceAdd, Nat.reduceSub, Nat.reduceLT, Nat.reduceLeDiff, Nat.reducePow, Int.reducePow, Int.reduceToNat, Int.reduceLE, Int.reduceLT, Int.reduceNeg, decide_true, decide_false, Ev.sizeLine_eq, rgOk_eq, Nat.lt_add_left_iff_pos, Nat.zero_lt_succ, Nat.succ_pos, Nat.zero_add, true_or, or_true, Nat.reduceMul, Nat.add_zero, Nat.zero_le, Nat.le_refl]
      · subst e
        have eS : Txt.join "," (ns.map fun i => ((toString i : String) : Str)) = numsT ns := by
          unfold numsT
          rw [if_neg]
          intro q
          rw [q] at hp0
          cases hp0
        simp only [jNums hl hns, eS, ↓q_ok, ↓q_some, ↓q_cst, ↓q_var, ↓q_tup, ↓q_lst, ↓q_bin, ↓q_cmp, ↓q_neg, ↓q_nt, ↓q_an, ↓q_orr, ↓q_ite, ↓q_idx, ↓q_slc, ↓q_rev, ↓q_call, ↓q_bi, ↓q_join, ↓q_app, ↓q_ext, ↓q_lc, ↓q_fs, ↓q_dct, ↓q_evs0, ↓q_evs1, ↓q_opds0, ↓q_opds1, ↓q_no, ↓q_so, ↓q_it, ↓q_rg1, ↓q_rg2, ↓q_tno, ↓q_tso, ↓q_evf0, ↓q_evf1, ↓q_tnt, ↓q_tan, ↓q_tor, ↓q_tite, ↓q_tvar, ↓q_tcst, ↓q_tcmp, ↓q_tidx, ↓q_tcall, ↓q_tbi, ↓q_tslc, ↓q_ovar, ↓q_ocst, ↓q_otup, ↓q_olst, ↓q_obin, ↓q_ocmp, ↓q_oneg, ↓q_ont, ↓q_oan, ↓q_oorr, ↓q_oite, ↓q_oidx, ↓q_oslc, ↓q_orev, ↓q_ocall, ↓q_obi, ↓q_ojoin, ↓q_olc, ↓q_ofs, ↓q_odct, ↓q_lookv, ↓q_looks, ↓q_peek, ↓q_look0, ↓q_look1, ↓q_set, ↓q_bnm, ↓q_btp, ↓q_sets0, ↓q_sets1, ↓q_par0, ↓q_par1, ↓q_own, ↓q_appV, ↓q_extn, ↓q_extl, ↓q_ixr, ↓q_ixt, ↓q_ixl, ↓q_ixs, ↓q_putG, ↓q_add_int, ↓q_add_str, ↓q_add_lst, ↓q_add_tup, ↓q_sub_int, ↓q_mul_int, ↓q_mul_lst, ↓q_mul_tup, ↓q_fdiv_int, ↓q_mod_int, ↓q_pow_int, ↓q_bint, ↓q_bintb, ↓q_blenl, ↓q_blent, ↓q_blens, ↓q_bstri, ↓q_bstrs, ↓q_blistl, ↓q_blistt, ↓q_btupl, ↓q_btupt, ↓q_bmin, ↓q_bmax, ↓q_fmts, ↓q_fmti, ↓q_asg, ↓q_parS, ↓q_put, ↓q_ex, ↓q_iff, ↓q_for, ↓q_retV, ↓q_rcst, ↓q_rtup, ↓q_rlst, ↓q_rbin, ↓q_rcmp, ↓q_rneg, ↓q_rnt, ↓q_ran, ↓q_rorr, ↓q_rite, ↓q_ridx, ↓q_rslc, ↓q_rrev, ↓q_rcall, ↓q_rbi, ↓q_rjoin, ↓q_rlc, ↓q_rfs, ↓q_rdct, ↓q_retN, ↓q_pas, ↓q_brk, ↓q_cnt, ↓q_exs0, ↓q_exs1, q_add_int, q_add_str, q_add_lst, q_add_tup, q_sub_int, q_mul_int, q_mul_lst, q_mul_tup, q_fdiv_int, q_mod_int, q_pow_int, q_bint, q_bintb, q_blenl, q_blent, q_blens, q_bstri, q_bstrs, q_blistl, q_blistt, q_btupl, q_btupt, q_bmin, q_bmax, q_fmts, q_fmti, backG_mk, pushG_mk, wipe_nil, wipe_cons, back_nil, back_cons, noOwn_nil, slots_nm, slots_tp, pv_val, pv_new, slot_val, slot_new, asInt_int, truV_bl, truV_int, cmpV_eq, cmpV_ne, cmpV_lt, cmpV_le, cmpV_gt, cmpV_ge, eqV_int, eqV_str, items_l, items_t, items_f, slcV_lst, slcV_tup, slcV_fz, revV_tup, revV_lst, idxV_lst, idxV_tup, noOwn_cons, at0, at1, at2, at3, Nxt_nx, Nxt_ret, Nxt_brk, Nxt_cnt, Turn_nx, Turn_cnt, Turn_brk, Turn_ret, Fin'_ret, Fin'_nx, List.getElem?_cons_zero, List.getElem?_cons_succ, List.set_cons_zero, List.set_cons_succ, List.getD_cons_zero, List.getD_cons_succ, List.length_cons, List.length_nil, List.map_cons, List.map_nil, List.cons_append, List.nil_append, List.replicate_succ, List.replicate_zero, Option.map_some, Option.some.injEq, Bool.not_true, Bool.not_false, Bool.and_self, Bool.and_true, Bool.true_and, Bool.false_eq_true, Bool.true_eq_false, if_true, if_false, ite_true, ite_false, reduceIte, true_and, and_true, Nat.reduceAdd, Nat.reduceSub, Nat.reduceLT, Nat.reduceLeDiff, Nat.reducePow, Int.reducePow, Int.reduceToNat, Int.reduceLE, Int.reduceLT, Int.reduceNeg, decide_true, decide_false, Ev.sizeLine_eq, rgOk_eq, Nat.lt_add_left_iff_pos, Nat.zero_lt_succ, Nat.succ_pos, Nat.zero_add, true_or, or_true, Nat.reduceMul, Nat.add_zero, Nat.zero_le, Nat.le_refl]
        refine Ok_callW (numbers_ok (k + 2) hl hns) fun x hq ⟨hx, he⟩ => ?_
        subst hx he
        simp only [↓q_ok, ↓q_some, ↓q_cst, ↓q_var, ↓q_tup, ↓q_lst, ↓q_bin, ↓q_cmp, ↓q_neg, ↓q_nt, ↓q_an, ↓q_orr, ↓q_ite, ↓q_idx, ↓q_slc, ↓q_rev, ↓q_call, ↓q_bi, ↓q_join, ↓q_app, ↓q_ext, ↓q_lc, ↓q_fs, ↓q_dct, ↓q_evs0, ↓q_evs1, ↓q_opds0, ↓q_opds1, ↓q_no, ↓q_so, ↓q_it, ↓q_rg1, ↓q_rg2, ↓q_tno, ↓q_tso, ↓q_evf0, ↓q_evf1, ↓q_tnt, ↓q_tan, ↓q_tor, ↓q_tite, ↓q_tvar, ↓q_tcst, ↓q_tcmp, ↓q_tidx, ↓q_tcall, ↓q_tbi, ↓q_tslc, ↓q_ovar, ↓q_ocst, ↓q_otup, ↓q_olst, ↓q_obin, ↓q_ocmp, ↓q_oneg, ↓q_ont, ↓q_oan, ↓q_oorr, ↓q_oite, ↓q_oidx, ↓q_oslc, ↓q_orev, ↓q_ocall, ↓q_obi, ↓q_ojoin, ↓q_olc, ↓q_ofs, ↓q_odct, ↓q_lookv, ↓q_looks, ↓q_peek, ↓q_look0, ↓q_look1, ↓q_set, ↓q_bnm, ↓q_btp, ↓q_sets0, ↓q_sets1, ↓q_par0, ↓q_par1, ↓q_own, ↓q_appV, ↓q_extn, ↓q_extl, ↓q_ixr, ↓q_ixt, ↓q_ixl, ↓q_ixs, ↓q_putG, ↓q_add_int, ↓q_add_str, ↓q_add_lst, ↓q_add_tup, ↓q_sub_int, ↓q_mul_int, ↓q_mul_lst, ↓q_mul_tup, ↓q_fdiv_int, ↓q_mod_int, ↓q_pow_int, ↓q_bint, ↓q_bintb, ↓q_blenl, ↓q_blent, ↓q_blens, ↓q_bstri, ↓q_bstrs, ↓q_blistl, ↓q_blistt, ↓q_btupl, ↓q_btupt, ↓q_bmin, ↓q_bmax, ↓q_fmts, ↓q_fmti, ↓q_asg, ↓q_parS, ↓q_put, ↓q_ex, ↓q_iff, ↓q_for, ↓q_retV, ↓q_rcst, ↓q_rtup, ↓q_rlst, ↓q_rbin, ↓q_rcmp, ↓q_rneg, ↓q_rnt, ↓q_ran, ↓q_rorr, ↓q_rite, ↓q_ridx, ↓q_rslc, ↓q_rrev, ↓q_rcall, ↓q_rbi, ↓q_rjoin, ↓q_rlc, ↓q_rfs, ↓q_rdct, ↓q_retN, ↓q_pas, ↓q_brk, ↓q_cnt, ↓q_exs0, ↓q_exs1, q_add_int, q_add_str, q_add_lst, q_add_tup, q_sub_int, q_mul_int, q_mul_lst, q_mul_tup, q_fdiv_int, q_mod_int, q_pow_int, q_bint, q_bintb, q_blenl, q_blent, q_blens, q_bstri, q_bstrs, q_blistl, q_blistt, q_btupl, q_btupt, q_bmin, q_bmax, q_fmts, q_fmti, backG_mk, pushG_mk, wipe_nil, wipe_cons, back_nil, back_cons, noOwn_nil, slots_nm, slots_tp, pv_val, pv_new, slot_val, slot_new, asInt_int, truV_bl, truV_int, cmpV_eq, cmpV_ne, cmpV_lt, cmpV_le, cmpV_gt, cmpV_ge, eqV_int, eqV_str, items_l, items_t, items_f, slcV_lst, slcV_tup, slcV_fz, revV_tup, revV_lst, idxV_lst, idxV_tup, noOwn_cons, at0, at1, at2, at3, Nxt_nx, Nxt_ret, Nxt_brk, Nxt_cnt, Turn_nx, Turn_cnt, Turn_brk, Turn_ret, Fin'_ret, Fin'_nx, List.getElem?_cons_zero, List.getElem?_cons_succ, List.set_cons_zero, List.set_cons_succ, List.getD_cons_zero, List.getD_cons_succ, List.length_cons, List.length_nil, List.map_cons, List.map_nil, List.cons_append, List.nil_append, List.replicate_succ, List.replicate_zero, Option.map_some, Option.some.injEq, Bool.not_true, Bool.not_false, Bool.and_self, Bool.and_true, Bool.true_and, Bool.false_eq_true, Bool.true_eq_false, if_true, if_false, ite_true, ite_false, reduceIte, true_and, and_true, Nat.reduceAdd, Nat.reduceSub, Nat.reduceLT, Nat.reduceLeDiff, Nat.reducePow, Int.reducePow, Int.reduceToNat, Int.reduceLE, Int.reduceLT, Int.reduceNeg, decide_true, decide_false, Ev.sizeLine_eq, rgOk_eq, Nat.lt_add_left_iff_pos, Nat.zero_lt_succ, Nat.succ_pos, Nat.zero_add, true_or, or_true, Nat.reduceMul, Nat.add_zero, Nat.zero_le, Nat.le_refl]
        refine Ok_callW (numbers_ok (k + 2) hl hns) fun x hq ⟨hx, he⟩ => ?_
        subst hx he
        simp only [hrp, ↓q_ok, ↓q_some, ↓q_cst, ↓q_var, ↓q_tup, ↓q_lst, ↓q_bin, ↓q_cmp, ↓q_neg, ↓q_nt, ↓q_an, ↓q_orr, ↓q_ite, ↓q_idx, ↓q_slc, ↓q_rev, ↓q_call, ↓q_bi, ↓q_join, ↓q_app, ↓q_ext, ↓q_lc, ↓q_fs, ↓q_dct, ↓q_evs0, ↓q_evs1, ↓q_opds0, ↓q_opds1, ↓q_no, ↓q_so, ↓q_it, ↓q_rg1, ↓q_rg2, ↓q_tno, ↓q_tso, ↓q_evf0, ↓q_evf1, ↓q_tnt, ↓q_tan, ↓q_tor, ↓q_tite, ↓q_tvar, ↓q_tcst, ↓q_tcmp, ↓q_tidx, ↓q_tcall, ↓q_tbi, ↓q_tslc, ↓q_ovar, ↓q_ocst, ↓q_otup, ↓q_olst, ↓q_obin, ↓q_ocmp, ↓q_oneg, ↓q_ont, ↓q_oan, ↓q_oorr, ↓q_oite, ↓q_oidx, ↓q_oslc, ↓q_orev, ↓q_ocall, ↓q_obi, ↓q_ojoin, ↓q_olc, ↓q_ofs, ↓q_odct, ↓q_lookv, ↓q_looks, ↓q_peek, ↓q_look0, ↓q_look1, ↓q_set, ↓q_bnm, ↓q_btp, ↓q_sets0, ↓q_sets1, ↓q_par0, ↓q_par1, ↓q_own, ↓q_appV, ↓q_extn, ↓q_extl, ↓q_ixr, ↓q_ixt, ↓q_ixl, ↓q_ixs, ↓q_putG, ↓q_add_int, ↓q_add_str, ↓q_add_lst, ↓q_add_tup, ↓q_sub_int, ↓q_mul_int, ↓q_mul_lst, ↓q_mul_tup, ↓q_fdiv_int, ↓q_mod_int, ↓q_pow_int, ↓q_bint, ↓q_bintb, ↓q_blenl, ↓q_blent, ↓q_blens, ↓q_bstri, ↓q_bstrs, ↓q_blistl, ↓q_blistt, ↓q_btupl, ↓q_btupt, ↓q_bmin, ↓q_bmax, ↓q_fmts, ↓q_fmti, ↓q_asg, ↓q_parS, ↓q_put, ↓q_ex, ↓q_iff, ↓q_for, ↓q_retV, ↓q_rcst, ↓q_rtup, ↓q_rlst, ↓q_rbin, ↓q_rcmp, ↓q_rneg, ↓q_rnt, ↓q_ran, ↓q_rorr, ↓q_rite, ↓q_ridx, ↓q_rslc, ↓q_rrev, ↓q_rcall, ↓q_rbi, ↓q_rjoin, ↓q_rlc, ↓q_rfs, ↓q_rdct, ↓q_retN, ↓q_pas, ↓q_brk, ↓q_cnt, ↓q_exs0, ↓q_exs1, q_add_int, q_add_str, q_add_lst, q_add_tup, q_sub_int, q_mul_int, q_mul_lst, q_mul_tup, q_fdiv_int, q_mod_int, q_pow_int, q_bint, q_bintb, q_blenl, q_blent, q_blens, q_bstri, q_bstrs, q_blistl, q_blistt, q_btupl, q_btupt, q_bmin, q_bmax, q_fmts, q_fmti, backG_mk, pushG_mk, wipe_nil, wipe_cons, back_nil, back_cons, noOwn_nil, slots_nm, slots_tp, pv_val, pv_new, slot_val, slot_new, asInt_int, truV_bl, truV_int, cmpV_eq, cmpV_ne, cmpV_lt, cmpV_le, cmpV_gt, cmpV_ge, eqV_int, eqV_str, items_l, items_t, items_f, slcV_lst, slcV_tup, slcV_fz, revV_tup, revV_lst, idxV_lst, idxV_tup, noOwn_cons, at0, at1, at2, at3, Nxt_nx, Nxt_ret, Nxt_brk, Nxt_cnt, Turn_nx, Turn_cnt, Turn_brk, Turn_ret, Fin'_ret, Fin'_nx, List.getElem?_cons_zero, List.getElem?_cons_succ, List.set_cons_zero, List.set_cons_succ, List.getD_cons_zero, List.getD_cons_succ, List.length_cons, List.length_nil, List.map_cons, List.map_nil, List.cons_append, List.nil_append, List.replicate_succ, List.replicate_zero, Option.map_some, Option.some.injEq, Bool.not_true, Bool.not_false, Bool.and_self, Bool.and_true, Bool.true_and, Bool.false_eq_true, Bool.true_eq_false, if_true, if_false, ite_true, ite_false, reduceIte, true_and, and_true, Nat.reduceAdd, Nat.reduceSub, Nat.reduceLT, Nat.reduceLeDiff, Nat.reducePow, Int.reducePow, Int.reduceToNat, Int.reduceLE, Int.reduceLT, Int.reduceNeg, decide_true, decide_false, Ev.sizeLine_eq, rgOk_eq, Nat.lt_add_left_iff_pos, Nat.zero_lt_succ, Nat.succ_pos, Nat.zero_add, true_or, or_true, Nat.reduceMul, Nat.add_zero, Nat.zero_le, Nat.le_refl]
        refine Ok_callW (words_ok (k + 1) F2 (by omega) (by omega)) fun x hp3 ⟨F3, ws, hx, hwl, hws⟩ => ?_
        subst hx
        simp only [↓q_ok, ↓q_some, ↓q_cst, ↓q_var, ↓q_tup, ↓q_lst, ↓q_bin, ↓q_cmp, ↓q_neg, ↓q_nt, ↓q_an, ↓q_orr, ↓q_ite, ↓q_idx, ↓q_slc, ↓q_rev, ↓q_call, ↓q_bi, ↓q_join, ↓q_app, ↓q_ext, ↓q_lc, ↓q_fs, ↓q_dct, ↓q_evs0, ↓q_evs1, ↓q_opds0, ↓q_opds1, ↓q_no, ↓q_so, ↓q_it, ↓q_rg1, ↓q_rg2, ↓q_tno, ↓q_tso, ↓q_evf0, ↓q_evf1, ↓q_tnt, ↓q_tan, ↓q_tor, ↓q_tite, ↓q_tvar, ↓q_tcst, ↓q_tcmp, ↓q_tidx, ↓q_tcall, ↓q_tbi, ↓q_tslc, ↓q_ovar, ↓q_ocst, ↓q_otup, ↓q_olst, ↓q_obin, ↓q_ocmp, ↓q_oneg, ↓q_ont, ↓q_oan, ↓q_oorr, ↓q_oite, ↓q_oidx, ↓q_oslc, ↓q_orev, ↓q_ocall, ↓q_obi, ↓q_ojoin, ↓q_olc, ↓q_ofs, ↓q_odct, ↓q_lookv, ↓q_looks, ↓q_peek, ↓q_look0, ↓q_look1, ↓q_set, ↓q_bnm, ↓q_btp, ↓q_sets0, ↓q_sets1, ↓q_par0, ↓q_par1, ↓q_own, ↓q_appV, ↓q_extn, ↓q_extl, ↓q_ixr, ↓q_ixt, ↓q_ixl, ↓q_ixs, ↓q_putG, ↓q_add_int, ↓q_add_str, ↓q_add_lst, ↓q_add_tup, ↓q_sub_int, ↓q_mul_int, ↓q_mul_lst, ↓q_mul_tup, ↓q_fdiv_int, ↓q_mod_int, ↓q_pow_int, ↓q_bint, ↓q_bintb, ↓q_blenl, ↓q_blent, ↓q_blens, ↓q_bstri, ↓q_bstrs, ↓q_blistl, ↓q_blistt, ↓q_btupl, ↓q_btupt, ↓q_bmin, ↓q_bmax, ↓q_fmts, ↓q_fmti, ↓q_asg, ↓q_parS, ↓q_put, ↓q_ex, ↓q_iff, ↓q_for, ↓q_retV, ↓q_rcst, ↓q_rtup, ↓q_rlst, ↓q_rbin, ↓q_rcmp, ↓q_rneg, ↓q_rnt, ↓q_ran, ↓q_rorr, ↓q_rite, ↓q_ridx, ↓q_rslc, ↓q_rrev, ↓q_rcall, ↓q_rbi, ↓q_rjoin, ↓q_rlc, ↓q_rfs, ↓q_rdct, ↓q_retN, ↓q_pas, ↓q_brk, ↓q_cnt, ↓q_exs0, ↓q_exs1, q_add_int, q_add_str, q_add_lst, q_add_tup, q_sub_int, q_mul_int, q_mul_lst, q_mul_tup, q_fdiv_int, q_mod_int, q_pow_int, q_bint, q_bintb, q_blenl, q_blent, q_blens, q_bstri, q_bstrs, q_blistl, q_blistt, q_btupl, q_btupt, q_bmin, q_bmax, q_fmts, q_fmti, backG_mk, pushG_mk, wipe_nil, wipe_cons, back_nil, back_cons, noOwn_nil, slots_nm, slots_tp, pv_val, pv_new, slot_val, slot_new, asInt_int, truV_bl, truV_int, cmpV_eq, cmpV_ne, cmpV_lt, cmpV_le, cmpV_gt, cmpV_ge, eqV_int, eqV_str, items_l, items_t, items_f, slcV_lst, slcV_tup, slcV_fz, revV_tup, revV_lst, idxV_lst, idxV_tup, noOwn_cons, at0, at1, at2, at3, Nxt_nx, Nxt_ret, Nxt_brk, Nxt_cnt, Turn_nx, Turn_cnt, Turn_brk, Turn_ret, Fin'_ret, Fin'_nx, List.getElem?_cons_zero, List.getElem?_cons_succ, List.set_cons_zero, List.set_cons_succ, List.getD_cons_zero, List.getD_cons_succ, List.length_cons, List.length_nil, List.map_cons, List.map_nil, List.cons_append, List.nil_append, List.replicate_succ, List.replicate_zero, Option.map_some, Option.some.injEq, Bool.not_true, Bool.not_false, Bool.and_self, Bool.and_true, Bool.true_and, Bool.false_eq_true, Bool.true_eq_false, if_true, if_false, ite_true, ite_false, reduceIte, true_and, and_true, Nat.reduceAdd, Nat.reduceSub, Nat.reduceLT, Nat.reduceLeDiff, Nat.reducePow, Int.reducePow, Int.reduceToNat, Int.reduceLE, Int.reduceLT, Int.reduceNeg, decide_true, decide_false, Ev.sizeLine_eq, rgOk_eq, Nat.lt_add_left_iff_pos, Nat.zero_lt_succ, Nat.succ_pos, Nat.zero_add, true_or, or_true, Nat.reduceMul, Nat.add_zero, Nat.zero_le, Nat.le_refl]
        refine for_sl (β := Slot × Slot × Slot) (fun b sl => ((sl.set 5 b.1).set 6 b.2.1).set 7 b.2.2) (fun i b hp => hp = hp3) (.no, .no, .no) rfl rfl (fun i x b hp hx e => ?_) fun b hp e => ?_
        · subst e
          obtain ⟨s, m, rfl, ts, m1, m2⟩ := sortP_of (by decide +kernel) (List.mem_of_getElem? hx)
          simp only [↓q_ok, ↓q_some, ↓q_cst, ↓q_var, ↓q_tup, ↓q_lst, ↓q_bin, ↓q_cmp, ↓q_neg, ↓q_nt, ↓q_an, ↓q_orr, ↓q_ite, ↓q_idx, ↓q_slc, ↓q_rev, ↓q_call, ↓q_bi, ↓q_join, ↓q_app, ↓q_ext, ↓q_lc, ↓q_fs, ↓q_dct, ↓q_evs0, ↓q_evs1, ↓q_opds0, ↓q_opds1, ↓q_no, ↓q_so, ↓q_it, ↓q_rg1, ↓q_rg2, ↓q_tno, ↓q_tso, ↓q_evf0, ↓q_evf1, ↓q_tnt, ↓q_tan, ↓q_tor, ↓q_tite, ↓q_tvar, ↓q_tcst, ↓q_tcmp, ↓q_tidx, ↓q_tcall, ↓q_tbi, ↓q_tslc, ↓q_ovar, ↓q_ocst, ↓q_otup, ↓q_olst, ↓q_obin, ↓q_ocmp, ↓q_oneg, ↓q_ont, ↓q_oan, ↓q_oorr, ↓q_oite, ↓q_oidx, ↓q_oslc, ↓q_orev, ↓q_ocall, ↓q_obi, ↓q_ojoin, ↓q_olc, ↓q_ofs, ↓q_odct, ↓q_lookv, ↓q_looks, ↓q_peek, ↓q_look0, ↓q_look1, ↓q_set, ↓q_bnm, ↓q_btp, ↓q_sets0, ↓q_sets1, ↓q_par0, ↓q_par1, ↓q_own, ↓q_appV, ↓q_extn, ↓q_extl, ↓q_ixr, ↓q_ixt, ↓q_ixl, ↓q_ixs, ↓q_putG, ↓q_add_int, ↓q_add_str, ↓q_add_lst, ↓q_add_tup, ↓q_sub_int, ↓q_mul_int, ↓q_mul_lst, ↓q_mul_tup, ↓q_fdiv_int, ↓q_mod_int, ↓q_pow_int, ↓q_bint, ↓q_bintb, ↓q_blenl, ↓q_blent, ↓q_blens, ↓q_bstri, ↓q_bstrs, ↓q_blistl, ↓q_blistt, ↓q_btupl, ↓q_btupt, ↓q_bmin, ↓q_bmax, ↓q_fmts, ↓q_fmti, ↓q_asg, ↓q_parS, ↓q_put, ↓q_ex, ↓q_iff, ↓q_for, ↓q_retV, ↓q_rcst, ↓q_rtup, ↓q_rlst, ↓q_rbin, ↓q_rcmp, ↓q_rneg, ↓q_rnt, ↓q_ran, ↓q_rorr, ↓q_rite, ↓q_ridx, ↓q_rslc, ↓q_rrev, ↓q_rcall, ↓q_rbi, ↓q_rjoin, ↓q_rlc, ↓q_rfs, ↓q_rdct, ↓q_retN, ↓q_pas, ↓q_brk, ↓q_cnt, ↓q_exs0, ↓q_exs1, q_add_int, q_add_str, q_add_lst, q_add_tup, q_sub_int, q_mul_int, q_mul_lst, q_mul_tup, q_fdiv_int, q_mod_int, q_pow_int, q_bint, q_bintb, q_blenl, q_blent, q_blens, q_bstri, q_bstrs, q_blistl, q_blistt, q_btupl, q_btupt, q_bmin, q_bmax, q_fmts, q_fmti, backG_mk, pushG_mk, wipe_nil, wipe_cons, back_nil, back_cons, noOwn_nil, slots_nm, slots_tp, pv_val, pv_new, slot_val, slot_new, asInt_int, truV_bl, truV_int, cmpV_eq, cmpV_ne, cmpV_lt, cmpV_le, cmpV_gt, cmpV_ge, eqV_int, eqV_str, items_l, items_t, items_f, slcV_lst, slcV_tup, slcV_fz, revV_tup, revV_lst, idxV_lst, idxV_tup, noOwn_cons, at0, at1, at2, at3, Nxt_nx, Nxt_ret, Nxt_brk, Nxt_cnt, Turn_nx, Turn_cnt, Turn_brk, Turn_ret, Fin'_ret, Fin'_nx, List.getElem?_cons_zero, List.getElem?_cons_succ, List.set_cons_zero, List.set_cons_succ, List.getD_cons_zero, List.getD_cons_succ, List.length_cons, List.length_nil, List.map_cons, List.map_nil, List.cons_append, List.nil_append, List.replicate_succ, List.replicate_zero, Option.map_some, Option.some.injEq, Bool.not_true, Bool.not_false, Bool.and_self, Bool.and_true, Bool.true_and, Bool.false_eq_true, Bool.true_eq_false, if_true, if_false, ite_true, ite_false, reduceIte, true_and, and_true, Nat.reduceAdd, Nat.reduceSub, Nat.reduceLT, Nat.reduceLeDiff, Nat.reducePow, Int.reducePow, Int.reduceToNat, Int.reduceLE, Int.reduceLT, Int.reduceNeg, decide_true, decide_false, Ev.sizeLine_eq, rgOk_eq, Nat.lt_add_left_iff_pos, Nat.zero_lt_succ, Nat.succ_pos, Nat.zero_add, true_or, or_true, Nat.reduceMul, Nat.add_zero, Nat.zero_le, Nat.le_refl]
          rw [cut_to (by omega)]
          have et : PV.str s :: List.take m.toNat (ws.map PV.str) = (s :: ws.take m.toNat).map PV.str := by rw [List.map_cons, List.map_take]
          have tl : (s :: ws.take m.toNat).length ≤ 3 := by
            simp
            omega
          have tt : ∀ w ∈ s :: ws.take m.toNat, Tx 12 w := fun w hw => by
            rcases List.mem_cons.mp hw with rfl | hw
            · exact ts
            · exact hws w (List.mem_of_mem_take hw)
          refine ⟨by ((try simp only [List.length_append, List.length_cons, List.length_nil, List.length_take, List.length_map, List.length_reverse]); omega), ?_⟩
          generalize s :: ws.take m.toNat = tks at *
          rw [et]
          have hjt : Tx 39 (Txt.join " " tks) := Tx.join (s := " ") (m := 1) (n := 12) (Tx.by (by decide +kernel)) tt tl
          refine Ok_callW (task_ok (k + 2) tl tt) fun x hq ⟨hx, he⟩ => ?_
          subst hx he
          simp only [↓q_ok, ↓q_some, ↓q_cst, ↓q_var, ↓q_tup, ↓q_lst, ↓q_bin, ↓q_cmp, ↓q_neg, ↓q_nt, ↓q_an, ↓q_orr, ↓q_ite, ↓q_idx, ↓q_slc, ↓q_rev, ↓q_call, ↓q_bi, ↓q_join, ↓q_app, ↓q_ext, ↓q_lc, ↓q_fs, ↓q_dct, ↓q_evs0, ↓q_evs1, ↓q_opds0, ↓q_opds1, ↓q_no, ↓q_so, ↓q_it, ↓q_rg1, ↓q_rg2, ↓q_tno, ↓q_tso, ↓q_evf0, ↓q_evf1, ↓q_tnt, ↓q_tan, ↓q_tor, ↓q_tite, ↓q_tvar, ↓q_tcst, ↓q_tcmp, ↓q_tidx, ↓q_tcall, ↓q_tbi, ↓q_tslc, ↓q_ovar, ↓q_ocst, ↓q_otup, ↓q_olst, ↓q_obin, ↓q_ocmp, ↓q_oneg, ↓q_ont, ↓q_oan, ↓q_oorr, ↓q_oite, ↓q_oidx, ↓q_oslc, ↓q_orev, ↓q_ocall, ↓q_obi, ↓q_ojoin, ↓q_olc, ↓q_ofs, ↓q_odct, ↓q_lookv, ↓q_looks, ↓q_peek, ↓q_look0, ↓q_look1, ↓q_set, ↓q_bnm, ↓q_btp, ↓q_sets0, ↓q_sets1, ↓q_par0, ↓q_par1, ↓q_own, ↓q_appV, ↓q_extn, ↓q_extl, ↓q_ixr, ↓q_ixt, ↓q_ixl, ↓q_ixs, ↓q_putG, ↓q_add_int, ↓q_add_str, ↓q_add_lst, ↓q_add_tup, ↓q_sub_int, ↓q_mul_int, ↓q_mul_lst, ↓q_mul_tup, ↓q_fdiv_int, ↓q_mod_int, ↓q_pow_int, ↓q_bint, ↓q_bintb, ↓q_blenl, ↓q_blent, ↓q_blens, ↓q_bstri, ↓q_bstrs, ↓q_blistl, ↓q_blistt, ↓q_btupl, ↓q_btupt, ↓q_bmin, ↓q_bmax, ↓q_fmts, ↓q_fmti, ↓q_asg, ↓q_parS, ↓q_put, ↓q_ex, ↓q_iff, ↓q_for, ↓q_retV, ↓q_rcst, ↓q_rtup, ↓q_rlst, ↓q_rbin, ↓q_rcmp, ↓q_rneg, ↓q_rnt, ↓q_ran, ↓q_rorr, ↓q_rite, ↓q_ridx, ↓q_rslc, ↓q_rrev, ↓q_rcall, ↓q_rbi, ↓q_rjoin, ↓q_rlc, ↓q_rfs, ↓q_rdct, ↓q_retN, ↓q_pas, ↓q_brk, ↓q_cnt, ↓q_exs0, ↓q_exs1, q_add_int, q_add_str, q_add_lst, q_add_tup, q_sub_int, q_mul_int, q_mul_lst, q_mul_tup, q_fdiv_int, q_mod_int, q_pow_int, q_bint, q_bintb, q_blenl, q_blent, q_blens, q_bstri, q_bstrs, q_blistl, q_blistt, q_btupl, q_btupt, q_bmin, q_bmax, q_fmts, q_fmti, backG_mk, pushG_mk, wipe_nil, wipe_cons, back_nil, back_cons, noOwn_nil, slots_nm, slots_tp, pv_val, pv_new, slot_val, slot_new, asInt_int, truV_bl, truV_int, cmpV_eq, cmpV_ne, cmpV_lt, cmpV_le, cmpV_gt, cmpV_ge, eqV_int, eqV_str, items_l, items_t, items_f, slcV_lst, slcV_tup, slcV_fz, revV_tup, revV_lst, idxV_lst, idxV_tup, noOwn_cons, at0, at1, at2, at3, Nxt_nx, Nxt_ret, Nxt_brk, Nxt_cnt, Turn_nx, Turn_cnt, Turn_brk, Turn_ret, Fin'_ret, Fin'_nx, List.getElem?_cons_zero, List.getElem?_cons_succ, List.set_cons_zero, List.set_cons_succ, List.getD_cons_zero, List.getD_cons_succ, List.length_cons, List.length_nil, List.map_cons, List.map_nil, List.cons_append, List.nil_append, List.replicate_succ, List.replicate_zero, Option.map_some, Option.some.injEq, Bool.not_true, Bool.not_false, Bool.and_self, Bool.and_true, Bool.true_and, Bool.false_eq_true, Bool.true_eq_false, if_true, if_false, ite_true, ite_false, reduceIte, true_and, and_true, Nat.reduceAdd, Nat.reduceSub, Nat.reduceLT, Nat.reduceLeDiff, Nat.reducePow, Int.reducePow, Int.reduceToNat, Int.reduceLE, Int.reduceLT, Int.reduceNeg, decide_true, decide_false, Ev.sizeLine_eq, rgOk_eq, Nat.lt_add_left_iff_pos, Nat.zero_lt_succ, Nat.succ_pos, Nat.zero_add, true_or, or_true, Nat.reduceMul, Nat.add_zero, Nat.zero_le, Nat.le_refl]
          refine Ok_callW (task_ok (k + 2) tl tt) fun x hq ⟨hx, he⟩ => ?_
          subst hx he
          simp only [rep2 hjt (by decide), jTaskL tl (by decide) tt, List.flatten_cons, List.flatten_nil, List.append_nil, ↓q_ok, ↓q_some, ↓q_cst, ↓q_var, ↓q_tup, ↓q_lst, ↓q_bin, ↓q_cmp, ↓q_neg, ↓q_nt, ↓q_an, ↓q_orr, ↓q_ite, ↓q_idx, ↓q_slc, ↓q_rev, ↓q_call, ↓q_bi, ↓q_join, ↓q_app, ↓q_ext, ↓q_lc, ↓q_fs, ↓q_dct, ↓q_evs0, ↓q_evs1, ↓q_opds0, ↓q_opds1, ↓q_no, ↓q_so, ↓q_it, ↓q_rg1, ↓q_rg2, ↓q_tno, ↓q_tso, ↓q_evf0, ↓q_evf1, ↓q_tnt, ↓q_tan, ↓q_tor, ↓q_tite, ↓q_tvar, ↓q_tcst, ↓q_tcmp, ↓q_tidx, ↓q_tcall, ↓q_tbi, ↓q_tslc, ↓q_ovar, ↓q_ocst, ↓q_otup, ↓q_olst, ↓q_obin, ↓q_ocmp, ↓q_oneg, ↓q_ont, ↓q_oan, ↓q_oorr, ↓q_oite, ↓q_oidx, ↓q_oslc, ↓q_orev, ↓q_ocall, ↓q_obi, ↓q_ojoin, ↓q_olc, ↓q_ofs, ↓q_odct, ↓q_lookv, ↓q_looks, ↓q_peek, ↓q_look0, ↓q_look1, ↓q_set, ↓q_bnm, ↓q_btp, ↓q_sets0, ↓q_sets1, ↓q_par0, ↓q_par1, ↓q_own, ↓q_appV, ↓q_extn, ↓q_extl, ↓q_ixr, ↓q_ixt, ↓q_ixl, ↓q_ixs, ↓q_putG, ↓q_add_int, ↓q_add_str, ↓q_add_lst, ↓q_add_tup, ↓q_sub_int, ↓q_mul_int, ↓q_mul_lst, ↓q_mul_tup, ↓q_fdiv_int, ↓q_mod_int, ↓q_pow_int, ↓q_bint, ↓q_bintb, ↓q_blenl, ↓q_blent, ↓q_blens, ↓q_bstri, ↓q_bstrs, ↓q_blistl, ↓q_blistt, ↓q_btupl, ↓q_btupt, ↓q_bmin, ↓q_bmax, ↓q_fmts, ↓q_fmti, ↓q_asg, ↓q_parS, ↓q_put, ↓q_ex, ↓q_iff, ↓q_for, ↓q_retV, ↓q_rcst, ↓q_rtup, ↓q_rlst, ↓q_rbin, ↓q_rcmp, ↓q_rneg, ↓q_rnt, ↓q_ran, ↓q_rorr, ↓q_rite, ↓q_ridx, ↓q_rslc, ↓q_rrev, ↓q_rcall, ↓q_rbi, ↓q_rjoin, ↓q_rlc, ↓q_rfs, ↓q_rdct, ↓q_retN, ↓q_pas, ↓q_brk, ↓q_cnt, ↓q_exs0, ↓q_exs1, q_add_int, q_add_str, q_add_lst, q_add_tup, q_sub_int, q_mul_int, q_mul_lst, q_mul_tup, q_fdiv_int, q_mod_int, q_pow_int, q_bint, q_bintb, q_blenl, q_blent, q_blens, q_bstri, q_bstrs, q_blistl, q_blistt, q_btupl, q_btupt, q_bmin, q_bmax, q_fmts, q_fmti, backG_mk, pushG_mk, wipe_nil, wipe_cons, back_nil, back_cons, noOwn_nil, slots_nm, slots_tp, pv_val, pv_new, slot_val, slot_new, asInt_int, truV_bl, truV_int, cmpV_eq, cmpV_ne, cmpV_lt, cmpV_le, cmpV_gt, cmpV_ge, eqV_int, eqV_str, items_l, items_t, items_f, slcV_lst, slcV_tup, slcV_fz, revV_tup, revV_lst, idxV_lst, idxV_tup, noOwn_cons, at0, at1, at2, at3, Nxt_nx, Nxt_ret, Nxt_brk, Nxt_cnt, Turn_nx, Turn_cnt, Turn_brk, Turn_ret, Fin'_ret, Fin'_nx, List.getElem?_cons_zero, List.getElem?_cons_succ, List.set_cons_zero, List.set_cons_succ, List.getD_cons_zero, List.getD_cons_succ, List.length_cons, List.length_nil, List.map_cons, List.map_nil, List.cons_append, List.nil_append, List.replicate_succ, List.replicate_zero, Option.map_some, Option.some.injEq, Bool.not_true, Bool.not_false, Bool.and_self, Bool.and_true, Bool.true_and, Bool.false_eq_true, Bool.true_eq_false, if_true, if_false, ite_true, ite_false, reduceIte, true_and, and_true, Nat.reduceAdd, Nat.reduceSub, Nat.reduceLT, Nat.reduceLeDiff, Nat.reducePow, Int.reducePow, Int.reduceToNat, Int.reduceLE, Int.reduceLT, Int.reduceNeg, decide_true, decide_false, Ev.sizeLine_eq, rgOk_eq, Nat.lt_add_left_iff_pos, Nat.zero_lt_succ, Nat.succ_pos, Nat.zero_add, true_or, or_true, Nat.reduceMul, Nat.add_zero, Nat.zero_le, Nat.le_refl]
          exact ⟨(_, _, _), rfl⟩
        · subst e
          simp only [↓q_ok, ↓q_some, ↓q_cst, ↓q_var, ↓q_tup, ↓q_lst, ↓q_bin, ↓q_cmp, ↓q_neg, ↓q_nt, ↓q_an, ↓q_orr, ↓q_ite, ↓q_idx, ↓q_slc, ↓q_rev, ↓q_call, ↓q_bi, ↓q_join, ↓q_app, ↓q_ext, ↓q_lc, ↓q_fs, ↓q_dct, ↓q_evs0, ↓q_evs1, ↓q_opds0, ↓q_opds1, ↓q_no, ↓q_so, ↓q_it, ↓q_rg1, ↓q_rg2, ↓q_tno, ↓q_tso, ↓q_evf0, ↓q_evf1, ↓q_tnt, ↓q_tan, ↓q_tor, ↓q_tite, ↓q_tvar, ↓q_tcst, ↓q_tcmp, ↓q_tidx, ↓q_tcall, ↓q_tbi, ↓q_tslc, ↓q_ovar, ↓q_ocst, ↓q_otup, ↓q_olst, ↓q_obin, ↓q_ocmp, ↓q_oneg, ↓q_ont, ↓q_oan, ↓q_oorr, ↓q_oite, ↓q_oidx, ↓q_oslc, ↓q_orev, ↓q_ocall, ↓q_obi, ↓q_ojoin, ↓q_olc, ↓q_ofs, ↓q_odct, ↓q_lookv, ↓q_looks, ↓q_peek, ↓q_look0, ↓q_look1, ↓q_set, ↓q_bnm, ↓q_btp, ↓q_sets0, ↓q_sets1, ↓q_par0, ↓q_par1, ↓q_own, ↓q_appV, ↓q_extn, ↓q_extl, ↓q_ixr, ↓q_ixt, ↓q_ixl, ↓q_ixs, ↓q_putG, ↓q_add_int, ↓q_add_str, ↓q_add_lst, ↓q_add_tup, ↓q_sub_int, ↓q_mul_int, ↓q_mul_lst, ↓q_mul_tup, ↓q_fdiv_int, ↓q_mod_int, ↓q_pow_int, ↓q_bint, ↓q_bintb, ↓q_blenl, ↓q_blent, ↓q_blens, ↓q_bstri, ↓q_bstrs, ↓q_blistl, ↓q_blistt, ↓q_btupl, ↓q_btupt, ↓q_bmin, ↓q_bmax, ↓q_fmts, ↓q_fmti, ↓q_asg, ↓q_parS, ↓q_put, ↓q_ex, ↓q_iff, ↓q_for, ↓q_retV, ↓q_rcst, ↓q_rtup, ↓q_rlst, ↓q_rbin, ↓q_rcmp, ↓q_rneg, ↓q_rnt, ↓q_ran, ↓q_rorr, ↓q_rite, ↓q_ridx, ↓q_rslc, ↓q_rrev, ↓q_rcall, ↓q_rbi, ↓q_rjoin, ↓q_rlc, ↓q_rfs, ↓q_rdct, ↓q_retN, ↓q_pas, ↓q_brk, ↓q_cnt, ↓q_exs0, ↓q_exs1, q_add_int, q_add_str, q_add_lst, q_add_tup, q_sub_int, q_mul_int, q_mul_lst, q_mul_tup, q_fdiv_int, q_mod_int, q_pow_int, q_bint, q_bintb, q_blenl, q_blent, q_blens, q_bstri, q_bstrs, q_blistl, q_blistt, q_btupl, q_btupt, q_bmin, q_bmax, q_fmts, q_fmti, backG_mk, pushG_mk, wipe_nil, wipe_cons, back_nil, back_cons, noOwn_nil, slots_nm, slots_tp, pv_val, pv_new, slot_val, slot_new, asInt_int, truV_bl, truV_int, cmpV_eq, cmpV_ne, cmpV_lt, cmpV_le, cmpV_gt, cmpV_ge, eqV_int, eqV_str, items_l, items_t, items_f, slcV_lst, slcV_tup, slcV_fz, revV_tup, revV_lst, idxV_lst, idxV_tup, noOwn_cons, at0, at1, at2, at3, Nxt_nx, Nxt_ret, Nxt_brk, Nxt_cnt, Turn_nx, Turn_cnt, Turn_brk, Turn_ret, Fin'_ret, Fin'_nx, List.getElem?_cons_zero, List.getElem?_cons_succ, List.set_cons_zero, List.set_cons_succ, List.getD_cons_zero, List.getD_cons_succ, List.length_cons, List.length_nil, List.map_cons, List.map_nil, List.cons_append, List.nil_append, List.replicate_succ, List.replicate_zero, Option.map_some, Option.some.injEq, Bool.not_true, Bool.not_false, Bool.and_self, Bool.and_true, Bool.true_and, Bool.false_eq_true, Bool.true_eq_false, if_true, if_false, ite_true, ite_false, reduceIte, true_and, and_true, Nat.reduceAdd, Nat.reduceSub, Nat.reduceLT, Nat.reduceLeDiff, Nat.reducePow, Int.reducePow, Int.reduceToNat, Int.reduceLE, Int.reduceLT, Int.reduceNeg, decide_true, decide_false, Ev.sizeLine_eq, rgOk_eq, Nat.lt_add_left_iff_pos, Nat.zero_lt_succ, Nat.succ_pos, Nat.zero_add, true_or, or_true, Nat.reduceMul, Nat.add_zero, Nat.zero_le, Nat.le_refl]
          exact F3
    · rename_i hp0
      have hn : ns = [] := by
        cases ns with
        | nil => rfl
        | cons _ _ => exact absurd rfl hp0
      subst hn
      have eS : ("-" : Str) = numsT [] := rfl
      rw [eS]
      refine Ok_callW (numbers_ok (k + 2) hl hns) fun x hq ⟨hx, he⟩ => ?_
      subst hx he
      simp only [↓q_ok, ↓q_some, ↓q_cst, ↓q_var, ↓q_tup, ↓q_lst, ↓q_bin, ↓q_cmp, ↓q_neg, ↓q_nt, ↓q_an, ↓q_orr, ↓q_ite, ↓q_idx, ↓q_slc, ↓q_rev, ↓q_call, ↓q_bi, ↓q_join, ↓q_app, ↓q_ext, ↓q_lc, ↓q_fs, ↓q_dct, ↓q_evs0, ↓q_evs1, ↓q_opds0, ↓q_opds1, ↓q_no, ↓q_so, ↓q_it, ↓q_rg1, ↓q_rg2, ↓q_tno, ↓q_tso, ↓q_evf0, ↓q_evf1, ↓q_tnt, ↓q_tan, ↓q_tor, ↓q_tite, ↓q_tvar, ↓q_tcst, ↓q_tcmp, ↓q_tidx, ↓q_tcall, ↓q_tbi, ↓q_tslc, ↓q_ovar, ↓q_ocst, ↓q_otup, ↓q_olst, ↓q_obin, ↓q_ocmp, ↓q_oneg, ↓q_ont, ↓q_oan, ↓q_oorr, ↓q_oite, ↓q_oidx, ↓q_oslc, ↓q_orev, ↓q_ocall, ↓q_obi, ↓q_ojoin, ↓q_olc, ↓q_ofs, ↓q_odct, ↓q_lookv, ↓q_looks, ↓q_peek, ↓q_look0, ↓q_look1, ↓q_set, ↓q_bnm, ↓q_btp, ↓q_sets0, ↓q_sets1, ↓q_par0, ↓q_par1, ↓q_own, ↓q_appV, ↓q_extn, ↓q_extl, ↓q_ixr, ↓q_ixt, ↓q_ixl, ↓q_ixs, ↓q_putG, ↓q_add_int, ↓q_add_str, ↓q_add_lst, ↓q_add_tup, ↓q_sub_int, ↓q_mul_int, ↓q_mul_lst, ↓q_mul_tup, ↓q_fdiv_int, ↓q_mod_int, ↓q_pow_int, ↓q_bint, ↓q_bintb, ↓q_blenl, ↓q_blent, ↓q_blens, ↓q_bstri, ↓q_bstrs, ↓q_blistl, ↓q_blistt, ↓q_btupl, ↓q_btupt, ↓q_bmin, ↓q_bmax, ↓q_fmts, ↓q_fmti, ↓q_asg, ↓q_parS, ↓q_put, ↓q_ex, ↓q_iff, ↓q_for, ↓q_retV, ↓q_rcst, ↓q_rtup, ↓q_rlst, ↓q_rbin, ↓q_rcmp, ↓q_rneg, ↓q_rnt, ↓q_ran, ↓q_rorr, ↓q_rite, ↓q_ridx, ↓q_rslc, ↓q_rrev, ↓q_rcall, ↓q_rbi, ↓q_rjoin, ↓q_rlc, ↓q_rfs, ↓q_rdct, ↓q_retN, ↓q_pas, ↓q_brk, ↓q_cnt, ↓q_exs0, ↓q_exs1, q_add_int, q_add_str, q_add_lst, q_add_tup, q_sub_int, q_mul_int, q_mul_lst, q_mul_tup, q_fdiv_int, q_mod_int, q_pow_int, q_bint, q_bintb, q_blenl, q_blent, q_blens, q_bstri, q_bstrs, q_blistl, q_blistt, q_btupl, q_btupt, q_bmin, q_bmax, q_fmts, q_fmti, backG_mk, pushG_mk, wipe_nil, wipe_cons, back_nil, back_cons, noOwn_nil, slots_nm, slots_tp, pv_val, pv_new, slot_val, slot_new, asInt_int, truV_bl, truV_int, cmpV_eq, cmpV_ne, cmpV_lt, cmpV_le, cmpV_gt, cmpV_ge, eqV_int, eqV_str, items_l, items_t, items_f, slcV_lst, slcV_tup, slcV_fz, revV_tup, revV_lst, idxV_lst, idxV_tup, noOwn_cons, at0, at1, at2, at3, Nxt_nx, Nxt_ret, Nxt_brk, Nxt_cnt, Turn_nx, Turn_cnt, Turn_brk, Turn_ret, Fin'_ret, Fin'_nx, List.getElem?_cons_zero, List.getElem?_cons_succ, List.set_cons_zero, List.set_cons_succ, List.getD_cons_zero, List.getD_cons_succ, List.length_cons, List.length_nil, List.map_cons, List.map_nil, List.cons_append, List.nil_append, List.replicate_succ, List.replicate_zero, Option.map_some, Option.some.injEq, Bool.not_true, Bool.not_false, Bool.and_self, Bool.and_true, Bool.true_and, Bool.false_eq_true, Bool.true_eq_false, if_true, if_false, ite_true, ite_false, reduceIte, true_and, and_true, Nat.reduceAdd, Nat.reduceSub, Nat.reduceLT, Nat.reduceLeDiff, Nat.reducePow, Int.reducePow, Int.reduceToNat, Int.reduceLE, Int.reduceLT, Int.reduceNeg, decide_true, decide_false, Ev.sizeLine_eq, rgOk_eq, Nat.lt_add_left_iff_pos, Nat.zero_lt_succ, Nat.succ_pos, Nat.zero_add, true_or, or_true, Nat.reduceMul, Nat.add_zero, Nat.zero_le, Nat.le_refl]
      refine Ok_callW (numbers_ok (k + 2) hl hns) fun x hq ⟨hx, he⟩ => ?_
      subst hx he
      simp only [hrp, ↓q_ok, ↓q_some, ↓q_cst, ↓q_var, ↓q_tup, ↓q_lst, ↓q_bin, ↓q_cmp, ↓q_neg, ↓q_nt, ↓q_an, ↓q_orr, ↓q_ite, ↓q_idx, ↓q_slc, ↓q_rev, ↓q_call, ↓q_bi, ↓q_join, ↓q_app, ↓q_ext, ↓q_lc, ↓q_fs, ↓q_dct, ↓q_evs0, ↓q_evs1, ↓q_opds0, ↓q_opds1, ↓q_no, ↓q_so, ↓q_it, ↓q_rg1, ↓q_rg2, ↓q_tno, ↓q_tso, ↓q_evf0, ↓q_evf1, ↓q_tnt, ↓q_tan, ↓q_tor, ↓q_tite, ↓q_tvar, ↓q_tcst, ↓q_tcmp, ↓q_tidx, ↓q_tcall, ↓q_tbi, ↓q_tslc, ↓q_ovar, ↓q_ocst, ↓q_otup, ↓q_olst, ↓q_obin, ↓q_ocmp, ↓q_oneg, ↓q_ont, ↓q_oan, ↓q_oorr, ↓q_oite, ↓q_oidx, ↓q_oslc, ↓q_orev, ↓q_ocall, ↓q_obi, ↓q_ojoin, ↓q_olc, ↓q_ofs, ↓q_odct, ↓q_lookv, ↓q_looks, ↓q_peek, ↓q_look0, ↓q_look1, ↓q_set, ↓q_bnm, ↓q_btp, ↓q_sets0, ↓q_sets1, ↓q_par0, ↓q_par1, ↓q_own, ↓q_appV, ↓q_extn, ↓q_extl, ↓q_ixr, ↓q_ixt, ↓q_ixl, ↓q_ixs, ↓q_putG, ↓q_add_int, ↓q_add_str, ↓q_add_lst, ↓q_add_tup, ↓q_sub_int, ↓q_mul_int, ↓q_mul_lst, ↓q_mul_tup, ↓q_fdiv_int, ↓q_mod_int, ↓q_pow_int, ↓q_bint, ↓q_bintb, ↓q_blenl, ↓q_blent, ↓q_blens, ↓q_bstri, ↓q_bstrs, ↓q_blistl, ↓q_blistt, ↓q_btupl, ↓q_btupt, ↓q_bmin, ↓q_bmax, ↓q_fmts, ↓q_fmti, ↓q_asg, ↓q_parS, ↓q_put, ↓q_ex, ↓q_iff, ↓q_for, ↓q_retV, ↓q_rcst, ↓q_rtup, ↓q_rlst, ↓q_rbin, ↓q_rcmp, ↓q_rneg, ↓q_rnt, ↓q_ran, ↓q_rorr, ↓q_rite, ↓q_ridx, ↓q_rslc, ↓q_rrev, ↓q_rcall, ↓q_rbi, ↓q_rjoin, ↓q_rlc, ↓q_rfs, ↓q_rdct, ↓q_retN, ↓q_pas, ↓q_brk, ↓q_cnt, ↓q_exs0, ↓q_exs1, q_add_int, q_add_str, q_add_lst, q_add_tup, q_sub_int, q_mul_int, q_mul_lst, q_mul_tup, q_fdiv_int, q_mod_int, q_pow_int, q_bint, q_bintb, q_blenl, q_blent, q_blens, q_bstri, q_bstrs, q_blistl, q_blistt, q_btupl, q_btupt, q_bmin, q_bmax, q_fmts, q_fmti, backG_mk, pushG_mk, wipe_nil, wipe_cons, back_nil, back_cons, noOwn_nil, slots_nm, slots_tp, pv_val, pv_new, slot_val, slot_new, asInt_int, truV_bl, truV_int, cmpV_eq, cmpV_ne, cmpV_lt, cmpV_le, cmpV_gt, cmpV_ge, eqV_int, eqV_str, items_l, items_t, items_f, slcV_lst, slcV_tup, slcV_fz, revV_tup, revV_lst, idxV_lst, idxV_tup, noOwn_cons, at0, at1, at2, at3, Nxt_nx, Nxt_ret, Nxt_brk, Nxt_cnt, Turn_nx, Turn_cnt, Turn_brk, Turn_ret, Fin'_ret, Fin'_nx, List.getElem?_cons_zero, List.getElem?_cons_succ, List.set_cons_zero, List.set_cons_succ, List.getD_cons_zero, List.getD_cons_succ, List.length_cons, List.length_nil, List.map_cons, List.map_nil, List.cons_append, List.nil_append, List.replicate_succ, List.replicate_zero, Option.map_some, Option.some.injEq, Bool.not_true, Bool.not_false, Bool.and_self, Bool.and_true, Bool.true_and, Bool.false_eq_true, Bool.true_eq_false, if_true, if_false, ite_true, ite_false, reduceIte, true_and, and_true, Nat.reduceAdd, Nat.reduceSub, Nat.reduceLT, Nat.reduceLeDiff, Nat.reducePow, Int.reducePow, Int.reduceToNat, Int.reduceLE, Int.reduceLT, Int.reduceNeg, decide_true, decide_false, Ev.sizeLine_eq, rgOk_eq, Nat.lt_add_left_iff_pos, Nat.zero_lt_succ, Nat.succ_pos, Nat.zero_add, true_or, or_true, Nat.reduceMul, Nat.add_zero, Nat.zero_le, Nat.le_refl]
      refine Ok_callW (words_ok (k + 1) F2 (by omega) (by omega)) fun x hp3 ⟨F3, ws, hx, hwl, hws⟩ => ?_
      subst hx
      simp only [↓q_ok, ↓q_some, ↓q_cst, ↓q_var, ↓q_tup, ↓q_lst, ↓q_bin, ↓q_cmp, ↓q_neg, ↓q_nt, ↓q_an, ↓q_orr, ↓q_ite, ↓q_idx, ↓q_slc, ↓q_rev, ↓q_call, ↓q_bi, ↓q_join, ↓q_app, ↓q_ext, ↓q_lc, ↓q_fs, ↓q_dct, ↓q_evs0, ↓q_evs1, ↓q_opds0, ↓q_opds1, ↓q_no, ↓q_so, ↓q_it, ↓q_rg1, ↓q_rg2, ↓q_tno, ↓q_tso, ↓q_evf0, ↓q_evf1, ↓q_tnt, ↓q_tan, ↓q_tor, ↓q_tite, ↓q_tvar, ↓q_tcst, ↓q_tcmp, ↓q_tidx, ↓q_tcall, ↓q_tbi, ↓q_tslc, ↓q_ovar, ↓q_ocst, ↓q_otup, ↓q_olst, ↓q_obin, ↓q_ocmp, ↓q_oneg, ↓q_ont, ↓q_oan, ↓q_oorr, ↓q_oite, ↓q_oidx, ↓q_oslc, ↓q_orev, ↓q_ocall, ↓q_obi, ↓q_ojoin, ↓q_olc, ↓q_ofs, ↓q_odct, ↓q_lookv, ↓q_looks, ↓q_peek, ↓q_look0, ↓q_look1, ↓q_set, ↓q_bnm, ↓q_btp, ↓q_sets0, ↓q_sets1, ↓q_par0, ↓q_par1, ↓q_own, ↓q_appV, ↓q_extn, ↓q_extl, ↓q_ixr, ↓q_ixt, ↓q_ixl, ↓q_ixs, ↓q_putG, ↓q_add_int, ↓q_add_str, ↓q_add_lst, ↓q_add_tup, ↓q_sub_int, ↓q_mul_int, ↓q_mul_lst, ↓q_mul_tup, ↓q_fdiv_int, ↓q_mod_int, ↓q_pow_int, ↓q_bint, ↓q_bintb, ↓q_blenl, ↓q_blent, ↓q_blens, ↓q_bstri, ↓q_bstrs, ↓q_blistl, ↓q_blistt, ↓q_btupl, ↓q_btupt, ↓q_bmin, ↓q_bmax, ↓q_fmts, ↓q_fmti, ↓q_asg, ↓q_parS, ↓q_put, ↓q_ex, ↓q_iff, ↓q_for, ↓q_retV, ↓q_rcst, ↓q_rtup, ↓q_rlst, ↓q_rbin, ↓q_rcmp, ↓q_rneg, ↓q_rnt, ↓q_ran, ↓q_rorr, ↓q_rite, ↓q_ridx, ↓q_rslc, ↓q_rrev, ↓q_rcall, ↓q_rbi, ↓q_rjoin, ↓q_rlc, ↓q_rfs, ↓q_rdct, ↓q_retN, ↓q_pas, ↓q_brk, ↓q_cnt, ↓q_exs0, ↓q_exs1, q_add_int, q_add_str, q_add_lst, q_add_tup, q_sub_int, q_mul_int, q_mul_lst, q_mul_tup, q_fdiv_int, q_mod_int, q_pow_int, q_bint, q_bintb, q_blenl, q_blent, q_blens, q_bstri, q_bstrs, q_blistl, q_blistt, q_btupl, q_btupt, q_bmin, q_bmax, q_fmts, q_fmti, backG_mk, pushG_mk, wipe_nil, wipe_cons, back_nil, back_cons, noOwn_nil, slots_nm, slots_tp, pv_val, pv_new, slot_val, slot_new, asInt_int, truV_bl, truV_int, cmpV_eq, cmpV_ne, cmpV_lt, cmpV_le, cmpV_gt, cmpV_ge, eqV_int, eqV_str, items_l, items_t, items_f, slcV_lst, slcV_tup, slcV_fz, revV_tup, revV_lst, idxV_lst, idxV_tup, noOwn_cons, at0, at1, at2, at3, Nxt_nx, Nxt_ret, Nxt_brk, Nxt_cnt, Turn_nx, Turn_cnt, Turn_brk, Turn_ret, Fin'_ret, Fin'_nx, List.getElem?_cons_zero, List.getElem?_cons_succ, List.set_cons_zero, List.set_cons_succ, List.getD_cons_zero, List.getD_cons_succ, List.length_cons, List.length_nil, List.map_cons, List.map_nil, List.cons_append, List.nil_append, List.replicate_succ, List.replicate_zero, Option.map_some, Option.some.injEq, Bool.not_true, Bool.not_false, Bool.and_self, Bool.and_true, Bool.true_and, Bool.false_eq_true, Bool.true_eq_false, if_true, if_false, ite_true, ite_false, reduceIte, true_and, and_true, Nat.reduceAdd, Nat.reduceSub, Nat.reduceLT, Nat.reduceLeDiff, Nat.reducePow, Int.reducePow, Int.reduceToNat, Int.reduceLE, Int.reduceLT, Int.reduceNeg, decide_true, decide_false, Ev.sizeLine_eq, rgOk_eq, Nat.lt_add_left_iff_pos, Nat.zero_lt_succ, Nat.succ_pos, Nat.zero_add, true_or, or_true, Nat.reduceMul, Nat.add_zero, Nat.zero_le, Nat.le_refl]
      refine for_sl (β := Slot × Slot × Slot) (fun b sl => ((sl.set 5 b.1).set 6 b.2.1).set 7 b.2.2) (fun i b hp => hp = hp3) (.no, .no, .no) rfl rfl (fun i x b hp hx e => ?_) fun b hp e => ?_
      · subst e
        obtain ⟨s, m, rfl, ts, m1, m2⟩ := sortP_of (by decide +kernel) (List.mem_of_getElem? hx)
        simp only [↓q_ok, ↓q_some, ↓q_cst, ↓q_var, ↓q_tup, ↓q_lst, ↓q_bin, ↓q_cmp, ↓q_neg, ↓q_nt, ↓q_an, ↓q_orr, ↓q_ite, ↓q_idx, ↓q_slc, ↓q_rev, ↓q_call, ↓q_bi, ↓q_join, ↓q_app, ↓q_ext, ↓q_lc, ↓q_fs, ↓q_dct, ↓q_evs0, ↓q_evs1, ↓q_opds0, ↓q_opds1, ↓q_no, ↓q_so, ↓q_it, ↓q_rg1, ↓q_rg2, ↓q_tno, ↓q_tso, ↓q_evf0, ↓q_evf1, ↓q_tnt, ↓q_tan, ↓q_tor, ↓q_tite, ↓q_tvar, ↓q_tcst, ↓q_tcmp, ↓q_tidx, ↓q_tcall, ↓q_tbi, ↓q_tslc, ↓q_ovar, ↓q_ocst, ↓q_otup, ↓q_olst, ↓q_obin, ↓q_ocmp, ↓q_oneg, ↓q_ont, ↓q_oan, ↓q_oorr, ↓q_oite, ↓q_oidx, ↓q_oslc, ↓q_orev, ↓q_ocall, ↓q_obi, ↓q_ojoin, ↓q_olc, ↓q_ofs, ↓q_odct, ↓q_lookv, ↓q_looks, ↓q_peek, ↓q_look0, ↓q_look1, ↓q_set, ↓q_bnm, ↓q_btp, ↓q_sets0, ↓q_sets1, ↓q_par0, ↓q_par1, ↓q_own, ↓q_appV, ↓q_extn, ↓q_extl, ↓q_ixr, ↓q_ixt, ↓q_ixl, ↓q_ixs, ↓q_putG, ↓q_add_int, ↓q_add_str, ↓q_add_lst, ↓q_add_tup, ↓q_sub_int, ↓q_mul_int, ↓q_mul_lst, ↓q_mul_tup, ↓q_fdiv_int, ↓q_mod_int, ↓q_pow_int, ↓q_bint, ↓q_bintb, ↓q_blenl, ↓q_blent, ↓q_blens, ↓q_bstri, ↓q_bstrs, ↓q_blistl, ↓q_blistt, ↓q_btupl, ↓q_btupt, ↓q_bmin, ↓q_bmax, ↓q_fmts, ↓q_fmti, ↓q_asg, ↓q_parS, ↓q_put, ↓q_ex, ↓q_iff, ↓q_for, ↓q_retV, ↓q_rcst, ↓q_rtup, ↓q_rlst, ↓q_rbin, ↓q_rcmp, ↓q_rneg, ↓q_rnt, ↓q_ran, ↓q_rorr, ↓q_rite, ↓q_ridx, ↓q_rslc, ↓q_rrev, ↓q_rcall, ↓q_rbi, ↓q_rjoin, ↓q_rlc, ↓q_rfs, ↓q_rdct, ↓q_retN, ↓q_pas, ↓q_brk, ↓q_cnt, ↓q_exs0, ↓q_exs1, q_add_int, q_add_str, q_add_lst, q_add_tup, q_sub_int, q_mul_int, q_mul_lst, q_mul_tup, q_fdiv_int, q_mod_int, q_pow_int, q_bint, q_bintb, q_blenl, q_blent, q_blens, q_bstri, q_bstrs, q_blistl, q_blistt, q_btupl, q_btupt, q_bmin, q_bmax, q_fmts, q_fmti, backG_mk, pushG_mk, wipe_nil, wipe_cons, back_nil, back_cons, noOwn_nil, slots_nm, slots_tp, pv_val, pv_new, slot_val, slot_new, asInt_int, truV_bl, truV_int, cmpV_eq, cmpV_ne, cmpV_lt, cmpV_le, cmpV_gt, cmpV_ge, eqV_int, eqV_str, items_l, items_t, items_f, slcV_lst, slcV_tup, slcV_fz, revV_tup, revV_lst, idxV_lst, idxV_tup, noOwn_cons, at0, at1, at2, at3, Nxt_nx, Nxt_ret, Nxt_brk, Nxt_cnt, Turn_nx, Turn_cnt, Turn_brk, Turn_ret, Fin'_ret, Fin'_nx, List.getElem?_cons_zero, List.getElem?_cons_succ, List.set_cons_zero, List.set_cons_succ, List.getD_cons_zero, List.getD_cons_succ, List.length_cons, List.length_nil, List.map_cons, List.map_nil, List.cons_append, List.nil_append, List.replicate_succ, List.replicate_zero, Option.map_some, Option.some.injEq, Bool.not_true, Bool.not_false, Bool.and_self, Bool.and_true, Bool.true_and, Bool.false_eq_true, Bool.true_eq_false, if_true, if_false, ite_true, ite_false, reduceIte, true_and, and_true, Nat.reduceAdd, Nat.reduceSub, Nat.reduceLT, Nat.reduceLeDiff, Nat.reducePow, Int.reducePow, Int.reduceToNat, Int.reduceLE, Int.reduceLT, Int.reduceNeg, decide_true, decide_false, Ev.sizeLine_eq, rgOk_eq, Nat.lt_add_left_iff_pos, Nat.zero_lt_succ, Nat.succ_pos, Nat.zero_add, true_or, or_true, Nat.reduceMul, Nat.add_zero, Nat.zero_le, Nat.le_refl]
        rw [cut_to (by omega)]
        have et : PV.str s :: List.take m.toNat (ws.map PV.str) = (s :: ws.take m.toNat).map PV.str := by rw [List.map_cons, List.map_take]
        have tl : (s :: ws.take m.toNat).length ≤ 3 := by
          simp
          omega
        have tt : ∀ w ∈ s :: ws.take m.toNat, Tx 12 w := fun w hw => by
          rcases List.mem_cons.mp hw with rfl | hw
          · exact ts
          · exact hws w (List.mem_of_mem_take hw)
        refine ⟨by ((try simp only [List.length_append, List.length_cons, List.length_nil, List.length_take, List.length_map, List.length_reverse]); omega), ?_⟩
        generalize s :: ws.take m.toNat = tks at *
        rw [et]
        have hjt : Tx 39 (Txt.join " " tks) := Tx.join (s := " ") (m := 1) (n := 12) (Tx.by (by decide +kernel)) tt tl
        refine Ok_callW (task_ok (k + 2) tl tt) fun x hq ⟨hx, he⟩ => ?_
        subst hx he
        simp only [↓q_ok, ↓q_some, ↓q_cst, ↓q_var, ↓q_tup, ↓q_lst, ↓q_bin, ↓q_cmp, ↓q_neg, ↓q_nt, ↓q_an, ↓q_orr, ↓q_ite, ↓q_idx, ↓q_slc, ↓q_rev, ↓q_call, ↓q_bi, ↓q_join, ↓q_app, ↓q_ext, ↓q_lc, ↓q_fs, ↓q_dct, ↓q_evs0, ↓q_evs1, ↓q_opds0, ↓q_opds1, ↓q_no, ↓q_so, ↓q_it, ↓q_rg1, ↓q_rg2, ↓q_tno, ↓q_tso, ↓q_evf0, ↓q_evf1, ↓q_tnt, ↓q_tan, ↓q_tor, ↓q_tite, ↓q_tvar, ↓q_tcst, ↓q_tcmp, ↓q_tidx, ↓q_tcall, ↓q_tbi, ↓q_tslc, ↓q_ovar, ↓q_ocst, ↓q_otup, ↓q_olst, ↓q_obin, ↓q_ocmp, ↓q_oneg, ↓q_ont, ↓q_oan, ↓q_oorr, ↓q_oite, ↓q_oidx, ↓q_oslc, ↓q_orev, ↓q_ocall, ↓q_obi, ↓q_ojoin, ↓q_olc, ↓q_ofs, ↓q_odct, ↓q_lookv, ↓q_looks, ↓q_peek, ↓q_look0, ↓q_look1, ↓q_set, ↓q_bnm, ↓q_btp, ↓q_sets0, ↓q_sets1, ↓q_par0, ↓q_par1, ↓q_own, ↓q_appV, ↓q_extn, ↓q_extl, ↓q_ixr, ↓q_ixt, ↓q_ixl, ↓q_ixs, ↓q_putG, ↓q_add_int, ↓q_add_str, ↓q_add_lst, ↓q_add_tup, ↓q_sub_int, ↓q_mul_int, ↓q_mul_lst, ↓q_mul_tup, ↓q_fdiv_int, ↓q_mod_int, ↓q_pow_int, ↓q_bint, ↓q_bintb, ↓q_blenl, ↓q_blent, ↓q_blens, ↓q_bstri, ↓q_bstrs, ↓q_blistl, ↓q_blistt, ↓q_btupl, ↓q_btupt, ↓q_bmin, ↓q_bmax, ↓q_fmts, ↓q_fmti, ↓q_asg, ↓q_parS, ↓q_put, ↓q_ex, ↓q_iff, ↓q_for, ↓q_retV, ↓q_rcst, ↓q_rtup, ↓q_rlst, ↓q_rbin, ↓q_rcmp, ↓q_rneg, ↓q_rnt, ↓q_ran, ↓q_rorr, ↓q_rite, ↓q_ridx, ↓q_rslc, ↓q_rrev, ↓q_rcall, ↓q_rbi, ↓q_rjoin, ↓q_rlc, ↓q_rfs, ↓q_rdct, ↓q_retN, ↓q_pas, ↓q_brk, ↓q_cnt, ↓q_exs0, ↓q_exs1, q_add_int, q_add_str, q_add_lst, q_add_tup, q_sub_int, q_mul_int, q_mul_lst, q_mul_tup, q_fdiv_int, q_mod_int, q_pow_int, q_bint, q_bintb, q_blenl, q_blent, q_blens, q_bstri, q_bstrs, q_blistl, q_blistt, q_btupl, q_btupt, q_bmin, q_bmax, q_fmts, q_fmti, backG_mk, pushG_mk, wipe_nil, wipe_cons, back_nil, back_cons, noOwn_nil, slots_nm, slots_tp, pv_val, pv_new, slot_val, slot_new, asInt_int, truV_bl, truV_int, cmpV_eq, cmpV_ne, cmpV_lt, cmpV_le, cmpV_gt, cmpV_ge, eqV_int, eqV_str, items_l, items_t, items_f, slcV_lst, slcV_tup, slcV_fz, revV_tup, revV_lst, idxV_lst, idxV_tup, noOwn_cons, at0, at1, at2, at3, Nxt_nx, Nxt_ret, Nxt_brk, Nxt_cnt, Turn_nx, Turn_cnt, Turn_brk, Turn_ret, Fin'_ret, Fin'_nx, List.getElem?_cons_zero, List.getElem?_cons_succ, List.set_cons_zero, List.set_cons_succ, List.getD_cons_zero, List.getD_cons_succ, List.length_cons, List.length_nil, List.map_cons, List.map_nil, List.cons_append, List.nil_append, List.replicate_succ, List.replicate_zero, Option.map_some, Option.some.injEq, Bool.not_true, Bool.not_false, Bool.and_self, Bool.and_true, Bool.true_and, Bool.false_eq_true, Bool.true_eq_false, if_true, if_false, ite_true, ite_false, reduceIte, true_and, and_true, Nat.reduceAdd, Nat.reduceSub, Nat.reduceLT, Nat.reduceLeDiff, Nat.reducePow, Int.reducePow, Int.reduceToNat, Int.reduceLE, Int.reduceLT, Int.reduceNeg, decide_true, decide_false, Ev.sizeLine_eq, rgOk_eq, Nat.lt_add_left_iff_pos, Nat.zero_lt_succ, Nat.succ_pos, Nat.zero_add, true_or, or_true, Nat.reduceMul, Nat.add_zero, Nat.zero_le, Nat.le_refl]
        refine Ok_callW (task_ok (k + 2) tl tt) fun x hq ⟨hx, he⟩ => ?_
        subst hx he
        simp only [rep2 hjt (by decide), jTaskL tl (by decide) tt, List.flatten_cons, List.flatten_nil, List.append_nil, ↓q_ok, ↓q_some, ↓q_cst, ↓q_var, ↓q_tup, ↓q_lst, ↓q_bin, ↓q_cmp, ↓q_neg, ↓q_nt, ↓q_an, ↓q_orr, ↓q_ite, ↓q_idx, ↓q_slc, ↓q_rev, ↓q_call, ↓q_bi, ↓q_join, ↓q_app, ↓q_ext, ↓q_lc, ↓q_fs, ↓q_dct, ↓q_evs0, ↓q_evs1, ↓q_opds0, ↓q_opds1, ↓q_no, ↓q_so, ↓q_it, ↓q_rg1, ↓q_rg2, ↓q_tno, ↓q_tso, ↓q_evf0, ↓q_evf1, ↓q_tnt, ↓q_tan, ↓q_tor, ↓q_tite, ↓q_tvar, ↓q_tcst, ↓q_tcmp, ↓q_tidx, ↓q_tcall, ↓q_tbi, ↓q_tslc, ↓q_ovar, ↓q_ocst, ↓q_otup, ↓q_olst, ↓q_obin, ↓q_ocmp, ↓q_oneg, ↓q_ont, ↓q_oan, ↓q_oorr, ↓q_oite, ↓q_oidx, ↓q_oslc, ↓q_orev, ↓q_ocall, ↓q_obi, ↓q_ojoin, ↓q_olc, ↓q_ofs, ↓q_odct, ↓q_lookv, ↓q_looks, ↓q_peek, ↓q_look0, ↓q_look1, ↓q_set, ↓q_bnm, ↓q_btp, ↓q_sets0, ↓q_sets1, ↓q_par0, ↓q_par1, ↓q_own, ↓q_appV, ↓q_extn, ↓q_extl, ↓q_ixr, ↓q_ixt, ↓q_ixl, ↓q_ixs, ↓q_putG, ↓q_add_int, ↓q_add_str, ↓q_add_lst, ↓q_add_tup, ↓q_sub_int, ↓q_mul_int, ↓q_mul_lst, ↓q_mul_tup, ↓q_fdiv_int, ↓q_mod_int, ↓q_pow_int, ↓q_bint, ↓q_bintb, ↓q_blenl, ↓q_blent, ↓q_blens, ↓q_bstri, ↓q_bstrs, ↓q_blistl, ↓q_blistt, ↓q_btupl, ↓q_btupt, ↓q_bmin, ↓q_bmax, ↓q_fmts, ↓q_fmti, ↓q_asg, ↓q_parS, ↓q_put, ↓q_ex, ↓q_iff, ↓q_for, ↓q_retV, ↓q_rcst, ↓q_rtup, ↓q_rlst, ↓q_rbin, ↓q_rcmp, ↓q_rneg, ↓q_rnt, ↓q_ran, ↓q_rorr, ↓q_rite, ↓q_ridx, ↓q_rslc, ↓q_rrev, ↓q_rcall, ↓q_rbi, ↓q_rjoin, ↓q_rlc, ↓q_rfs, ↓q_rdct, ↓q_retN, ↓q_pas, ↓q_brk, ↓q_cnt, ↓q_exs0, ↓q_exs1, q_add_int, q_add_str, q_add_lst, q_add_tup, q_sub_int, q_mul_int, q_mul_lst, q_mul_tup, q_fdiv_int, q_mod_int, q_pow_int, q_bint, q_bintb, q_blenl, q_blent, q_blens, q_bstri, q_bstrs, q_blistl, q_blistt, q_btupl, q_btupt, q_bmin, q_bmax, q_fmts, q_fmti, backG_mk, pushG_mk, wipe_nil, wipe_cons, back_nil, back_cons, noOwn_nil, slots_nm, slots_tp, pv_val, pv_new, slot_val, slot_new, asInt_int, truV_bl, truV_int, cmpV_eq, cmpV_ne, cmpV_lt, cmpV_le, cmpV_gt, cmpV_ge, eqV_int, eqV_str, items_l, items_t, items_f, slcV_lst, slcV_tup, slcV_fz, revV_tup, revV_lst, idxV_lst, idxV_tup, noOwn_cons, at0, at1, at2, at3, Nxt_nx, Nxt_ret, Nxt_brk, Nxt_cnt, Turn_nx, Turn_cnt, Turn_brk, Turn_ret, Fin'_ret, Fin'_nx, List.getElem?_cons_zero, List.getElem?_cons_succ, List.set_cons_zero, List.set_cons_succ, List.getD_cons_zero, List.getD_cons_succ, List.length_cons, List.length_nil, List.map_cons, List.map_nil, List.cons_append, List.nil_append, List.replicate_succ, List.replicate_zero, Option.map_some, Option.some.injEq, Bool.not_true, Bool.not_false, Bool.and_self, Bool.and_true, Bool.true_and, Bool.false_eq_true, Bool.true_eq_false, if_true, if_false, ite_true, ite_false, reduceIte, true_and, and_true, Nat.reduceAdd, Nat.reduceSub, Nat.reduceLT, Nat.reduceLeDiff, Nat.reducePow, Int.reducePow, Int.reduceToNat, Int.reduceLE, Int.reduceLT, Int.reduceNeg, decide_true, decide_false, Ev.sizeLine_eq, rgOk_eq, Nat.lt_add_left_iff_pos, Nat.zero_lt_succ, Nat.succ_pos, Nat.zero_add, true_or, or_true, Nat.reduceMul, Nat.add_zero, Nat.zero_le, Nat.le_refl]
        exact ⟨(_, _, _), rfl⟩
      · subst e
        simp only [↓q_ok, ↓q_some, ↓q_cst, ↓q_var, ↓q_tup, ↓q_lst, ↓q_bin, ↓q_cmp, ↓q_neg, ↓q_nt, ↓q_an, ↓q_orr, ↓q_ite, ↓q_idx, ↓q_slc, ↓q_rev, ↓q_call, ↓q_bi, ↓q_join, ↓q_app, ↓q_ext, ↓q_lc, ↓q_fs, ↓q_dct, ↓q_evs0, ↓q_evs1, ↓q_opds0, ↓q_opds1, ↓q_no, ↓q_so, ↓q_it, ↓q_rg1, ↓q_rg2, ↓q_tno, ↓q_tso, ↓q_evf0, ↓q_evf1, ↓q_tnt, ↓q_tan, ↓q_tor, ↓q_tite, ↓q_tvar, ↓q_tcst, ↓q_tcmp, ↓q_tidx, ↓q_tcall, ↓q_tbi, ↓q_tslc, ↓q_ovar, ↓q_ocst, ↓q_otup, ↓q_olst, ↓q_obin, ↓q_ocmp, ↓q_oneg, ↓q_ont, ↓q_oan, ↓q_oorr, ↓q_oite, ↓q_oidx, ↓q_oslc, ↓q_orev, ↓q_ocall, ↓q_obi, ↓q_ojoin, ↓q_olc, ↓q_ofs, ↓q_odct, ↓q_lookv, ↓q_looks, ↓q_peek, ↓q_look0, ↓q_look1, ↓q_set, ↓q_bnm, ↓q_btp, ↓q_sets0, ↓q_sets1, ↓q_par0, ↓q_par1, ↓q_own, ↓q_appV, ↓q_extn, ↓q_extl, ↓q_ixr, ↓q_ixt, ↓q_ixl, ↓q_ixs, ↓q_putG, ↓q_add_int, ↓q_add_str, ↓q_add_lst, ↓q_add_tup, ↓q_sub_int, ↓q_mul_int, ↓q_mul_lst, ↓q_mul_tup, ↓q_fdiv_int, ↓q_mod_int, ↓q_pow_int, ↓q_bint, ↓q_bintb, ↓q_blenl, ↓q_blent, ↓q_blens, ↓q_bstri, ↓q_bstrs, ↓q_blistl, ↓q_blistt, ↓q_btupl, ↓q_btupt, ↓q_bmin, ↓q_bmax, ↓q_fmts, ↓q_fmti, ↓q_asg, ↓q_parS, ↓q_put, ↓q_ex, ↓q_iff, ↓q_for, ↓q_retV, ↓q_rcst, ↓q_rtup, ↓q_rlst, ↓q_rbin, ↓q_rcmp, ↓q_rneg, ↓q_rnt, ↓q_ran, ↓q_rorr, ↓q_rite, ↓q_ridx, ↓q_rslc, ↓q_rrev, ↓q_rcall, ↓q_rbi, ↓q_rjoin, ↓q_rlc, ↓q_rfs, ↓q_rdct, ↓q_retN, ↓q_pas, ↓q_brk, ↓q_cnt, ↓q_exs0, ↓q_exs1, q_add_int, q_add_str, q_add_lst, q_add_tup, q_sub_int, q_mul_int, q_mul_lst, q_mul_tup, q_fdiv_int, q_mod_int, q_pow_int, q_bint, q_bintb, q_blenl, q_blent, q_blens, q_bstri, q_bstrs, q_blistl, q_blistt, q_btupl, q_btupt, q_bmin, q_bmax, q_fmts, q_fmti, backG_mk, pushG_mk, wipe_nil, wipe_cons, back_nil, back_cons, noOwn_nil, slots_nm, slots_tp, pv_val, pv_new, slot_val, slot_new, asInt_int, truV_bl, truV_int, cmpV_eq, cmpV_ne, cmpV_lt, cmpV_le, cmpV_gt, cmpV_ge, eqV_int, eqV_str, items_l, items_t, items_f, slcV_lst, slcV_tup, slcV_fz, revV_tup, revV_lst, idxV_lst, idxV_tup, noOwn_cons, at0, at1, at2, at3, Nxt_nx, Nxt_ret, Nxt_brk, Nxt_cnt, Turn_nx, Turn_cnt, Turn_brk, Turn_ret, Fin'_ret, Fin'_nx, List.getElem?_cons_zero, List.getElem?_cons_succ, List.set_cons_zero, List.set_cons_succ, List.getD_cons_zero, List.getD_cons_succ, List.length_cons, List.length_nil, List.map_cons, List.map_nil, List.cons_append, List.nil_append, List.replicate_succ, List.replicate_zero, Option.map_some, Option.some.injEq, Bool.not_true, Bool.not_false, Bool.and_self, Bool.and_true, Bool.true_and, Bool.false_eq_true, Bool.true_eq_false, if_true, if_false, ite_true, ite_false, reduceIte, true_and, and_true, Nat.reduceAdd, Nat.reduceSub, Nat.reduceLT, Nat.reduceLeDiff, Nat.reducePow, Int.reducePow, Int.reduceToNat, Int.reduceLE, Int.reduceLT, Int.reduceNeg, decide_true, decide_false, Ev.sizeLine_eq, rgOk_eq, Nat.lt_add_left_iff_pos, Nat.zero_lt_succ, Nat.succ_pos, Nat.zero_add, true_or, or_true, Nat.reduceMul, Nat.add_zero, Nat.zero_le, Nat.le_refl]
        exact F3
end K09
namespace K09
open PySem Ev
theorem feed_ok (k : Nat) {ns : List Int} : Gives (calls table (k + 1) 1 [.fz ns] [] []) fun x hp' => x = .val (.ref 0) ∧ Fd hp' := by
  refine gives_run (c := calls table k) (d := d_l_feed) (as := [.fz ns]) rfl ?_
  simp only [d_l_feed, ↓q_ok, ↓q_some, ↓q_cst, ↓q_var, ↓q_tup, ↓q_lst, ↓q_bin, ↓q_cmp, ↓q_neg, ↓q_nt, ↓q_an, ↓q_orr, ↓q_ite, ↓q_idx, ↓q_slc, ↓q_rev, ↓q_call, ↓q_bi, ↓q_join, ↓q_app, ↓q_ext, ↓q_lc, ↓q_fs, ↓q_dct, ↓q_evs0, ↓q_evs1, ↓q_opds0, ↓q_opds1, ↓q_no, ↓q_so, ↓q_it, ↓q_rg1, ↓q_rg2, ↓q_tno, ↓q_tso, ↓q_evf0, ↓q_evf1, ↓q_tnt, ↓q_tan, ↓q_tor, ↓q_tite, ↓q_tvar, ↓q_tcst, ↓q_tcmp, ↓q_tidx, ↓q_tcall, ↓q_tbi, ↓q_tslc, ↓q_ovar, ↓q_ocst, ↓q_otup, ↓q_olst, ↓q_obin, ↓q_ocmp, ↓q_oneg, ↓q_ont, ↓q_oan, ↓q_oorr, ↓q_oite, ↓q_oidx, ↓q_oslc, ↓q_orev, ↓q_ocall, ↓q_obi, ↓q_ojoin, ↓q_olc, ↓q_ofs, ↓q_odct, ↓q_lookv, ↓q_looks, ↓q_peek, ↓q_look0, ↓q_look1, ↓q_set, ↓q_bnm, ↓q_btp, ↓q_sets0, ↓q_sets1, ↓q_par0, ↓q_par1, ↓q_own, ↓q_appV, ↓q_extn, ↓q_extl, ↓q_ixr, ↓q_ixt, ↓q_ixl, ↓q_ixs, ↓q_putG, ↓q_add_int, ↓q_add_str, ↓q_add_lst, ↓q_add_tup, ↓q_sub_int, ↓q_mul_int, ↓q_mul_lst, ↓q_mul_tup, ↓q_fdiv_int, ↓q_mod_int, ↓q_pow_int, ↓q_bint, ↓q_bintb, ↓q_blenl, ↓q_blent, ↓q_blens, ↓q_bstri, ↓q_bstrs, ↓q_blistl, ↓q_blistt, ↓q_btupl, ↓q_btupt, ↓q_bmin, ↓q_bmax, ↓q_fmts, ↓q_fmti, ↓q_asg, ↓q_parS, ↓q_put, ↓q_ex, ↓q_iff, ↓q_for, ↓q_retV, ↓q_rcst, ↓q_rtup, ↓q_rlst, ↓q_rbin, ↓q_rcmp, ↓q_rneg, ↓q_rnt, ↓q_ran, ↓q_rorr, ↓q_rite, ↓q_ridx, ↓q_rslc, ↓q_rrev, ↓q_rcall, ↓q_rbi, ↓q_rjoin, ↓q_rlc, ↓q_rfs, ↓q_rdct, ↓q_retN, ↓q_pas, ↓q_brk, ↓q_cnt, ↓q_exs0, ↓q_exs1, q_add_int, q_add_str, q_add_lst, q_add_tup, q_sub_int, q_mul_int, q_mul_lst, q_mul_tup, q_fdiv_int, q_mod_int, q_pow_int, q_bint, q_bintb, q_blenl, q_blent, q_blens, q_bstri, q_bstrs, q_blistl, q_blistt, q_btupl, q_btupt, q_bmin, q_bmax, q_fmts, q_fmti, backG_mk, pushG_mk, wipe_nil, wipe_cons, back_nil, back_cons, noOwn_nil, slots_nm, slots_tp, pv_val, pv_new, slot_val, slot_new, asInt_int, truV_bl, truV_int, cmpV_eq, cmpV_ne, cmpV_lt, cmpV_le, cmpV_gt, cmpV_ge, eqV_int, eqV_str, items_l, items_t, items_f, slcV_lst, slcV_tup, slcV_fz, revV_tup, revV_lst, idxV_lst, idxV_tup, noOwn_cons, at0, at1, at2, at3, Nxt_nx, Nxt_ret, Nxt_brk, Nxt_cnt, Turn_nx, Turn_cnt, Turn_brk, Turn_ret, Fin'_ret, Fin'_nx, List.getElem?_cons_zero, List.getElem?_cons_succ, List.set_cons_zero, List.set_cons_succ, List.getD_cons_zero, List.getD_cons_succ, List.length_cons, List.length_nil, List.map_cons, List.map_nil, List.cons_append, List.nil_append, List.replicate_succ, List.replicate_zero, Option.map_some, Option.some.injEq, Bool.not_true, Bool.not_false, Bool.and_self, Bool.and_true, Bool.true_and, Bool.false_eq_true, Bool.true_eq_false, if_true, if_false, ite_true, ite_false, reduceIte, true_and, and_true, Nat.reduceAdd, Nat.reduceSub, Nat.reduceLT, Nat.reduceLeDiff, Nat.reducePow, Int.reducePow, Int.reduceToNat, Int.reduceLE, Int.reduceLT, Int.reduceNeg, decide_true, decide_false, Ev.sizeLine_eq, rgOk_eq, Nat.lt_add_left_iff_pos, Nat.zero_lt_succ, Nat.succ_pos, Nat.zero_add, true_or, or_true, Nat.reduceMul, Nat.add_zero, Nat.zero_le, Nat.le_refl]
  rw [cut_to (by omega)]
  refine lc_map (f := PV.int) (h := PV.int) (· = []) (ns.take 63) [] [] rfl (by ((try simp only [List.length_append, List.length_cons, List.length_nil, List.length_take, List.length_map, List.length_reverse]); omega)) (fun t ht hp' e => ?_) fun hp' e => ?_
  · subst e
    simp only [↓q_ok, ↓q_some, ↓q_cst, ↓q_var, ↓q_tup, ↓q_lst, ↓q_bin, ↓q_cmp, ↓q_neg, ↓q_nt, ↓q_an, ↓q_orr, ↓q_ite, ↓q_idx, ↓q_slc, ↓q_rev, ↓q_call, ↓q_bi, ↓q_join, ↓q_app, ↓q_ext, ↓q_lc, ↓q_fs, ↓q_dct, ↓q_evs0, ↓q_evs1, ↓q_opds0, ↓q_opds1, ↓q_no, ↓q_so, ↓q_it, ↓q_rg1, ↓q_rg2, ↓q_tno, ↓q_tso, ↓q_evf0, ↓q_evf1, ↓q_tnt, ↓q_tan, ↓q_tor, ↓q_tite, ↓q_tvar, ↓q_tcst, ↓q_tcmp, ↓q_tidx, ↓q_tcall, ↓q_tbi, ↓q_tslc, ↓q_ovar, ↓q_ocst, ↓q_otup, ↓q_olst, ↓q_obin, ↓q_ocmp, ↓q_oneg, ↓q_ont, ↓q_oan, ↓q_oorr, ↓q_oite, ↓q_oidx, ↓q_oslc, ↓q_orev, ↓q_ocall, ↓q_obi, ↓q_ojoin, ↓q_olc, ↓q_ofs, ↓q_odct, ↓q_lookv, ↓q_looks, ↓q_peek, ↓q_look0, ↓q_look1, ↓q_set, ↓q_bnm, ↓q_btp, ↓q_sets0, ↓q_sets1, ↓q_par0, ↓q_par1, ↓q_own, ↓q_appV, ↓q_extn, ↓q_extl, ↓q_ixr, ↓q_ixt, ↓q_ixl, ↓q_ixs, ↓q_putG, ↓q_add_int, ↓q_add_str, ↓q_add_lst, ↓q_add_tup, ↓q_sub_int, ↓q_mul_int, ↓q_mul_lst, ↓q_mul_tup, ↓q_fdiv_int, ↓q_mod_int, ↓q_pow_int, ↓q_bint, ↓q_bintb, ↓q_blenl, ↓q_blent, ↓q_blens, ↓q_bstri, ↓q_bstrs, ↓q_blistl, ↓q_blistt, ↓q_btupl, ↓q_btupt, ↓q_bmin, ↓q_bmax, ↓q_fmts, ↓q_fmti, ↓q_asg, ↓q_parS, ↓q_put, ↓q_ex, ↓q_iff, ↓q_for, ↓q_retV, ↓q_rcst, ↓q_rtup, ↓q_rlst, ↓q_rbin, ↓q_rcmp, ↓q_rneg, ↓q_rnt, ↓q_ran, ↓q_rorr, ↓q_rite, ↓q_ridx, ↓q_rslc, ↓q_rrev, ↓q_rcall, ↓q_rbi, ↓q_rjoin, ↓q_rlc, ↓q_rfs, ↓q_rdct, ↓q_retN, ↓q_pas, ↓q_brk, ↓q_cnt, ↓q_exs0, ↓q_exs1, q_add_int, q_add_str, q_add_lst, q_add_tup, q_sub_int, q_mul_int, q_mul_lst, q_mul_tup, q_fdiv_int, q_mod_int, q_pow_int, q_bint, q_bintb, q_blenl, q_blent, q_blens, q_bstri, q_bstrs, q_blistl, q_blistt, q_btupl, q_btupt, q_bmin, q_bmax, q_fmts, q_fmti, backG_mk, pushG_mk, wipe_nil, wipe_cons, back_nil, back_cons, noOwn_nil, slots_nm, slots_tp, pv_val, pv_new, slot_val, slot_new, asInt_int, truV_bl, truV_int, cmpV_eq, cmpV_ne, cmpV_lt, cmpV_le, cmpV_gt, cmpV_ge, eqV_int, eqV_str, items_l, items_t, items_f, slcV_lst, slcV_tup, slcV_fz, revV_tup, revV_lst, idxV_lst, idxV_tup, noOwn_cons, at0, at1, at2, at3, Nxt_nx, Nxt_ret, Nxt_brk, Nxt_cnt, Turn_nx, Turn_cnt, Turn_brk, Turn_ret, Fin'_ret, Fin'_nx, List.getElem?_cons_zero, List.getElem?_cons_succ, List.set_cons_zero, List.set_cons_succ, List.getD_cons_zero, List.getD_cons_succ, List.length_cons, List.length_nil, List.map_cons, List.map_nil, List.cons_append, List.nil_append, List.replicate_succ, List.replicate_zero, Option.map_some, Option.some.injEq, Bool.not_true, Bool.not_false, Bool.and_self, Bool.and_true, Bool.true_and, Bool.false_eq_true, Bool.true_eq_false, if_true, if_false, ite_true, ite_false, reduceIte, true_and, and_true, Nat.reduceAdd, Nat.reduceSub, Nat.reduceLT, Nat.reduceLeDiff, Nat.reducePow, Int.reducePow, Int.reduceToNat, Int.reduceLE, Int.reduceLT, Int.reduceNeg, decide_true, decide_false, Ev.sizeLine_eq, rgOk_eq, Nat.lt_add_left_iff_pos, Nat.zero_lt_succ, Nat.succ_pos, Nat.zero_add, true_or, or_true, Nat.reduceMul, Nat.add_zero, Nat.zero_le, Nat.le_refl]
  · subst e
    simp only [↓q_ok, ↓q_some, ↓q_cst, ↓q_var, ↓q_tup, ↓q_lst, ↓q_bin, ↓q_cmp, ↓q_neg, ↓q_nt, ↓q_an, ↓q_orr, ↓q_ite, ↓q_idx, ↓q_slc, ↓q_rev, ↓q_call, ↓q_bi, ↓q_join, ↓q_app, ↓q_ext, ↓q_lc, ↓q_fs, ↓q_dct, ↓q_evs0, ↓q_evs1, ↓q_opds0, ↓q_opds1, ↓q_no, ↓q_so, ↓q_it, ↓q_rg1, ↓q_rg2, ↓q_tno, ↓q_tso, ↓q_evf0, ↓q_evf1, ↓q_tnt, ↓q_tan, ↓q_tor, ↓q_tite, ↓q_tvar, ↓q_tcst, ↓q_tcmp, ↓q_tidx, ↓q_tcall, ↓q_tbi, ↓q_tslc, ↓q_ovar, ↓q_ocst, ↓q_otup, ↓q_olst, ↓q_obin, ↓q_ocmp, ↓q_oneg, ↓q_ont, ↓q_oan, ↓q_oorr, ↓q_oite, ↓q_oidx, ↓q_oslc, ↓q_orev, ↓q_ocall, ↓q_obi, ↓q_ojoin, ↓q_olc, ↓q_ofs, ↓q_odct, ↓q_lookv, ↓q_looks, ↓q_peek, ↓q_look0, ↓q_look1, ↓q_set, ↓q_bnm, ↓q_btp, ↓q_sets0, ↓q_sets1, ↓q_par0, ↓q_par1, ↓q_own, ↓q_appV, ↓q_extn, ↓q_extl, ↓q_ixr, ↓q_ixt, ↓q_ixl, ↓q_ixs, ↓q_putG, ↓q_add_int, ↓q_add_str, ↓q_add_lst, ↓q_add_tup, ↓q_sub_int, ↓q_mul_int, ↓q_mul_lst, ↓q_mul_tup, ↓q_fdiv_int, ↓q_mod_int, ↓q_pow_int, ↓q_bint, ↓q_bintb, ↓q_blenl, ↓q_blent, ↓q_blens, ↓q_bstri, ↓q_bstrs, ↓q_blistl, ↓q_blistt, ↓q_btupl, ↓q_btupt, ↓q_bmin, ↓q_bmax, ↓q_fmts, ↓q_fmti, ↓q_asg, ↓q_parS, ↓q_put, ↓q_ex, ↓q_iff, ↓q_for, ↓q_retV, ↓q_rcst, ↓q_rtup, ↓q_rlst, ↓q_rbin, ↓q_rcmp, ↓q_rneg, ↓q_rnt, ↓q_ran, ↓q_rorr, ↓q_rite, ↓q_ridx, ↓q_rslc, ↓q_rrev, ↓q_rcall, ↓q_rbi, ↓q_rjoin, ↓q_rlc, ↓q_rfs, ↓q_rdct, ↓q_retN, ↓q_pas, ↓q_brk, ↓q_cnt, ↓q_exs0, ↓q_exs1, q_add_int, q_add_str, q_add_lst, q_add_tup, q_sub_int, q_mul_int, q_mul_lst, q_mul_tup, q_fdiv_int, q_mod_int, q_pow_int, q_bint, q_bintb, q_blenl, q_blent, q_blens, q_bstri, q_bstrs, q_blistl, q_blistt, q_btupl, q_btupt, q_bmin, q_bmax, q_fmts, q_fmti, backG_mk, pushG_mk, wipe_nil, wipe_cons, back_nil, back_cons, noOwn_nil, slots_nm, slots_tp, pv_val, pv_new, slot_val, slot_new, asInt_int, truV_bl, truV_int, cmpV_eq, cmpV_ne, cmpV_lt, cmpV_le, cmpV_gt, cmpV_ge, eqV_int, eqV_str, items_l, items_t, items_f, slcV_lst, slcV_tup, slcV_fz, revV_tup, revV_lst, idxV_lst, idxV_tup, noOwn_cons, at0, at1, at2, at3, Nxt_nx, Nxt_ret, Nxt_brk, Nxt_cnt, Turn_nx, Turn_cnt, Turn_brk, Turn_ret, Fin'_ret, Fin'_nx, List.getElem?_cons_zero, List.getElem?_cons_succ, List.set_cons_zero, List.set_cons_succ, List.getD_cons_zero, List.getD_cons_succ, List.length_cons, List.length_nil, List.map_cons, List.map_nil, List.cons_append, List.nil_append, List.replicate_succ, List.replicate_zero, Option.map_some, Option.some.injEq, Bool.not_true, Bool.not_false, Bool.and_self, Bool.and_true, Bool.true_and, Bool.false_eq_true, Bool.true_eq_false, if_true, if_false, ite_true, ite_false, reduceIte, true_and, and_true, Nat.reduceAdd, Nat.reduceSub, Nat.reduceLT, Nat.reduceLeDiff, Nat.reducePow, Int.reducePow, Int.reduceToNat, Int.reduceLE, Int.reduceLT, Int.reduceNeg, decide_true, decide_false, Ev.sizeLine_eq, rgOk_eq, Nat.lt_add_left_iff_pos, Nat.zero_lt_succ, Nat.succ_pos, Nat.zero_add, true_or, or_true, Nat.reduceMul, Nat.add_zero, Nat.zero_le, Nat.le_refl]
    exact ⟨ns.take 63, 0, 0, 0, rfl⟩
def P1 : Plan := ⟨⟨1, false, false⟩, ["x", "y"], [⟨"z", ["x", "next"], []⟩], [⟨["next", "y"], "z", []⟩]⟩
def P2 : Plan := ⟨⟨2, false, true⟩, ["x", "y"], [⟨"a", ["last", "back", "next"], [⟨"x", "is", "none"⟩, ⟨"x", "not", "y"⟩]⟩, ⟨"b", ["a"], []⟩], [⟨["first"], "none", []⟩, ⟨["back", "a"], "b", [⟨"a", "is", "b"⟩]⟩, ⟨["last"], "x", []⟩]⟩
def P3 : Plan := ⟨⟨1, true, true⟩, ["x"], [], [⟨["next", "guard"], "guard", [⟨"guard", "not", "none"⟩]⟩]⟩
theorem hand1 (k : Nat) (hp : List Cell) : calls table (k + 5) 6 [pPV P1] [] hp = some (.val (.str s_0), hp) := by kernel_rfl
theorem hand2 (k : Nat) (hp : List Cell) : calls table (k + 5) 6 [pPV P2] [] hp = some (.val (.str (s_1 ++ s_2)), hp) := by kernel_rfl
theorem hand3 (k : Nat) (hp : List Cell) : calls table (k + 5) 6 [pPV P3] [] hp = some (.val (.str s_3), hp) := by kernel_rfl
theorem hand4 (k : Nat) (hp : List Cell) : calls table (k + 5) 7 [.tup []] [] hp = some (.val (.str "-"), hp) := by kernel_rfl
theorem hand5 (k : Nat) (hp : List Cell) : calls table (k + 5) 7 [.tup [.int 2, .int 0]] [] hp = some (.val (.str "2,0"), hp) := by kernel_rfl
theorem hand6 (k : Nat) (hp : List Cell) : calls table (k + 5) 8 [.tup [.str "to", .str "x", .str "y"]] [] hp = some (.val (.str "to x y"), hp) := by kernel_rfl
theorem l_h1 : (s_1).length = 78 := by decide +kernel
theorem l_h2 : (s_2).length = 55 := by decide +kernel
def handL : List PV := [.str s_0, .str (s_1 ++ s_2),
  .str s_3, .str "-", .str "2,0", .str "to x y"]
theorem hand_rep : biV .repr [.lst handL] = some (.val (.str (PV.lst handL).d.shown)) :=
  (Fit.lst (n := 6) (Fits.of (d := 0) (b := 802) fun v hv => by
    obtain ⟨w, rfl, hw⟩ := txP_of (n := 200) (List.all_eq_true.mp (show handL.all (txP 200) = true by decide +kernel) v hv)
    exact Fit.str hw) (by decide)).repr rfl (by decide) (by decide)
theorem hand_ok (k : Nat) (hp : List Cell) : Gives (calls table (k + 6) 2 [] [] hp) fun x hp' => x = .val (.bl true) ∧ hp' = hp := by
  refine gives_call (D := table) (k := k + 5) (e := ⟨⟨"_law_by_hand", 0, []⟩, d_l_by_hand, []⟩) rfl (gives_run rfl ?_)
  have h1 := hand1 k
  have h2 := hand2 k
  have h3 := hand3 k
  have h4 := hand4 k
  have h5 := hand5 k
  have h6 := hand6 k
  simp only [P1, P2, P3, pPV, bPV, rPV, wPV, tPV, List.map_cons, List.map_nil] at h1 h2 h3
  generalize calls table (k + 5) = c at h1 h2 h3 h4 h5 h6 ⊢
  have hr := hand_rep
  unfold handL at hr
  simp only [d_l_by_hand, asm, ↓q_ok, ↓q_some, ↓q_cst, ↓q_var, ↓q_tup, ↓q_lst, ↓q_bin, ↓q_cmp, ↓q_neg, ↓q_nt, ↓q_an, ↓q_orr, ↓q_ite, ↓q_idx, ↓q_slc, ↓q_rev, ↓q_call, ↓q_bi, ↓q_join, ↓q_app, ↓q_ext, ↓q_lc, ↓q_fs, ↓q_dct, ↓q_evs0, ↓q_evs1, ↓q_opds0, ↓q_opds1, ↓q_no, ↓q_so, ↓q_it, ↓q_rg1, ↓q_rg2, ↓q_tno, ↓q_tso, ↓q_evf0, ↓q_evf1, ↓q_tnt, ↓q_tan, ↓q_tor, ↓q_tite, ↓q_tvar, ↓q_tcst, ↓q_tcmp, ↓q_tidx, ↓q_tcall, ↓q_tbi, ↓q_tslc, ↓q_ovar, ↓q_ocst, ↓q_otup, ↓q_olst, ↓q_obin, ↓q_ocmp, ↓q_oneg, ↓q_ont, ↓q_oan, ↓q_oorr, ↓q_oite, ↓q_oidx, ↓q_oslc, ↓q_orev, ↓q_ocall, ↓q_obi, ↓q_ojoin, ↓q_olc, ↓q_ofs, ↓q_odct, ↓q_lookv, ↓q_looks, ↓q_peek, ↓q_look0, ↓q_look1, ↓q_set, ↓q_bnm, ↓q_btp, ↓q_sets0, ↓q_sets1, ↓q_par0, ↓q_par1, ↓q_own, ↓q_appV, ↓q_extn, ↓q_extl, ↓q_ixr, ↓q_ixt, ↓q_ixl, ↓q_ixs, ↓q_putG, ↓q_add_int, ↓q_add_str, ↓q_add_lst, ↓q_add_tup, ↓q_sub_int, ↓q_mul_int, ↓q_mul_lst, ↓q_mul_tup, ↓q_fdiv_int, ↓q_mod_int, ↓q_pow_int, ↓q_bint, ↓q_bintb, ↓q_blenl, ↓q_blent, ↓q_blens, ↓q_bstri, ↓q_bstrs, ↓q_blistl, ↓q_blistt, ↓q_btupl, ↓q_btupt, ↓q_bmin, ↓q_bmax, ↓q_fmts, ↓q_fmti, ↓q_asg, ↓q_parS, ↓q_put, ↓q_ex, ↓q_iff, ↓q_for, ↓q_retV, ↓q_rcst, ↓q_rtup, ↓q_rlst, ↓q_rbin, ↓q_rcmp, ↓q_rneg, ↓q_rnt, ↓q_ran, ↓q_rorr, ↓q_rite, ↓q_ridx, ↓q_rslc, ↓q_rrev, ↓q_rcall, ↓q_rbi, ↓q_rjoin, ↓q_rlc, ↓q_rfs, ↓q_rdct, ↓q_retN, ↓q_pas, ↓q_brk, ↓q_cnt, ↓q_exs0, ↓q_exs1, q_add_int, q_add_str, q_add_lst, q_add_tup, q_sub_int, q_mul_int, q_mul_lst, q_mul_tup, q_fdiv_int, q_mod_int, q_pow_int, q_bint, q_bintb, q_blenl, q_blent, q_blens, q_bstri, q_bstrs, q_blistl, q_blistt, q_btupl, q_btupt, q_bmin, q_bmax, q_fmts, q_fmti, backG_mk, pushG_mk, wipe_nil, wipe_cons, back_nil, back_cons, noOwn_nil, slots_nm, slots_tp, pv_val, pv_new, slot_val, slot_new, asInt_int, truV_bl, truV_int, cmpV_eq, cmpV_ne, cmpV_lt, cmpV_le, cmpV_gt, cmpV_ge, eqV_int, eqV_str, items_l, items_t, items_f, slcV_lst, slcV_tup, slcV_fz, revV_tup, revV_lst, idxV_lst, idxV_tup, noOwn_cons, at0, at1, at2, at3, Nxt_nx, Nxt_ret, Nxt_brk, Nxt_cnt, Turn_nx, Turn_cnt, Turn_brk, Turn_ret, Fin'_ret, Fin'_nx, List.getElem?_cons_zero, List.getElem?_cons_succ, List.set_cons_zero, List.set_cons_succ, List.getD_cons_zero, List.getD_cons_succ, List.length_cons, List.length_nil, List.map_cons, List.map_nil, List.cons_append, List.nil_append, List.replicate_succ, List.replicate_zero, Option.map_some, Option.some.injEq, Bool.not_true, Bool.not_false, Bool.and_self, Bool.and_true, Bool.true_and, Bool.false_eq_true, Bool.true_eq_false, if_true, if_false, ite_true, ite_false, reduceIte, true_and, and_true, Nat.reduceAdd, Nat.reduceSub, Nat.reduceLT, Nat.reduceLeDiff, Nat.reducePow, Int.reducePow, Int.reduceToNat, Int.reduceLE, Int.reduceLT, Int.reduceNeg, decide_true, decide_false, Ev.sizeLine_eq, rgOk_eq, Nat.lt_add_left_iff_pos, Nat.zero_lt_succ, Nat.succ_pos, Nat.zero_add, true_or, or_true, Nat.reduceMul, Nat.add_zero, Nat.zero_le, Nat.le_refl]
  refine Ok_callW (gives_eq (h1 hp)) fun x hq ⟨hx, he⟩ => ?_
  subst hx he
  simp only [↓q_ok, ↓q_some, ↓q_cst, ↓q_var, ↓q_tup, ↓q_lst, ↓q_bin, ↓q_cmp, ↓q_neg, ↓q_nt, ↓q_an, ↓q_orr, ↓q_ite, ↓q_idx, ↓q_slc, ↓q_rev, ↓q_call, ↓q_bi, ↓q_join, ↓q_app, ↓q_ext, ↓q_lc, ↓q_fs, ↓q_dct, ↓q_evs0, ↓q_evs1, ↓q_opds0, ↓q_opds1, ↓q_no, ↓q_so, ↓q_it, ↓q_rg1, ↓q_rg2, ↓q_tno, ↓q_tso, ↓q_evf0, ↓q_evf1, ↓q_tnt, ↓q_tan, ↓q_tor, ↓q_tite, ↓q_tvar, ↓q_tcst, ↓q_tcmp, ↓q_tidx, ↓q_tcall, ↓q_tbi, ↓q_tslc, ↓q_ovar, ↓q_ocst, ↓q_otup, ↓q_olst, ↓q_obin, ↓q_ocmp, ↓q_oneg, ↓q_ont, ↓q_oan, ↓q_oorr, ↓q_oite, ↓q_oidx, ↓q_oslc, ↓q_orev, ↓q_ocall, ↓q_obi, ↓q_ojoin, ↓q_olc, ↓q_ofs, ↓q_odct, ↓q_lookv, ↓q_looks, ↓q_peek, ↓q_look0, ↓q_look1, ↓q_set, ↓q_bnm, ↓q_btp, ↓q_sets0, ↓q_sets1, ↓q_par0, ↓q_par1, ↓q_own, ↓q_appV, ↓q_extn, ↓q_extl, ↓q_ixr, ↓q_ixt, ↓q_ixl, ↓q_ixs, ↓q_putG, ↓q_add_int, ↓q_add_str, ↓q_add_lst, ↓q_add_tup, ↓q_sub_int, ↓q_mul_int, ↓q_mul_lst, ↓q_mul_tup, ↓q_fdiv_int, ↓q_mod_int, ↓q_pow_int, ↓q_bint, ↓q_bintb, ↓q_blenl, ↓q_blent, ↓q_blens, ↓q_bstri, ↓q_bstrs, ↓q_blistl, ↓q_blistt, ↓q_btupl, ↓q_btupt, ↓q_bmin, ↓q_bmax, ↓q_fmts, ↓q_fmti, ↓q_asg, ↓q_parS, ↓q_put, ↓q_ex, ↓q_iff, ↓q_for, ↓q_retV, ↓q_rcst, ↓q_rtup, ↓q_rlst, ↓q_rbin, ↓q_rcmp, ↓q_rneg, ↓q_rnt, ↓q_ran, ↓q_rorr, ↓q_rite, ↓q_ridx, ↓q_rslc, ↓q_rrev, ↓q_rcall, ↓q_rbi, ↓q_rjoin, ↓q_rlc, ↓q_rfs, ↓q_rdct, ↓q_retN, ↓q_pas, ↓q_brk, ↓q_cnt, ↓q_exs0, ↓q_exs1, q_add_int, q_add_str, q_add_lst, q_add_tup, q_sub_int, q_mul_int, q_mul_lst, q_mul_tup, q_fdiv_int, q_mod_int, q_pow_int, q_bint, q_bintb, q_blenl, q_blent, q_blens, q_bstri, q_bstrs, q_blistl, q_blistt, q_btupl, q_btupt, q_bmin, q_bmax, q_fmts, q_fmti, backG_mk, pushG_mk, wipe_nil, wipe_cons, back_nil, back_cons, noOwn_nil, slots_nm, slots_tp, pv_val, pv_new, slot_val, slot_new, asInt_int, truV_bl, truV_int, cmpV_eq, cmpV_ne, cmpV_lt, cmpV_le, cmpV_gt, cmpV_ge, eqV_int, eqV_str, items_l, items_t, items_f, slcV_lst, slcV_tup, slcV_fz, revV_tup, revV_lst, idxV_lst, idxV_tup, noOwn_cons, at0, at1, at2, at3, Nxt_nx, Nxt_ret, Nxt_brk, Nxt_cnt, Turn_nx, Turn_cnt, Turn_brk, Turn_ret, Fin'_ret, Fin'_nx, List.getElem?_cons_zero, List.getElem?_cons_succ, List.set_cons_zero, List.set_cons_succ, List.getD_cons_zero, List.getD_cons_succ, List.length_cons, List.length_nil, List.map_cons, List.map_nil, List.cons_append, List.nil_append, List.replicate_succ, List.replicate_zero, Option.map_some, Option.some.injEq, Bool.not_true, Bool.not_false, Bool.and_self, Bool.and_true, Bool.true_and, Bool.false_eq_true, Bool.true_eq_false, if_true, if_false, ite_true, ite_false, reduceIte, true_and, and_true, Nat.reduceAdd, Nat.reduceSub, Nat.reduceLT, Nat.reduceLeDiff, Nat.reducePow, Int.reducePow, Int.reduceToNat, Int.reduceLE, Int.reduceLT, Int.reduceNeg, decide_true, decide_false, Ev.sizeLine_eq, rgOk_eq, Nat.lt_add_left_iff_pos, Nat.zero_lt_succ, Nat.succ_pos, Nat.zero_add, true_or, or_true, Nat.reduceMul, Nat.add_zero, Nat.zero_le, Nat.le_refl]
  refine Ok_callW (gives_eq (h2 hq)) fun x hq ⟨hx, he⟩ => ?_
  subst hx he
  simp only [↓q_ok, ↓q_some, ↓q_cst, ↓q_var, ↓q_tup, ↓q_lst, ↓q_bin, ↓q_cmp, ↓q_neg, ↓q_nt, ↓q_an, ↓q_orr, ↓q_ite, ↓q_idx, ↓q_slc, ↓q_rev, ↓q_call, ↓q_bi, ↓q_join, ↓q_app, ↓q_ext, ↓q_lc, ↓q_fs, ↓q_dct, ↓q_evs0, ↓q_evs1, ↓q_opds0, ↓q_opds1, ↓q_no, ↓q_so, ↓q_it, ↓q_rg1, ↓q_rg2, ↓q_tno, ↓q_tso, ↓q_evf0, ↓q_evf1, ↓q_tnt, ↓q_tan, ↓q_tor, ↓q_tite, ↓q_tvar, ↓q_tcst, ↓q_tcmp, ↓q_tidx, ↓q_tcall, ↓q_tbi, ↓q_tslc, ↓q_ovar, ↓q_ocst, ↓q_otup, ↓q_olst, ↓q_obin, ↓q_ocmp, ↓q_oneg, ↓q_ont, ↓q_oan, ↓q_oorr, ↓q_oite, ↓q_oidx, ↓q_oslc, ↓q_orev, ↓q_ocall, ↓q_obi, ↓q_ojoin, ↓q_olc, ↓q_ofs, ↓q_odct, ↓q_lookv, ↓q_looks, ↓q_peek, ↓q_look0, ↓q_look1, ↓q_set, ↓q_bnm, ↓q_btp, ↓q_sets0, ↓q_sets1, ↓q_par0, ↓q_par1, ↓q_own, ↓q_appV, ↓q_extn, ↓q_extl, ↓q_ixr, ↓q_ixt, ↓q_ixl, ↓q_ixs, ↓q_putG, ↓q_add_int, ↓q_add_str, ↓q_add_lst, ↓q_add_tup, ↓q_sub_int, ↓q_mul_int, ↓q_mul_lst, ↓q_mul_tup, ↓q_fdiv_int, ↓q_mod_int, ↓q_pow_int, ↓q_bint, ↓q_bintb, ↓q_blenl, ↓q_blent, ↓q_blens, ↓q_bstri, ↓q_bstrs, ↓q_blistl, ↓q_blistt, ↓q_btupl, ↓q_btupt, ↓q_bmin, ↓q_bmax, ↓q_fmts, ↓q_fmti, ↓q_asg, ↓q_parS, ↓q_put, ↓q_ex, ↓q_iff, ↓q_for, ↓q_retV, ↓q_rcst, ↓q_rtup, ↓q_rlst, ↓q_rbin, ↓q_rcmp, ↓q_rneg, ↓q_rnt, ↓q_ran, ↓q_rorr, ↓q_rite, ↓q_ridx, ↓q_rslc, ↓q_rrev, ↓q_rcall, ↓q_rbi, ↓q_rjoin, ↓q_rlc, ↓q_rfs, ↓q_rdct, ↓q_retN, ↓q_pas, ↓q_brk, ↓q_cnt, ↓q_exs0, ↓q_exs1, q_add_int, q_add_str, q_add_lst, q_add_tup, q_sub_int, q_mul_int, q_mul_lst, q_mul_tup, q_fdiv_int, q_mod_int, q_pow_int, q_bint, q_bintb, q_blenl, q_blent, q_blens, q_bstri, q_bstrs, q_blistl, q_blistt, q_btupl, q_btupt, q_bmin, q_bmax, q_fmts, q_fmti, backG_mk, pushG_mk, wipe_nil, wipe_cons, back_nil, back_cons, noOwn_nil, slots_nm, slots_tp, pv_val, pv_new, slot_val, slot_new, asInt_int, truV_bl, truV_int, cmpV_eq, cmpV_ne, cmpV_lt, cmpV_le, cmpV_gt, cmpV_ge, eqV_int, eqV_str, items_l, items_t, items_f, slcV_lst, slcV_tup, slcV_fz, revV_tup, revV_lst, idxV_lst, idxV_tup, noOwn_cons, at0, at1, at2, at3, Nxt_nx, Nxt_ret, Nxt_brk, Nxt_cnt, Turn_nx, Turn_cnt, Turn_brk, Turn_ret, Fin'_ret, Fin'_nx, List.getElem?_cons_zero, List.getElem?_cons_succ, List.set_cons_zero, List.set_cons_succ, List.getD_cons_zero, List.getD_cons_succ, List.length_cons, List.length_nil, List.map_cons, List.map_nil, List.cons_append, List.nil_append, List.replicate_succ, List.replicate_zero, Option.map_some, Option.some.injEq, Bool.not_true, Bool.not_false, Bool.and_self, Bool.and_true, Bool.true_and, Bool.false_eq_true, Bool.true_eq_false, if_true, if_false, ite_true, ite_false, reduceIte, true_and, and_true, Nat.reduceAdd, Nat.reduceSub, Nat.reduceLT, Nat.reduceLeDiff, Nat.reducePow, Int.reducePow, Int.reduceToNat, Int.reduceLE, Int.reduceLT, Int.reduceNeg, decide_true, decide_false, Ev.sizeLine_eq, rgOk_eq, Nat.lt_add_left_iff_pos, Nat.zero_lt_succ, Nat.succ_pos, Nat.zero_add, true_or, or_true, Nat.reduceMul, Nat.add_zero, Nat.zero_le, Nat.le_refl]
  refine Ok_callW (gives_eq (h3 hq)) fun x hq ⟨hx, he⟩ => ?_
  subst hx he
  simp only [↓q_ok, ↓q_some, ↓q_cst, ↓q_var, ↓q_tup, ↓q_lst, ↓q_bin, ↓q_cmp, ↓q_neg, ↓q_nt, ↓q_an, ↓q_orr, ↓q_ite, ↓q_idx, ↓q_slc, ↓q_rev, ↓q_call, ↓q_bi, ↓q_join, ↓q_app, ↓q_ext, ↓q_lc, ↓q_fs, ↓q_dct, ↓q_evs0, ↓q_evs1, ↓q_opds0, ↓q_opds1, ↓q_no, ↓q_so, ↓q_it, ↓q_rg1, ↓q_rg2, ↓q_tno, ↓q_tso, ↓q_evf0, ↓q_evf1, ↓q_tnt, ↓q_tan, ↓q_tor, ↓q_tite, ↓q_tvar, ↓q_tcst, ↓q_tcmp, ↓q_tidx, ↓q_tcall, ↓q_tbi, ↓q_tslc, ↓q_ovar, ↓q_ocst, ↓q_otup, ↓q_olst, ↓q_obin, ↓q_ocmp, ↓q_oneg, ↓q_ont, ↓q_oan, ↓q_oorr, ↓q_oite, ↓q_oidx, ↓q_oslc, ↓q_orev, ↓q_ocall, ↓q_obi, ↓q_ojoin, ↓q_olc, ↓q_ofs, ↓q_odct, ↓q_lookv, ↓q_looks, ↓q_peek, ↓q_look0, ↓q_look1, ↓q_set, ↓q_bnm, ↓q_btp, ↓q_sets0, ↓q_sets1, ↓q_par0, ↓q_par1, ↓q_own, ↓q_appV, ↓q_extn, ↓q_extl, ↓q_ixr, ↓q_ixt, ↓q_ixl, ↓q_ixs, ↓q_putG, ↓q_add_int, ↓q_add_str, ↓q_add_lst, ↓q_add_tup, ↓q_sub_int, ↓q_mul_int, ↓q_mul_lst, ↓q_mul_tup, ↓q_fdiv_int, ↓q_mod_int, ↓q_pow_int, ↓q_bint, ↓q_bintb, ↓q_blenl, ↓q_blent, ↓q_blens, ↓q_bstri, ↓q_bstrs, ↓q_blistl, ↓q_blistt, ↓q_btupl, ↓q_btupt, ↓q_bmin, ↓q_bmax, ↓q_fmts, ↓q_fmti, ↓q_asg, ↓q_parS, ↓q_put, ↓q_ex, ↓q_iff, ↓q_for, ↓q_retV, ↓q_rcst, ↓q_rtup, ↓q_rlst, ↓q_rbin, ↓q_rcmp, ↓q_rneg, ↓q_rnt, ↓q_ran, ↓q_rorr, ↓q_rite, ↓q_ridx, ↓q_rslc, ↓q_rrev, ↓q_rcall, ↓q_rbi, ↓q_rjoin, ↓q_rlc, ↓q_rfs, ↓q_rdct, ↓q_retN, ↓q_pas, ↓q_brk, ↓q_cnt, ↓q_exs0, ↓q_exs1, q_add_int, q_add_str, q_add_lst, q_add_tup, q_sub_int, q_mul_int, q_mul_lst, q_mul_tup, q_fdiv_int, q_mod_int, q_pow_int, q_bint, q_bintb, q_blenl, q_blent, q_blens, q_bstri, q_bstrs, q_blistl, q_blistt, q_btupl, q_btupt, q_bmin, q_bmax, q_fmts, q_fmti, backG_mk, pushG_mk, wipe_nil, wipe_cons, back_nil, back_cons, noOwn_nil, slots_nm, slots_tp, pv_val, pv_new, slot_val, slot_new, asInt_int, truV_bl, truV_int, cmpV_eq, cmpV_ne, cmpV_lt, cmpV_le, cmpV_gt, cmpV_ge, eqV_int, eqV_str, items_l, items_t, items_f, slcV_lst, slcV_tup, slcV_fz, revV_tup, revV_lst, idxV_lst, idxV_tup, noOwn_cons, at0, at1, at2, at3, Nxt_nx, Nxt_ret, Nxt_brk, Nxt_cnt, Turn_nx, Turn_cnt, Turn_brk, Turn_ret, Fin'_ret, Fin'_nx, List.getElem?_cons_zero, List.getElem?_cons_succ, List.set_cons_zero, List.set_cons_succ, List.getD_cons_zero, List.getD_cons_succ, List.length_cons, List.length_nil, List.map_cons, List.map_nil, List.cons_append, List.nil_append, List.replicate_succ, List.replicate_zero, Option.map_some, Option.some.injEq, Bool.not_true, Bool.not_false, Bool.and_self, Bool.and_true, Bool.true_and, Bool.false_eq_true, Bool.true_eq_false, if_true, if_false, ite_true, ite_false, reduceIte, true_and, and_true, Nat.reduceAdd, Nat.reduceSub, Nat.reduceLT, Nat.reduceLeDiff, Nat.reducePow, Int.reducePow, Int.reduceToNat, Int.reduceLE, Int.reduceLT, Int.reduceNeg, decide_true, decide_false, Ev.sizeLine_eq, rgOk_eq, Nat.lt_add_left_iff_pos, Nat.zero_lt_succ, Nat.succ_pos, Nat.zero_add, true_or, or_true, Nat.reduceMul, Nat.add_zero, Nat.zero_le, Nat.le_refl]
  refine Ok_callW (gives_eq (h4 hq)) fun x hq ⟨hx, he⟩ => ?_
  subst hx he
  simp only [↓q_ok, ↓q_some, ↓q_cst, ↓q_var, ↓q_tup, ↓q_lst, ↓q_bin, ↓q_cmp, ↓q_neg, ↓q_nt, ↓q_an, ↓q_orr, ↓q_ite, ↓q_idx, ↓q_slc, ↓q_rev, ↓q_call, ↓q_bi, ↓q_join, ↓q_app, ↓q_ext, ↓q_lc, ↓q_fs, ↓q_dct, ↓q_evs0, ↓q_evs1, ↓q_opds0, ↓q_opds1, ↓q_no, ↓q_so, ↓q_it, ↓q_rg1, ↓q_rg2, ↓q_tno, ↓q_tso, ↓q_evf0, ↓q_evf1, ↓q_tnt, ↓q_tan, ↓q_tor, ↓q_tite, ↓q_tvar, ↓q_tcst, ↓q_tcmp, ↓q_tidx, ↓q_tcall, ↓q_tbi, ↓q_tslc, ↓q_ovar, ↓q_ocst, ↓q_otup, ↓q_olst, ↓q_obin, ↓q_ocmp, ↓q_oneg, ↓q_ont, ↓q_oan, ↓q_oorr, ↓q_oite, ↓q_oidx, ↓q_oslc, ↓q_orev, ↓q_ocall, ↓q_obi, ↓q_ojoin, ↓q_olc, ↓q_ofs, ↓q_odct, ↓q_lookv, ↓q_looks, ↓q_peek, ↓q_look0, ↓q_look1, ↓q_set, ↓q_bnm, ↓q_btp, ↓q_sets0, ↓q_sets1, ↓q_par0, ↓q_par1, ↓q_own, ↓q_appV, ↓q_extn, ↓q_extl, ↓q_ixr, ↓q_ixt, ↓q_ixl, ↓q_ixs, ↓q_putG, ↓q_add_int, ↓q_add_str, ↓q_add_lst, ↓q_add_tup, ↓q_sub_int, ↓q_mul_int, ↓q_mul_lst, ↓q_mul_tup, ↓q_fdiv_int, ↓q_mod_int, ↓q_pow_int, ↓q_bint, ↓q_bintb, ↓q_blenl, ↓q_blent, ↓q_blens, ↓q_bstri, ↓q_bstrs, ↓q_blistl, ↓q_blistt, ↓q_btupl, ↓q_btupt, ↓q_bmin, ↓q_bmax, ↓q_fmts, ↓q_fmti, ↓q_asg, ↓q_parS, ↓q_put, ↓q_ex, ↓q_iff, ↓q_for, ↓q_retV, ↓q_rcst, ↓q_rtup, ↓q_rlst, ↓q_rbin, ↓q_rcmp, ↓q_rneg, ↓q_rnt, ↓q_ran, ↓q_rorr, ↓q_rite, ↓q_ridx, ↓q_rslc, ↓q_rrev, ↓q_rcall, ↓q_rbi, ↓q_rjoin, ↓q_rlc, ↓q_rfs, ↓q_rdct, ↓q_retN, ↓q_pas, ↓q_brk, ↓q_cnt, ↓q_exs0, ↓q_exs1, q_add_int, q_add_str, q_add_lst, q_add_tup, q_sub_int, q_mul_int, q_mul_lst, q_mul_tup, q_fdiv_int, q_mod_int, q_pow_int, q_bint, q_bintb, q_blenl, q_blent, q_blens, q_bstri, q_bstrs, q_blistl, q_blistt, q_btupl, q_btupt, q_bmin, q_bmax, q_fmts, q_fmti, backG_mk, pushG_mk, wipe_nil, wipe_cons, back_nil, back_cons, noOwn_nil, slots_nm, slots_tp, pv_val, pv_new, slot_val, slot_new, asInt_int, truV_bl, truV_int, cmpV_eq, cmpV_ne, cmpV_lt, cmpV_le, cmpV_gt, cmpV_ge, eqV_int, eqV_str, items_l, items_t, items_f, slcV_lst, slcV_tup, slcV_fz, revV_tup, revV_lst, idxV_lst, idxV_tup, noOwn_cons, at0, at1, at2, at3, Nxt_nx, Nxt_ret, Nxt_brk, Nxt_cnt, Turn_nx, Turn_cnt, Turn_brk, Turn_ret, Fin'_ret, Fin'_nx, List.getElem?_cons_zero, List.getElem?_cons_succ, List.set_cons_zero, List.set_cons_succ, List.getD_cons_zero, List.getD_cons_succ, List.length_cons, List.length_nil, List.map_cons, List.map_nil, List.cons_append, List.nil_append, List.replicate_succ, List.replicate_zero, Option.map_some, Option.some.injEq, Bool.not_true, Bool.not_false, Bool.and_self, Bool.and_true, Bool.true_and, Bool.false_eq_true, Bool.true_eq_false, if_true, if_false, ite_true, ite_false, reduceIte, true_and, and_true, Nat.reduceAdd, Nat.reduceSub, Nat.reduceLT, Nat.reduceLeDiff, Nat.reducePow, Int.reducePow, Int.reduceToNat, Int.reduceLE, Int.reduceLT, Int.reduceNeg, decide_true, decide_false, Ev.sizeLine_eq, rgOk_eq, Nat.lt_add_left_iff_pos, Nat.zero_lt_succ, Nat.succ_pos, Nat.zero_add, true_or, or_true, Nat.reduceMul, Nat.add_zero, Nat.zero_le, Nat.le_refl]
  refine Ok_callW (gives_eq (h5 hq)) fun x hq ⟨hx, he⟩ => ?_
  subst hx he
  simp only [l_h1, l_h2, ↓q_ok, ↓q_some, ↓q_cst, ↓q_var, ↓q_tup, ↓q_lst, ↓q_bin, ↓q_cmp, ↓q_neg, ↓q_nt, ↓q_an, ↓q_orr, ↓q_ite, ↓q_idx, ↓q_slc, ↓q_rev, ↓q_call, ↓q_bi, ↓q_join, ↓q_app, ↓q_ext, ↓q_lc, ↓q_fs, ↓q_dct, ↓q_evs0, ↓q_evs1, ↓q_opds0, ↓q_opds1, ↓q_no, ↓q_so, ↓q_it, ↓q_rg1, ↓q_rg2, ↓q_tno, ↓q_tso, ↓q_evf0, ↓q_evf1, ↓q_tnt, ↓q_tan, ↓q_tor, ↓q_tite, ↓q_tvar, ↓q_tcst, ↓q_tcmp, ↓q_tidx, ↓q_tcall, ↓q_tbi, ↓q_tslc, ↓q_ovar, ↓q_ocst, ↓q_otup, ↓q_olst, ↓q_obin, ↓q_ocmp, ↓q_oneg, ↓q_ont, ↓q_oan, ↓q_oorr, ↓q_oite, ↓q_oidx, ↓q_oslc, ↓q_orev, ↓q_ocall, ↓q_obi, ↓q_ojoin, ↓q_olc, ↓q_ofs, ↓q_odct, ↓q_lookv, ↓q_looks, ↓q_peek, ↓q_look0, ↓q_look1, ↓q_set, ↓q_bnm, ↓q_btp, ↓q_sets0, ↓q_sets1, ↓q_par0, ↓q_par1, ↓q_own, ↓q_appV, ↓q_extn, ↓q_extl, ↓q_ixr, ↓q_ixt, ↓q_ixl, ↓q_ixs, ↓q_putG, ↓q_add_int, ↓q_add_str, ↓q_add_lst, ↓q_add_tup, ↓q_sub_int, ↓q_mul_int, ↓q_mul_lst, ↓q_mul_tup, ↓q_fdiv_int, ↓q_mod_int, ↓q_pow_int, ↓q_bint, ↓q_bintb, ↓q_blenl, ↓q_blent, ↓q_blens, ↓q_bstri, ↓q_bstrs, ↓q_blistl, ↓q_blistt, ↓q_btupl, ↓q_btupt, ↓q_bmin, ↓q_bmax, ↓q_fmts, ↓q_fmti, ↓q_asg, ↓q_parS, ↓q_put, ↓q_ex, ↓q_iff, ↓q_for, ↓q_retV, ↓q_rcst, ↓q_rtup, ↓q_rlst, ↓q_rbin, ↓q_rcmp, ↓q_rneg, ↓q_rnt, ↓q_ran, ↓q_rorr, ↓q_rite, ↓q_ridx, ↓q_rslc, ↓q_rrev, ↓q_rcall, ↓q_rbi, ↓q_rjoin, ↓q_rlc, ↓q_rfs, ↓q_rdct, ↓q_retN, ↓q_pas, ↓q_brk, ↓q_cnt, ↓q_exs0, ↓q_exs1, q_add_int, q_add_str, q_add_lst, q_add_tup, q_sub_int, q_mul_int, q_mul_lst, q_mul_tup, q_fdiv_int, q_mod_int, q_pow_int, q_bint, q_bintb, q_blenl, q_blent, q_blens, q_bstri, q_bstrs, q_blistl, q_blistt, q_btupl, q_btupt, q_bmin, q_bmax, q_fmts, q_fmti, backG_mk, pushG_mk, wipe_nil, wipe_cons, back_nil, back_cons, noOwn_nil, slots_nm, slots_tp, pv_val, pv_new, slot_val, slot_new, asInt_int, truV_bl, truV_int, cmpV_eq, cmpV_ne, cmpV_lt, cmpV_le, cmpV_gt, cmpV_ge, eqV_int, eqV_str, items_l, items_t, items_f, slcV_lst, slcV_tup, slcV_fz, revV_tup, revV_lst, idxV_lst, idxV_tup, noOwn_cons, at0, at1, at2, at3, Nxt_nx, Nxt_ret, Nxt_brk, Nxt_cnt, Turn_nx, Turn_cnt, Turn_brk, Turn_ret, Fin'_ret, Fin'_nx, List.getElem?_cons_zero, List.getElem?_cons_succ, List.set_cons_zero, List.set_cons_succ, List.getD_cons_zero, List.getD_cons_succ, List.length_cons, List.length_nil, List.map_cons, List.map_nil, List.cons_append, List.nil_append, List.replicate_succ, List.replicate_zero, Option.map_some, Option.some.injEq, Bool.not_true, Bool.not_false, Bool.and_self, Bool.and_true, Bool.true_and, Bool.false_eq_true, Bool.true_eq_false, if_true, if_false, ite_true, ite_false, reduceIte, true_and, and_true, Nat.reduceAdd, Nat.reduceSub, Nat.reduceLT, Nat.reduceLeDiff, Nat.reducePow, Int.reducePow, Int.reduceToNat, Int.reduceLE, Int.reduceLT, Int.reduceNeg, decide_true, decide_false, Ev.sizeLine_eq, rgOk_eq, Nat.lt_add_left_iff_pos, Nat.zero_lt_succ, Nat.succ_pos, Nat.zero_add, true_or, or_true, Nat.reduceMul, Nat.add_zero, Nat.zero_le, Nat.le_refl]
  refine Ok_callW (gives_eq (h6 hq)) fun x hq ⟨hx, he⟩ => ?_
  subst hx he
  simp only [hr, ↓q_ok, ↓q_some, ↓q_cst, ↓q_var, ↓q_tup, ↓q_lst, ↓q_bin, ↓q_cmp, ↓q_neg, ↓q_nt, ↓q_an, ↓q_orr, ↓q_ite, ↓q_idx, ↓q_slc, ↓q_rev, ↓q_call, ↓q_bi, ↓q_join, ↓q_app, ↓q_ext, ↓q_lc, ↓q_fs, ↓q_dct, ↓q_evs0, ↓q_evs1, ↓q_opds0, ↓q_opds1, ↓q_no, ↓q_so, ↓q_it, ↓q_rg1, ↓q_rg2, ↓q_tno, ↓q_tso, ↓q_evf0, ↓q_evf1, ↓q_tnt, ↓q_tan, ↓q_tor, ↓q_tite, ↓q_tvar, ↓q_tcst, ↓q_tcmp, ↓q_tidx, ↓q_tcall, ↓q_tbi, ↓q_tslc, ↓q_ovar, ↓q_ocst, ↓q_otup, ↓q_olst, ↓q_obin, ↓q_ocmp, ↓q_oneg, ↓q_ont, ↓q_oan, ↓q_oorr, ↓q_oite, ↓q_oidx, ↓q_oslc, ↓q_orev, ↓q_ocall, ↓q_obi, ↓q_ojoin, ↓q_olc, ↓q_ofs, ↓q_odct, ↓q_lookv, ↓q_looks, ↓q_peek, ↓q_look0, ↓q_look1, ↓q_set, ↓q_bnm, ↓q_btp, ↓q_sets0, ↓q_sets1, ↓q_par0, ↓q_par1, ↓q_own, ↓q_appV, ↓q_extn, ↓q_extl, ↓q_ixr, ↓q_ixt, ↓q_ixl, ↓q_ixs, ↓q_putG, ↓q_add_int, ↓q_add_str, ↓q_add_lst, ↓q_add_tup, ↓q_sub_int, ↓q_mul_int, ↓q_mul_lst, ↓q_mul_tup, ↓q_fdiv_int, ↓q_mod_int, ↓q_pow_int, ↓q_bint, ↓q_bintb, ↓q_blenl, ↓q_blent, ↓q_blens, ↓q_bstri, ↓q_bstrs, ↓q_blistl, ↓q_blistt, ↓q_btupl, ↓q_btupt, ↓q_bmin, ↓q_bmax, ↓q_fmts, ↓q_fmti, ↓q_asg, ↓q_parS, ↓q_put, ↓q_ex, ↓q_iff, ↓q_for, ↓q_retV, ↓q_rcst, ↓q_rtup, ↓q_rlst, ↓q_rbin, ↓q_rcmp, ↓q_rneg, ↓q_rnt, ↓q_ran, ↓q_rorr, ↓q_rite, ↓q_ridx, ↓q_rslc, ↓q_rrev, ↓q_rcall, ↓q_rbi, ↓q_rjoin, ↓q_rlc, ↓q_rfs, ↓q_rdct, ↓q_retN, ↓q_pas, ↓q_brk, ↓q_cnt, ↓q_exs0, ↓q_exs1, q_add_int, q_add_str, q_add_lst, q_add_tup, q_sub_int, q_mul_int, q_mul_lst, q_mul_tup, q_fdiv_int, q_mod_int, q_pow_int, q_bint, q_bintb, q_blenl, q_blent, q_blens, q_bstri, q_bstrs, q_blistl, q_blistt, q_btupl, q_btupt, q_bmin, q_bmax, q_fmts, q_fmti, backG_mk, pushG_mk, wipe_nil, wipe_cons, back_nil, back_cons, noOwn_nil, slots_nm, slots_tp, pv_val, pv_new, slot_val, slot_new, asInt_int, truV_bl, truV_int, cmpV_eq, cmpV_ne, cmpV_lt, cmpV_le, cmpV_gt, cmpV_ge, eqV_int, eqV_str, items_l, items_t, items_f, slcV_lst, slcV_tup, slcV_fz, revV_tup, revV_lst, idxV_lst, idxV_tup, noOwn_cons, at0, at1, at2, at3, Nxt_nx, Nxt_ret, Nxt_brk, Nxt_cnt, Turn_nx, Turn_cnt, Turn_brk, Turn_ret, Fin'_ret, Fin'_nx, List.getElem?_cons_zero, List.getElem?_cons_succ, List.set_cons_zero, List.set_cons_succ, List.getD_cons_zero, List.getD_cons_succ, List.length_cons, List.length_nil, List.map_cons, List.map_nil, List.cons_append, List.nil_append, List.replicate_succ, List.replicate_zero, Option.map_some, Option.some.injEq, Bool.not_true, Bool.not_false, Bool.and_self, Bool.and_true, Bool.true_and, Bool.false_eq_true, Bool.true_eq_false, if_true, if_false, ite_true, ite_false, reduceIte, true_and, and_true, Nat.reduceAdd, Nat.reduceSub, Nat.reduceLT, Nat.reduceLeDiff, Nat.reducePow, Int.reducePow, Int.reduceToNat, Int.reduceLE, Int.reduceLT, Int.reduceNeg, decide_true, decide_false, Ev.sizeLine_eq, rgOk_eq, Nat.lt_add_left_iff_pos, Nat.zero_lt_succ, Nat.succ_pos, Nat.zero_add, true_or, or_true, Nat.reduceMul, Nat.add_zero, Nat.zero_le, Nat.le_refl]
end K09
namespace K09
open PySem Ev
theorem mem_app {α : Type} {xs ys : List α} {P : α → Prop} (h : ∀ x ∈ xs, P x) (k : ∀ x ∈ ys, P x) : ∀ x ∈ xs ++ ys, P x := fun x hx => (List.mem_append.mp hx).elim (h x) (k x)
theorem mem_rev {α : Type} {xs : List α} {P : α → Prop} (h : ∀ x ∈ xs, P x) : ∀ x ∈ xs.reverse, P x := fun x hx => h x (List.mem_reverse.mp hx)
theorem law_ok (k : Nat) (ns : List Int) : Gives (calls table (k + 7) 0 [.fz ns] [] []) fun x hp' => x = .val (.bl true) := by
  refine gives_call (D := table) (k := k + 6) (e := ⟨⟨"law", 1, []⟩, d_law, [.pos 0]⟩) rfl (gives_run rfl ?_)
  have hF := feed_ok (k + 5) (ns := ns)
  have hH := hand_ok k
  have hP := fun {hp : List Cell} (F : Fd hp) {most : Int} (m1 : 1 ≤ most) (m2 : most ≤ 6) => plan_ok (k + 1) F m1 m2
  have hR := fun {hp : List Cell} {p : Plan} (h : PlanOk 4 12 12 p) => right_ok (k + 2) (hp := hp) h
  have hW := fun {hp : List Cell} (F : Fd hp) => words_right_ok (k + 2) F
  rw [show k + 5 + 1 = k + 6 from rfl] at hF
  rw [show k + 1 + 5 = k + 6 by omega] at hP
  rw [show k + 2 + 4 = k + 6 by omega] at hR hW
  generalize calls table (k + 6) = c at hF hH hP hR hW ⊢
  simp only [d_law, asm, List.getD_cons_zero, ↓q_ok, ↓q_some, ↓q_cst, ↓q_var, ↓q_tup, ↓q_lst, ↓q_bin, ↓q_cmp, ↓q_neg, ↓q_nt, ↓q_an, ↓q_orr, ↓q_ite, ↓q_idx, ↓q_slc, ↓q_rev, ↓q_call, ↓q_bi, ↓q_join, ↓q_app, ↓q_ext, ↓q_lc, ↓q_fs, ↓q_dct, ↓q_evs0, ↓q_evs1, ↓q_opds0, ↓q_opds1, ↓q_no, ↓q_so, ↓q_it, ↓q_rg1, ↓q_rg2, ↓q_tno, ↓q_tso, ↓q_evf0, ↓q_evf1, ↓q_tnt, ↓q_tan, ↓q_tor, ↓q_tite, ↓q_tvar, ↓q_tcst, ↓q_tcmp, ↓q_tidx, ↓q_tcall, ↓q_tbi, ↓q_tslc, ↓q_ovar, ↓q_ocst, ↓q_otup, ↓q_olst, ↓q_obin, ↓q_ocmp, ↓q_oneg, ↓q_ont, ↓q_oan, ↓q_oorr, ↓q_oite, ↓q_oidx, ↓q_oslc, ↓q_orev, ↓q_ocall, ↓q_obi, ↓q_ojoin, ↓q_olc, ↓q_ofs, ↓q_odct, ↓q_lookv, ↓q_looks, ↓q_peek, ↓q_look0, ↓q_look1, ↓q_set, ↓q_bnm, ↓q_btp, ↓q_sets0, ↓q_sets1, ↓q_par0, ↓q_par1, ↓q_own, ↓q_appV, ↓q_extn, ↓q_extl, ↓q_ixr, ↓q_ixt, ↓q_ixl, ↓q_ixs, ↓q_putG, ↓q_add_int, ↓q_add_str, ↓q_add_lst, ↓q_add_tup, ↓q_sub_int, ↓q_mul_int, ↓q_mul_lst, ↓q_mul_tup, ↓q_fdiv_int, ↓q_mod_int, ↓q_pow_int, ↓q_bint, ↓q_bintb, ↓q_blenl, ↓q_blent, ↓q_blens, ↓q_bstri, ↓q_bstrs, ↓q_blistl, ↓q_blistt, ↓q_btupl, ↓q_btupt, ↓q_bmin, ↓q_bmax, ↓q_fmts, ↓q_fmti, ↓q_asg, ↓q_parS, ↓q_put, ↓q_ex, ↓q_iff, ↓q_for, ↓q_retV, ↓q_rcst, ↓q_rtup, ↓q_rlst, ↓q_rbin, ↓q_rcmp, ↓q_rneg, ↓q_rnt, ↓q_ran, ↓q_rorr, ↓q_rite, ↓q_ridx, ↓q_rslc, ↓q_rrev, ↓q_rcall, ↓q_rbi, ↓q_rjoin, ↓q_rlc, ↓q_rfs, ↓q_rdct, ↓q_retN, ↓q_pas, ↓q_brk, ↓q_cnt, ↓q_exs0, ↓q_exs1, q_add_int, q_add_str, q_add_lst, q_add_tup, q_sub_int, q_mul_int, q_mul_lst, q_mul_tup, q_fdiv_int, q_mod_int, q_pow_int, q_bint, q_bintb, q_blenl, q_blent, q_blens, q_bstri, q_bstrs, q_blistl, q_blistt, q_btupl, q_btupt, q_bmin, q_bmax, q_fmts, q_fmti, backG_mk, pushG_mk, wipe_nil, wipe_cons, back_nil, back_cons, noOwn_nil, slots_nm, slots_tp, pv_val, pv_new, slot_val, slot_new, asInt_int, truV_bl, truV_int, cmpV_eq, cmpV_ne, cmpV_lt, cmpV_le, cmpV_gt, cmpV_ge, eqV_int, eqV_str, items_l, items_t, items_f, slcV_lst, slcV_tup, slcV_fz, revV_tup, revV_lst, idxV_lst, idxV_tup, noOwn_cons, at0, at1, at2, at3, Nxt_nx, Nxt_ret, Nxt_brk, Nxt_cnt, Turn_nx, Turn_cnt, Turn_brk, Turn_ret, Fin'_ret, Fin'_nx, List.getElem?_cons_zero, List.getElem?_cons_succ, List.set_cons_zero, List.set_cons_succ, List.getD_cons_zero, List.getD_cons_succ, List.length_cons, List.length_nil, List.map_cons, List.map_nil, List.cons_append, List.nil_append, List.replicate_succ, List.replicate_zero, Option.map_some, Option.some.injEq, Bool.not_true, Bool.not_false, Bool.and_self, Bool.and_true, Bool.true_and, Bool.false_eq_true, Bool.true_eq_false, if_true, if_false, ite_true, ite_false, reduceIte, true_and, and_true, Nat.reduceAdd, Nat.reduceSub, Nat.reduceLT, Nat.reduceLeDiff, Nat.reducePow, Int.reducePow, Int.reduceToNat, Int.reduceLE, Int.reduceLT, Int.reduceNeg, decide_true, decide_false, Ev.sizeLine_eq, rgOk_eq, Nat.lt_add_left_iff_pos, Nat.zero_lt_succ, Nat.succ_pos, Nat.zero_add, true_or, or_true, Nat.reduceMul, Nat.add_zero, Nat.zero_le, Nat.le_refl]
  refine Ok_callW hF fun x hp1 ⟨hx, F1⟩ => ?_
  subst hx
  simp only [↓q_ok, ↓q_some, ↓q_cst, ↓q_var, ↓q_tup, ↓q_lst, ↓q_bin, ↓q_cmp, ↓q_neg, ↓q_nt, ↓q_an, ↓q_orr, ↓q_ite, ↓q_idx, ↓q_slc, ↓q_rev, ↓q_call, ↓q_bi, ↓q_join, ↓q_app, ↓q_ext, ↓q_lc, ↓q_fs, ↓q_dct, ↓q_evs0, ↓q_evs1, ↓q_opds0, ↓q_opds1, ↓q_no, ↓q_so, ↓q_it, ↓q_rg1, ↓q_rg2, ↓q_tno, ↓q_tso, ↓q_evf0, ↓q_evf1, ↓q_tnt, ↓q_tan, ↓q_tor, ↓q_tite, ↓q_tvar, ↓q_tcst, ↓q_tcmp, ↓q_tidx, ↓q_tcall, ↓q_tbi, ↓q_tslc, ↓q_ovar, ↓q_ocst, ↓q_otup, ↓q_olst, ↓q_obin, ↓q_ocmp, ↓q_oneg, ↓q_ont, ↓q_oan, ↓q_oorr, ↓q_oite, ↓q_oidx, ↓q_oslc, ↓q_orev, ↓q_ocall, ↓q_obi, ↓q_ojoin, ↓q_olc, ↓q_ofs, ↓q_odct, ↓q_lookv, ↓q_looks, ↓q_peek, ↓q_look0, ↓q_look1, ↓q_set, ↓q_bnm, ↓q_btp, ↓q_sets0, ↓q_sets1, ↓q_par0, ↓q_par1, ↓q_own, ↓q_appV, ↓q_extn, ↓q_extl, ↓q_ixr, ↓q_ixt, ↓q_ixl, ↓q_ixs, ↓q_putG, ↓q_add_int, ↓q_add_str, ↓q_add_lst, ↓q_add_tup, ↓q_sub_int, ↓q_mul_int, ↓q_mul_lst, ↓q_mul_tup, ↓q_fdiv_int, ↓q_mod_int, ↓q_pow_int, ↓q_bint, ↓q_bintb, ↓q_blenl, ↓q_blent, ↓q_blens, ↓q_bstri, ↓q_bstrs, ↓q_blistl, ↓q_blistt, ↓q_btupl, ↓q_btupt, ↓q_bmin, ↓q_bmax, ↓q_fmts, ↓q_fmti, ↓q_asg, ↓q_parS, ↓q_put, ↓q_ex, ↓q_iff, ↓q_for, ↓q_retV, ↓q_rcst, ↓q_rtup, ↓q_rlst, ↓q_rbin, ↓q_rcmp, ↓q_rneg, ↓q_rnt, ↓q_ran, ↓q_rorr, ↓q_rite, ↓q_ridx, ↓q_rslc, ↓q_rrev, ↓q_rcall, ↓q_rbi, ↓q_rjoin, ↓q_rlc, ↓q_rfs, ↓q_rdct, ↓q_retN, ↓q_pas, ↓q_brk, ↓q_cnt, ↓q_exs0, ↓q_exs1, q_add_int, q_add_str, q_add_lst, q_add_tup, q_sub_int, q_mul_int, q_mul_lst, q_mul_tup, q_fdiv_int, q_mod_int, q_pow_int, q_bint, q_bintb, q_blenl, q_blent, q_blens, q_bstri, q_bstrs, q_blistl, q_blistt, q_btupl, q_btupt, q_bmin, q_bmax, q_fmts, q_fmti, backG_mk, pushG_mk, wipe_nil, wipe_cons, back_nil, back_cons, noOwn_nil, slots_nm, slots_tp, pv_val, pv_new, slot_val, slot_new, asInt_int, truV_bl, truV_int, cmpV_eq, cmpV_ne, cmpV_lt, cmpV_le, cmpV_gt, cmpV_ge, eqV_int, eqV_str, items_l, items_t, items_f, slcV_lst, slcV_tup, slcV_fz, revV_tup, revV_lst, idxV_lst, idxV_tup, noOwn_cons, at0, at1, at2, at3, Nxt_nx, Nxt_ret, Nxt_brk, Nxt_cnt, Turn_nx, Turn_cnt, Turn_brk, Turn_ret, Fin'_ret, Fin'_nx, List.getElem?_cons_zero, List.getElem?_cons_succ, List.set_cons_zero, List.set_cons_succ, List.getD_cons_zero, List.getD_cons_succ, List.length_cons, List.length_nil, List.map_cons, List.map_nil, List.cons_append, List.nil_append, List.replicate_succ, List.replicate_zero, Option.map_some, Option.some.injEq, Bool.not_true, Bool.not_false, Bool.and_self, Bool.and_true, Bool.true_and, Bool.false_eq_true, Bool.true_eq_false, if_true, if_false, ite_true, ite_false, reduceIte, true_and, and_true, Nat.reduceAdd, Nat.reduceSub, Nat.reduceLT, Nat.reduceLeDiff, Nat.reducePow, Int.reducePow, Int.reduceToNat, Int.reduceLE, Int.reduceLT, Int.reduceNeg, decide_true, decide_false, Ev.sizeLine_eq, rgOk_eq, Nat.lt_add_left_iff_pos, Nat.zero_lt_succ, Nat.succ_pos, Nat.zero_add, true_or, or_true, Nat.reduceMul, Nat.add_zero, Nat.zero_le, Nat.le_refl]
  refine Ok_callW (hH hp1) fun x hq ⟨hx, he⟩ => ?_
  subst hx he
  simp only [↓q_ok, ↓q_some, ↓q_cst, ↓q_var, ↓q_tup, ↓q_lst, ↓q_bin, ↓q_cmp, ↓q_neg, ↓q_nt, ↓q_an, ↓q_orr, ↓q_ite, ↓q_idx, ↓q_slc, ↓q_rev, ↓q_call, ↓q_bi, ↓q_join, ↓q_app, ↓q_ext, ↓q_lc, ↓q_fs, ↓q_dct, ↓q_evs0, ↓q_evs1, ↓q_opds0, ↓q_opds1, ↓q_no, ↓q_so, ↓q_it, ↓q_rg1, ↓q_rg2, ↓q_tno, ↓q_tso, ↓q_evf0, ↓q_evf1, ↓q_tnt, ↓q_tan, ↓q_tor, ↓q_tite, ↓q_tvar, ↓q_tcst, ↓q_tcmp, ↓q_tidx, ↓q_tcall, ↓q_tbi, ↓q_tslc, ↓q_ovar, ↓q_ocst, ↓q_otup, ↓q_olst, ↓q_obin, ↓q_ocmp, ↓q_oneg, ↓q_ont, ↓q_oan, ↓q_oorr, ↓q_oite, ↓q_oidx, ↓q_oslc, ↓q_orev, ↓q_ocall, ↓q_obi, ↓q_ojoin, ↓q_olc, ↓q_ofs, ↓q_odct, ↓q_lookv, ↓q_looks, ↓q_peek, ↓q_look0, ↓q_look1, ↓q_set, ↓q_bnm, ↓q_btp, ↓q_sets0, ↓q_sets1, ↓q_par0, ↓q_par1, ↓q_own, ↓q_appV, ↓q_extn, ↓q_extl, ↓q_ixr, ↓q_ixt, ↓q_ixl, ↓q_ixs, ↓q_putG, ↓q_add_int, ↓q_add_str, ↓q_add_lst, ↓q_add_tup, ↓q_sub_int, ↓q_mul_int, ↓q_mul_lst, ↓q_mul_tup, ↓q_fdiv_int, ↓q_mod_int, ↓q_pow_int, ↓q_bint, ↓q_bintb, ↓q_blenl, ↓q_blent, ↓q_blens, ↓q_bstri, ↓q_bstrs, ↓q_blistl, ↓q_blistt, ↓q_btupl, ↓q_btupt, ↓q_bmin, ↓q_bmax, ↓q_fmts, ↓q_fmti, ↓q_asg, ↓q_parS, ↓q_put, ↓q_ex, ↓q_iff, ↓q_for, ↓q_retV, ↓q_rcst, ↓q_rtup, ↓q_rlst, ↓q_rbin, ↓q_rcmp, ↓q_rneg, ↓q_rnt, ↓q_ran, ↓q_rorr, ↓q_rite, ↓q_ridx, ↓q_rslc, ↓q_rrev, ↓q_rcall, ↓q_rbi, ↓q_rjoin, ↓q_rlc, ↓q_rfs, ↓q_rdct, ↓q_retN, ↓q_pas, ↓q_brk, ↓q_cnt, ↓q_exs0, ↓q_exs1, q_add_int, q_add_str, q_add_lst, q_add_tup, q_sub_int, q_mul_int, q_mul_lst, q_mul_tup, q_fdiv_int, q_mod_int, q_pow_int, q_bint, q_bintb, q_blenl, q_blent, q_blens, q_bstri, q_bstrs, q_blistl, q_blistt, q_btupl, q_btupt, q_bmin, q_bmax, q_fmts, q_fmti, backG_mk, pushG_mk, wipe_nil, wipe_cons, back_nil, back_cons, noOwn_nil, slots_nm, slots_tp, pv_val, pv_new, slot_val, slot_new, asInt_int, truV_bl, truV_int, cmpV_eq, cmpV_ne, cmpV_lt, cmpV_le, cmpV_gt, cmpV_ge, eqV_int, eqV_str, items_l, items_t, items_f, slcV_lst, slcV_tup, slcV_fz, revV_tup, revV_lst, idxV_lst, idxV_tup, noOwn_cons, at0, at1, at2, at3, Nxt_nx, Nxt_ret, Nxt_brk, Nxt_cnt, Turn_nx, Turn_cnt, Turn_brk, Turn_ret, Fin'_ret, Fin'_nx, List.getElem?_cons_zero, List.getElem?_cons_succ, List.set_cons_zero, List.set_cons_succ, List.getD_cons_zero, List.getD_cons_succ, List.length_cons, List.length_nil, List.map_cons, List.map_nil, List.cons_append, List.nil_append, List.replicate_succ, List.replicate_zero, Option.map_some, Option.some.injEq, Bool.not_true, Bool.not_false, Bool.and_self, Bool.and_true, Bool.true_and, Bool.false_eq_true, Bool.true_eq_false, if_true, if_false, ite_true, ite_false, reduceIte, true_and, and_true, Nat.reduceAdd, Nat.reduceSub, Nat.reduceLT, Nat.reduceLeDiff, Nat.reducePow, Int.reducePow, Int.reduceToNat, Int.reduceLE, Int.reduceLT, Int.reduceNeg, decide_true, decide_false, Ev.sizeLine_eq, rgOk_eq, Nat.lt_add_left_iff_pos, Nat.zero_lt_succ, Nat.succ_pos, Nat.zero_add, true_or, or_true, Nat.reduceMul, Nat.add_zero, Nat.zero_le, Nat.le_refl]
  refine for_sl (β := Slot × Slot × Slot × Slot) (fun b sl => (((sl.set 2 b.1).set 3 b.2.1).set 4 b.2.2.1).set 5 b.2.2.2) (fun i b hp => Fd hp) (.no, .no, .no, .no) rfl F1 (fun i x b hp hx F => ?_) fun b hp F => ?_
  · simp only [↓q_ok, ↓q_some, ↓q_cst, ↓q_var, ↓q_tup, ↓q_lst, ↓q_bin, ↓q_cmp, ↓q_neg, ↓q_nt, ↓q_an, ↓q_orr, ↓q_ite, ↓q_idx, ↓q_slc, ↓q_rev, ↓q_call, ↓q_bi, ↓q_join, ↓q_app, ↓q_ext, ↓q_lc, ↓q_fs, ↓q_dct, ↓q_evs0, ↓q_evs1, ↓q_opds0, ↓q_opds1, ↓q_no, ↓q_so, ↓q_it, ↓q_rg1, ↓q_rg2, ↓q_tno, ↓q_tso, ↓q_evf0, ↓q_evf1, ↓q_tnt, ↓q_tan, ↓q_tor, ↓q_tite, ↓q_tvar, ↓q_tcst, ↓q_tcmp, ↓q_tidx, ↓q_tcall, ↓q_tbi, ↓q_tslc, ↓q_ovar, ↓q_ocst, ↓q_otup, ↓q_olst, ↓q_obin, ↓q_ocmp, ↓q_oneg, ↓q_ont, ↓q_oan, ↓q_oorr, ↓q_oite, ↓q_oidx, ↓q_oslc, ↓q_orev, ↓q_ocall, ↓q_obi, ↓q_ojoin, ↓q_olc, ↓q_ofs, ↓q_odct, ↓q_lookv, ↓q_looks, ↓q_peek, ↓q_look0, ↓q_look1, ↓q_set, ↓q_bnm, ↓q_btp, ↓q_sets0, ↓q_sets1, ↓q_par0, ↓q_par1, ↓q_own, ↓q_appV, ↓q_extn, ↓q_extl, ↓q_ixr, ↓q_ixt, ↓q_ixl, ↓q_ixs, ↓q_putG, ↓q_add_int, ↓q_add_str, ↓q_add_lst, ↓q_add_tup, ↓q_sub_int, ↓q_mul_int, ↓q_mul_lst, ↓q_mul_tup, ↓q_fdiv_int, ↓q_mod_int, ↓q_pow_int, ↓q_bint, ↓q_bintb, ↓q_blenl, ↓q_blent, ↓q_blens, ↓q_bstri, ↓q_bstrs, ↓q_blistl, ↓q_blistt, ↓q_btupl, ↓q_btupt, ↓q_bmin, ↓q_bmax, ↓q_fmts, ↓q_fmti, ↓q_asg, ↓q_parS, ↓q_put, ↓q_ex, ↓q_iff, ↓q_for, ↓q_retV, ↓q_rcst, ↓q_rtup, ↓q_rlst, ↓q_rbin, ↓q_rcmp, ↓q_rneg, ↓q_rnt, ↓q_ran, ↓q_rorr, ↓q_rite, ↓q_ridx, ↓q_rslc, ↓q_rrev, ↓q_rcall, ↓q_rbi, ↓q_rjoin, ↓q_rlc, ↓q_rfs, ↓q_rdct, ↓q_retN, ↓q_pas, ↓q_brk, ↓q_cnt, ↓q_exs0, ↓q_exs1, q_add_int, q_add_str, q_add_lst, q_add_tup, q_sub_int, q_mul_int, q_mul_lst, q_mul_tup, q_fdiv_int, q_mod_int, q_pow_int, q_bint, q_bintb, q_blenl, q_blent, q_blens, q_bstri, q_bstrs, q_blistl, q_blistt, q_btupl, q_btupt, q_bmin, q_bmax, q_fmts, q_fmti, backG_mk, pushG_mk, wipe_nil, wipe_cons, back_nil, back_cons, noOwn_nil, slots_nm, slots_tp, pv_val, pv_new, slot_val, slot_new, asInt_int, truV_bl, truV_int, cmpV_eq, cmpV_ne, cmpV_lt, cmpV_le, cmpV_gt, cmpV_ge, eqV_int, eqV_str, items_l, items_t, items_f, slcV_lst, slcV_tup, slcV_fz, revV_tup, revV_lst, idxV_lst, idxV_tup, noOwn_cons, at0, at1, at2, at3, Nxt_nx, Nxt_ret, Nxt_brk, Nxt_cnt, Turn_nx, Turn_cnt, Turn_brk, Turn_ret, Fin'_ret, Fin'_nx, List.getElem?_cons_zero, List.getElem?_cons_succ, List.set_cons_zero, List.set_cons_succ, List.getD_cons_zero, List.getD_cons_succ, List.length_cons, List.length_nil, List.map_cons, List.map_nil, List.cons_append, List.nil_append, List.replicate_succ, List.replicate_zero, Option.map_some, Option.some.injEq, Bool.not_true, Bool.not_false, Bool.and_self, Bool.and_true, Bool.true_and, Bool.false_eq_true, Bool.true_eq_false, if_true, if_false, ite_true, ite_false, reduceIte, true_and, and_true, Nat.reduceAdd, Nat.reduceSub, Nat.reduceLT, Nat.reduceLeDiff, Nat.reducePow, Int.reducePow, Int.reduceToNat, Int.reduceLE, Int.reduceLT, Int.reduceNeg, decide_true, decide_false, Ev.sizeLine_eq, rgOk_eq, Nat.lt_add_left_iff_pos, Nat.zero_lt_succ, Nat.succ_pos, Nat.zero_add, true_or, or_true, Nat.reduceMul, Nat.add_zero, Nat.zero_le, Nat.le_refl]
    refine Ok_callW (hP F (by omega) (by omega)) fun x hp2 ⟨F2, p, hx, hp, hpn⟩ => ?_
    subst hx
    simp only [↓q_ok, ↓q_some, ↓q_cst, ↓q_var, ↓q_tup, ↓q_lst, ↓q_bin, ↓q_cmp, ↓q_neg, ↓q_nt, ↓q_an, ↓q_orr, ↓q_ite, ↓q_idx, ↓q_slc, ↓q_rev, ↓q_call, ↓q_bi, ↓q_join, ↓q_app, ↓q_ext, ↓q_lc, ↓q_fs, ↓q_dct, ↓q_evs0, ↓q_evs1, ↓q_opds0, ↓q_opds1, ↓q_no, ↓q_so, ↓q_it, ↓q_rg1, ↓q_rg2, ↓q_tno, ↓q_tso, ↓q_evf0, ↓q_evf1, ↓q_tnt, ↓q_tan, ↓q_tor, ↓q_tite, ↓q_tvar, ↓q_tcst, ↓q_tcmp, ↓q_tidx, ↓q_tcall, ↓q_tbi, ↓q_tslc, ↓q_ovar, ↓q_ocst, ↓q_otup, ↓q_olst, ↓q_obin, ↓q_ocmp, ↓q_oneg, ↓q_ont, ↓q_oan, ↓q_oorr, ↓q_oite, ↓q_oidx, ↓q_oslc, ↓q_orev, ↓q_ocall, ↓q_obi, ↓q_ojoin, ↓q_olc, ↓q_ofs, ↓q_odct, ↓q_lookv, ↓q_looks, ↓q_peek, ↓q_look0, ↓q_look1, ↓q_set, ↓q_bnm, ↓q_btp, ↓q_sets0, ↓q_sets1, ↓q_par0, ↓q_par1, ↓q_own, ↓q_appV, ↓q_extn, ↓q_extl, ↓q_ixr, ↓q_ixt, ↓q_ixl, ↓q_ixs, ↓q_putG, ↓q_add_int, ↓q_add_str, ↓q_add_lst, ↓q_add_tup, ↓q_sub_int, ↓q_mul_int, ↓q_mul_lst, ↓q_mul_tup, ↓q_fdiv_int, ↓q_mod_int, ↓q_pow_int, ↓q_bint, ↓q_bintb, ↓q_blenl, ↓q_blent, ↓q_blens, ↓q_bstri, ↓q_bstrs, ↓q_blistl, ↓q_blistt, ↓q_btupl, ↓q_btupt, ↓q_bmin, ↓q_bmax, ↓q_fmts, ↓q_fmti, ↓q_asg, ↓q_parS, ↓q_put, ↓q_ex, ↓q_iff, ↓q_for, ↓q_retV, ↓q_rcst, ↓q_rtup, ↓q_rlst, ↓q_rbin, ↓q_rcmp, ↓q_rneg, ↓q_rnt, ↓q_ran, ↓q_rorr, ↓q_rite, ↓q_ridx, ↓q_rslc, ↓q_rrev, ↓q_rcall, ↓q_rbi, ↓q_rjoin, ↓q_rlc, ↓q_rfs, ↓q_rdct, ↓q_retN, ↓q_pas, ↓q_brk, ↓q_cnt, ↓q_exs0, ↓q_exs1, q_add_int, q_add_str, q_add_lst, q_add_tup, q_sub_int, q_mul_int, q_mul_lst, q_mul_tup, q_fdiv_int, q_mod_int, q_pow_int, q_bint, q_bintb, q_blenl, q_blent, q_blens, q_bstri, q_bstrs, q_blistl, q_blistt, q_btupl, q_btupt, q_bmin, q_bmax, q_fmts, q_fmti, backG_mk, pushG_mk, wipe_nil, wipe_cons, back_nil, back_cons, noOwn_nil, slots_nm, slots_tp, pv_val, pv_new, slot_val, slot_new, asInt_int, truV_bl, truV_int, cmpV_eq, cmpV_ne, cmpV_lt, cmpV_le, cmpV_gt, cmpV_ge, eqV_int, eqV_str, items_l, items_t, items_f, slcV_lst, slcV_tup, slcV_fz, revV_tup, revV_lst, idxV_lst, idxV_tup, noOwn_cons, at0, at1, at2, at3, Nxt_nx, Nxt_ret, Nxt_brk, Nxt_cnt, Turn_nx, Turn_cnt, Turn_brk, Turn_ret, Fin'_ret, Fin'_nx, List.getElem?_cons_zero, List.getElem?_cons_succ, List.set_cons_zero, List.set_cons_succ, List.getD_cons_zero, List.getD_cons_succ, List.length_cons, List.length_nil, List.map_cons, List.map_nil, List.cons_append, List.nil_append, List.replicate_succ, List.replicate_zero, Option.map_some, Option.some.injEq, Bool.not_true, Bool.not_false, Bool.and_self, Bool.and_true, Bool.true_and, Bool.false_eq_true, Bool.true_eq_false, if_true, if_false, ite_true, ite_false, reduceIte, true_and, and_true, Nat.reduceAdd, Nat.reduceSub, Nat.reduceLT, Nat.reduceLeDiff, Nat.reducePow, Int.reducePow, Int.reduceToNat, Int.reduceLE, Int.reduceLT, Int.reduceNeg, decide_true, decide_false, Ev.sizeLine_eq, rgOk_eq, Nat.lt_add_left_iff_pos, Nat.zero_lt_succ, Nat.succ_pos, Nat.zero_add, true_or, or_true, Nat.reduceMul, Nat.add_zero, Nat.zero_le, Nat.le_refl]
    refine Ok_callW (hP F2 (by omega) (by omega)) fun x hp3 ⟨F3, o, hx, ho, hon⟩ => ?_
    subst hx
    obtain ⟨pb, pn, pr, pw⟩ := p
    obtain ⟨ob, on, or, ow⟩ := o
    have pnl : pn.length ≤ 2 := hp.nlen
    have onl : on.length ≤ 2 := ho.nlen
    have prl : pr.length ≤ 6 := hp.rlen
    have orl : or.length ≤ 6 := ho.rlen
    have pwl : pw.length ≤ 12 := hp.wlen
    have owl : ow.length ≤ 12 := ho.wlen
    have hpn : 1 ≤ pn.length := hpn
    have pne : (pn.map PV.str).isEmpty = false := by
      cases pn with
      | nil => simp at hpn
      | cons _ _ => rfl
    have q1 : PlanOk 4 12 12 ⟨pb, pn, pr, pw⟩ := ⟨hp.base, by show pn.length ≤ 4; omega, hp.names, by show pr.length ≤ 12; omega, hp.reads, pwl, hp.writes⟩
    have q2 : PlanOk 4 12 12 ⟨ob, on, or, ow⟩ := ⟨ho.base, by show on.length ≤ 4; omega, ho.names, by show or.length ≤ 12; omega, ho.reads, owl, ho.writes⟩
    have q3 : PlanOk 4 12 12 ⟨ob, pn, pr, ow⟩ := ⟨ho.base, q1.nlen, q1.names, q1.rlen, q1.reads, q2.wlen, q2.writes⟩
    have q4 : PlanOk 4 12 12 ⟨pb, pn ++ pn, or ++ pr, pw⟩ := ⟨hp.base, by show (pn ++ pn).length ≤ 4; rw [List.length_append]; omega, mem_app hp.names hp.names, by show (or ++ pr).length ≤ 12; rw [List.length_append]; omega, mem_app ho.reads hp.reads, pwl, hp.writes⟩
    have q5 : PlanOk 4 12 12 ⟨⟨2, true, true⟩, pn ++ on, pr.reverse, []⟩ := ⟨⟨show (1 : Int) ≤ 2 by decide, show (2 : Int) ≤ 2 by decide⟩, by show (pn ++ on).length ≤ 4; rw [List.length_append]; omega, mem_app hp.names ho.names, by show pr.reverse.length ≤ 12; rw [List.length_reverse]; omega, mem_rev hp.reads, Nat.zero_le _, nofun⟩
    have q6 : PlanOk 4 12 12 ⟨pb, on, [], pw.reverse⟩ := ⟨hp.base, q2.nlen, q2.names, Nat.zero_le _, nofun, by show pw.reverse.length ≤ 12; rw [List.length_reverse]; omega, mem_rev hp.writes⟩
    simp only [pPV, pne, List.length_map, ↓q_ok, ↓q_some, ↓q_cst, ↓q_var, ↓q_tup, ↓q_lst, ↓q_bin, ↓q_cmp, ↓q_neg, ↓q_nt, ↓q_an, ↓q_orr, ↓q_ite, ↓q_idx, ↓q_slc, ↓q_rev, ↓q_call, ↓q_bi, ↓q_join, ↓q_app, ↓q_ext, ↓q_lc, ↓q_fs, ↓q_dct, ↓q_evs0, ↓q_evs1, ↓q_opds0, ↓q_opds1, ↓q_no, ↓q_so, ↓q_it, ↓q_rg1, ↓q_rg2, ↓q_tno, ↓q_tso, ↓q_evf0, ↓q_evf1, ↓q_tnt, ↓q_tan, ↓q_tor, ↓q_tite, ↓q_tvar, ↓q_tcst, ↓q_tcmp, ↓q_tidx, ↓q_tcall, ↓q_tbi, ↓q_tslc, ↓q_ovar, ↓q_ocst, ↓q_otup, ↓q_olst, ↓q_obin, ↓q_ocmp, ↓q_oneg, ↓q_ont, ↓q_oan, ↓q_oorr, ↓q_oite, ↓q_oidx, ↓q_oslc, ↓q_orev, ↓q_ocall, ↓q_obi, ↓q_ojoin, ↓q_olc, ↓q_ofs, ↓q_odct, ↓q_lookv, ↓q_looks, ↓q_peek, ↓q_look0, ↓q_look1, ↓q_set, ↓q_bnm, ↓q_btp, ↓q_sets0, ↓q_sets1, ↓q_par0, ↓q_par1, ↓q_own, ↓q_appV, ↓q_extn, ↓q_extl, ↓q_ixr, ↓q_ixt, ↓q_ixl, ↓q_ixs, ↓q_putG, ↓q_add_int, ↓q_add_str, ↓q_add_lst, ↓q_add_tup, ↓q_sub_int, ↓q_mul_int, ↓q_mul_lst, ↓q_mul_tup, ↓q_fdiv_int, ↓q_mod_int, ↓q_pow_int, ↓q_bint, ↓q_bintb, ↓q_blenl, ↓q_blent, ↓q_blens, ↓q_bstri, ↓q_bstrs, ↓q_blistl, ↓q_blistt, ↓q_btupl, ↓q_btupt, ↓q_bmin, ↓q_bmax, ↓q_fmts, ↓q_fmti, ↓q_asg, ↓q_parS, ↓q_put, ↓q_ex, ↓q_iff, ↓q_for, ↓q_retV, ↓q_rcst, ↓q_rtup, ↓q_rlst, ↓q_rbin, ↓q_rcmp, ↓q_rneg, ↓q_rnt, ↓q_ran, ↓q_rorr, ↓q_rite, ↓q_ridx, ↓q_rslc, ↓q_rrev, ↓q_rcall, ↓q_rbi, ↓q_rjoin, ↓q_rlc, ↓q_rfs, ↓q_rdct, ↓q_retN, ↓q_pas, ↓q_brk, ↓q_cnt, ↓q_exs0, ↓q_exs1, q_add_int, q_add_str, q_add_lst, q_add_tup, q_sub_int, q_mul_int, q_mul_lst, q_mul_tup, q_fdiv_int, q_mod_int, q_pow_int, q_bint, q_bintb, q_blenl, q_blent, q_blens, q_bstri, q_bstrs, q_blistl, q_blistt, q_btupl, q_btupt, q_bmin, q_bmax, q_fmts, q_fmti, backG_mk, pushG_mk, wipe_nil, wipe_cons, back_nil, back_cons, noOwn_nil, slots_nm, slots_tp, pv_val, pv_new, slot_val, slot_new, asInt_int, truV_bl, truV_int, cmpV_eq, cmpV_ne, cmpV_lt, cmpV_le, cmpV_gt, cmpV_ge, eqV_int, eqV_str, items_l, items_t, items_f, slcV_lst, slcV_tup, slcV_fz, revV_tup, revV_lst, idxV_lst, idxV_tup, noOwn_cons, at0, at1, at2, at3, Nxt_nx, Nxt_ret, Nxt_brk, Nxt_cnt, Turn_nx, Turn_cnt, Turn_brk, Turn_ret, Fin'_ret, Fin'_nx, List.getElem?_cons_zero, List.getElem?_cons_succ, List.set_cons_zero, List.set_cons_succ, List.getD_cons_zero, List.getD_cons_succ, List.length_cons, List.length_nil, List.map_cons, List.map_nil, List.cons_append, List.nil_append, List.replicate_succ, List.replicate_zero, Option.map_some, Option.some.injEq, Bool.not_true, Bool.not_false, Bool.and_self, Bool.and_true, Bool.true_and, Bool.false_eq_true, Bool.true_eq_false, if_true, if_false, ite_true, ite_false, reduceIte, true_and, and_true, Nat.reduceAdd, Nat.reduceSub, Nat.reduceLT, Nat.reduceLeDiff, Nat.reducePow, Int.reducePow, Int.reduceToNat, Int.reduceLE, Int.reduceLT, Int.reduceNeg, decide_true, decide_false, Ev.sizeLine_eq, rgOk_eq, Nat.lt_add_left_iff_pos, Nat.zero_lt_succ, Nat.succ_pos, Nat.zero_add, true_or, or_true, Nat.reduceMul, Nat.add_zero, Nat.zero_le, Nat.le_refl]
    repeat (refine ⟨by omega, ?_⟩)
    have e00 : eqV (.lst []) (.lst []) = some true := eq_nil_l rfl (by decide +kernel)
    refine lc_none (· = hp3) _ [] hp3 rfl (fun x hx hp4 e => ?_) fun hp4 e => ?_
    · subst e
      have hq : ∃ q, x = pPV q ∧ PlanOk 4 12 12 q := by
        simp only [List.mem_cons, List.not_mem_nil, or_false] at hx
        rcases hx with rfl | rfl | rfl | rfl | rfl | rfl
        · exact ⟨_, rfl, q1⟩
        · exact ⟨_, rfl, q2⟩
        · exact ⟨_, rfl, q3⟩
        · exact ⟨_, by simp only [pPV, List.map_append, List.flatten_cons, List.flatten_nil, List.append_nil], q4⟩
        · exact ⟨_, by simp only [pPV, bPV, List.map_append, List.map_reverse, List.map_nil], q5⟩
        · exact ⟨_, by simp only [pPV, List.map_reverse, List.map_nil], q6⟩
      obtain ⟨q, rfl, hq⟩ := hq
      simp only [↓q_ok, ↓q_some, ↓q_cst, ↓q_var, ↓q_tup, ↓q_lst, ↓q_bin, ↓q_cmp, ↓q_neg, ↓q_nt, ↓q_an, ↓q_orr, ↓q_ite, ↓q_idx, ↓q_slc, ↓q_rev, ↓q_call, ↓q_bi, ↓q_join, ↓q_app, ↓q_ext, ↓q_lc, ↓q_fs, ↓q_dct, ↓q_evs0, ↓q_evs1, ↓q_opds0, ↓q_opds1, ↓q_no, ↓q_so, ↓q_it, ↓q_rg1, ↓q_rg2, ↓q_tno, ↓q_tso, ↓q_evf0, ↓q_evf1, ↓q_tnt, ↓q_tan, ↓q_tor, ↓q_tite, ↓q_tvar, ↓q_tcst, ↓q_tcmp, ↓q_tidx, ↓q_tcall, ↓q_tbi, ↓q_tslc, ↓q_ovar, ↓q_ocst, ↓q_otup, ↓q_olst, ↓q_obin, ↓q_ocmp, ↓q_oneg, ↓q_ont, ↓q_oan, ↓q_oorr, ↓q_oite, ↓q_oidx, ↓q_oslc, ↓q_orev, ↓q_ocall, ↓q_obi, ↓q_ojoin, ↓q_olc, ↓q_ofs, ↓q_odct, ↓q_lookv, ↓q_looks, ↓q_peek, ↓q_look0, ↓q_look1, ↓q_set, ↓q_bnm, ↓q_btp, ↓q_sets0, ↓q_sets1, ↓q_par0, ↓q_par1, ↓q_own, ↓q_appV, ↓q_extn, ↓q_extl, ↓q_ixr, ↓q_ixt, ↓q_ixl, ↓q_ixs, ↓q_putG, ↓q_add_int, ↓q_add_str, ↓q_add_lst, ↓q_add_tup, ↓q_sub_int, ↓q_mul_int, ↓q_mul_lst, ↓q_mul_tup, ↓q_fdiv_int, ↓q_mod_int, ↓q_pow_int, ↓q_bint, ↓q_bintb, ↓q_blenl, ↓q_blent, ↓q_blens, ↓q_bstri, ↓q_bstrs, ↓q_blistl, ↓q_blistt, ↓q_btupl, ↓q_btupt, ↓q_bmin, ↓q_bmax, ↓q_fmts, ↓q_fmti, ↓q_asg, ↓q_parS, ↓q_put, ↓q_ex, ↓q_iff, ↓q_for, ↓q_retV, ↓q_rcst, ↓q_rtup, ↓q_rlst, ↓q_rbin, ↓q_rcmp, ↓q_rneg, ↓q_rnt, ↓q_ran, ↓q_rorr, ↓q_rite, ↓q_ridx, ↓q_rslc, ↓q_rrev, ↓q_rcall, ↓q_rbi, ↓q_rjoin, ↓q_rlc, ↓q_rfs, ↓q_rdct, ↓q_retN, ↓q_pas, ↓q_brk, ↓q_cnt, ↓q_exs0, ↓q_exs1, q_add_int, q_add_str, q_add_lst, q_add_tup, q_sub_int, q_mul_int, q_mul_lst, q_mul_tup, q_fdiv_int, q_mod_int, q_pow_int, q_bint, q_bintb, q_blenl, q_blent, q_blens, q_bstri, q_bstrs, q_blistl, q_blistt, q_btupl, q_btupt, q_bmin, q_bmax, q_fmts, q_fmti, backG_mk, pushG_mk, wipe_nil, wipe_cons, back_nil, back_cons, noOwn_nil, slots_nm, slots_tp, pv_val, pv_new, slot_val, slot_new, asInt_int, truV_bl, truV_int, cmpV_eq, cmpV_ne, cmpV_lt, cmpV_le, cmpV_gt, cmpV_ge, eqV_int, eqV_str, items_l, items_t, items_f, slcV_lst, slcV_tup, slcV_fz, revV_tup, revV_lst, idxV_lst, idxV_tup, noOwn_cons, at0, at1, at2, at3, Nxt_nx, Nxt_ret, Nxt_brk, Nxt_cnt, Turn_nx, Turn_cnt, Turn_brk, Turn_ret, Fin'_ret, Fin'_nx, List.getElem?_cons_zero, List.getElem?_cons_succ, List.set_cons_zero, List.set_cons_succ, List.getD_cons_zero, List.getD_cons_succ, List.length_cons, List.length_nil, List.map_cons, List.map_nil, List.cons_append, List.nil_append, List.replicate_succ, List.replicate_zero, Option.map_some, Option.some.injEq, Bool.not_true, Bool.not_false, Bool.and_self, Bool.and_true, Bool.true_and, Bool.false_eq_true, Bool.true_eq_false, if_true, if_false, ite_true, ite_false, reduceIte, true_and, and_true, Nat.reduceAdd, Nat.reduceSub, Nat.reduceLT, Nat.reduceLeDiff, Nat.reducePow, Int.reducePow, Int.reduceToNat, Int.reduceLE, Int.reduceLT, Int.reduceNeg, decide_true, decide_false, Ev.sizeLine_eq, rgOk_eq, Nat.lt_add_left_iff_pos, Nat.zero_lt_succ, Nat.succ_pos, Nat.zero_add, true_or, or_true, Nat.reduceMul, Nat.add_zero, Nat.zero_le, Nat.le_refl]
      refine Ok_callW (hR hq) fun y hp5 ⟨hx, he⟩ => ?_
      subst hx he
      simp only [↓q_ok, ↓q_some, ↓q_cst, ↓q_var, ↓q_tup, ↓q_lst, ↓q_bin, ↓q_cmp, ↓q_neg, ↓q_nt, ↓q_an, ↓q_orr, ↓q_ite, ↓q_idx, ↓q_slc, ↓q_rev, ↓q_call, ↓q_bi, ↓q_join, ↓q_app, ↓q_ext, ↓q_lc, ↓q_fs, ↓q_dct, ↓q_evs0, ↓q_evs1, ↓q_opds0, ↓q_opds1, ↓q_no, ↓q_so, ↓q_it, ↓q_rg1, ↓q_rg2, ↓q_tno, ↓q_tso, ↓q_evf0, ↓q_evf1, ↓q_tnt, ↓q_tan, ↓q_tor, ↓q_tite, ↓q_tvar, ↓q_tcst, ↓q_tcmp, ↓q_tidx, ↓q_tcall, ↓q_tbi, ↓q_tslc, ↓q_ovar, ↓q_ocst, ↓q_otup, ↓q_olst, ↓q_obin, ↓q_ocmp, ↓q_oneg, ↓q_ont, ↓q_oan, ↓q_oorr, ↓q_oite, ↓q_oidx, ↓q_oslc, ↓q_orev, ↓q_ocall, ↓q_obi, ↓q_ojoin, ↓q_olc, ↓q_ofs, ↓q_odct, ↓q_lookv, ↓q_looks, ↓q_peek, ↓q_look0, ↓q_look1, ↓q_set, ↓q_bnm, ↓q_btp, ↓q_sets0, ↓q_sets1, ↓q_par0, ↓q_par1, ↓q_own, ↓q_appV, ↓q_extn, ↓q_extl, ↓q_ixr, ↓q_ixt, ↓q_ixl, ↓q_ixs, ↓q_putG, ↓q_add_int, ↓q_add_str, ↓q_add_lst, ↓q_add_tup, ↓q_sub_int, ↓q_mul_int, ↓q_mul_lst, ↓q_mul_tup, ↓q_fdiv_int, ↓q_mod_int, ↓q_pow_int, ↓q_bint, ↓q_bintb, ↓q_blenl, ↓q_blent, ↓q_blens, ↓q_bstri, ↓q_bstrs, ↓q_blistl, ↓q_blistt, ↓q_btupl, ↓q_btupt, ↓q_bmin, ↓q_bmax, ↓q_fmts, ↓q_fmti, ↓q_asg, ↓q_parS, ↓q_put, ↓q_ex, ↓q_iff, ↓q_for, ↓q_retV, ↓q_rcst, ↓q_rtup, ↓q_rlst, ↓q_rbin, ↓q_rcmp, ↓q_rneg, ↓q_rnt, ↓q_ran, ↓q_rorr, ↓q_rite, ↓q_ridx, ↓q_rslc, ↓q_rrev, ↓q_rcall, ↓q_rbi, ↓q_rjoin, ↓q_rlc, ↓q_rfs, ↓q_rdct, ↓q_retN, ↓q_pas, ↓q_brk, ↓q_cnt, ↓q_exs0, ↓q_exs1, q_add_int, q_add_str, q_add_lst, q_add_tup, q_sub_int, q_mul_int, q_mul_lst, q_mul_tup, q_fdiv_int, q_mod_int, q_pow_int, q_bint, q_bintb, q_blenl, q_blent, q_blens, q_bstri, q_bstrs, q_blistl, q_blistt, q_btupl, q_btupt, q_bmin, q_bmax, q_fmts, q_fmti, backG_mk, pushG_mk, wipe_nil, wipe_cons, back_nil, back_cons, noOwn_nil, slots_nm, slots_tp, pv_val, pv_new, slot_val, slot_new, asInt_int, truV_bl, truV_int, cmpV_eq, cmpV_ne, cmpV_lt, cmpV_le, cmpV_gt, cmpV_ge, eqV_int, eqV_str, items_l, items_t, items_f, slcV_lst, slcV_tup, slcV_fz, revV_tup, revV_lst, idxV_lst, idxV_tup, noOwn_cons, at0, at1, at2, at3, Nxt_nx, Nxt_ret, Nxt_brk, Nxt_cnt, Turn_nx, Turn_cnt, Turn_brk, Turn_ret, Fin'_ret, Fin'_nx, List.getElem?_cons_zero, List.getElem?_cons_succ, List.set_cons_zero, List.set_cons_succ, List.getD_cons_zero, List.getD_cons_succ, List.length_cons, List.length_nil, List.map_cons, List.map_nil, List.cons_append, List.nil_append, List.replicate_succ, List.replicate_zero, Option.map_some, Option.some.injEq, Bool.not_true, Bool.not_false, Bool.and_self, Bool.and_true, Bool.true_and, Bool.false_eq_true, Bool.true_eq_false, if_true, if_false, ite_true, ite_false, reduceIte, true_and, and_true, Nat.reduceAdd, Nat.reduceSub, Nat.reduceLT, Nat.reduceLeDiff, Nat.reducePow, Int.reducePow, Int.reduceToNat, Int.reduceLE, Int.reduceLT, Int.reduceNeg, decide_true, decide_false, Ev.sizeLine_eq, rgOk_eq, Nat.lt_add_left_iff_pos, Nat.zero_lt_succ, Nat.succ_pos, Nat.zero_add, true_or, or_true, Nat.reduceMul, Nat.add_zero, Nat.zero_le, Nat.le_refl]
    · subst e
      simp only [e00, ↓q_ok, ↓q_some, ↓q_cst, ↓q_var, ↓q_tup, ↓q_lst, ↓q_bin, ↓q_cmp, ↓q_neg, ↓q_nt, ↓q_an, ↓q_orr, ↓q_ite, ↓q_idx, ↓q_slc, ↓q_rev, ↓q_call, ↓q_bi, ↓q_join, ↓q_app, ↓q_ext, ↓q_lc, ↓q_fs, ↓q_dct, ↓q_evs0, ↓q_evs1, ↓q_opds0, ↓q_opds1, ↓q_no, ↓q_so, ↓q_it, ↓q_rg1, ↓q_rg2, ↓q_tno, ↓q_tso, ↓q_evf0, ↓q_evf1, ↓q_tnt, ↓q_tan, ↓q_tor, ↓q_tite, ↓q_tvar, ↓q_tcst, ↓q_tcmp, ↓q_tidx, ↓q_tcall, ↓q_tbi, ↓q_tslc, ↓q_ovar, ↓q_ocst, ↓q_otup, ↓q_olst, ↓q_obin, ↓q_ocmp, ↓q_oneg, ↓q_ont, ↓q_oan, ↓q_oorr, ↓q_oite, ↓q_oidx, ↓q_oslc, ↓q_orev, ↓q_ocall, ↓q_obi, ↓q_ojoin, ↓q_olc, ↓q_ofs, ↓q_odct, ↓q_lookv, ↓q_looks, ↓q_peek, ↓q_look0, ↓q_look1, ↓q_set, ↓q_bnm, ↓q_btp, ↓q_sets0, ↓q_sets1, ↓q_par0, ↓q_par1, ↓q_own, ↓q_appV, ↓q_extn, ↓q_extl, ↓q_ixr, ↓q_ixt, ↓q_ixl, ↓q_ixs, ↓q_putG, ↓q_add_int, ↓q_add_str, ↓q_add_lst, ↓q_add_tup, ↓q_sub_int, ↓q_mul_int, ↓q_mul_lst, ↓q_mul_tup, ↓q_fdiv_int, ↓q_mod_int, ↓q_pow_int, ↓q_bint, ↓q_bintb, ↓q_blenl, ↓q_blent, ↓q_blens, ↓q_bstri, ↓q_bstrs, ↓q_blistl, ↓q_blistt, ↓q_btupl, ↓q_btupt, ↓q_bmin, ↓q_bmax, ↓q_fmts, ↓q_fmti, ↓q_asg, ↓q_parS, ↓q_put, ↓q_ex, ↓q_iff, ↓q_for, ↓q_retV, ↓q_rcst, ↓q_rtup, ↓q_rlst, ↓q_rbin, ↓q_rcmp, ↓q_rneg, ↓q_rnt, ↓q_ran, ↓q_rorr, ↓q_rite, ↓q_ridx, ↓q_rslc, ↓q_rrev, ↓q_rcall, ↓q_rbi, ↓q_rjoin, ↓q_rlc, ↓q_rfs, ↓q_rdct, ↓q_retN, ↓q_pas, ↓q_brk, ↓q_cnt, ↓q_exs0, ↓q_exs1, q_add_int, q_add_str, q_add_lst, q_add_tup, q_sub_int, q_mul_int, q_mul_lst, q_mul_tup, q_fdiv_int, q_mod_int, q_pow_int, q_bint, q_bintb, q_blenl, q_blent, q_blens, q_bstri, q_bstrs, q_blistl, q_blistt, q_btupl, q_btupt, q_bmin, q_bmax, q_fmts, q_fmti, backG_mk, pushG_mk, wipe_nil, wipe_cons, back_nil, back_cons, noOwn_nil, slots_nm, slots_tp, pv_val, pv_new, slot_val, slot_new, asInt_int, truV_bl, truV_int, cmpV_eq, cmpV_ne, cmpV_lt, cmpV_le, cmpV_gt, cmpV_ge, eqV_int, eqV_str, items_l, items_t, items_f, slcV_lst, slcV_tup, slcV_fz, revV_tup, revV_lst, idxV_lst, idxV_tup, noOwn_cons, at0, at1, at2, at3, Nxt_nx, Nxt_ret, Nxt_brk, Nxt_cnt, Turn_nx, Turn_cnt, Turn_brk, Turn_ret, Fin'_ret, Fin'_nx, List.getElem?_cons_zero, List.getElem?_cons_succ, List.set_cons_zero, List.set_cons_succ, List.getD_cons_zero, List.getD_cons_succ, List.length_cons, List.length_nil, List.map_cons, List.map_nil, List.cons_append, List.nil_append, List.replicate_succ, List.replicate_zero, Option.map_some, Option.some.injEq, Bool.not_true, Bool.not_false, Bool.and_self, Bool.and_true, Bool.true_and, Bool.false_eq_true, Bool.true_eq_false, if_true, if_false, ite_true, ite_false, reduceIte, true_and, and_true, Nat.reduceAdd, Nat.reduceSub, Nat.reduceLT, Nat.reduceLeDiff, Nat.reducePow, Int.reducePow, Int.reduceToNat, Int.reduceLE, Int.reduceLT, Int.reduceNeg, decide_true, decide_false, Ev.sizeLine_eq, rgOk_eq, Nat.lt_add_left_iff_pos, Nat.zero_lt_succ, Nat.succ_pos, Nat.zero_add, true_or, or_true, Nat.reduceMul, Nat.add_zero, Nat.zero_le, Nat.le_refl]
      refine Ok_callW (hW F3) fun y hp5 ⟨hx, F5⟩ => ?_
      subst hx
      simp only [↓q_ok, ↓q_some, ↓q_cst, ↓q_var, ↓q_tup, ↓q_lst, ↓q_bin, ↓q_cmp, ↓q_neg, ↓q_nt, ↓q_an, ↓q_orr, ↓q_ite, ↓q_idx, ↓q_slc, ↓q_rev, ↓q_call, ↓q_bi, ↓q_join, ↓q_app, ↓q_ext, ↓q_lc, ↓q_fs, ↓q_dct, ↓q_evs0, ↓q_evs1, ↓q_opds0, ↓q_opds1, ↓q_no, ↓q_so, ↓q_it, ↓q_rg1, ↓q_rg2, ↓q_tno, ↓q_tso, ↓q_evf0, ↓q_evf1, ↓q_tnt, ↓q_tan, ↓q_tor, ↓q_tite, ↓q_tvar, ↓q_tcst, ↓q_tcmp, ↓q_tidx, ↓q_tcall, ↓q_tbi, ↓q_tslc, ↓q_ovar, ↓q_ocst, ↓q_otup, ↓q_olst, ↓q_obin, ↓q_ocmp, ↓q_oneg, ↓q_ont, ↓q_oan, ↓q_oorr, ↓q_oite, ↓q_oidx, ↓q_oslc, ↓q_orev, ↓q_ocall, ↓q_obi, ↓q_ojoin, ↓q_olc, ↓q_ofs, ↓q_odct, ↓q_lookv, ↓q_looks, ↓q_peek, ↓q_look0, ↓q_look1, ↓q_set, ↓q_bnm, ↓q_btp, ↓q_sets0, ↓q_sets1, ↓q_par0, ↓q_par1, ↓q_own, ↓q_appV, ↓q_extn, ↓q_extl, ↓q_ixr, ↓q_ixt, ↓q_ixl, ↓q_ixs, ↓q_putG, ↓q_add_int, ↓q_add_str, ↓q_add_lst, ↓q_add_tup, ↓q_sub_int, ↓q_mul_int, ↓q_mul_lst, ↓q_mul_tup, ↓q_fdiv_int, ↓q_mod_int, ↓q_pow_int, ↓q_bint, ↓q_bintb, ↓q_blenl, ↓q_blent, ↓q_blens, ↓q_bstri, ↓q_bstrs, ↓q_blistl, ↓q_blistt, ↓q_btupl, ↓q_btupt, ↓q_bmin, ↓q_bmax, ↓q_fmts, ↓q_fmti, ↓q_asg, ↓q_parS, ↓q_put, ↓q_ex, ↓q_iff, ↓q_for, ↓q_retV, ↓q_rcst, ↓q_rtup, ↓q_rlst, ↓q_rbin, ↓q_rcmp, ↓q_rneg, ↓q_rnt, ↓q_ran, ↓q_rorr, ↓q_rite, ↓q_ridx, ↓q_rslc, ↓q_rrev, ↓q_rcall, ↓q_rbi, ↓q_rjoin, ↓q_rlc, ↓q_rfs, ↓q_rdct, ↓q_retN, ↓q_pas, ↓q_brk, ↓q_cnt, ↓q_exs0, ↓q_exs1, q_add_int, q_add_str, q_add_lst, q_add_tup, q_sub_int, q_mul_int, q_mul_lst, q_mul_tup, q_fdiv_int, q_mod_int, q_pow_int, q_bint, q_bintb, q_blenl, q_blent, q_blens, q_bstri, q_bstrs, q_blistl, q_blistt, q_btupl, q_btupt, q_bmin, q_bmax, q_fmts, q_fmti, backG_mk, pushG_mk, wipe_nil, wipe_cons, back_nil, back_cons, noOwn_nil, slots_nm, slots_tp, pv_val, pv_new, slot_val, slot_new, asInt_int, truV_bl, truV_int, cmpV_eq, cmpV_ne, cmpV_lt, cmpV_le, cmpV_gt, cmpV_ge, eqV_int, eqV_str, items_l, items_t, items_f, slcV_lst, slcV_tup, slcV_fz, revV_tup, revV_lst, idxV_lst, idxV_tup, noOwn_cons, at0, at1, at2, at3, Nxt_nx, Nxt_ret, Nxt_brk, Nxt_cnt, Turn_nx, Turn_cnt, Turn_brk, Turn_ret, Fin'_ret, Fin'_nx, List.getElem?_cons_zero, List.getElem?_cons_succ, List.set_cons_zero, List.set_cons_succ, List.getD_cons_zero, List.getD_cons_succ, List.length_cons, List.length_nil, List.map_cons, List.map_nil, List.cons_append, List.nil_append, List.replicate_succ, List.replicate_zero, Option.map_some, Option.some.injEq, Bool.not_true, Bool.not_false, Bool.and_self, Bool.and_true, Bool.true_and, Bool.false_eq_true, Bool.true_eq_false, if_true, if_false, ite_true, ite_false, reduceIte, true_and, and_true, Nat.reduceAdd, Nat.reduceSub, Nat.reduceLT, Nat.reduceLeDiff, Nat.reducePow, Int.reducePow, Int.reduceToNat, Int.reduceLE, Int.reduceLT, Int.reduceNeg, decide_true, decide_false, Ev.sizeLine_eq, rgOk_eq, Nat.lt_add_left_iff_pos, Nat.zero_lt_succ, Nat.succ_pos, Nat.zero_add, true_or, or_true, Nat.reduceMul, Nat.add_zero, Nat.zero_le, Nat.le_refl]
      exact ⟨(_, _, _, _), rfl, F5⟩
  · simp only [↓q_ok, ↓q_some, ↓q_cst, ↓q_var, ↓q_tup, ↓q_lst, ↓q_bin, ↓q_cmp, ↓q_neg, ↓q_nt, ↓q_an, ↓q_orr, ↓q_ite, ↓q_idx, ↓q_slc, ↓q_rev, ↓q_call, ↓q_bi, ↓q_join, ↓q_app, ↓q_ext, ↓q_lc, ↓q_fs, ↓q_dct, ↓q_evs0, ↓q_evs1, ↓q_opds0, ↓q_opds1, ↓q_no, ↓q_so, ↓q_it, ↓q_rg1, ↓q_rg2, ↓q_tno, ↓q_tso, ↓q_evf0, ↓q_evf1, ↓q_tnt, ↓q_tan, ↓q_tor, ↓q_tite, ↓q_tvar, ↓q_tcst, ↓q_tcmp, ↓q_tidx, ↓q_tcall, ↓q_tbi, ↓q_tslc, ↓q_ovar, ↓q_ocst, ↓q_otup, ↓q_olst, ↓q_obin, ↓q_ocmp, ↓q_oneg, ↓q_ont, ↓q_oan, ↓q_oorr, ↓q_oite, ↓q_oidx, ↓q_oslc, ↓q_orev, ↓q_ocall, ↓q_obi, ↓q_ojoin, ↓q_olc, ↓q_ofs, ↓q_odct, ↓q_lookv, ↓q_looks, ↓q_peek, ↓q_look0, ↓q_look1, ↓q_set, ↓q_bnm, ↓q_btp, ↓q_sets0, ↓q_sets1, ↓q_par0, ↓q_par1, ↓q_own, ↓q_appV, ↓q_extn, ↓q_extl, ↓q_ixr, ↓q_ixt, ↓q_ixl, ↓q_ixs, ↓q_putG, ↓q_add_int, ↓q_add_str, ↓q_add_lst, ↓q_add_tup, ↓q_sub_int, ↓q_mul_int, ↓q_mul_lst, ↓q_mul_tup, ↓q_fdiv_int, ↓q_mod_int, ↓q_pow_int, ↓q_bint, ↓q_bintb, ↓q_blenl, ↓q_blent, ↓q_blens, ↓q_bstri, ↓q_bstrs, ↓q_blistl, ↓q_blistt, ↓q_btupl, ↓q_btupt, ↓q_bmin, ↓q_bmax, ↓q_fmts, ↓q_fmti, ↓q_asg, ↓q_parS, ↓q_put, ↓q_ex, ↓q_iff, ↓q_for, ↓q_retV, ↓q_rcst, ↓q_rtup, ↓q_rlst, ↓q_rbin, ↓q_rcmp, ↓q_rneg, ↓q_rnt, ↓q_ran, ↓q_rorr, ↓q_rite, ↓q_ridx, ↓q_rslc, ↓q_rrev, ↓q_rcall, ↓q_rbi, ↓q_rjoin, ↓q_rlc, ↓q_rfs, ↓q_rdct, ↓q_retN, ↓q_pas, ↓q_brk, ↓q_cnt, ↓q_exs0, ↓q_exs1, q_add_int, q_add_str, q_add_lst, q_add_tup, q_sub_int, q_mul_int, q_mul_lst, q_mul_tup, q_fdiv_int, q_mod_int, q_pow_int, q_bint, q_bintb, q_blenl, q_blent, q_blens, q_bstri, q_bstrs, q_blistl, q_blistt, q_btupl, q_btupt, q_bmin, q_bmax, q_fmts, q_fmti, backG_mk, pushG_mk, wipe_nil, wipe_cons, back_nil, back_cons, noOwn_nil, slots_nm, slots_tp, pv_val, pv_new, slot_val, slot_new, asInt_int, truV_bl, truV_int, cmpV_eq, cmpV_ne, cmpV_lt, cmpV_le, cmpV_gt, cmpV_ge, eqV_int, eqV_str, items_l, items_t, items_f, slcV_lst, slcV_tup, slcV_fz, revV_tup, revV_lst, idxV_lst, idxV_tup, noOwn_cons, at0, at1, at2, at3, Nxt_nx, Nxt_ret, Nxt_brk, Nxt_cnt, Turn_nx, Turn_cnt, Turn_brk, Turn_ret, Fin'_ret, Fin'_nx, List.getElem?_cons_zero, List.getElem?_cons_succ, List.set_cons_zero, List.set_cons_succ, List.getD_cons_zero, List.getD_cons_succ, List.length_cons, List.length_nil, List.map_cons, List.map_nil, List.cons_append, List.nil_append, List.replicate_succ, List.replicate_zero, Option.map_some, Option.some.injEq, Bool.not_true, Bool.not_false, Bool.and_self, Bool.and_true, Bool.true_and, Bool.false_eq_true, Bool.true_eq_false, if_true, if_false, ite_true, ite_false, reduceIte, true_and, and_true, Nat.reduceAdd, Nat.reduceSub, Nat.reduceLT, Nat.reduceLeDiff, Nat.reducePow, Int.reducePow, Int.reduceToNat, Int.reduceLE, Int.reduceLT, Int.reduceNeg, decide_true, decide_false, Ev.sizeLine_eq, rgOk_eq, Nat.lt_add_left_iff_pos, Nat.zero_lt_succ, Nat.succ_pos, Nat.zero_add, true_or, or_true, Nat.reduceMul, Nat.add_zero, Nat.zero_le, Nat.le_refl]
theorem main (ns : List Int) (h : ns.length ≤ 63) : ∃ hp', calls table 10 0 [.fz ns] [] [] = some (.val (.bl true), hp') := by
  obtain ⟨r, hp', e, hr⟩ := (law_ok 3 ns).ex
  subst hr
  exact ⟨hp', e⟩
end K09
open PySem PySem.W PyProof.Rows
set_option maxHeartbeats 0 in
theorem PySem.Challenge.cw_amidlinks_k09_texts_written_holds : PySem.Challenge.rw_amidlinks_k09_texts_written.Holds := by
  w_on; o_law; k_head; (case hw => w_witness2)
  k_fill
  refine Ev.walk_ev (l := PySem.Challenge.rw_amidlinks_k09_texts_written) (n := 63) (k := 10) (D := K09.table) (i := 0) rfl (by decide) rfl ⟨rfl, by decide, by decide⟩ (fun w h Y => PySem.W.kIn_of Y) rfl rfl rfl rfl ?F ?C
  case F =>
    intro w mg h KX G
    refine' K09.all_mk KX G ?a0 ?l0 ?c0 ?a1 ?l1 ?c1 ?a2 ?l2 ?c2 ?a3 ?l3 ?c3 ?a4 ?l4 ?c4 ?a5 ?l5 ?c5 ?a6 ?l6 ?c6 ?a7 ?l7 ?c7 ?a8 ?l8 ?c8 ?a9 ?l9 ?c9 ?a10 ?l10 ?c10 ?a11 ?l11 ?c11 ?a12 ?l12 ?c12 ?a13 ?l13 ?c13 ?a14 ?l14 ?c14 ?a15 ?l15 ?c15 ?a16 ?l16 ?c16 ?a17 ?l17 ?c17 ?a18 ?l18 ?c18 ?a19 ?l19 ?c19 ?a20 ?l20 ?c20 ?z0 ?z1 ?z2 ?z3 ?z4 ?z5 ?z6 ?z7 ?z8
    (case a0 => k_is); (case l0 => k_is); (case c0 => k_is); (case a1 => k_is); (case l1 => k_is); (case c1 => k_is); (case a2 => k_is); (case l2 => k_is); (case c2 => k_is); (case a3 => k_is); (case l3 => k_is); (case c3 => k_is); (case a4 => k_is); (case l4 => k_is); (case c4 => k_is); (case a5 => k_is); (case l5 => k_is); (case c5 => k_is); (case a6 => k_is); (case l6 => k_is); (case c6 => k_is); (case a7 => k_is); (case l7 => k_is); (case c7 => k_is); (case a8 => k_is); (case l8 => k_is); (case c8 => k_is); (case a9 => k_is); (case l9 => k_is); (case c9 => k_is); (case a10 => k_is); (case l10 => k_is); (case c10 => k_is); (case a11 => k_is); (case l11 => k_is); (case c11 => k_is); (case a12 => k_is); (case l12 => k_is); (case c12 => k_is); (case a13 => k_is); (case l13 => k_is); (case c13 => k_is); (case a14 => k_is); (case l14 => k_is); (case c14 => k_is); (case a15 => k_is); (case l15 => k_is); (case c15 => k_is); (case a16 => k_is); (case l16 => k_is); (case c16 => k_is); (case a17 => k_is); (case l17 => k_is); (case c17 => k_is); (case a18 => k_is); (case l18 => k_is); (case c18 => k_is); (case a19 => k_is); (case l19 => k_is); (case c19 => k_is); (case a20 => k_is); (case l20 => k_is); (case c20 => k_is); (case z0 => k_is); (case z1 => k_is); (case z2 => k_is); (case z3 => k_is); (case z4 => k_is); (case z5 => k_is); (case z6 => k_is); (case z7 => k_is); (case z8 => k_is)
  case C =>
    exact K09.main
