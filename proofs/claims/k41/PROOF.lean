import PyProof.Rows.All
import PyProof.P3Statements
import Wide.All
import OpenK.AllK
import Wide.FinOn
import HandS.ForMost
import HandS.Exc
import HandS.WordsExc
import HandS.CallSlots
import HandS.Wide
import HandS.Lambda
import HandS.EndTab
import KE.DataEq
import HandS.Deep
import HandS.TupAny
import HandS.DictComp
import KE.SortData
import KE.SortKeyHeap
import HandS.IsInst
import HandS.Conv
import HandS.Flt
import KE.DataMinMax
import PySem.Challenge.RW_ringhall_k41_the_most_of_pairs
section
set_option linter.all false
/-! Data, stores, results, and the combinators in which a def of the text is told as a plain function. No model in sight. -/
namespace Rh
open PySem

/-- a value by what it holds: tuples and frozen lists whole (cl: made by the run; fz: there before), other objects by their place in the store -/
inductive D where
  | non
  | bl (b : Bool)
  | int (i : Int)
  | str (x : Str)
  | tup (ds : List D)
  | cl (ds : List D)
  | fz (ds : List D)
  | ref (l : Nat)
  deriving Inhabited

abbrev Ky := Sum Int Str
/-- what stands at a place of the store; dk: keys are numbers and texts, dt: tuples of these; lk, lt: the same while they are walked -/
inductive Ob where
  | lst (ds : List D)
  | dk (kvs : List (Ky × D))
  | dt (kvs : List (List Ky × D))
  | lk (kvs : List (Ky × D))
  | lt (kvs : List (List Ky × D))
  | ins (c : Str) (fs : List (Str × D))
  deriving Inhabited

abbrev Sto := List Ob
/-- an error of an own class: its name, its one field -/
structure Exn where
  cls : Str
  arg : Option (Str × D)
inductive R (α : Type) where
  | ok (a : α) (s : Sto)
  | exc (x : Exn) (s : Sto)
  | bad

def R.bind {α β : Type} (r : R α) (f : α → Sto → R β) : R β :=
  match r with
  | .ok a s => f a s
  | .exc x s => .exc x s
  | .bad => .bad
@[simp] theorem R.bind_ok {α β : Type} (a : α) (s : Sto) (f : α → Sto → R β) : (R.ok a s).bind f = f a s := rfl
@[simp] theorem R.bind_exc {α β : Type} (x : Exn) (s : Sto) (f : α → Sto → R β) : (R.exc x s).bind f = .exc x s := rfl
@[simp] theorem R.bind_bad {α β : Type} (f : α → Sto → R β) : (R.bad : R α).bind f = .bad := rfl

abbrev En := List (Option D)
abbrev Ev := En → Sto → R D
abbrev Et := En → Sto → R Bool
abbrev Ea := En → Sto → R (List D)

/-! ### expressions -/
def eVar (i : Nat) : Ev := fun ρ s => match ρ[i]? with
  | some (some d) => .ok d s
  | _ => .bad
def eC (d : D) : Ev := fun _ s => .ok d s
def eBin (f : D → D → Sto → R D) (a b : Ev) : Ev := fun ρ s => (a ρ s).bind fun x s1 => (b ρ s1).bind fun y s2 => f x y s2
def eUn (f : D → Sto → R D) (a : Ev) : Ev := fun ρ s => (a ρ s).bind f
def aNil : Ea := fun _ s => .ok [] s
def aCons (a : Ev) (t : Ea) : Ea := fun ρ s => (a ρ s).bind fun x s1 => (t ρ s1).bind fun xs s2 => .ok (x :: xs) s2
def eArg (f : List D → Sto → R D) (a : Ea) : Ev := fun ρ s => (a ρ s).bind f
/-- the most that a list or a tuple holds -/
def szl : Nat := 16777216
def eTup (a : Ea) : Ev := eArg (fun xs s => if xs.length ≤ szl then .ok (.tup xs) s else .bad) a
/-- a frozen list, a list of the store -/
def eLstC (a : Ea) : Ev := eArg (fun xs s => if xs.length ≤ szl then .ok (.cl xs) s else .bad) a
def eLst (a : Ea) : Ev := eArg (fun xs s => if xs.length ≤ szl then .ok (.ref s.length) (s ++ [.lst xs]) else .bad) a
def eIf (t : Et) (a b : Ev) : Ev := fun ρ s => (t ρ s).bind fun c s1 => if c then a ρ s1 else b ρ s1
def eAnd (a b : Ev) : Ev := fun ρ s => (a ρ s).bind fun x s1 => match x with
  | .bl true => b ρ s1
  | .bl false => .ok (.bl false) s1
  | _ => .bad
def eOr (a b : Ev) : Ev := fun ρ s => (a ρ s).bind fun x s1 => match x with
  | .bl true => .ok (.bl true) s1
  | .bl false => b ρ s1
  | _ => .bad
def eChain (f g : D → D → Sto → R D) (a b c : Ev) : Ev := fun ρ s => (a ρ s).bind fun x s1 => (b ρ s1).bind fun y s2 => (f x y s2).bind fun z s3 => match z with
  | .bl true => (c ρ s3).bind fun u s4 => g y u s4
  | .bl false => .ok (.bl false) s3
  | _ => .bad

/-! ### tests -/
def truthy (d : D) (s : Sto) : R Bool := match d with
  | .bl b => .ok b s
  | _ => .bad
def tVal (a : Ev) : Et := fun ρ s => (a ρ s).bind truthy
def tNot (t : Et) : Et := fun ρ s => (t ρ s).bind fun b s1 => .ok (!b) s1
def tAnd (t u : Et) : Et := fun ρ s => (t ρ s).bind fun b s1 => if b then u ρ s1 else .ok false s1
def tOr (t u : Et) : Et := fun ρ s => (t ρ s).bind fun b s1 => if b then .ok true s1 else u ρ s1

/-! ### statements -/
inductive O where
  | nx (ρ : En) (s : Sto)
  | rt (d : D) (s : Sto)
  | bk (ρ : En) (s : Sto)
  | ct (ρ : En) (s : Sto)
  | exc (x : Exn) (ρ : En) (s : Sto)
  | bad
abbrev Es := En → Sto → O
/-- a value, then what follows -/
def R.then {α : Type} (r : R α) (ρ : En) (f : α → Sto → O) : O := match r with
  | .ok a s => f a s
  | .exc x s => .exc x ρ s
  | .bad => .bad
@[simp] theorem R.then_ok {α : Type} (a : α) (s : Sto) (ρ : En) (f : α → Sto → O) : (R.ok a s).then ρ f = f a s := rfl
@[simp] theorem R.then_exc {α : Type} (x : Exn) (s : Sto) (ρ : En) (f : α → Sto → O) : (R.exc x s).then ρ f = .exc x ρ s := rfl
@[simp] theorem R.then_bad {α : Type} (ρ : En) (f : α → Sto → O) : (R.bad : R α).then ρ f = .bad := rfl
def sNil : Es := fun ρ s => .nx ρ s
def sSeq (a b : Es) : Es := fun ρ s => match a ρ s with
  | .nx ρ1 s1 => b ρ1 s1
  | o => o
def sRet (e : Ev) : Es := fun ρ s => (e ρ s).then ρ fun d s1 => .rt d s1
def sRetN : Es := fun _ s => .rt .non s
def sExpr (e : Ev) : Es := fun ρ s => (e ρ s).then ρ fun _ s1 => .nx ρ s1
def sIf (t : Et) (a b : Es) : Es := fun ρ s => (t ρ s).then ρ fun c s1 => if c then a ρ s1 else b ρ s1
def sBrk : Es := fun ρ s => .bk ρ s
def sCnt : Es := fun ρ s => .ct ρ s

/-- targets -/
abbrev Tg := D → Es
def gNm (i : Nat) : Tg := fun d ρ s => .nx (ρ.set i (some d)) s
abbrev Tgs := List D → Es
def gsNil : Tgs := fun ds ρ s => match ds with
  | [] => .nx ρ s
  | _ => .bad
def gsCons (g : Tg) (t : Tgs) : Tgs := fun ds ρ s => match ds with
  | d :: r => (match g d ρ s with
    | .nx ρ1 s1 => t r ρ1 s1
    | o => o)
  | [] => .bad
def gTp (n : Nat) (t : Tgs) : Tg := fun d ρ s => match d with
  | .tup ds => if ds.length = n then t ds ρ s else .bad
  | _ => .bad
def gSb (f : D → D → D → Sto → R Unit) (o i : Ev) : Tg := fun d ρ s => (o ρ s).then ρ fun x s1 => (i ρ s1).then ρ fun y s2 => (f x y d s2).then ρ fun _ s3 => .nx ρ s3
def sAsg (e : Ev) (g : Tg) : Es := fun ρ s => (e ρ s).then ρ fun d s1 => g d ρ s1
def sPar (i j : Nat) (a : Ea) : Es := fun ρ s => (a ρ s).then ρ fun ds s1 => match ds with
  | [x, y] => .nx ((ρ.set i (some x)).set j (some y)) s1
  | _ => .bad
def sAug (f : D → D → Sto → R D) (i : Nat) (e : Ev) : Es := fun ρ s => match ρ[i]? with
  | some (some x) => (e ρ s).then ρ fun y s1 => (f x y s1).then ρ fun z s2 => .nx (ρ.set i (some z)) s2
  | _ => .bad
/-- o[i] op= e -/
def sAugS (get : D → D → Sto → R D) (f : D → D → Sto → R D) (set : D → D → D → Sto → R Unit) (o i e : Ev) : Es := fun ρ s =>
  (o ρ s).then ρ fun x s1 => (i ρ s1).then ρ fun y s2 => (get x y s2).then ρ fun v s3 => (e ρ s3).then ρ fun u s4 => (f v u s4).then ρ fun z s5 => (set x y z s5).then ρ fun _ s6 => .nx ρ s6

/-! ### loops -/
/-- what is walked: things at hand, or what stands in the store at each turn -/
inductive It where
  | its (ds : List D)
  | live (vw : Sto → Option (List D))
  deriving Inhabited
abbrev Ei := En → Sto → R It
def forIts (body : D → Es) : List D → Es
  | [], ρ, s => .nx ρ s
  | d :: ds, ρ, s => match body d ρ s with
    | .nx ρ1 s1 => forIts body ds ρ1 s1
    | .ct ρ1 s1 => forIts body ds ρ1 s1
    | .bk ρ1 s1 => .nx ρ1 s1
    | .rt d s1 => .rt d s1
    | .exc x ρ1 s1 => .exc x ρ1 s1
    | .bad => .bad
/-- fuel, the turn -/
def forLive (vw : Sto → Option (List D)) (body : D → Es) : Nat → Nat → Es
  | 0, i, ρ, s => match vw s with
    | some ds => if ds.length ≤ i then .nx ρ s else .bad
    | none => .bad
  | n + 1, i, ρ, s => match vw s with
    | some ds => (match ds[i]? with
      | none => .nx ρ s
      | some d => match body d ρ s with
        | .nx ρ1 s1 => forLive vw body n (i + 1) ρ1 s1
        | .ct ρ1 s1 => forLive vw body n (i + 1) ρ1 s1
        | .bk ρ1 s1 => .nx ρ1 s1
        | .rt d s1 => .rt d s1
        | .exc x ρ1 s1 => .exc x ρ1 s1
        | .bad => .bad)
    | none => .bad
def vwLen (s : Sto) (vw : Sto → Option (List D)) : Nat := match vw s with
  | some ds => ds.length
  | none => 0
def thenG (g : Tg) (b : Es) : D → Es := fun d ρ s => match g d ρ s with
  | .nx ρ1 s1 => b ρ1 s1
  | o => o
def sFor (it : Ei) (g : Tg) (b : Es) : Es := fun ρ s => (it ρ s).then ρ fun J s1 => match J with
  | .its ds => forIts (thenG g b) ds ρ s1
  | .live vw => forLive vw (thenG g b) (vwLen s1 vw) 0 ρ s1
/-- fuel -/
def whileN (t : Et) (b : Es) : Nat → Es
  | 0, _, _ => .bad
  | n + 1, ρ, s => (t ρ s).then ρ fun c s1 => if c then (match b ρ s1 with
      | .nx ρ1 s2 => whileN t b n ρ1 s2
      | .ct ρ1 s2 => whileN t b n ρ1 s2
      | .bk ρ1 s2 => .nx ρ1 s2
      | .rt d s2 => .rt d s2
      | .exc x ρ1 s2 => .exc x ρ1 s2
      | .bad => .bad) else .nx ρ s1

/-! ### comprehensions: their own names are wiped, the items gathered -/
def wipe (ρ : En) : List Nat → En
  | [] => ρ
  | v :: vs => (wipe ρ vs).set v none
/-- one turn: the items gathered by it -/
def lcTurn (g : Tg) (t : Et) (e : Ev) (ρ : En) (d : D) (acc : List D) (s : Sto) : R (List D) := match g d ρ s with
  | .nx ρ1 s1 => (t ρ1 s1).bind fun c s2 => if c then (e ρ1 s2).bind fun y s3 => .ok (acc ++ [y]) s3 else .ok acc s2
  | _ => .bad
def lcIts (turn : D → List D → Sto → R (List D)) : List D → List D → Sto → R (List D)
  | [], acc, s => .ok acc s
  | d :: ds, acc, s => (turn d acc s).bind fun acc1 s1 => lcIts turn ds acc1 s1
def lcLive (vw : Sto → Option (List D)) (turn : D → List D → Sto → R (List D)) : Nat → Nat → List D → Sto → R (List D)
  | 0, i, acc, s => match vw s with
    | some ds => if ds.length ≤ i then .ok acc s else .bad
    | none => .bad
  | n + 1, i, acc, s => match vw s with
    | some ds => (match ds[i]? with
      | none => .ok acc s
      | some d => (turn d acc s).bind fun acc1 s1 => lcLive vw turn n (i + 1) acc1 s1)
    | none => .bad
/-- an error does not leave a comprehension -/
def noExc {α : Type} (r : R α) : R α := match r with
  | .exc _ _ => .bad
  | r => r
/-- what a comprehension gathers, then what is made of it -/
def lcAll (it : Ei) (g : Tg) (t : Et) (e : Ev) (vs : List Nat) : Ea := fun ρ s => (it ρ s).bind fun J s1 => match J with
  | .its ds => noExc (lcIts (lcTurn g t e (wipe ρ vs)) ds [] s1)
  | .live vw => noExc (lcLive vw (lcTurn g t e (wipe ρ vs)) (vwLen s1 vw) 0 [] s1)
def tYes : Et := fun _ s => .ok true s
/-- frozen; of the store -/
def eLcC (it : Ei) (g : Tg) (t : Et) (e : Ev) (vs : List Nat) : Ev := fun ρ s => (lcAll it g t e vs ρ s).bind fun ds s1 => .ok (.cl ds) s1
def eLc (it : Ei) (g : Tg) (t : Et) (e : Ev) (vs : List Nat) : Ev := fun ρ s => (lcAll it g t e vs ρ s).bind fun ds s1 => .ok (.ref s1.length) (s1 ++ [.lst ds])
end Rh
end

section
set_option linter.all false
/-! What operators, subscripts, calls of built-ins and methods do to data and store. -/
namespace Rh
open PySem

def R.ofO {α : Type} (o : Option α) (s : Sto) : R α := match o with
  | some a => .ok a s
  | none => .bad
/-- the items of a list -/
def lstOf (s : Sto) : D → Option (List D)
  | .cl ds => some ds
  | .fz ds => some ds
  | .ref l => match s[l]? with
    | some (.lst ds) => some ds
    | _ => none
  | _ => none
/-- of a list that the run made -/
def lstOwn (s : Sto) : D → Option (List D)
  | .fz _ => none
  | d => lstOf s d
/-- of a list or a tuple -/
def seqOf (s : Sto) : D → Option (List D)
  | .tup ds => some ds
  | d => lstOf s d

/-! ### equality -/
def toPys (f : D → Option PyData) : List D → Option (List PyData)
  | [] => some []
  | d :: ds => match f d, toPys f ds with
    | some x, some xs => some (x :: xs)
    | _, _ => none
def toPy : Nat → Sto → D → Option PyData
  | _, _, .non => some .none
  | _, _, .bl b => some (.bool b)
  | _, _, .int i => some (.int i)
  | _, _, .str x => some (.str x)
  | 0, _, _ => none
  | n + 1, s, .tup ds => (toPys (toPy n s) ds).map .tuple
  | n + 1, s, .cl ds => (toPys (toPy n s) ds).map .list
  | n + 1, s, .fz ds => (toPys (toPy n s) ds).map .list
  | n + 1, s, .ref l => match s[l]? with
    | some (.lst ds) => (toPys (toPy n s) ds).map .list
    | _ => none
def pyEq (s : Sto) (x y : D) : Option Bool := match toPy 12 s x, toPy 12 s y with
  | some a, some b => some (PyData.eqv a b)
  | _, _ => none
def opEq : D → D → Sto → R D := fun x y s => match pyEq s x y with
  | some b => .ok (.bl b) s
  | none => .bad
def opNe : D → D → Sto → R D := fun x y s => match pyEq s x y with
  | some b => .ok (.bl (!b)) s
  | none => .bad

/-! ### numbers, order -/
def opAdd (fr : Bool) : D → D → Sto → R D
  | .int i, .int j, s => .ok (.int (i + j)) s
  | .str x, .str y, s => if x.length + y.length ≤ szl then .ok (.str (x ++ y)) s else .bad
  | .tup xs, .tup ys, s => if xs ≠ [] ∧ xs.length + ys.length ≤ szl then .ok (.tup (xs ++ ys)) s else .bad
  | x, y, s => match lstOwn s x, lstOwn s y with
    | some xs, some ys => if xs.length + ys.length ≤ szl then (if fr then .ok (.cl (xs ++ ys)) s else .ok (.ref s.length) (s ++ [.lst (xs ++ ys)])) else .bad
    | _, _ => .bad
/-- += of numbers, of texts -/
def opAddN : D → D → Sto → R D
  | .int i, .int j, s => .ok (.int (i + j)) s
  | .str x, .str y, s => if x.length + y.length ≤ szl then .ok (.str (x ++ y)) s else .bad
  | _, _, _ => .bad
def opSub : D → D → Sto → R D
  | .int i, .int j, s => .ok (.int (i - j)) s
  | _, _, _ => .bad
def mulOk (i j : Int) : Prop := ((-(2 ^ 64) < i ∧ i < 2 ^ 64) ∨ (-(2 ^ 64) < j ∧ j < 2 ^ 64)) ∨ i.natAbs.log2 + j.natAbs.log2 < 1000000
instance (i j : Int) : Decidable (mulOk i j) := by unfold mulOk; exact inferInstance
def opMul : D → D → Sto → R D
  | .int i, .int j, s => if mulOk i j then .ok (.int (i * j)) s else .bad
  | _, _, _ => .bad
def opDiv : D → D → Sto → R D
  | .int i, .int j, s => if 0 < j ∧ j.natAbs.log2 < 9000 then .ok (.int (i / j)) s else .bad
  | _, _, _ => .bad
def opMod : D → D → Sto → R D
  | .int i, .int j, s => if 0 < j then .ok (.int (i % j)) s else .bad
  | _, _, _ => .bad
def opPow : D → D → Sto → R D
  | .int i, .int j, s => if 0 ≤ j ∧ j ≤ 1000000 ∧ i.natAbs < 2 ^ 64 then .ok (.int (i ^ j.toNat)) s else .bad
  | _, _, _ => .bad
def opCmp (f : Int → Int → Bool) : D → D → Sto → R D
  | .int i, .int j, s => .ok (.bl (f i j)) s
  | _, _, _ => .bad
def opLt := opCmp fun i j => decide (i < j)
def opLe := opCmp fun i j => decide (i ≤ j)
def opGt := opCmp fun i j => decide (j < i)
def opGe := opCmp fun i j => decide (j ≤ i)
def isNon : D → Bool
  | .non => true
  | _ => false
/-- is None, is not None -/
def opIsN : D → Sto → R D := fun x s => .ok (.bl (isNon x)) s
def opNotN : D → Sto → R D := fun x s => .ok (.bl (!isNon x)) s
def opNeg : D → Sto → R D
  | .int i, s => .ok (.int (-i)) s
  | _, _ => .bad

/-! ### keys and dicts -/
def kyOf : D → Option Ky
  | .int i => some (.inl i)
  | .str x => some (.inr x)
  | _ => none
def kysOf : List D → Option (List Ky)
  | [] => some []
  | d :: ds => match kyOf d, kysOf ds with
    | some k, some ks => some (k :: ks)
    | _, _ => none
def ktOf : D → Option (List Ky)
  | .tup ds => kysOf ds
  | _ => none
def asc {κ : Type} [DecidableEq κ] (kvs : List (κ × D)) (k : κ) : Option D := match kvs with
  | [] => none
  | p :: r => if p.1 = k then some p.2 else asc r k
/-- in its place, or at the end -/
def putA {κ : Type} [DecidableEq κ] (kvs : List (κ × D)) (k : κ) (v : D) : List (κ × D) :=
  if (kvs.any fun kv => decide (kv.1 = k)) = true then kvs.map (fun kv => if kv.1 = k then (kv.1, v) else kv) else kvs ++ [(k, v)]
def dropA {κ : Type} [DecidableEq κ] (kvs : List (κ × D)) (k : κ) : List (κ × D) := kvs.filter fun kv => decide (kv.1 ≠ k)
/-- what a dict holds at a key; none: it is no dict or no such key -/
def dGet (s : Sto) (d k : D) : Option (Option D) := match d with
  | .ref l => match s[l]? with
    | some (.dk kvs) => (kyOf k).map (asc kvs)
    | some (.lk kvs) => (kyOf k).map (asc kvs)
    | some (.dt kvs) => (ktOf k).map (asc kvs)
    | some (.lt kvs) => (ktOf k).map (asc kvs)
    | _ => none
  | _ => none
def dPut (s : Sto) (d k v : D) : Option Sto := match d with
  | .ref l => match s[l]? with
    | some (.dk kvs) => (match kyOf k with
      | some k => if kvs.length < szl then some (s.set l (.dk (putA kvs k v))) else none
      | none => none)
    | some (.dt kvs) => (match ktOf k with
      | some k => if kvs.length < szl then some (s.set l (.dt (putA kvs k v))) else none
      | none => none)
    | _ => none
  | _ => none

/-! ### subscripts -/
def ixAt (n : Nat) (i : Int) : Option Nat := if 0 ≤ i then (if i < n then some i.toNat else none) else if -(n : Int) ≤ i then some (i + n).toNat else none
def itemAt (ds : List D) (i : Int) : Option D := (ixAt ds.length i).bind fun j => ds[j]?
def getItem : D → D → Sto → R D := fun o k s => match seqOf s o with
  | some ds => (match k with
    | .int i => R.ofO (itemAt ds i) s
    | _ => .bad)
  | none => (match dGet s o k with
    | some (some v) => .ok v s
    | _ => .bad)
def setItem : D → D → D → Sto → R Unit := fun o k v s => match o with
  | .ref l => (match s[l]? with
    | some (.lst ds) => (match k with
      | .int i => (match ixAt ds.length i with
        | some j => .ok () (s.set l (.lst (ds.set j v)))
        | none => .bad)
      | _ => .bad)
    | _ => (match dPut s o k v with
      | some s' => .ok () s'
      | none => .bad))
  | _ => .bad
def dItem : D → D → Sto → R D := fun o k s => match dGet s o k with
  | some (some v) => .ok v s
  | _ => .bad
def dSetItem : D → D → D → Sto → R Unit := fun o k v s => match dPut s o k v with
  | some s' => .ok () s'
  | none => .bad
def clip (n d : Nat) : Option Int → Nat
  | none => d
  | some i => if 0 ≤ i then min i.toNat n else (n + i).toNat
def cutL (ds : List D) (lo hi : Option Int) : List D := (ds.drop (clip ds.length 0 lo)).take (clip ds.length ds.length hi - clip ds.length 0 lo)
def partOf : Option D → Option (Option Int)
  | none => some none
  | some (.int i) => some (some i)
  | _ => none

/-! ### built-in functions -/
def bLen : List D → Sto → R D
  | [.str x], s => if x.length ≤ szl then .ok (.int x.length) s else .bad
  | [d], s => (match seqOf s d with
    | some ds => .ok (.int ds.length) s
    | none => .bad)
  | _, _ => .bad
def bAbs : List D → Sto → R D
  | [.int i], s => .ok (.int (if i < 0 then -i else i)) s
  | _, _ => .bad
def bMax : List D → Sto → R D
  | [.int i, .int j], s => .ok (.int (if j > i then j else i)) s
  | _, _ => .bad
def bMin : List D → Sto → R D
  | [.int i, .int j], s => .ok (.int (if j < i then j else i)) s
  | _, _ => .bad
def intsOf : List D → Option (List Int)
  | [] => some []
  | .int i :: ds => (intsOf ds).map (i :: ·)
  | _ :: _ => none
def bSum : List D → Sto → R D
  | [d], s => (match lstOf s d with
    | some ds => (match intsOf ds with
      | some ns => .ok (.int ns.sum) s
      | none => .bad)
    | none => .bad)
  | _, _ => .bad
def bInt : List D → Sto → R D
  | [.int i], s => .ok (.int i) s
  | [.bl b], s => .ok (.int (if b then 1 else 0)) s
  | _, _ => .bad
/-- list(..): frozen or of the store -/
def bList (fr : Bool) : List D → Sto → R D
  | [d], s => (match seqOf s d with
    | some ds => if fr then .ok (.cl ds) s else .ok (.ref s.length) (s ++ [.lst ds])
    | none => .bad)
  | _, _ => .bad
/-- x in a list or a tuple -/
def anyEq (s : Sto) (x : D) : List D → Option Bool
  | [] => some false
  | d :: ds => match pyEq s d x, anyEq s x ds with
    | some b, some c => some (b || c)
    | _, _ => none
def opIn : D → D → Sto → R D := fun x o s => match seqOf s o with
  | some ds => (match anyEq s x ds with
    | some b => .ok (.bl b) s
    | none => .bad)
  | none => (match dGet s o x with
    | some v => .ok (.bl v.isSome) s
    | none => .bad)
def opNotIn : D → D → Sto → R D := fun x o s => (opIn x o s).bind fun b s1 => match b with
  | .bl b => .ok (.bl (!b)) s1
  | _ => .bad
end Rh
end

section
set_option Elab.async false
set_option linter.all false
set_option maxRecDepth 100000
set_option maxHeartbeats 1000000
/-! How data and store stand in the heap: RepV, Rel; what follows a result: Post. -/
namespace Rh
open PySem L2

section
variable (K : PySem.W.Frag) (F : Hp) (m : List Addr)
mutual
/-- the value v is the datum -/
def RepV : D → V → Prop
  | .non, v => v = .non
  | .bl b, v => v = .bl b
  | .int i, v => v = .int i
  | .str x, v => v = .str x
  | .tup ds, v => ∃ a vs, v = .ref a ∧ F a = some (.tup vs) ∧ RepVs ds vs
  | .cl ds, v => ∃ a vs, v = .ref a ∧ F a = some (.lst vs) ∧ ds.length ≤ szl ∧ RepVs ds vs
  | .fz ds, v => ∃ a vs, v = .ref a ∧ SqL K F a vs ∧ ds.length ≤ szl ∧ RepVs ds vs
  | .ref l, v => ∃ a, v = .ref a ∧ m[l]? = some a
def RepVs : List D → List V → Prop
  | [], vs => vs = []
  | d :: ds, vs => ∃ v r, vs = v :: r ∧ RepV d v ∧ RepVs ds r
end
end

section
variable {K : PySem.W.Frag} {F F' : Hp} {m m' : List Addr}
theorem seqT_mono (e : Same F F') {a : Addr} {vs : List V} (h : SqT K F a vs) : SqT K F' a vs := by
  rcases h with (h | ⟨o, h⟩) | h
  · exact .inl (.inl (e _ _ h))
  · exact .inl (.inr ⟨o, e _ _ h⟩)
  · exact .inr h
theorem pre_get {m m' : List Addr} (p : m <+: m') {l : Nat} {a : Addr} (h : m[l]? = some a) : m'[l]? = some a := by
  obtain ⟨r, rfl⟩ := p
  rw [List.getElem?_append_left (List.getElem?_eq_some_iff.mp h).1]
  exact h
mutual
theorem RepV.mono (e : Same F F') (p : m <+: m') : ∀ (d : D) (v : V), RepV K F m d v → RepV K F' m' d v
  | .non, _, h => h
  | .bl _, _, h => h
  | .int _, _, h => h
  | .str _, _, h => h
  | .tup ds, _, h => by
    obtain ⟨a, vs, h1, h2, h3⟩ := h
    exact ⟨a, vs, h1, e _ _ h2, RepVs.mono e p ds vs h3⟩
  | .cl ds, _, h => by
    obtain ⟨a, vs, h1, h2, h3, h4⟩ := h
    exact ⟨a, vs, h1, e _ _ h2, h3, RepVs.mono e p ds vs h4⟩
  | .fz ds, _, h => by
    obtain ⟨a, vs, h1, h2, h3, h4⟩ := h
    exact ⟨a, vs, h1, e.seq h2, h3, RepVs.mono e p ds vs h4⟩
  | .ref _, _, h => by
    obtain ⟨a, h1, h2⟩ := h
    exact ⟨a, h1, pre_get p h2⟩
theorem RepVs.mono (e : Same F F') (p : m <+: m') : ∀ (ds : List D) (vs : List V), RepVs K F m ds vs → RepVs K F' m' ds vs
  | [], _, h => h
  | d :: ds, _, h => by
    obtain ⟨v, r, h1, h2, h3⟩ := h
    exact ⟨v, r, h1, RepV.mono e p d v h2, RepVs.mono e p ds r h3⟩
end
theorem RepVs.len : ∀ {ds : List D} {vs : List V}, RepVs K F m ds vs → vs.length = ds.length
  | [], _, h => by
    have h : _ = [] := h
    rw [h]; rfl
  | d :: ds, _, h => by
    obtain ⟨v, r, rfl, h2, h3⟩ := h
    show r.length + 1 = ds.length + 1
    rw [RepVs.len h3]
theorem RepVs.get : ∀ {ds : List D} {vs : List V} {i : Nat} {d : D}, RepVs K F m ds vs → ds[i]? = some d → ∃ v, vs[i]? = some v ∧ RepV K F m d v
  | [], _, _, _, _, h => by simp at h
  | d :: ds, _, 0, _, h, e => by
    obtain ⟨v, r, rfl, h2, h3⟩ := h
    cases e
    exact ⟨v, rfl, h2⟩
  | d :: ds, _, i + 1, _, h, e => by
    obtain ⟨v, r, rfl, h2, h3⟩ := h
    obtain ⟨w, h4, h5⟩ := RepVs.get (i := i) h3 (by simpa using e)
    exact ⟨w, by simpa using h4, h5⟩
theorem RepVs.append : ∀ {ds es : List D} {vs ws : List V}, RepVs K F m ds vs → RepVs K F m es ws → RepVs K F m (ds ++ es) (vs ++ ws)
  | [], _, _, _, h, g => by
    have h : _ = [] := h
    rw [h]; exact g
  | d :: ds, _, _, _, h, g => by
    obtain ⟨v, r, rfl, h2, h3⟩ := h
    exact ⟨v, _, rfl, h2, RepVs.append h3 g⟩
theorem RepVs.one {d : D} {v : V} (h : RepV K F m d v) : RepVs K F m [d] [v] := ⟨v, [], rfl, h, rfl⟩
theorem RepVs.take : ∀ {ds : List D} {vs : List V} (n : Nat), RepVs K F m ds vs → RepVs K F m (ds.take n) (vs.take n)
  | _, _, 0, _ => rfl
  | [], _, n + 1, h => by
    have h : _ = [] := h
    rw [h]; rfl
  | d :: ds, _, n + 1, h => by
    obtain ⟨v, r, rfl, h2, h3⟩ := h
    exact ⟨v, _, rfl, h2, RepVs.take n h3⟩
theorem RepVs.drop : ∀ {ds : List D} {vs : List V} (n : Nat), RepVs K F m ds vs → RepVs K F m (ds.drop n) (vs.drop n)
  | _, _, 0, h => h
  | [], _, n + 1, h => by
    have h : _ = [] := h
    rw [h]; rfl
  | d :: ds, _, n + 1, h => by
    obtain ⟨v, r, rfl, h2, h3⟩ := h
    exact RepVs.drop (ds := ds) n h3
theorem RepVs.set : ∀ {ds : List D} {vs : List V} (i : Nat) {d : D} {v : V}, RepVs K F m ds vs → RepV K F m d v → RepVs K F m (ds.set i d) (vs.set i v)
  | [], _, _, _, _, h, _ => by
    have h : _ = [] := h
    rw [h]; rfl
  | d :: ds, _, 0, _, w, h, g => by
    obtain ⟨v, r, rfl, h2, h3⟩ := h
    exact ⟨w, r, rfl, g, h3⟩
  | d :: ds, _, i + 1, _, _, h, g => by
    obtain ⟨v, r, rfl, h2, h3⟩ := h
    exact ⟨v, _, rfl, h2, RepVs.set i h3 g⟩
theorem RepVs.erase : ∀ {ds : List D} {vs : List V} (i : Nat), RepVs K F m ds vs → RepVs K F m (ds.eraseIdx i) (vs.eraseIdx i)
  | [], _, _, h => by
    have h : _ = [] := h
    rw [h]; rfl
  | d :: ds, _, 0, h => by
    obtain ⟨v, r, rfl, h2, h3⟩ := h
    exact h3
  | d :: ds, _, i + 1, h => by
    obtain ⟨v, r, rfl, h2, h3⟩ := h
    exact ⟨v, _, rfl, h2, RepVs.erase i h3⟩
theorem RepVs.reverse {ds : List D} {vs : List V} (h : RepVs K F m ds vs) : RepVs K F m ds.reverse vs.reverse := by
  induction ds generalizing vs with
  | nil =>
    have h : _ = [] := h
    rw [h]; rfl
  | cons d ds ih =>
    obtain ⟨v, r, rfl, h2, h3⟩ := h
    rw [List.reverse_cons, List.reverse_cons]
    exact RepVs.append (ih h3) (.one h2)
theorem RepVs.ints : ∀ {ds : List D} {vs : List V} {ns : List Int}, RepVs K F m ds vs → intsOf ds = some ns → vs = ns.map V.int
  | [], _, _, h, e => by
    have h : _ = [] := h
    cases e
    rw [h]; rfl
  | d :: ds, _, ns, h, e => by
    obtain ⟨v, r, rfl, h2, h3⟩ := h
    cases d with
    | int i =>
      cases q : intsOf ds with
      | none => rw [intsOf, q] at e; cases e
      | some ms =>
        rw [intsOf, q] at e
        cases e
        have h2 : v = .int i := h2
        rw [h2, RepVs.ints h3 q]; rfl
    | _ => cases e

/-! ### environments -/
def EnR (K : PySem.W.Frag) (F : Hp) (m : List Addr) (ρ : En) (σ : L2.St) : Prop :=
  ρ.length = σ.length ∧ ∀ (i : Nat) (d : D), ρ[i]? = some (some d) → ∃ v, σ[i]? = some (some v) ∧ RepV K F m d v
variable {ρ : En} {σ : L2.St}
theorem EnR.mono (h : EnR K F m ρ σ) (e : Same F F') (p : m <+: m') : EnR K F' m' ρ σ := ⟨h.1, fun i d q => by
  obtain ⟨v, h1, h2⟩ := h.2 i d q
  exact ⟨v, h1, RepV.mono e p d v h2⟩⟩
theorem EnR.set (h : EnR K F m ρ σ) {i : Nat} {d : D} {v : V} (r : RepV K F m d v) : EnR K F m (ρ.set i (some d)) (σ.set i (some v)) := by
  refine ⟨by rw [List.length_set, List.length_set]; exact h.1, fun j e q => ?_⟩
  by_cases hij : i = j
  · subst hij
    by_cases hl : i < ρ.length
    · rw [List.getElem?_set_self hl] at q
      cases q
      exact ⟨v, List.getElem?_set_self (by rw [← h.1]; exact hl), r⟩
    · rw [List.getElem?_eq_none (by rw [List.length_set]; omega)] at q
      cases q
  · rw [List.getElem?_set_ne hij] at q ⊢
    exact h.2 j e q
theorem EnR.unset (h : EnR K F m ρ σ) {i : Nat} : EnR K F m (ρ.set i none) (σ.set i none) := by
  refine ⟨by rw [List.length_set, List.length_set]; exact h.1, fun j e q => ?_⟩
  by_cases hij : i = j
  · subst hij
    by_cases hl : i < ρ.length
    · rw [List.getElem?_set_self hl] at q
      cases q
    · rw [List.getElem?_eq_none (by rw [List.length_set]; omega)] at q
      cases q
  · rw [List.getElem?_set_ne hij] at q ⊢
    exact h.2 j e q
theorem EnR.wipe (h : EnR K F m ρ σ) : ∀ vs : List Nat, EnR K F m (Rh.wipe ρ vs) (L2.wipe σ vs)
  | [] => h
  | _ :: vs => (EnR.wipe h vs).unset

theorem nodup_at {α : Type} {l : List α} (h : l.Nodup) {i j : Nat} {x : α} (a : l[i]? = some x) (b : l[j]? = some x) : i = j := by
  obtain ⟨h1, e1⟩ := List.getElem?_eq_some_iff.mp a
  obtain ⟨h2, e2⟩ := List.getElem?_eq_some_iff.mp b
  have p := List.pairwise_iff_getElem.mp h
  rcases Nat.lt_trichotomy i j with q | q | q
  · exact absurd (e1.trans e2.symm) (p i j h1 h2 q)
  · exact q
  · exact absurd (e2.trans e1.symm) (p j i h2 h1 q)
/-! ### objects, stores -/
/-- the background: where own classes stand, the tables of code objects -/
structure Bg where
  cls : Str → Option Addr
  tabs : List (Addr × Str)
def ObRep (K : PySem.W.Frag) (cA : Bg) (F : Hp) (m : List Addr) (ho : Option HO) : Ob → Prop
  | .lst ds => ∃ vs, ho = some (.lst vs) ∧ ds.length ≤ szl ∧ RepVs K F m ds vs
  | .dk kvs => ∃ ws : List (Key × V), ho = some (.dK ws) ∧ ws.map (·.1) = kvs.map (·.1) ∧ RepVs K F m (kvs.map (·.2)) (ws.map (·.2))
  | .dt kvs => ∃ ws : List (List Key × V), ho = some (.dT ws) ∧ ws.map (·.1) = kvs.map (·.1) ∧ RepVs K F m (kvs.map (·.2)) (ws.map (·.2))
  | .lk kvs => ∃ (od : Obj) (ws : List (Key × V)), ho = some (.frz od (.dK ws)) ∧ ws.map (·.1) = kvs.map (·.1) ∧ RepVs K F m (kvs.map (·.2)) (ws.map (·.2))
  | .lt kvs => ∃ (od : Obj) (ws : List (List Key × V)), ho = some (.frz od (.dT ws)) ∧ ws.map (·.1) = kvs.map (·.1) ∧ RepVs K F m (kvs.map (·.2)) (ws.map (·.2))
  | .ins c fs => ∃ (C dx : Addr) (ws : List (Str × V)), cA.cls c = some C ∧ ho = some (.ins C dx ws) ∧ ws.map (·.1) = fs.map (·.1) ∧ RepVs K F m (fs.map (·.2)) (ws.map (·.2))
variable {cA : Bg} {ho : Option HO}
theorem ObRep.mono (e : Same F F') (p : m <+: m') : ∀ {o : Ob}, ObRep K cA F m ho o → ObRep K cA F' m' ho o
  | .lst ds, ⟨vs, h1, h2, h3⟩ => ⟨vs, h1, h2, RepVs.mono e p _ _ h3⟩
  | .dk kvs, ⟨ws, h1, h2, h3⟩ => ⟨ws, h1, h2, RepVs.mono e p _ _ h3⟩
  | .dt kvs, ⟨ws, h1, h2, h3⟩ => ⟨ws, h1, h2, RepVs.mono e p _ _ h3⟩
  | .lk kvs, ⟨od, ws, h1, h2, h3⟩ => ⟨od, ws, h1, h2, RepVs.mono e p _ _ h3⟩
  | .lt kvs, ⟨od, ws, h1, h2, h3⟩ => ⟨od, ws, h1, h2, RepVs.mono e p _ _ h3⟩
  | .ins c fs, ⟨C, dx, ws, h0, h1, h2, h3⟩ => ⟨C, dx, ws, h0, h1, h2, RepVs.mono e p _ _ h3⟩
theorem ObRep.some : ∀ {o : Ob}, ObRep K cA F m ho o → ho ≠ none
  | .lst ds, ⟨vs, h1, h2, h3⟩ => by rw [h1]; simp
  | .dk kvs, ⟨ws, h1, h2, h3⟩ => by rw [h1]; simp
  | .dt kvs, ⟨ws, h1, h2, h3⟩ => by rw [h1]; simp
  | .lk kvs, ⟨od, ws, h1, h2, h3⟩ => by rw [h1]; simp
  | .lt kvs, ⟨od, ws, h1, h2, h3⟩ => by rw [h1]; simp
  | .ins c fs, ⟨C, dx, ws, h0, h1, h2, h3⟩ => by rw [h1]; simp

theorem ObRep.kind : ∀ {o : Ob}, ObRep K cA F m ho o → (∀ ps, ho ≠ Option.some (HO.tbl ps)) ∧ ∀ φ, ho ≠ Option.some (HO.ext φ)
  | .lst ds, ⟨vs, h1, h2, h3⟩ => by rw [h1]; exact ⟨fun _ h => (by cases h), fun _ h => (by cases h)⟩
  | .dk kvs, ⟨ws, h1, h2, h3⟩ => by rw [h1]; exact ⟨fun _ h => (by cases h), fun _ h => (by cases h)⟩
  | .dt kvs, ⟨ws, h1, h2, h3⟩ => by rw [h1]; exact ⟨fun _ h => (by cases h), fun _ h => (by cases h)⟩
  | .lk kvs, ⟨od, ws, h1, h2, h3⟩ => by rw [h1]; exact ⟨fun _ h => (by cases h), fun _ h => (by cases h)⟩
  | .lt kvs, ⟨od, ws, h1, h2, h3⟩ => by rw [h1]; exact ⟨fun _ h => (by cases h), fun _ h => (by cases h)⟩
  | .ins c fs, ⟨C, dx, ws, h0, h1, h2, h3⟩ => by rw [h1]; exact ⟨fun _ h => (by cases h), fun _ h => (by cases h)⟩
/-- the tables stand where something else is written -/
theorem tabs_upd {T : List (Addr × Str)} {H : Hp} {a : Addr} {u : HO} (h : LamX.Tabs T H) (k : (∀ ps, H a ≠ some (.tbl ps)) ∧ ∀ φ, H a ≠ some (.ext φ)) : LamX.Tabs T (upd H a u) := fun p hp => by
  obtain ⟨ps, h1, h2, h3⟩ := h p hp
  refine ⟨ps, by rw [upd_ne (fun e => k.1 ps (by rw [← e]; exact h1))]; exact h1, h2, fun pos cv hc => ?_⟩
  obtain ⟨c, e1, e2⟩ := h3 pos cv hc
  exact ⟨c, e1, by rw [upd_ne (fun e => k.2 _ (by rw [← e]; exact e2))]; exact e2⟩
/-- no table among these -/
def Nt (h : Hp) : Prop := ∀ a ps, h a ≠ some (.tbl ps)
structure Rel (K : PySem.W.Frag) (cA : Bg) (G F : Hp) (m : List Addr) (s : Sto) (H : Hp) : Prop where
  ex : Same F H
  len : m.length = s.length
  nd : m.Nodup
  fr : ∀ a ∈ m, F a = none
  gs : Same G H
  gf : ∀ a o, G a = some o → F a = none ∧ a ∉ m
  tb : LamX.Tabs cA.tabs H
  nt : Nt F ∧ Nt G
  ob : ∀ (l : Nat) (a : Addr) (o : Ob), m[l]? = some a → s[l]? = some o → ObRep K cA F m (H a) o
variable {s s' : Sto} {G H : Hp}
theorem Rel.at (r : Rel K cA G F m s H) {l : Nat} {o : Ob} (h : s[l]? = some o) : ∃ a, m[l]? = some a ∧ ObRep K cA F m (H a) o := by
  have hl := (List.getElem?_eq_some_iff.mp h).1
  have hm : l < m.length := by rw [r.len]; exact hl
  exact ⟨m[l], List.getElem?_eq_getElem hm, r.ob l _ o (List.getElem?_eq_getElem hm) h⟩
theorem Rel.ne (r : Rel K cA G F m s H) {p a : Addr} (hp : H p = none) (ha : a ∈ m) : a ≠ p := by
  obtain ⟨l, hl⟩ := List.mem_iff_getElem?.mp ha
  have h1 : l < s.length := by rw [← r.len]; exact (List.getElem?_eq_some_iff.mp hl).1
  have h2 := (r.ob l a _ hl (List.getElem?_eq_getElem h1)).some
  intro e
  rw [e, hp] at h2
  exact h2 rfl
theorem Same.upd {H : Hp} {p : Addr} {o : HO} (h : H p = none) : Same H (upd H p o) := fun b u e => by
  rw [upd_ne (ne_of_none e h)]
  exact e
theorem Rel.free (r : Rel K cA G F m s H) {p : Addr} (hp : H p = none) : F p = none := r.ex.free hp
/-- a new thing that is never changed -/
theorem Nt.upd {h : Hp} (n : Nt h) {p : Addr} {o : HO} (ht : ∀ ps, o ≠ .tbl ps) : Nt (upd h p o) := fun a ps e => by
  by_cases q : a = p
  · rw [q, upd_same] at e
    exact ht ps (Option.some.inj e)
  · rw [upd_ne q] at e
    exact n a ps e
theorem Rel.frozen (r : Rel K cA G F m s H) {p : Addr} (hp : H p = none) (o : HO) (ht : ∀ ps, o ≠ .tbl ps := by intro ps h; cases h) : Rel K cA G (upd F p o) m s (upd H p o) := by
  have sF : Same F (upd F p o) := Same.upd (r.free hp)
  refine ⟨fun b u e => ?_, r.len, r.nd, fun a ha => ?_, fun b u e => ?_, fun b u e => ⟨?_, (r.gf b u e).2⟩, r.tb.ext (Same.upd hp), ⟨r.nt.1.upd ht, r.nt.2⟩, fun l a ob h1 h2 => ?_⟩
  · by_cases hb : b = p
    · subst hb
      rw [upd_same] at e ⊢
      exact e
    · rw [upd_ne hb] at e ⊢
      exact r.ex b u e
  · rw [upd_ne (r.ne hp ha)]
    exact r.fr a ha
  · rw [upd_ne (ne_of_none (r.gs b u e) hp)]
    exact r.gs b u e
  · rw [upd_ne (ne_of_none (r.gs b u e) hp)]
    exact (r.gf b u e).1
  · rw [upd_ne (r.ne hp (List.mem_of_getElem? h1))]
    exact (r.ob l a ob h1 h2).mono sF (List.prefix_refl m)
/-- a thing that the relation does not tell of is laid or changed -/
theorem Rel.beside (r : Rel K cA G F m s H) {p : Addr} (hH : H p = none) (hp : F p = none) (hG : G p = none) (hm : p ∉ m) (o : HO) : Rel K cA G F m s (upd H p o) := by
  refine ⟨fun b u e => ?_, r.len, r.nd, r.fr, fun b u e => ?_, r.gf, r.tb.ext (Same.upd hH), r.nt, fun l a ob h1 h2 => ?_⟩
  · rw [upd_ne (ne_of_none e hp)]
    exact r.ex b u e
  · rw [upd_ne (ne_of_none e hG)]
    exact r.gs b u e
  · have ha : a ≠ p := fun e => hm (e ▸ List.mem_of_getElem? h1)
    rw [upd_ne ha]
    exact r.ob l a ob h1 h2
theorem Rel.notMem (r : Rel K cA G F m s H) {p : Addr} (hp : H p = none) : p ∉ m := fun h => r.ne hp h rfl
/-- a new object of the store -/
theorem Rel.new (r : Rel K cA G F m s H) {p : Addr} (hp : H p = none) {o : Ob} {u : HO} (ho : ObRep K cA F (m ++ [p]) (some u) o) : Rel K cA G F (m ++ [p]) (s ++ [o]) (upd H p u) := by
  have pm : m <+: m ++ [p] := List.prefix_append m [p]
  refine ⟨fun b w e => ?_, by rw [List.length_append, List.length_append, r.len]; rfl, ?_, fun a ha => ?_, fun b w e => ?_, fun b w e => ⟨(r.gf b w e).1, fun hb => ?_⟩, r.tb.ext (Same.upd hp), r.nt, fun l a ob h1 h2 => ?_⟩
  · rw [upd_ne (ne_of_none e (r.free hp))]
    exact r.ex b w e
  · rw [List.nodup_append]
    exact ⟨r.nd, List.nodup_cons.mpr ⟨by simp, List.nodup_nil⟩, fun a ha b hb => by
      rw [List.mem_singleton.mp hb]
      exact r.ne hp ha⟩
  · rcases List.mem_append.mp ha with h | h
    · exact r.fr a h
    · rw [List.mem_singleton.mp h]
      exact r.free hp
  · rw [upd_ne (ne_of_none (r.gs b w e) hp)]
    exact r.gs b w e
  · rcases List.mem_append.mp hb with h | h
    · exact (r.gf b w e).2 h
    · exact ne_of_none (r.gs b w e) hp (List.mem_singleton.mp h)
  · by_cases hl : l < m.length
    · rw [List.getElem?_append_left hl] at h1
      rw [List.getElem?_append_left (by rw [← r.len]; exact hl)] at h2
      rw [upd_ne (r.ne hp (List.mem_of_getElem? h1))]
      exact (r.ob l a ob h1 h2).mono (Same.refl F) pm
    · rw [List.getElem?_append_right (by omega)] at h1
      rw [List.getElem?_append_right (by rw [← r.len]; omega)] at h2
      have e1 : l - m.length = 0 := by
        have := (List.getElem?_eq_some_iff.mp h1).1
        simp only [List.length_singleton] at this
        omega
      rw [e1] at h1
      rw [← r.len, e1] at h2
      cases h1
      cases h2
      rw [upd_same]
      exact ho
theorem Rel.newRef (r : Rel K cA G F m s H) {p : Addr} : RepV K F (m ++ [p]) (.ref s.length) (.ref p) := ⟨p, rfl, by
  rw [← r.len, List.getElem?_append_right (Nat.le_refl _), Nat.sub_self]
  rfl⟩
/-- an object of the store changes -/
theorem Rel.put (r : Rel K cA G F m s H) {l : Nat} {a : Addr} (hl : m[l]? = some a) {o : Ob} {u : HO} (ho : ObRep K cA F m (some u) o) : Rel K cA G F m (s.set l o) (upd H a u) := by
  refine ⟨fun b w e => ?_, by rw [List.length_set]; exact r.len, r.nd, r.fr, fun b w e => ?_, r.gf, tabs_upd r.tb ?_, r.nt, fun j b ob h1 h2 => ?_⟩
  · rw [upd_ne (ne_of_none e (r.fr a (List.mem_of_getElem? hl)))]
    exact r.ex b w e
  · have hab : b ≠ a := fun q => (r.gf b w e).2 (q ▸ List.mem_of_getElem? hl)
    rw [upd_ne hab]
    exact r.gs b w e
  · have hs : l < s.length := by rw [← r.len]; exact (List.getElem?_eq_some_iff.mp hl).1
    exact ObRep.kind (r.ob l a _ hl (List.getElem?_eq_getElem hs))
  · by_cases hj : l = j
    · subst hj
      rw [hl] at h1
      cases h1
      have hs : l < s.length := by rw [← r.len]; exact (List.getElem?_eq_some_iff.mp hl).1
      rw [List.getElem?_set_self hs] at h2
      cases h2
      rw [upd_same]
      exact ho
    · rw [List.getElem?_set_ne hj] at h2
      have hab : b ≠ a := fun e => by
        subst e
        exact hj (nodup_at r.nd hl h1)
      rw [upd_ne hab]
      exact r.ob j b ob h1 h2
/-- a thing that lies beside becomes a frozen one, an object of the store -/
theorem Nt.but {h : Hp} (n : Nt h) {p : Addr} : Nt (fun b => if b = p then none else h b) := fun a ps e => by
  have e : (if a = p then none else h a) = some (.tbl ps) := e
  split at e
  · cases e
  · exact n a ps e
theorem Rel.adopt (r : Rel K cA G F m s H) {p : Addr} {o : HO} (h : H p = some o) (hF : F p = none) (hm : p ∉ m) (ht : ∀ ps, o ≠ .tbl ps := by intro ps h; cases h) : Rel K cA (fun b => if b = p then none else G b) (upd F p o) m s H := by
  refine ⟨fun b u e => ?_, r.len, r.nd, fun a ha => ?_, fun b u e => ?_, fun b u e => ?_, r.tb, ⟨r.nt.1.upd ht, r.nt.2.but⟩, fun l a ob h1 h2 => (r.ob l a ob h1 h2).mono (Same.upd hF) (List.prefix_refl m)⟩
  · by_cases hb : b = p
    · subst hb
      rw [upd_same] at e
      cases e
      exact h
    · rw [upd_ne hb] at e
      exact r.ex b u e
  · have hap : a ≠ p := fun e => by rw [e] at ha; exact hm ha
    rw [upd_ne hap]
    exact r.fr a ha
  · split at e
    · cases e
    · exact r.gs b u e
  · split at e
    · cases e
    · rename_i hb
      rw [upd_ne hb]
      exact r.gf b u e
theorem Rel.adoptOb (r : Rel K cA G F m s H) {p : Addr} {u : HO} {o : Ob} (h : H p = some u) (hF : F p = none) (hm : p ∉ m) (ho : ObRep K cA F (m ++ [p]) (some u) o) : Rel K cA (fun b => if b = p then none else G b) F (m ++ [p]) (s ++ [o]) H := by
  have pm : m <+: m ++ [p] := List.prefix_append m [p]
  refine ⟨r.ex, by rw [List.length_append, List.length_append, r.len]; rfl, ?_, fun a ha => ?_, fun b w e => ?_, fun b w e => ?_, r.tb, ⟨r.nt.1, r.nt.2.but⟩, fun l a ob h1 h2 => ?_⟩
  · rw [List.nodup_append]
    exact ⟨r.nd, List.nodup_cons.mpr ⟨by simp, List.nodup_nil⟩, fun a ha b hb => by
      rw [List.mem_singleton.mp hb]
      exact fun e => by rw [e] at ha; exact hm ha⟩
  · rcases List.mem_append.mp ha with h | h
    · exact r.fr a h
    · rw [List.mem_singleton.mp h]
      exact hF
  · split at e
    · cases e
    · exact r.gs b w e
  · split at e
    · cases e
    · rename_i hb
      refine ⟨(r.gf b w e).1, fun q => ?_⟩
      rcases List.mem_append.mp q with h | h
      · exact (r.gf b w e).2 h
      · exact hb (List.mem_singleton.mp h)
  · by_cases hl : l < m.length
    · rw [List.getElem?_append_left hl] at h1
      rw [List.getElem?_append_left (by rw [← r.len]; exact hl)] at h2
      exact (r.ob l a ob h1 h2).mono (Same.refl F) pm
    · rw [List.getElem?_append_right (by omega)] at h1
      rw [List.getElem?_append_right (by rw [← r.len]; omega)] at h2
      have e1 : l - m.length = 0 := by
        have := (List.getElem?_eq_some_iff.mp h1).1
        simp only [List.length_singleton] at this
        omega
      rw [e1] at h1
      rw [← r.len, e1] at h2
      cases h1
      cases h2
      rw [h]
      exact ho
/-- more lies beside -/
theorem Rel.ghost (r : Rel K cA G F m s H) {p : Addr} {o : HO} (h : H p = some o) (hF : F p = none) (hm : p ∉ m) (ht : ∀ ps, o ≠ .tbl ps := by intro ps h; cases h) : Rel K cA (upd G p o) F m s H := by
  refine ⟨r.ex, r.len, r.nd, r.fr, fun b u e => ?_, fun b u e => ?_, r.tb, ⟨r.nt.1, r.nt.2.upd ht⟩, r.ob⟩
  · by_cases hb : b = p
    · subst hb
      rw [upd_same] at e
      cases e
      exact h
    · rw [upd_ne hb] at e
      exact r.gs b u e
  · by_cases hb : b = p
    · subst hb
      exact ⟨hF, hm⟩
    · rw [upd_ne hb] at e
      exact r.gf b u e
theorem Rel.less (r : Rel K cA G F m s H) {G' : Hp} (h : Same G' G) : Rel K cA G' F m s H := ⟨r.ex, r.len, r.nd, r.fr, fun b u e => r.gs b u (h b u e), fun b u e => r.gf b u (h b u e), r.tb, ⟨r.nt.1, fun a ps e => r.nt.2 a ps (h _ _ e)⟩, r.ob⟩
/-- the tables grow -/
theorem Rel.grow (r : Rel K cA G F m s H) {H' : Hp} (e : LamX.ExtN H H') (hT : LamX.Tabs cA.tabs H') : Rel K cA G F m s H' := by
  refine ⟨fun b u q => e b u (r.ex b u q) fun ps z => r.nt.1 b ps (by rw [q, z]), r.len, r.nd, r.fr, fun b u q => e b u (r.gs b u q) fun ps z => r.nt.2 b ps (by rw [q, z]), r.gf, hT, r.nt, fun l a o h1 h2 => ?_⟩
  have k := r.ob l a o h1 h2
  obtain ⟨u, hu⟩ := Option.ne_none_iff_exists'.mp k.some
  have e2 : H' a = H a := by rw [hu]; exact e a u hu fun ps z => k.kind.1 ps (by rw [hu, z])
  rw [e2]
  exact k
/-- what the program's text does not see of the heap may change too: H agrees with H' at all that is told -/
theorem Rel.lst (r : Rel K cA G F m s H) {l : Nat} {ds : List D} (h : s[l]? = some (.lst ds)) : ∃ a vs, m[l]? = some a ∧ H a = some (.lst vs) ∧ ds.length ≤ szl ∧ RepVs K F m ds vs := by
  obtain ⟨a, h1, vs, h2, h3, h4⟩ := r.at h
  exact ⟨a, vs, h1, h2, h3, h4⟩

/-! ### what follows a result -/
/-- how an error stands: its class, its own dict, its field -/
def ExcRep (K : PySem.W.Frag) (cA : Bg) (F : Hp) (m : List Addr) (H : Hp) (x : Exn) (cls : Value) (d : Option Addr) : Prop :=
  ∃ C, cA.cls x.cls = some C ∧ cls = .ref C ∧ match x.arg with
    | none => True
    | some (f, e) => ∃ (dx : Addr) (v : V), d = some dx ∧ H dx = some (.xd [(f, v)]) ∧ RepV K F m e v
abbrev Rp (α β : Type) := PySem.W.Frag → Hp → List Addr → α → β → Prop
def Post {α β : Type} (K : PySem.W.Frag) (cA : Bg) (G : Hp) (W : WX) (rep : Rp α β) (σ : L2.St) (F : Hp) (m : List Addr) (Q : β → Hp → Prop) : R α → Prop
  | .ok a s => ∀ F' m' v H', Same F F' → m <+: m' → Rel K cA G F' m' s H' → rep K F' m' a v → Q v H'
  | .exc x s => ∀ F' m' H' cls d, Same F F' → m <+: m' → Rel K cA G F' m' s H' → ExcRep K cA F' m' H' x cls d → W cls d σ H'
  | .bad => False
section
variable {α β γ δ : Type} {W : WX} {G : Hp} {rep : Rp α β} {rep2 : Rp γ δ} {Q Q' : β → Hp → Prop} {Q2 : δ → Hp → Prop}
theorem Post.mono (e : Same F F') (p : m <+: m') {r : R α} (h : Post K cA G W rep σ F m Q r) : Post K cA G W rep σ F' m' Q r := by
  cases r with
  | ok a s => exact fun F1 m1 v H1 e1 p1 r1 r2 => h F1 m1 v H1 (e.trans e1) (p.trans p1) r1 r2
  | exc x s => exact fun F1 m1 H1 cls d e1 p1 r1 r2 => h F1 m1 H1 cls d (e.trans e1) (p.trans p1) r1 r2
  | bad => exact h
theorem Post.imp {r : R α} (h : Post K cA G W rep σ F m Q r) (k : ∀ v H, Q v H → Q' v H) : Post K cA G W rep σ F m Q' r := by
  cases r with
  | ok a s => exact fun F1 m1 v H1 e1 p1 r1 r2 => k _ _ (h F1 m1 v H1 e1 p1 r1 r2)
  | exc x s => exact h
  | bad => exact h
/-- where one stands behind a first part -/
def Mid (K : PySem.W.Frag) (cA : Bg) (G : Hp) (W : WX) (rep : Rp α β) (rep2 : Rp γ δ) (σ : L2.St) (F : Hp) (m : List Addr) (Q2 : δ → Hp → Prop) (r : R α) (f : α → Sto → R γ) : β → Hp → Prop := fun v H1 =>
  ∃ F1 m1 s1 a, Same F F1 ∧ m <+: m1 ∧ Rel K cA G F1 m1 s1 H1 ∧ rep K F1 m1 a v ∧ r = .ok a s1 ∧ Post K cA G W rep2 σ F1 m1 Q2 (f a s1)
theorem Post.bind {r : R α} {f : α → Sto → R γ} (h : Post K cA G W rep2 σ F m Q2 (r.bind f)) : Post K cA G W rep σ F m (Mid K cA G W rep rep2 σ F m Q2 r f) r := by
  cases r with
  | ok a s => exact fun F1 m1 v H1 e1 p1 r1 r2 => ⟨F1, m1, s, a, e1, p1, r1, r2, rfl, Post.mono e1 p1 h⟩
  | exc x s => exact h
  | bad => exact h
end
end

/-! ### readings by data -/
def rd {α β : Type} (K : PySem.W.Frag) (cA : Bg) (W : WX) (rep : Rp α β) (ev : En → Sto → R α) : L2.St → Hp → (β → Hp → Prop) → Prop := fun σ H Q =>
  ∃ G F m ρ s, Rel K cA G F m s H ∧ EnR K F m ρ σ ∧ Post K cA G W rep σ F m Q (ev ρ s)
def rpB : Rp Bool Bool := fun _ _ _ b c => c = b
abbrev rE (K : PySem.W.Frag) (cA : Bg) (W : WX) (e : Ev) : TE := rd K cA W RepV e
abbrev rT (K : PySem.W.Frag) (cA : Bg) (W : WX) (e : Et) : TT := rd K cA W rpB e
abbrev rA (K : PySem.W.Frag) (cA : Bg) (W : WX) (e : Ea) : TA := rd K cA W RepVs e
end Rh
end

section
set_option Elab.async false
set_option linter.all false
set_option maxRecDepth 100000
set_option maxHeartbeats 1000000
/-! The operators keep what they say of data (over the layer's own rules). -/
namespace Rh
open PySem L2

def okP (K : PySem.W.Frag) (cA : Bg) (G F : Hp) (m : List Addr) (Q : VK) : R D → Prop
  | .ok d s => ∀ F' m' v H', Same F F' → m <+: m' → Rel K cA G F' m' s H' → RepV K F' m' d v → Q v H'
  | _ => False
def rO2 (K : PySem.W.Frag) (cA : Bg) (g : D → D → Sto → R D) : R2 := fun x y H Q => ∃ G F m s d e, Rel K cA G F m s H ∧ RepV K F m d x ∧ RepV K F m e y ∧ okP K cA G F m Q (g d e s)
def rO1 (K : PySem.W.Frag) (cA : Bg) (g : D → Sto → R D) : V → Hp → VK → Prop := fun x H Q => ∃ G F m s d, Rel K cA G F m s H ∧ RepV K F m d x ∧ okP K cA G F m Q (g d s)
def rOn (K : PySem.W.Frag) (cA : Bg) (g : List D → Sto → R D) : List V → Hp → VK → Prop := fun xs H Q => ∃ G F m s ds, Rel K cA G F m s H ∧ RepVs K F m ds xs ∧ okP K cA G F m Q (g ds s)

section
variable {K : PySem.W.Frag} {cA : Bg} {G F : Hp} {m : List Addr} {s : Sto} {H : Hp} {d e : D} {x y : V} {Q : VK}
theorem okP.now {r : D} {v : V} (h : okP K cA G F m Q (.ok r s)) (R : Rel K cA G F m s H) (p : RepV K F m r v) : Q v H := h F m v H (Same.refl F) (List.prefix_refl m) R p
theorem okP.newTup {ds : List D} {vs : List V} {p : Addr} (h : okP K cA G F m Q (.ok (.tup ds) s)) (R : Rel K cA G F m s H) (hp : H p = none) (r : RepVs K F m ds vs) : Q (.ref p) (upd H p (.tup vs)) :=
  h _ m _ _ (Same.upd (R.free hp)) (List.prefix_refl m) (R.frozen hp _) ⟨p, vs, rfl, upd_same, RepVs.mono (Same.upd (R.free hp)) (List.prefix_refl m) _ _ r⟩
theorem okP.newCl {ds : List D} {vs : List V} {p : Addr} (h : okP K cA G F m Q (.ok (.cl ds) s)) (R : Rel K cA G F m s H) (hp : H p = none) (hz : ds.length ≤ szl) (r : RepVs K F m ds vs) : Q (.ref p) (upd H p (.lst vs)) :=
  h _ m _ _ (Same.upd (R.free hp)) (List.prefix_refl m) (R.frozen hp _) ⟨p, vs, rfl, upd_same, hz, RepVs.mono (Same.upd (R.free hp)) (List.prefix_refl m) _ _ r⟩
theorem okP.newLst {ds : List D} {vs : List V} {p : Addr} (h : okP K cA G F m Q (.ok (.ref s.length) (s ++ [.lst ds]))) (R : Rel K cA G F m s H) (hp : H p = none) (hz : ds.length ≤ szl) (r : RepVs K F m ds vs) : Q (.ref p) (upd H p (.lst vs)) :=
  h F (m ++ [p]) _ _ (Same.refl F) (List.prefix_append m [p]) (R.new hp ⟨vs, rfl, hz, RepVs.mono (Same.refl F) (List.prefix_append m [p]) _ _ r⟩) R.newRef
theorem szl_eq : (szl : Nat) = sizeLine := by rw [sizeLine_eq]; rfl

/-- a list at hand, tracked or not -/
theorem lstOf_rep (R : Rel K cA G F m s H) (r : RepV K F m d x) {ds : List D} (h : lstOf s d = some ds) : ∃ a vs, x = .ref a ∧ SqL K H a vs ∧ ds.length ≤ szl ∧ RepVs K F m ds vs := by
  cases d with
  | cl es =>
    cases h
    obtain ⟨a, vs, rfl, h1, h2, h3⟩ := r
    exact ⟨a, vs, rfl, SqL.of (R.ex _ _ h1), h2, h3⟩
  | fz es =>
    cases h
    obtain ⟨a, vs, rfl, h1, h2, h3⟩ := r
    exact ⟨a, vs, rfl, R.ex.seq h1, h2, h3⟩
  | ref l =>
    obtain ⟨a, rfl, h1⟩ := r
    have h : (match s[l]? with
      | some (.lst ds) => some ds
      | _ => none) = some ds := h
    split at h
    · rename_i ds' q
      cases h
      obtain ⟨a', vs, g1, g2, g3, g4⟩ := R.lst q
      rw [h1] at g1
      cases g1
      exact ⟨a, vs, rfl, SqL.of g2, g3, g4⟩
    · cases h
  | _ => cases h
theorem seqOf_rep (R : Rel K cA G F m s H) (r : RepV K F m d x) {ds : List D} (h : seqOf s d = some ds) : ∃ a vs, x = .ref a ∧ (SqL K H a vs ∨ SqT K H a vs) ∧ RepVs K F m ds vs ∧ (ds.length ≤ szl ∨ ∃ es, d = .tup es) := by
  unfold seqOf at h
  split at h
  · cases h
    obtain ⟨a, vs, rfl, h1, h2⟩ := r
    exact ⟨a, vs, rfl, .inr (SqT.of (R.ex _ _ h1)), h2, .inr ⟨_, rfl⟩⟩
  · obtain ⟨a, vs, rfl, h1, h2, h3⟩ := lstOf_rep R r h
    exact ⟨a, vs, rfl, .inl h1, h3, .inl h2⟩

/-! ### data that are compared -/
theorem toPys_dp {f : D → Option PyData} (hf : ∀ (d : D) (x : V) (p : PyData), RepV K F m d x → f d = some p → Dp K H x p) : ∀ (ds : List D) (vs : List V) (ps : List PyData), RepVs K F m ds vs → toPys f ds = some ps → DpAll K H vs ps
  | [], vs, ps, r, h => by
    have r : vs = [] := r
    cases h
    rw [r]
    exact .nil
  | d :: ds, vs, ps, r, h => by
    obtain ⟨v, w, rfl, r1, r2⟩ := r
    unfold toPys at h
    split at h
    · rename_i a as h1 h2
      cases h
      exact .cons (hf d v a r1 h1) (toPys_dp hf ds w as r2 h2)
    · cases h
theorem toPy_dp (R : Rel K cA G F m s H) : ∀ (n : Nat) (d : D) (x : V) (p : PyData), RepV K F m d x → toPy n s d = some p → Dp K H x p := by
  intro n
  induction n with
  | zero =>
    intro d x p r h
    cases d with
    | non => cases h; have r : x = .non := r; rw [r]; exact .non
    | bl b => cases h; have r : x = .bl b := r; rw [r]; exact .bl b
    | int i => cases h; have r : x = .int i := r; rw [r]; exact .int i
    | str z => cases h; have r : x = .str z := r; rw [r]; exact .str z
    | _ => cases h
  | succ n ih =>
    intro d x p r h
    have lists : ∀ (es : List D) (a : Addr) (vs : List V) (q : Option PyData), SqL K H a vs → RepVs K F m es vs → (toPys (toPy n s) es).map PyData.list = some p → Dp K H (.ref a) p := by
      intro es a vs _ g1 g2 g3
      cases q : toPys (toPy n s) es with
      | none => rw [q] at g3; cases g3
      | some ps =>
        rw [q] at g3
        cases g3
        exact .lst g1 (toPys_dp (fun d x p r h => ih d x p r h) es vs ps g2 q)
    cases d with
    | non => cases h; have r : x = .non := r; rw [r]; exact .non
    | bl b => cases h; have r : x = .bl b := r; rw [r]; exact .bl b
    | int i => cases h; have r : x = .int i := r; rw [r]; exact .int i
    | str z => cases h; have r : x = .str z := r; rw [r]; exact .str z
    | tup es =>
      obtain ⟨a, vs, rfl, h1, h2⟩ := r
      unfold toPy at h
      cases q : toPys (toPy n s) es with
      | none => rw [q] at h; cases h
      | some ps =>
        rw [q] at h
        cases h
        exact .tup (SqT.of (R.ex _ _ h1)) (toPys_dp (fun d x p r h => ih d x p r h) es vs ps h2 q)
    | cl es =>
      obtain ⟨a, vs, rfl, h1, _, h2⟩ := r
      exact lists es a vs none (SqL.of (R.ex _ _ h1)) h2 h
    | fz es =>
      obtain ⟨a, vs, rfl, h1, _, h2⟩ := r
      exact lists es a vs none (R.ex.seq h1) h2 h
    | ref l =>
      obtain ⟨a, rfl, h1⟩ := r
      unfold toPy at h
      split at h
      · rename_i ds q
        obtain ⟨a', vs, g1, g2, g3, g4⟩ := R.lst q
        rw [h1] at g1
        cases g1
        exact lists ds a vs none (SqL.of g2) g4 h
      · cases h
theorem toPys_plain {f : D → Option PyData} {n : Nat} (hf : ∀ (d : D) (p : PyData), f d = some p → p.plain = true ∧ p.depth ≤ n) : ∀ (ds : List D) (ps : List PyData), toPys f ds = some ps → PyData.plainAll ps = true ∧ PyData.depthAll ps ≤ n
  | [], ps, h => by
    cases h
    exact ⟨rfl, Nat.zero_le _⟩
  | d :: ds, ps, h => by
    unfold toPys at h
    split at h
    · rename_i a as h1 h2
      cases h
      obtain ⟨g1, g2⟩ := hf d a h1
      obtain ⟨g3, g4⟩ := toPys_plain hf ds as h2
      exact ⟨by simp only [PyData.plainAll, g1, g3, Bool.and_self], by simp only [PyData.depthAll]; exact Nat.max_le.mpr ⟨g2, g4⟩⟩
    · cases h
theorem toPy_plain : ∀ (n : Nat) (s : Sto) (d : D) (p : PyData), toPy n s d = some p → p.plain = true ∧ p.depth ≤ n := by
  intro n
  induction n with
  | zero =>
    intro s d p h
    cases d <;> first | (cases h; exact ⟨rfl, Nat.zero_le _⟩) | cases h
  | succ n ih =>
    intro s d p h
    have lists : ∀ (es : List D), (toPys (toPy n s) es).map PyData.list = some p → p.plain = true ∧ p.depth ≤ n + 1 := by
      intro es g3
      cases q : toPys (toPy n s) es with
      | none => rw [q] at g3; cases g3
      | some ps =>
        rw [q] at g3
        cases g3
        obtain ⟨h1, h2⟩ := toPys_plain (fun d p h => ih s d p h) es ps q
        exact ⟨by simp only [PyData.plain, h1], by simp only [PyData.depth]; omega⟩
    cases d with
    | tup es =>
      unfold toPy at h
      cases q : toPys (toPy n s) es with
      | none => rw [q] at h; cases h
      | some ps =>
        rw [q] at h
        cases h
        obtain ⟨h1, h2⟩ := toPys_plain (fun d p h => ih s d p h) es ps q
        exact ⟨by simp only [PyData.plain, h1], by simp only [PyData.depth]; omega⟩
    | cl es => exact lists es h
    | fz es => exact lists es h
    | ref l =>
      unfold toPy at h
      split at h
      · exact lists _ h
      · cases h
    | _ => cases h; exact ⟨rfl, by simp only [PyData.depth]; omega⟩
end

section
variable {X : Cx} {cA : Bg}
theorem o_eq (hu : X.A.units + 64 < cLine) : OpR X (compareOp .Eq) (rO2 X.K cA opEq) := by
  intro pins st σ H x y v u Q I rx ry ⟨G, F, m, s, d, e, R, rd, re, h⟩
  unfold opEq pyEq at h
  cases h1 : toPy 12 s d with
  | none => rw [h1] at h; exact h.elim
  | some p =>
    cases h2 : toPy 12 s e with
    | none => rw [h1, h2] at h; exact h.elim
    | some q =>
      rw [h1, h2] at h
      obtain ⟨as, r1⟩ := Dp.reads I p x v (toPy_dp R 12 d x p rd h1) rx
      obtain ⟨bs, r2⟩ := Dp.reads I q y u (toPy_dp R 12 e y q re h2) ry
      obtain ⟨g1, g2⟩ := toPy_plain 12 s d p h1
      obtain ⟨g3, g4⟩ := toPy_plain 12 s e q h2
      exact SeqAt.eq_plain r1 r2 g1 g3 (by have := Nat.min_le_left p.depth q.depth; omega) ⟨.bl _, H, I, rfl, okP.now h R rfl⟩
theorem o_ne (hu : X.A.units + 64 < cLine) : OpR X (compareOp .NotEq) (rO2 X.K cA opNe) := by
  intro pins st σ H x y v u Q I rx ry ⟨G, F, m, s, d, e, R, rd, re, h⟩
  unfold opNe pyEq at h
  cases h1 : toPy 12 s d with
  | none => rw [h1] at h; exact h.elim
  | some p =>
    cases h2 : toPy 12 s e with
    | none => rw [h1, h2] at h; exact h.elim
    | some q =>
      rw [h1, h2] at h
      obtain ⟨as, r1⟩ := Dp.reads I p x v (toPy_dp R 12 d x p rd h1) rx
      obtain ⟨bs, r2⟩ := Dp.reads I q y u (toPy_dp R 12 e y q re h2) ry
      obtain ⟨g1, g2⟩ := toPy_plain 12 s d p h1
      obtain ⟨g3, g4⟩ := toPy_plain 12 s e q h2
      exact SeqAt.ne_plain r1 r2 g1 g3 (by have := Nat.min_le_left p.depth q.depth; omega) ⟨.bl _, H, I, rfl, okP.now h R rfl⟩

/-- an operator over whole numbers -/
theorem o_int {f : Value → Value → Sem Value} {r : R2} {g : D → D → Sto → R D} (hr : OpR X f r)
    (h : ∀ (G F : Hp) (m : List Addr) (s : Sto) (d e : D) (H : Hp) (x y : V) (Q : VK), Rel X.K cA G F m s H → RepV X.K F m d x → RepV X.K F m e y → okP X.K cA G F m Q (g d e s) → r x y H Q) : OpR X f (rO2 X.K cA g) := by
  intro pins st σ H x y v u Q I rx ry ⟨G, F, m, s, d, e, R, rd, re, q⟩
  exact hr pins st σ H x y v u Q I rx ry (h G F m s d e H x y Q R rd re q)
theorem o_sub : OpR X (binaryOp .Sub) (rO2 X.K cA opSub) := o_int op_sub fun G F m s d e H x y Q R rd re q => by
  unfold opSub at q
  split at q
  · exact ⟨_, _, rd, re, okP.now q R rfl⟩
  · exact q.elim
theorem o_mul : OpR X (binaryOp .Mult) (rO2 X.K cA opMul) := o_int (op_mul.or op_mulW) fun G F m s d e H x y Q R rd re q => by
  unfold opMul at q
  split at q
  · split at q
    · rename_i hm
      rcases hm with hm | hm
      · exact .inl ⟨_, _, rd, re, hm, okP.now q R rfl⟩
      · exact .inr ⟨_, _, rd, re, hm, okP.now q R rfl⟩
    · exact q.elim
  · exact q.elim
theorem o_div : OpR X (binaryOp .FloorDiv) (rO2 X.K cA opDiv) := o_int op_fdivW fun G F m s d e H x y Q R rd re q => by
  unfold opDiv at q
  split at q
  · split at q
    · rename_i hm
      exact ⟨_, _, rd, re, hm, okP.now q R rfl⟩
    · exact q.elim
  · exact q.elim
theorem o_mod : OpR X (binaryOp .Mod) (rO2 X.K cA opMod) := o_int op_mod fun G F m s d e H x y Q R rd re q => by
  unfold opMod at q
  split at q
  · split at q
    · rename_i hm
      exact ⟨_, _, rd, re, hm, okP.now q R rfl⟩
    · exact q.elim
  · exact q.elim
theorem o_pow : OpR X (binaryOp .Pow) (rO2 X.K cA opPow) := o_int op_pow fun G F m s d e H x y Q R rd re q => by
  unfold opPow at q
  split at q
  · split at q
    · rename_i hm
      exact ⟨_, _, rd, re, hm, okP.now q R rfl⟩
    · exact q.elim
  · exact q.elim
theorem o_lt : OpR X (compareOp .Lt) (rO2 X.K cA opLt) := o_int op_lt fun G F m s d e H x y Q R rd re q => by
  unfold opLt opCmp at q
  split at q
  · exact ⟨_, _, rd, re, okP.now q R rfl⟩
  · exact q.elim
theorem o_le : OpR X (compareOp .LtE) (rO2 X.K cA opLe) := o_int op_le fun G F m s d e H x y Q R rd re q => by
  unfold opLe opCmp at q
  split at q
  · exact ⟨_, _, rd, re, okP.now q R rfl⟩
  · exact q.elim
theorem o_gt : OpR X (compareOp .Gt) (rO2 X.K cA opGt) := o_int op_gt fun G F m s d e H x y Q R rd re q => by
  unfold opGt opCmp at q
  split at q
  · exact ⟨_, _, rd, re, okP.now q R rfl⟩
  · exact q.elim
theorem o_ge : OpR X (compareOp .GtE) (rO2 X.K cA opGe) := o_int op_ge fun G F m s d e H x y Q R rd re q => by
  unfold opGe opCmp at q
  split at q
  · exact ⟨_, _, rd, re, okP.now q R rfl⟩
  · exact q.elim
theorem o_neg : UnR X (unaryOp .USub) (rO1 X.K cA opNeg) := by
  intro pins st σ H x v Q I rx ⟨G, F, m, s, d, R, rd, q⟩
  unfold opNeg at q
  split at q
  · exact un_neg pins st σ H x v Q I rx ⟨_, rd, okP.now q R rfl⟩
  · exact q.elim

/-! ### + -/
theorem lstOwn_rep {K : PySem.W.Frag} {G F : Hp} {m : List Addr} {s : Sto} {H : Hp} {d : D} {x : V} (R : Rel K cA G F m s H) (r : RepV K F m d x) {ds : List D} (h : lstOwn s d = some ds) : ∃ a vs, x = .ref a ∧ H a = some (.lst vs) ∧ ds.length ≤ szl ∧ RepVs K F m ds vs := by
  cases d with
  | cl es =>
    cases h
    obtain ⟨a, vs, rfl, h1, h2, h3⟩ := r
    exact ⟨a, vs, rfl, R.ex _ _ h1, h2, h3⟩
  | ref l =>
    obtain ⟨a, rfl, h1⟩ := r
    have h : (match s[l]? with
      | some (.lst ds) => some ds
      | _ => none) = some ds := h
    split at h
    · rename_i ds' q
      cases h
      obtain ⟨a', vs, g1, g2, g3, g4⟩ := R.lst q
      rw [h1] at g1
      cases g1
      exact ⟨a, vs, rfl, g2, g3, g4⟩
    · cases h
  | _ => cases h
theorem o_add {fr : Bool} : OpR X (binaryOp .Add) (rO2 X.K cA (opAdd fr)) := o_int (op_add.or (op_add_str.or (op_catT.or op_cat))) fun G F m s d e H x y Q R rd re q => by
  unfold opAdd at q
  split at q
  · exact .inl ⟨_, _, rd, re, okP.now q R rfl⟩
  · split at q
    · rename_i hz
      exact .inr (.inl ⟨_, _, rd, re, by rw [← szl_eq]; exact hz, okP.now q R rfl⟩)
    · exact q.elim
  · split at q
    · rename_i xs ys hz
      obtain ⟨a, vs, rfl, h1, h2⟩ := rd
      obtain ⟨b, ws, rfl, h3, h4⟩ := re
      refine .inr (.inr (.inl ⟨a, b, vs, ws, rfl, rfl, SqT.of (R.ex _ _ h1), SqT.of (R.ex _ _ h3), fun e => ?_, ?_, fun e => ?_, fun _ p hp => ?_⟩))
      · have := h2.len
        rw [e] at this
        exact hz.1 (List.length_eq_zero_iff.mp this.symm)
      · rw [h2.len, h4.len, ← szl_eq]
        exact hz.2
      · have e2 : ys = [] := by
          have := h4.len
          rw [e] at this
          exact List.length_eq_zero_iff.mp this.symm
        subst e2
        rw [List.append_nil] at q
        exact okP.now q R ⟨a, vs, rfl, h1, h2⟩
      · exact okP.newTup q R hp (h2.append h4)
    · exact q.elim
  · split at q
    · rename_i xs ys e1 e2
      split at q
      · rename_i hz
        obtain ⟨a, vs, rfl, h1, h2, h3⟩ := lstOwn_rep R rd e1
        obtain ⟨b, ws, rfl, h4, h5, h6⟩ := lstOwn_rep R re e2
        refine .inr (.inr (.inr ⟨a, b, vs, ws, rfl, rfl, h1, h4, by rw [h3.len, h6.len, ← szl_eq]; exact hz, fun p hp => ?_⟩))
        have hz' : (xs ++ ys).length ≤ szl := by rw [List.length_append]; exact hz
        split at q
        · exact okP.newCl q R hp hz' (h3.append h6)
        · exact okP.newLst q R hp hz' (h3.append h6)
      · exact q.elim
    · exact q.elim
end
end Rh
end

section
set_option Elab.async false
set_option linter.all false
set_option maxRecDepth 100000
set_option maxHeartbeats 1000000
/-! Subscripts, slices, in, calls of built-ins, dicts keep what they say of data. -/
namespace Rh
open PySem L2

section
variable {K : PySem.W.Frag} {cA : Bg} {G F : Hp} {m : List Addr} {s : Sto} {H : Hp} {d e : D} {x y : V} {Q : VK}
theorem ixAt_eq (n : Nat) (i : Int) : ixAt n i = ixN n i := rfl
theorem itemAt_rep {ds : List D} {vs : List V} {i : Int} (r : RepVs K F m ds vs) (h : itemAt ds i = some d) : ∃ v, atI vs i = some v ∧ RepV K F m d v := by
  unfold itemAt at h
  rw [ixAt_eq] at h
  unfold atI
  rw [r.len]
  cases q : ixN ds.length i with
  | none => rw [q] at h; cases h
  | some j =>
    rw [q] at h
    exact r.get h
theorem clip_sIx (n k : Nat) (o : Option Int) : clip n k o = HT.sIx n k o := by
  cases o with
  | none => rfl
  | some i =>
    show (if 0 ≤ i then min i.toNat n else (n + i).toNat) = (if i < 0 then (i + (n : Int)).toNat else min i.toNat n)
    by_cases h : 0 ≤ i
    · rw [if_pos h, if_neg (by omega)]
    · rw [if_neg h, if_pos (by omega), Int.add_comm]
theorem cutL_rep {ds : List D} {vs : List V} (lo hi : Option Int) (r : RepVs K F m ds vs) : RepVs K F m (cutL ds lo hi) (cutV vs lo hi) := by
  unfold cutL cutV
  rw [clip_sIx, clip_sIx, r.len]
  exact (r.drop _).take _
theorem cutL_length (ds : List D) (lo hi : Option Int) : (cutL ds lo hi).length ≤ ds.length := by
  unfold cutL
  rw [List.length_take, List.length_drop]
  omega

/-! ### dicts -/
theorem kyOf_rep {k : Ky} (r : RepV K F m d x) (h : kyOf d = some k) : x = kV k := by
  cases d with
  | int i => cases h; exact r
  | str z => cases h; exact r
  | _ => cases h
theorem kysOf_rep : ∀ {ds : List D} {vs : List V} {ks : List Ky}, RepVs K F m ds vs → kysOf ds = some ks → vs = ks.map kV
  | [], vs, ks, r, h => by
    have r : vs = [] := r
    cases h
    rw [r]; rfl
  | d :: ds, vs, ks, r, h => by
    obtain ⟨v, w, rfl, r1, r2⟩ := r
    unfold kysOf at h
    split at h
    · rename_i k kk h1 h2
      cases h
      rw [kyOf_rep r1 h1, kysOf_rep r2 h2]; rfl
    · cases h
theorem asc_rep {κ : Type} [DecidableEq κ] {k : κ} : ∀ {kvs : List (κ × D)} {ws : List (κ × V)}, ws.map (·.1) = kvs.map (·.1) → RepVs K F m (kvs.map (·.2)) (ws.map (·.2)) →
    (asc kvs k = none ∧ valV ws k = none) ∨ ∃ d v, asc kvs k = some d ∧ valV ws k = some v ∧ RepV K F m d v
  | [], [], _, _ => .inl ⟨rfl, rfl⟩
  | [], _ :: _, h, _ => by simp at h
  | _ :: _, [], h, _ => by simp at h
  | p :: kvs, q :: ws, h, r => by
    simp only [List.map_cons, List.cons.injEq] at h
    obtain ⟨v, w, e, r1, r2⟩ := r
    simp only [List.map_cons, List.cons.injEq] at e
    obtain ⟨e1, e2⟩ := e
    by_cases hk : p.1 = k
    · refine .inr ⟨p.2, q.2, ?_, valV_pos (by rw [h.1]; exact hk), by rw [e1]; exact r1⟩
      unfold asc
      rw [if_pos hk]
    · have a1 : asc (p :: kvs) k = asc kvs k := by rw [asc, if_neg hk]
      rw [a1, valV_neg (by rw [h.1]; exact hk)]
      exact asc_rep h.2 (by rw [e2]; exact r2)
theorem any_keys {κ α β : Type} [DecidableEq κ] {k : κ} : ∀ {kvs : List (κ × α)} {ws : List (κ × β)}, ws.map (·.1) = kvs.map (·.1) → (ws.any fun kv => decide (kv.1 = k)) = (kvs.any fun kv => decide (kv.1 = k))
  | [], [], _ => rfl
  | [], _ :: _, h => by simp at h
  | _ :: _, [], h => by simp at h
  | p :: kvs, q :: ws, h => by
    simp only [List.map_cons, List.cons.injEq] at h
    rw [List.any_cons, List.any_cons, h.1, any_keys h.2]
theorem put_map {κ : Type} [DecidableEq κ] {k : κ} {v : D} {w : V} (rv : RepV K F m v w) : ∀ {kvs : List (κ × D)} {ws : List (κ × V)}, ws.map (·.1) = kvs.map (·.1) → RepVs K F m (kvs.map (·.2)) (ws.map (·.2)) →
    (ws.map (fun kv => if kv.1 = k then (kv.1, w) else kv)).map (·.1) = (kvs.map (fun kv => if kv.1 = k then (kv.1, v) else kv)).map (·.1) ∧
    RepVs K F m ((kvs.map (fun kv => if kv.1 = k then (kv.1, v) else kv)).map (·.2)) ((ws.map (fun kv => if kv.1 = k then (kv.1, w) else kv)).map (·.2))
  | [], [], _, _ => ⟨rfl, rfl⟩
  | [], _ :: _, h, _ => by simp at h
  | _ :: _, [], h, _ => by simp at h
  | p :: kvs, q :: ws, h, r => by
    simp only [List.map_cons, List.cons.injEq] at h
    obtain ⟨v1, w1, e, r1, r2⟩ := r
    simp only [List.map_cons, List.cons.injEq] at e
    obtain ⟨e1, e2⟩ := e
    obtain ⟨i1, i2⟩ := put_map (k := k) rv h.2 (by rw [e2]; exact r2)
    by_cases hk : p.1 = k
    · have hq : q.1 = k := by rw [h.1]; exact hk
      simp only [List.map_cons, if_pos hk, if_pos hq]
      exact ⟨by rw [h.1, i1], w, _, rfl, rv, i2⟩
    · have hq : ¬ q.1 = k := by rw [h.1]; exact hk
      simp only [List.map_cons, if_neg hk, if_neg hq]
      exact ⟨by rw [h.1, i1], q.2, _, rfl, by rw [e1]; exact r1, i2⟩
theorem putA_rep {κ : Type} [DecidableEq κ] {k : κ} {v : D} {w : V} {kvs : List (κ × D)} {ws : List (κ × V)} (h : ws.map (·.1) = kvs.map (·.1)) (r : RepVs K F m (kvs.map (·.2)) (ws.map (·.2))) (rv : RepV K F m v w) :
    (putK ws k w).map (·.1) = (putA kvs k v).map (·.1) ∧ RepVs K F m ((putA kvs k v).map (·.2)) ((putK ws k w).map (·.2)) := by
  unfold putK putA
  rw [any_keys h]
  by_cases c : (kvs.any fun kv => decide (kv.1 = k)) = true
  · rw [if_pos c, if_pos c]
    exact put_map rv h r
  · rw [if_neg c, if_neg c]
    simp only [List.map_append, List.map_cons, List.map_nil]
    exact ⟨by rw [h], r.append (.one rv)⟩
theorem dropA_rep {κ : Type} [DecidableEq κ] {k : κ} : ∀ {kvs : List (κ × D)} {ws : List (κ × V)}, ws.map (·.1) = kvs.map (·.1) → RepVs K F m (kvs.map (·.2)) (ws.map (·.2)) →
    (dropK ws k).map (·.1) = (dropA kvs k).map (·.1) ∧ RepVs K F m ((dropA kvs k).map (·.2)) ((dropK ws k).map (·.2))
  | [], [], _, _ => ⟨rfl, rfl⟩
  | [], _ :: _, h, _ => by simp at h
  | _ :: _, [], h, _ => by simp at h
  | p :: kvs, q :: ws, h, r => by
    simp only [List.map_cons, List.cons.injEq] at h
    obtain ⟨v1, w1, e, r1, r2⟩ := r
    simp only [List.map_cons, List.cons.injEq] at e
    obtain ⟨e1, e2⟩ := e
    obtain ⟨i1, i2⟩ := dropA_rep (k := k) h.2 (by rw [e2]; exact r2)
    unfold dropK dropA at i1 i2 ⊢
    rw [List.filter_cons, List.filter_cons, h.1]
    by_cases hk : p.1 = k
    · rw [if_neg (by simp [hk]), if_neg (by simp [hk])]
      exact ⟨i1, i2⟩
    · rw [if_pos (by simp [hk]), if_pos (by simp [hk])]
      simp only [List.map_cons]
      exact ⟨by rw [h.1, i1], q.2, _, rfl, by rw [e1]; exact r1, i2⟩
/-- what is read of a dict -/
theorem dGet_rep (R : Rel K cA G F m s H) (rd : RepV K F m d x) (re : RepV K F m e y) {o : Option D} (h : dGet s d e = some o) : ∃ a ov, x = .ref a ∧ DGet H a y ov ∧ ((o = none ∧ ov = none) ∨ ∃ v w, o = some v ∧ ov = some w ∧ RepV K F m v w) := by
  unfold dGet at h
  split at h
  · rename_i l
    obtain ⟨a, rfl, hl⟩ := rd
    have kd : ∀ (kvs : List (Ky × D)) (ws : List (Key × V)), Rd H a (.dK ws) → ws.map (·.1) = kvs.map (·.1) → RepVs K F m (kvs.map (·.2)) (ws.map (·.2)) → (kyOf e).map (asc kvs) = some o → ∃ a' ov, V.ref a = .ref a' ∧ DGet H a' y ov ∧ ((o = none ∧ ov = none) ∨ ∃ v w, o = some v ∧ ov = some w ∧ RepV K F m v w) := by
      intro kvs ws g1 g2 g3 g4
      cases q : kyOf e with
      | none => rw [q] at g4; cases g4
      | some k =>
        rw [q] at g4
        cases g4
        refine ⟨a, valV ws k, rfl, .inl ⟨ws, k, g1, kyOf_rep re q, rfl⟩, ?_⟩
        rcases asc_rep (k := k) g2 g3 with ⟨p1, p2⟩ | ⟨d1, v1, p1, p2, p3⟩
        · exact .inl ⟨p1, p2⟩
        · exact .inr ⟨d1, v1, p1, p2, p3⟩
    have td : ∀ (kvs : List (List Ky × D)) (ws : List (List Key × V)), Rd H a (.dT ws) → ws.map (·.1) = kvs.map (·.1) → RepVs K F m (kvs.map (·.2)) (ws.map (·.2)) → (ktOf e).map (asc kvs) = some o → ∃ a' ov, V.ref a = .ref a' ∧ DGet H a' y ov ∧ ((o = none ∧ ov = none) ∨ ∃ v w, o = some v ∧ ov = some w ∧ RepV K F m v w) := by
      intro kvs ws g1 g2 g3 g4
      cases q : ktOf e with
      | none => rw [q] at g4; cases g4
      | some k =>
        rw [q] at g4
        cases g4
        unfold ktOf at q
        split at q
        · obtain ⟨b, vs, rfl, hb, rb⟩ := re
          rw [kysOf_rep rb q] at hb
          refine ⟨a, valV ws k, rfl, .inr ⟨ws, k, b, g1, rfl, R.ex _ _ hb, rfl⟩, ?_⟩
          rcases asc_rep (k := k) g2 g3 with ⟨p1, p2⟩ | ⟨d1, v1, p1, p2, p3⟩
          · exact .inl ⟨p1, p2⟩
          · exact .inr ⟨d1, v1, p1, p2, p3⟩
        · cases q
    split at h
    · rename_i kvs q
      have ⟨ws, g1, g2, g3⟩ := R.ob l a _ hl q
      exact kd kvs ws (.inl g1) g2 g3 h
    · rename_i kvs q
      have ⟨od, ws, g1, g2, g3⟩ := R.ob l a _ hl q
      exact kd kvs ws (.inr ⟨od, g1⟩) g2 g3 h
    · rename_i kvs q
      have ⟨ws, g1, g2, g3⟩ := R.ob l a _ hl q
      exact td kvs ws (.inl g1) g2 g3 h
    · rename_i kvs q
      have ⟨od, ws, g1, g2, g3⟩ := R.ob l a _ hl q
      exact td kvs ws (.inr ⟨od, g1⟩) g2 g3 h
    · cases h
  · cases h
/-- what is written into a dict -/
theorem dPut_rep (R : Rel K cA G F m s H) {z : D} {u : V} (rd : RepV K F m d x) (re : RepV K F m e y) (rz : RepV K F m z u) {s' : Sto} (h : dPut s d e z = some s') : ∃ a H', x = .ref a ∧ DPut H a y u H' ∧ Rel K cA G F m s' H' := by
  unfold dPut at h
  split at h
  · rename_i l
    obtain ⟨a, rfl, hl⟩ := rd
    split at h
    · rename_i kvs q
      have ⟨ws, g1, g2, g3⟩ := R.ob l a _ hl q
      split at h
      · rename_i k hk
        split at h
        · rename_i hz
          cases h
          obtain ⟨p1, p2⟩ := putA_rep (k := k) g2 g3 rz
          have hw : ws.length = kvs.length := by have := congrArg List.length g2; simpa using this
          exact ⟨a, _, rfl, .inl ⟨ws, k, g1, kyOf_rep re hk, by rw [hw, ← szl_eq]; exact hz, rfl⟩, R.put hl ⟨_, rfl, p1, p2⟩⟩
        · cases h
      · cases h
    · rename_i kvs q
      have ⟨ws, g1, g2, g3⟩ := R.ob l a _ hl q
      split at h
      · rename_i k hk
        unfold ktOf at hk
        split at hk
        · split at h
          · rename_i hz
            cases h
            obtain ⟨b, vs, rfl, hb, rb⟩ := re
            rw [kysOf_rep rb hk] at hb
            obtain ⟨p1, p2⟩ := putA_rep (k := k) g2 g3 rz
            have hw : ws.length = kvs.length := by have := congrArg List.length g2; simpa using this
            exact ⟨a, _, rfl, .inr ⟨ws, k, b, g1, rfl, R.ex _ _ hb, by rw [hw, ← szl_eq]; exact hz, rfl⟩, R.put hl ⟨_, rfl, p1, p2⟩⟩
          · cases h
        · cases hk
      · cases h
    · cases h
  · cases h
end

section
variable {X : Cx} {cA : Bg}
/-- a subscript of a list or a tuple -/
def seqItem : D → D → Sto → R D := fun o k s => match seqOf s o with
  | some ds => (match k with
    | .int i => R.ofO (itemAt ds i) s
    | _ => .bad)
  | none => .bad
theorem o_item : IxR X (rO2 X.K cA seqItem) := by
  intro value slice pins st σ H x y v u Q I rx ry ⟨G, F, m, s, d, e, R, rd, re, q⟩ hsub
  refine (ix_list.or ix_tup) value slice pins st σ H x y v u Q I rx ry ?_ hsub
  unfold seqItem at q
  split at q
  · rename_i ds hs
    split at q
    · rename_i i
      obtain ⟨a, vs, rfl, h1, h2, _⟩ := seqOf_rep R rd hs
      cases hi : itemAt ds i with
      | none => rw [hi] at q; exact q.elim
      | some z =>
        rw [hi] at q
        obtain ⟨w, g1, g2⟩ := itemAt_rep h2 hi
        rcases h1 with h1 | h1
        · exact .inl ⟨a, vs, i, w, rfl, re, h1, g1, okP.now q R g2⟩
        · exact .inr ⟨a, vs, i, w, rfl, re, h1, g1, okP.now q R g2⟩
    · exact q.elim
  · exact q.elim
/-- o[i] = v of a list -/
def lstSet : D → D → D → Sto → R Unit := fun o k v s => match o with
  | .ref l => (match s[l]? with
    | some (.lst ds) => (match k with
      | .int i => (match ixAt ds.length i with
        | some j => .ok () (s.set l (.lst (ds.set j v)))
        | none => .bad)
      | _ => .bad)
    | _ => .bad)
  | _ => .bad
def okU (K : PySem.W.Frag) (cA : Bg) (G F : Hp) (m : List Addr) (Q : Hp → Prop) : R Unit → Prop
  | .ok _ s => ∀ F' m' H', Same F F' → m <+: m' → Rel K cA G F' m' s H' → Q H'
  | _ => False
def rO3 (K : PySem.W.Frag) (cA : Bg) (g : D → D → D → Sto → R Unit) : TSet := fun x y z H Q => ∃ G F m s d e c, Rel K cA G F m s H ∧ RepV K F m d x ∧ RepV K F m e y ∧ RepV K F m c z ∧ okU K cA G F m Q (g d e c s)
theorem o_setL : PSet X (rO3 X.K cA lstSet) := by
  have key : ∀ (x y z : V) (H : Hp) (Q : Hp → Prop), rO3 X.K cA lstSet x y z H Q → rSetL x y z H Q := by
    intro x y z H Q ⟨G, F, m, s, d, e, c, R, rd, re, rc, q⟩
    unfold lstSet at q
    split at q
    · rename_i l
      obtain ⟨a, rfl, hl⟩ := rd
      split at q
      · rename_i ds hs
        split at q
        · rename_i i
          split at q
          · rename_i j hj
            have ⟨vs, g1, g2, g3⟩ := R.ob l a _ hl hs
            rw [ixAt_eq, ← g3.len] at hj
            refine ⟨a, vs, i, j, rfl, re, g1, hj, q F m _ (Same.refl F) (List.prefix_refl m) (R.put hl ⟨_, rfl, ?_, g3.set j rc⟩)⟩
            rw [List.length_set]
            exact g2
          · exact q.elim
        · exact q.elim
      · exact q.elim
    · exact q.elim
  intro pins st σ H x y z
  exact fun v u w Q I rx ry rz h => set_list pins st σ H x y z v u w Q I rx ry rz (key x y z H Q h)

/-! ### slices -/
def slOp (fr : Bool) : D → Option Int → Option Int → Sto → R D := fun o lo hi s => match o with
  | .tup ds => .ok (.tup (cutL ds lo hi)) s
  | .str z => if z.length ≤ szl then .ok (.str (cutS z lo hi)) s else .bad
  | o => (match lstOf s o with
    | some ds => if fr then .ok (.cl (cutL ds lo hi)) s else .ok (.ref s.length) (s ++ [.lst (cutL ds lo hi)])
    | none => .bad)
def rOs (K : PySem.W.Frag) (cA : Bg) (g : D → Option Int → Option Int → Sto → R D) : V → Option Int → Option Int → Hp → VK → Prop := fun x lo hi H Q => ∃ G F m s d, Rel K cA G F m s H ∧ RepV K F m d x ∧ okP K cA G F m Q (g d lo hi s)
theorem cutL_whole {ds : List D} {lo hi : Option Int} {n : Nat} (hn : n = ds.length) (h : HT.sIx n 0 lo = 0 ∧ HT.sIx n n hi = n) : cutL ds lo hi = ds := by
  subst hn
  unfold cutL
  rw [clip_sIx, clip_sIx, h.1, h.2]
  simp
theorem o_slice {fr : Bool} : SlR X (rOs X.K cA (slOp fr)) := by
  intro pins st σ H x v vl vu lo hi sl Q I rx hs pl pu ⟨G, F, m, s, d, R, rd, q⟩
  refine (sl_list.or (sl_tupA.or sl_str)) pins st σ H x v vl vu lo hi sl Q I rx hs pl pu ?_
  unfold slOp at q
  split at q
  · rename_i ds
    obtain ⟨a, vs, rfl, h1, h2⟩ := rd
    refine .inr (.inl ⟨a, vs, rfl, SqT.of (R.ex _ _ h1), fun w => ?_, fun _ p hp => ?_⟩)
    · have e := cutL_whole (ds := ds) h2.len w
      rw [e] at q
      exact okP.now q R ⟨a, vs, rfl, h1, h2⟩
    · exact okP.newTup q R hp (cutL_rep lo hi h2)
  · split at q
    · rename_i hz
      exact .inr (.inr ⟨_, rd, by rw [← szl_eq]; exact hz, okP.now q R rfl⟩)
    · exact q.elim
  · split at q
    · rename_i ds hl
      obtain ⟨a, vs, rfl, h1, h2, h3⟩ := lstOf_rep R rd hl
      refine .inl ⟨a, vs, rfl, h1, fun p hp => ?_⟩
      have hz := Nat.le_trans (cutL_length ds lo hi) h2
      split at q
      · exact okP.newCl q R hp hz (cutL_rep lo hi h3)
      · exact okP.newLst q R hp hz (cutL_rep lo hi h3)
    · exact q.elim

/-! ### calls of built-in functions and classes -/
theorem c_of {f : Value} {r : List V → Hp → VK → Prop} {g : List D → Sto → R D} (hr : CallR X f r)
    (h : ∀ (G F : Hp) (m : List Addr) (s : Sto) (ds : List D) (H : Hp) (xs : List V) (Q : VK), Rel X.K cA G F m s H → RepVs X.K F m ds xs → okP X.K cA G F m Q (g ds s) → r xs H Q) : CallR X f (rOn X.K cA g) := by
  intro pins st σ H xs us Q I rx ⟨G, F, m, s, ds, R, rd, q⟩
  exact hr pins st σ H xs us Q I rx (h G F m s ds H xs Q R rd q)
theorem RepVs.of1 {K : PySem.W.Frag} {F : Hp} {m : List Addr} {d : D} {xs : List V} (r : RepVs K F m [d] xs) : ∃ x, xs = [x] ∧ RepV K F m d x := by
  obtain ⟨v, w, rfl, r1, r2⟩ := r
  have r2 : w = [] := r2
  rw [r2]
  exact ⟨v, rfl, r1⟩
theorem RepVs.of2 {K : PySem.W.Frag} {F : Hp} {m : List Addr} {d e : D} {xs : List V} (r : RepVs K F m [d, e] xs) : ∃ x y, xs = [x, y] ∧ RepV K F m d x ∧ RepV K F m e y := by
  obtain ⟨v, w, rfl, r1, r2⟩ := r
  obtain ⟨y, rfl, r3⟩ := RepVs.of1 r2
  exact ⟨v, y, rfl, r1, r3⟩
theorem c_len : CallR X (.builtin "len") (rOn X.K cA bLen) := c_of (call_len_seq.or call_len_str) fun G F m s ds H xs Q R rd q => by
  unfold bLen at q
  split at q
  · split at q
    · rename_i z hz
      obtain ⟨x, rfl, r⟩ := rd.of1
      have r : x = .str z := r
      exact .inr ⟨z, by rw [r], by rw [← szl_eq]; exact hz, okP.now q R rfl⟩
    · exact q.elim
  · split at q
    · rename_i es hs
      obtain ⟨x, rfl, r⟩ := rd.of1
      obtain ⟨a, vs, rfl, h1, h2, _⟩ := seqOf_rep R r hs
      exact .inl ⟨a, vs, rfl, h1, by rw [h2.len]; exact okP.now q R rfl⟩
    · exact q.elim
  · exact q.elim
theorem c_abs : CallR X (.builtin "abs") (rOn X.K cA bAbs) := c_of call_abs fun G F m s ds H xs Q R rd q => by
  unfold bAbs at q
  split at q
  · obtain ⟨x, rfl, r⟩ := rd.of1
    have r : x = .int _ := r
    exact ⟨_, by rw [r], okP.now q R rfl⟩
  · exact q.elim
theorem c_max (hc : X.calm = true) : CallR X (.builtin "max") (rOn X.K cA bMax) := c_of (call_max2 hc) fun G F m s ds H xs Q R rd q => by
  unfold bMax at q
  split at q
  · obtain ⟨x, y, rfl, r1, r2⟩ := rd.of2
    have r1 : x = .int _ := r1
    have r2 : y = .int _ := r2
    exact ⟨_, _, by rw [r1, r2], okP.now q R rfl⟩
  · exact q.elim
theorem c_min (hc : X.calm = true) : CallR X (.builtin "min") (rOn X.K cA bMin) := c_of (call_min2 hc) fun G F m s ds H xs Q R rd q => by
  unfold bMin at q
  split at q
  · obtain ⟨x, y, rfl, r1, r2⟩ := rd.of2
    have r1 : x = .int _ := r1
    have r2 : y = .int _ := r2
    exact ⟨_, _, by rw [r1, r2], okP.now q R rfl⟩
  · exact q.elim
theorem c_sum (hc : X.calm = true) : CallR X (.builtin "sum") (rOn X.K cA bSum) := c_of (cr_sum hc) fun G F m s ds H xs Q R rd q => by
  unfold bSum at q
  split at q
  · split at q
    · rename_i es hs
      split at q
      · rename_i ns hn
        obtain ⟨x, rfl, r⟩ := rd.of1
        obtain ⟨a, vs, rfl, h1, _, h2⟩ := lstOf_rep R r hs
        rw [h2.ints hn] at h1
        exact ⟨a, ns, rfl, h1, okP.now q R rfl⟩
      · exact q.elim
    · exact q.elim
  · exact q.elim
theorem c_int : CallR X (.type "int") (rOn X.K cA bInt) := c_of call_int1 fun G F m s ds H xs Q R rd q => by
  unfold bInt at q
  split at q
  · obtain ⟨x, rfl, r⟩ := rd.of1
    have r : x = .int _ := r
    exact .inl ⟨_, by rw [r], okP.now q R rfl⟩
  · obtain ⟨x, rfl, r⟩ := rd.of1
    have r : x = .bl _ := r
    exact .inr ⟨_, by rw [r], okP.now q R rfl⟩
  · exact q.elim
/-- list(..) of a list, or of a tuple of that length -/
def bLst (fr : Bool) : List D → Sto → R D
  | [d], s => (match seqOf s d with
    | some ds => if ds.length ≤ szl then (if fr then .ok (.cl ds) s else .ok (.ref s.length) (s ++ [.lst ds])) else .bad
    | none => .bad)
  | _, _ => .bad
theorem c_list {fr : Bool} : CallR X (.type "list") (rOn X.K cA (bLst fr)) := c_of call_list_of fun G F m s ds H xs Q R rd q => by
  unfold bLst at q
  split at q
  · split at q
    · rename_i es hs
      split at q
      · rename_i hz
        obtain ⟨x, rfl, r⟩ := rd.of1
        obtain ⟨a, vs, rfl, h1, h2, _⟩ := seqOf_rep R r hs
        refine ⟨a, vs, rfl, h1, fun p hp => ?_⟩
        split at q
        · exact okP.newCl q R hp hz h2
        · exact okP.newLst q R hp hz h2
      · exact q.elim
    · exact q.elim
  · exact q.elim

/-! ### x in a list, a tuple -/
theorem anyEq_py {s : Sto} {x : D} {a : PyData} (hx : toPy 12 s x = some a) : ∀ {ds : List D} {b : Bool}, anyEq s x ds = some b → ∃ ps, toPys (toPy 12 s) ds = some ps ∧ b = ps.any fun p => PyData.eqv p a
  | [], b, h => by
    cases h
    exact ⟨[], rfl, rfl⟩
  | d :: ds, b, h => by
    unfold anyEq pyEq at h
    rw [hx] at h
    cases h1 : toPy 12 s d with
    | none => rw [h1] at h; cases h
    | some p =>
      rw [h1] at h
      cases h2 : anyEq s x ds with
      | none => rw [h2] at h; cases h
      | some c =>
        rw [h2] at h
        cases h
        obtain ⟨ps, h3, h4⟩ := anyEq_py hx h2
        refine ⟨p :: ps, ?_, ?_⟩
        · unfold toPys
          rw [h1, h3]
        · rw [List.any_cons, h4]
/-- x in [..], x in (..), of a thing that is data -/
def seqIn : D → D → Sto → R D := fun x o s => match seqOf s o with
  | some ds => (match toPy 12 s x, anyEq s x ds with
    | some _, some b => .ok (.bl b) s
    | _, _ => .bad)
  | none => .bad
def seqNotIn : D → D → Sto → R D := fun x o s => match seqOf s o with
  | some ds => (match toPy 12 s x, anyEq s x ds with
    | some _, some b => .ok (.bl (!b)) s
    | _, _ => .bad)
  | none => .bad
theorem in_data {K : PySem.W.Frag} {G F : Hp} {m : List Addr} {s : Sto} {H : Hp} {d : D} {x : V} {ds : List D} (R : Rel K cA G F m s H) (r : RepV K F m d x) (h : seqOf s d = some ds) {ps : List PyData} (hp : toPys (toPy 12 s) ds = some ps) :
    Dp K H x (.list ps) ∨ Dp K H x (.tuple ps) := by
  obtain ⟨a, vs, rfl, h1, h2, _⟩ := seqOf_rep R r h
  have hd := toPys_dp (fun d x p r h => toPy_dp R 12 d x p r h) ds vs ps h2 hp
  rcases h1 with h1 | h1
  · exact .inl (.lst h1 hd)
  · exact .inr (.tup h1 hd)
theorem o_in (hu : X.A.units + 64 < cLine) : OpR X (compareOp .In) (rO2 X.K cA seqIn) := by
  intro pins st σ H x y v u Q I rx ry ⟨G, F, m, s, d, e, R, rd, re, q⟩
  unfold seqIn at q
  split at q
  · rename_i ds hs
    split at q
    · rename_i a b h1 h2
      obtain ⟨ps, h3, h4⟩ := anyEq_py h1 h2
      obtain ⟨as, r1⟩ := Dp.reads I a x v (toPy_dp R 12 d x a rd h1) rx
      obtain ⟨g1, g2⟩ := toPy_plain 12 s d a h1
      obtain ⟨g3, g4⟩ := toPys_plain (fun d p h => toPy_plain 12 s d p h) ds ps h3
      have hu' : X.A.units + 1 + min (PyData.depthAll ps) a.depth < cLine := by have := Nat.min_le_left (PyData.depthAll ps) a.depth; omega
      rcases in_data R re hs h3 with hd | hd
      · obtain ⟨bs, r2⟩ := Dp.reads I _ y u hd ry
        exact SeqAt.in_list_data r2 r1 g3 g1 hu' ⟨.bl _, H, I, rfl, by rw [← h4]; exact okP.now q R rfl⟩
      · obtain ⟨bs, r2⟩ := Dp.reads I _ y u hd ry
        exact SeqAt.in_tuple_data r2 r1 g3 g1 hu' ⟨.bl _, H, I, rfl, by rw [← h4]; exact okP.now q R rfl⟩
    · exact q.elim
  · exact q.elim
theorem o_notIn (hu : X.A.units + 64 < cLine) : OpR X (compareOp .NotIn) (rO2 X.K cA seqNotIn) := by
  intro pins st σ H x y v u Q I rx ry ⟨G, F, m, s, d, e, R, rd, re, q⟩
  unfold seqNotIn at q
  split at q
  · rename_i ds hs
    split at q
    · rename_i a b h1 h2
      obtain ⟨ps, h3, h4⟩ := anyEq_py h1 h2
      obtain ⟨as, r1⟩ := Dp.reads I a x v (toPy_dp R 12 d x a rd h1) rx
      obtain ⟨g1, g2⟩ := toPy_plain 12 s d a h1
      obtain ⟨g3, g4⟩ := toPys_plain (fun d p h => toPy_plain 12 s d p h) ds ps h3
      have hu' : X.A.units + 1 + min (PyData.depthAll ps) a.depth < cLine := by have := Nat.min_le_left (PyData.depthAll ps) a.depth; omega
      rcases in_data R re hs h3 with hd | hd
      · obtain ⟨bs, r2⟩ := Dp.reads I _ y u hd ry
        exact SeqAt.notIn_list_data r2 r1 g3 g1 hu' ⟨.bl _, H, I, rfl, by rw [← h4]; exact okP.now q R rfl⟩
      · obtain ⟨bs, r2⟩ := Dp.reads I _ y u hd ry
        exact SeqAt.notIn_tuple_data r2 r1 g3 g1 hu' ⟨.bl _, H, I, rfl, by rw [← h4]; exact okP.now q R rfl⟩
    · exact q.elim
  · exact q.elim
end
end Rh
end

section
set_option Elab.async false
set_option linter.all false
set_option maxRecDepth 100000
set_option maxHeartbeats 1000000
/-! Expressions by data: each form of the text keeps its combinator. -/
namespace Rh
open PySem L2

/-- an operation that raises nothing -/
def Nx0 {α β : Type} (g : α → Sto → R β) : Prop := ∀ d s x s', g d s = .exc x s' → False
def Nx2 (g : D → D → Sto → R D) : Prop := ∀ d e s x s', g d e s = .exc x s' → False

section
variable {K : PySem.W.Frag} {cA : Bg} {W : WX} {σ : L2.St} {G F : Hp} {m : List Addr} {Q : VK}
theorem Post.okP {r : R D} (nx : ∀ x s, r = .exc x s → False) (h : Post K cA G W RepV σ F m Q r) : okP K cA G F m Q r := by
  cases r with
  | ok d s => exact h
  | exc x s => exact (nx x s rfl).elim
  | bad => exact h
/-! ### readings -/
variable {H : Hp} {ea eb ec : Ev}
theorem rd_bin {g : D → D → Sto → R D} (nx : Nx2 g) (h : rE K cA W (eBin g ea eb) σ H Q) : tOp (rO2 K cA g) (rE K cA W ea) (rE K cA W eb) σ H Q := by
  obtain ⟨G, F, m, ρ, s, R, en, h⟩ := h
  refine ⟨G, F, m, ρ, s, R, en, (Post.bind h).imp fun x H1 ⟨F1, m1, s1, d, e1, p1, R1, r1, _, h1⟩ => ?_⟩
  refine ⟨G, F1, m1, ρ, s1, R1, en.mono e1 p1, (Post.bind h1).imp fun y H2 ⟨F2, m2, s2, e, e2, p2, R2, r2, _, h2⟩ => ?_⟩
  exact ⟨G, F2, m2, s2, d, e, R2, RepV.mono e2 p2 _ _ r1, r2, h2.okP fun x s => nx d e s2 x s⟩
theorem rd_un {g : D → Sto → R D} (nx : Nx0 g) (h : rE K cA W (eUn g ea) σ H Q) : tUn (rO1 K cA g) (rE K cA W ea) σ H Q := by
  obtain ⟨G, F, m, ρ, s, R, en, h⟩ := h
  refine ⟨G, F, m, ρ, s, R, en, (Post.bind h).imp fun x H1 ⟨F1, m1, s1, d, e1, p1, R1, r1, _, h1⟩ => ?_⟩
  exact ⟨G, F1, m1, s1, d, R1, r1, h1.okP fun x s => nx d s1 x s⟩
/-- an Post about what a first part gives, the way there told -/
theorem rd_step {α β : Type} {rep : Rp α β} {Qb : β → Hp → Prop} {a : En → Sto → R α} {f : α → Sto → R D}
    (h : rE K cA W (fun ρ s => (a ρ s).bind f) σ H Q) (k : ∀ G F m s d v H1, Rel K cA G F m s H1 → rep K F m d v → Post K cA G W RepV σ F m Q (f d s) → Qb v H1) : rd K cA W rep a σ H Qb := by
  obtain ⟨G, F, m, ρ, s, R, en, h⟩ := h
  exact ⟨G, F, m, ρ, s, R, en, (Post.bind h).imp fun x H1 ⟨F1, m1, s1, d, e1, p1, R1, r1, _, h1⟩ => k G F1 m1 s1 d x H1 R1 r1 h1⟩
theorem rd_arg {g : List D → Sto → R D} {ea : Ea} (nx : Nx0 g) (h : rE K cA W (eArg g ea) σ H Q) : tCB (rOn K cA g) (rA K cA W ea) σ H Q :=
  rd_step h fun G F m s ds xs H1 R r q => ⟨G, F, m, s, ds, R, r, q.okP fun x s' => nx ds s x s'⟩
theorem rd_tup {ea : Ea} (h : rE K cA W (eTup ea) σ H Q) : tTup (rA K cA W ea) σ H Q :=
  rd_step h fun G F m s ds xs H1 R r q => by
    show xs.length ≤ sizeLine ∧ ∀ p, H1 p = none → Q (.ref p) (upd H1 p (.tup xs))
    by_cases hz : ds.length ≤ szl
    · rw [if_pos hz] at q
      exact ⟨by rw [r.len, ← szl_eq]; exact hz, fun p hp => okP.newTup q R hp r⟩
    · rw [if_neg hz] at q
      exact q.elim
theorem rd_lstC {ea : Ea} (h : rE K cA W (eLstC ea) σ H Q) : tLst (rA K cA W ea) σ H Q :=
  rd_step h fun G F m s ds xs H1 R r q => by
    show xs.length ≤ sizeLine ∧ ∀ p, H1 p = none → Q (.ref p) (upd H1 p (.lst xs))
    by_cases hz : ds.length ≤ szl
    · rw [if_pos hz] at q
      exact ⟨by rw [r.len, ← szl_eq]; exact hz, fun p hp => okP.newCl q R hp hz r⟩
    · rw [if_neg hz] at q
      exact q.elim
theorem rd_lst {ea : Ea} (h : rE K cA W (eLst ea) σ H Q) : tLst (rA K cA W ea) σ H Q :=
  rd_step h fun G F m s ds xs H1 R r q => by
    show xs.length ≤ sizeLine ∧ ∀ p, H1 p = none → Q (.ref p) (upd H1 p (.lst xs))
    by_cases hz : ds.length ≤ szl
    · rw [if_pos hz] at q
      exact ⟨by rw [r.len, ← szl_eq]; exact hz, fun p hp => okP.newLst q R hp hz r⟩
    · rw [if_neg hz] at q
      exact q.elim
theorem rd_nil {Q : List V → Hp → Prop} (h : rA K cA W aNil σ H Q) : tNil σ H Q := by
  obtain ⟨G, F, m, ρ, s, R, en, h⟩ := h
  exact h F m [] H (Same.refl F) (List.prefix_refl m) R rfl
theorem rd_cons {Q : List V → Hp → Prop} {t : Ea} (h : rA K cA W (aCons ea t) σ H Q) : tCons (rE K cA W ea) (rA K cA W t) σ H Q := by
  obtain ⟨G, F, m, ρ, s, R, en, h⟩ := h
  refine ⟨G, F, m, ρ, s, R, en, (Post.bind h).imp fun x H1 ⟨F1, m1, s1, d, e1, p1, R1, r1, _, h1⟩ => ?_⟩
  refine ⟨G, F1, m1, ρ, s1, R1, en.mono e1 p1, (Post.bind h1).imp fun xs H2 ⟨F2, m2, s2, ds, e2, p2, R2, r2, _, h2⟩ => ?_⟩
  exact h2 F2 m2 (x :: xs) H2 (Same.refl F2) (List.prefix_refl m2) R2 ⟨x, xs, rfl, RepV.mono e2 p2 _ _ r1, r2⟩
theorem rd_var {i : Nat} (h : rE K cA W (eVar i) σ H Q) : tVar i σ H Q := by
  obtain ⟨G, F, m, ρ, s, R, en, h⟩ := h
  unfold eVar at h
  split at h
  · rename_i d q
    obtain ⟨v, h1, h2⟩ := en.2 i d q
    exact ⟨v, h1, okP.now h R h2⟩
  · exact h.elim
theorem rd_C {d : D} {v : V} (r : ∀ F m, RepV K F m d v) (h : rE K cA W (eC d) σ H Q) : tC v σ H Q := by
  obtain ⟨G, F, m, ρ, s, R, en, h⟩ := h
  exact okP.now h R (r F m)
theorem rd_if {t : Et} (h : rE K cA W (eIf t ea eb) σ H Q) : tIf (rT K cA W t) (rE K cA W ea) (rE K cA W eb) σ H Q := by
  obtain ⟨G, F, m, ρ, s, R, en, h⟩ := h
  refine ⟨G, F, m, ρ, s, R, en, (Post.bind h).imp fun c H1 ⟨F1, m1, s1, b, e1, p1, R1, r1, _, h1⟩ => ?_⟩
  have r1 : c = b := r1
  subst r1
  cases c with
  | true => exact ⟨G, F1, m1, ρ, s1, R1, en.mono e1 p1, h1⟩
  | false => exact ⟨G, F1, m1, ρ, s1, R1, en.mono e1 p1, h1⟩
theorem rd_and (h : rE K cA W (eAnd ea eb) σ H Q) : tAndV (rE K cA W ea) (rE K cA W eb) σ H Q := by
  obtain ⟨G, F, m, ρ, s, R, en, h⟩ := h
  refine ⟨G, F, m, ρ, s, R, en, (Post.bind h).imp fun x H1 ⟨F1, m1, s1, d, e1, p1, R1, r1, _, h1⟩ => ?_⟩
  cases d with
  | bl b =>
    have r1 : x = .bl b := r1
    cases b with
    | true => exact ⟨true, r1, ⟨G, F1, m1, ρ, s1, R1, en.mono e1 p1, h1⟩⟩
    | false => exact ⟨false, r1, okP.now h1 R1 rfl⟩
  | _ => exact h1.elim
theorem rd_or (h : rE K cA W (eOr ea eb) σ H Q) : tOrV (rE K cA W ea) (rE K cA W eb) σ H Q := by
  obtain ⟨G, F, m, ρ, s, R, en, h⟩ := h
  refine ⟨G, F, m, ρ, s, R, en, (Post.bind h).imp fun x H1 ⟨F1, m1, s1, d, e1, p1, R1, r1, _, h1⟩ => ?_⟩
  cases d with
  | bl b =>
    have r1 : x = .bl b := r1
    cases b with
    | true => exact ⟨true, r1, okP.now h1 R1 rfl⟩
    | false => exact ⟨false, r1, ⟨G, F1, m1, ρ, s1, R1, en.mono e1 p1, h1⟩⟩
  | _ => exact h1.elim
theorem rd_chain {f g : D → D → Sto → R D} (nf : Nx2 f) (ng : Nx2 g) (h : rE K cA W (eChain f g ea eb ec) σ H Q) : tChain (rO2 K cA f) (rO2 K cA g) (rE K cA W ea) (rE K cA W eb) (rE K cA W ec) σ H Q := by
  obtain ⟨G, F, m, ρ, s, R, en, h⟩ := h
  refine ⟨G, F, m, ρ, s, R, en, (Post.bind h).imp fun x H1 ⟨F1, m1, s1, d, e1, p1, R1, r1, _, h1⟩ => ?_⟩
  refine ⟨G, F1, m1, ρ, s1, R1, en.mono e1 p1, (Post.bind h1).imp fun y H2 ⟨F2, m2, s2, e, e2, p2, R2, r2, _, h2⟩ => ?_⟩
  refine ⟨G, F2, m2, s2, d, e, R2, RepV.mono e2 p2 _ _ r1, r2, (((Post.bind (rep := RepV) h2).imp fun z H3 => ?_).okP fun x s => nf d e s2 x s)⟩
  rintro ⟨F3, m3, s3, c, e3, p3, R3, r3, _, h3⟩
  cases c with
  | bl b =>
    have r3 : z = .bl b := r3
    refine ⟨b, r3, ?_⟩
    cases b with
    | true =>
      refine iteT ⟨G, F3, m3, ρ, s3, R3, ((en.mono e1 p1).mono e2 p2).mono e3 p3, (Post.bind h3).imp fun u H4 ⟨F4, m4, s4, w, e4, p4, R4, r4, _, h4⟩ => ?_⟩
      exact ⟨G, F4, m4, s4, e, w, R4, RepV.mono (e3.trans e4) (p3.trans p4) _ _ r2, r4, h4.okP fun x s => ng e w s4 x s⟩
    | false =>
      exact iteF (okP.now h3 R3 rfl)
  | _ => exact h3.elim
/-! tests -/
theorem rt_val {Q : Bool → Hp → Prop} (h : rT K cA W (tVal ea) σ H Q) : tB (rE K cA W ea) σ H Q := by
  obtain ⟨G, F, m, ρ, s, R, en, h⟩ := h
  refine ⟨G, F, m, ρ, s, R, en, (Post.bind h).imp fun x H1 ⟨F1, m1, s1, d, e1, p1, R1, r1, _, h1⟩ => ?_⟩
  cases d with
  | bl b =>
    have r1 : x = .bl b := r1
    exact ⟨b, r1, h1 F1 m1 b H1 (Same.refl F1) (List.prefix_refl m1) R1 rfl⟩
  | _ => exact h1.elim
theorem rt_not {Q : Bool → Hp → Prop} {t : Et} (h : rT K cA W (Rh.tNot t) σ H Q) : L2.tNot (rT K cA W t) σ H Q := by
  obtain ⟨G, F, m, ρ, s, R, en, h⟩ := h
  refine ⟨G, F, m, ρ, s, R, en, (Post.bind h).imp fun c H1 ⟨F1, m1, s1, b, e1, p1, R1, r1, _, h1⟩ => ?_⟩
  have r1 : c = b := r1
  subst r1
  exact h1 F1 m1 (!c) H1 (Same.refl F1) (List.prefix_refl m1) R1 rfl
theorem rt_and {Q : Bool → Hp → Prop} {t u : Et} (h : rT K cA W (Rh.tAnd t u) σ H Q) : L2.tAnd (rT K cA W t) (rT K cA W u) σ H Q := by
  obtain ⟨G, F, m, ρ, s, R, en, h⟩ := h
  refine ⟨G, F, m, ρ, s, R, en, (Post.bind h).imp fun c H1 ⟨F1, m1, s1, b, e1, p1, R1, r1, _, h1⟩ => ?_⟩
  have r1 : c = b := r1
  subst r1
  cases c with
  | true => exact ⟨G, F1, m1, ρ, s1, R1, en.mono e1 p1, h1⟩
  | false => exact h1 F1 m1 false H1 (Same.refl F1) (List.prefix_refl m1) R1 rfl
theorem rt_or {Q : Bool → Hp → Prop} {t u : Et} (h : rT K cA W (Rh.tOr t u) σ H Q) : L2.tOr (rT K cA W t) (rT K cA W u) σ H Q := by
  obtain ⟨G, F, m, ρ, s, R, en, h⟩ := h
  refine ⟨G, F, m, ρ, s, R, en, (Post.bind h).imp fun c H1 ⟨F1, m1, s1, b, e1, p1, R1, r1, _, h1⟩ => ?_⟩
  have r1 : c = b := r1
  subst r1
  cases c with
  | true => exact h1 F1 m1 true H1 (Same.refl F1) (List.prefix_refl m1) R1 rfl
  | false => exact ⟨G, F1, m1, ρ, s1, R1, en.mono e1 p1, h1⟩
/-! slices' parts -/
abbrev Eo := En → Sto → R (Option Int)
def oNone : Eo := fun _ s => .ok none s
def oSome (a : Ev) : Eo := fun ρ s => (a ρ s).bind fun d s1 => match d with
  | .int i => .ok (some i) s1
  | _ => .bad
def eSl (g : D → Option Int → Option Int → Sto → R D) (a : Ev) (lo hi : Eo) : Ev := fun ρ s => (a ρ s).bind fun x s1 => (lo ρ s1).bind fun l s2 => (hi ρ s2).bind fun u s3 => g x l u s3
def rpO : Rp (Option Int) (Option Int) := fun _ _ _ b c => c = b
theorem ro_none {Q : Option Int → Hp → Prop} (h : rd K cA W rpO oNone σ H Q) : tNoPart σ H Q := by
  obtain ⟨G, F, m, ρ, s, R, en, h⟩ := h
  exact h F m none H (Same.refl F) (List.prefix_refl m) R rfl
theorem ro_some {Q : Option Int → Hp → Prop} (h : rd K cA W rpO (oSome ea) σ H Q) : tPart (rE K cA W ea) σ H Q := by
  obtain ⟨G, F, m, ρ, s, R, en, h⟩ := h
  refine ⟨G, F, m, ρ, s, R, en, (Post.bind h).imp fun x H1 ⟨F1, m1, s1, d, e1, p1, R1, r1, _, h1⟩ => ?_⟩
  cases d with
  | int i =>
    have r1 : x = .int i := r1
    exact ⟨i, r1, h1 F1 m1 (some i) H1 (Same.refl F1) (List.prefix_refl m1) R1 rfl⟩
  | _ => exact h1.elim
theorem rd_slice {g : D → Option Int → Option Int → Sto → R D} (nx : ∀ d l u s x s', g d l u s = .exc x s' → False) {lo hi : Eo} (h : rE K cA W (eSl g ea lo hi) σ H Q) : tSl (rOs K cA g) (rE K cA W ea) (rd K cA W rpO lo) (rd K cA W rpO hi) σ H Q := by
  obtain ⟨G, F, m, ρ, s, R, en, h⟩ := h
  refine ⟨G, F, m, ρ, s, R, en, (Post.bind h).imp fun x H1 ⟨F1, m1, s1, d, e1, p1, R1, r1, _, h1⟩ => ?_⟩
  refine ⟨G, F1, m1, ρ, s1, R1, en.mono e1 p1, (Post.bind (rep := rpO) h1).imp fun l H2 ⟨F2, m2, s2, a, e2, p2, R2, r2, _, h2⟩ => ?_⟩
  refine ⟨G, F2, m2, ρ, s2, R2, (en.mono e1 p1).mono e2 p2, (Post.bind (rep := rpO) h2).imp fun u H3 ⟨F3, m3, s3, b, e3, p3, R3, r3, _, h3⟩ => ?_⟩
  have r2 : l = a := r2
  have r3 : u = b := r3
  subst r2 r3
  exact ⟨G, F3, m3, s3, d, R3, RepV.mono (e2.trans e3) (p2.trans p3) _ _ r1, h3.okP fun x s' => nx d l u s3 x s'⟩
end

/-! ### what the text's forms ask -/
def noStar : Expr → Bool
  | .Starred _ _ => false
  | _ => true
theorem starEach_cons {e : Expr} {es : List Expr} {env : Env} (h : noStar e = true) : starEach (e :: es) env = (false, eval e env) :: starEach es env := by
  cases e <;> first | rfl | cases h
theorem starEach_plain {env : Env} {pos : Pos} : ∀ {es : List Expr}, es.all noStar = true → (backTo pos (starEach es env)).any (·.1) = false
  | [], _ => rfl
  | e :: es, h => by
    rw [List.all_cons, Bool.and_eq_true] at h
    rw [starEach_cons h.1]
    show (false || (backTo pos (starEach es env)).any (·.1)) = false
    rw [starEach_plain h.2]
    rfl
theorem starEach_few {env : Env} {pos : Pos} : ∀ {es : List Expr}, es.all noStar = true → (backTo pos (starEach es env)).all (fun x => !x.1) = true
  | [], _ => rfl
  | e :: es, h => by
    rw [List.all_cons, Bool.and_eq_true] at h
    rw [starEach_cons h.1]
    show (!false && (backTo pos (starEach es env)).all (fun x => !x.1)) = true
    rw [starEach_few h.2]
    rfl
def notSl : Expr → Bool
  | .Slice _ _ _ _ => false
  | _ => true
theorem plainIx_of {e : Expr} (h : notSl e = true) : PlainIx e := by
  intro o i
  cases e <;> first | rfl | cases h
/-- its truth is that of its value -/
def plainT : Expr → Bool
  | .UnaryOp .Not _ _ => false
  | .BoolOp _ _ _ => false
  | .IfExp _ _ _ _ => false
  | .Compare _ _ _ _ => false
  | _ => true
theorem isTrue_plain {e : Expr} {env : Env} (h : plainT e = true) : ∀ whole, isTrue e env whole = (do let v ← whole; standAt e.pos; holding [v] (PySem.truthy v)) := by
  intro whole
  cases e with
  | UnaryOp op x p => cases op <;> first | rfl | cases h
  | _ => first | rfl | cases h
/-- it is no call without arguments (super() among them) -/
def attrB : Expr → Bool
  | .Call _ [] [] _ => false
  | _ => true
theorem attr_base {o : Expr} {f : Str} {env : Env} (h : attrB o = true) : attributeBase o f env (eval o env) = eval o env := by
  cases o with
  | Call g as ks p =>
    cases as with
    | nil =>
      cases ks with
      | nil => cases h
      | cons k ks => cases g <;> rfl
    | cons a as => cases g <;> rfl
  | _ => rfl
def notComp : Expr → Bool
  | .ListComp _ _ _ _ => false
  | .SetComp _ _ _ _ => false
  | .DictComp _ _ _ _ _ => false
  | _ => true
theorem swaps_no {e : Expr} {t : Option Expr} {l : Nat} {env : Env} (h : notComp e = true) : swapsWith e t l env = pure false := by
  cases e <;> first | rfl | cases h

section
variable {X : Cx} {cA : Bg} {W : WX} {a b c e : Expr} {ea eb ec : Ev} {pos : Pos}
theorem _root_.L2.PE.of {e : Expr} {t t' : TE} (h : PE X e t) (k : ∀ σ H Q, t' σ H Q → t σ H Q) : PE X e t' := ⟨fun pins s σ H Q I q => h.run pins s σ H Q I (k σ H Q q)⟩
theorem _root_.L2.PT.of {e : Expr} {t t' : TT} (h : PT X e t) (k : ∀ σ H Q, t' σ H Q → t σ H Q) : PT X e t' := ⟨fun pins s σ H Q I q => h.run pins s σ H Q I (k σ H Q q)⟩
theorem _root_.L2.PW.of {e : Expr} {t t' : TT} (h : PW X e t) (k : ∀ σ H Q, t' σ H Q → t σ H Q) : PW X e t' := ⟨fun w pins s σ H Q I q => h.run w pins s σ H Q I (k σ H Q q)⟩
theorem _root_.L2.PA.of {es : List Expr} {t t' : TA} (h : PA X es t) (k : ∀ σ H Q, t' σ H Q → t σ H Q) : PA X es t' := ⟨fun pos pins s σ H Q I q => h.run pos pins s σ H Q I (k σ H Q q)⟩
theorem _root_.L2.PO.of {e : Option Expr} {t t' : TO} (h : PO X e t) (k : ∀ σ H Q, t' σ H Q → t σ H Q) : PO X e t' := ⟨fun pins s σ H Q I q => h.run pins s σ H Q I (k σ H Q q)⟩
abbrev SE (X : Cx) (cA : Bg) (W : WX) (e : Expr) (ev : Ev) : Prop := PE X e (rE X.K cA W ev)
abbrev ST (X : Cx) (cA : Bg) (W : WX) (e : Expr) (t : Et) : Prop := PT X e (rT X.K cA W t)
abbrev SA (X : Cx) (cA : Bg) (W : WX) (es : List Expr) (a : Ea) : Prop := PA X es (rA X.K cA W a)
theorem x_var {i : Nat} {x : Str} (hN : X.N[i]? = some x) (hv : Vis X.env.scope x) (hd : (x == ("__debug__" : Str)) = false) (hcd : (x == ("__classdict__" : Str)) = false) : SE X cA W (.Name x pos) (eVar i) := (pe_var hN hv hd hcd).of fun _ _ _ h => rd_var h
theorem x_int {i : Int} {k : Nat} : SE X cA W (.Constant (.int i) k pos) (eC (.int i)) := pe_int.of fun _ _ _ h => rd_C (d := .int i) (fun _ _ => rfl) h
theorem x_bl {i : Bool} {k : Nat} : SE X cA W (.Constant (.bool i) k pos) (eC (.bl i)) := pe_bl.of fun _ _ _ h => rd_C (d := .bl i) (fun _ _ => rfl) h
theorem x_non {k : Nat} : SE X cA W (.Constant .none k pos) (eC .non) := pe_non.of fun _ _ _ h => rd_C (d := .non) (fun _ _ => rfl) h
theorem x_str {i : Str} {k : Nat} : SE X cA W (.Constant (.str i) k pos) (eC (.str i)) := pe_str.of fun _ _ _ h => rd_C (d := .str i) (fun _ _ => rfl) h
theorem x_glob {x : Str} {d : D} {v : V} {u : Value} (hg : Gl X x) (hm : X.mg x = some u) (r : RelV v u) (rd : ∀ F m, RepV X.K F m d v) (hd : (x == ("__debug__" : Str)) = false) : SE X cA W (.Name x pos) (eC d) := (pe_glob hg hm r hd).of fun _ _ _ h => rd_C rd h
theorem x_bin {op : Operator} {g : D → D → Sto → R D} (nx : Nx2 g) (ho : OpR X (binaryOp op) (rO2 X.K cA g)) (ha : SE X cA W a ea) (hb : SE X cA W b eb) : SE X cA W (.BinOp a op b pos) (eBin g ea eb) := (pe_op ho ha hb).of fun _ _ _ h => rd_bin nx h
theorem x_cmp {op : CmpOp} {g : D → D → Sto → R D} (nx : Nx2 g) (ho : OpR X (compareOp op) (rO2 X.K cA g)) (hm : behindInMarks op b = false) (ha : SE X cA W a ea) (hb : SE X cA W b eb) : SE X cA W (.Compare a [op] [b] pos) (eBin g ea eb) := (pe_cmpR ho ha hb hm).of fun _ _ _ h => rd_bin nx h
theorem x_cmpT {op : CmpOp} {g : D → D → Sto → R D} (nx : Nx2 g) (ho : OpR X (compareOp op) (rO2 X.K cA g)) (hm : behindInMarks op b = false) (ha : SE X cA W a ea) (hb : SE X cA W b eb) : ST X cA W (.Compare a [op] [b] pos) (tVal (eBin g ea eb)) := (pt_cmpR ho ha hb hm).of fun σ H Q h => by
  have h := rt_val h
  obtain ⟨G, F, m, ρ, s, R, en, h⟩ := h
  exact rd_bin nx ⟨G, F, m, ρ, s, R, en, h⟩
theorem x_chain {op op' : CmpOp} {f g : D → D → Sto → R D} (nf : Nx2 f) (ng : Nx2 g) (ho : OpR X (compareOp op) (rO2 X.K cA f)) (ho' : OpR X (compareOp op') (rO2 X.K cA g)) (hm' : behindInMarks op' c = false)
    (ha : SE X cA W a ea) (hb : SE X cA W b eb) (hc : SE X cA W c ec) : SE X cA W (.Compare a [op, op'] [b, c] pos) (eChain f g ea eb ec) := (pe_chain ho ho' ha hb hc hm').of fun _ _ _ h => rd_chain nf ng h
theorem x_un {op : UnaryOp} {g : D → Sto → R D} (nx : Nx0 g) (ho : UnR X (unaryOp op) (rO1 X.K cA g)) (ha : SE X cA W a ea) : SE X cA W (.UnaryOp op a pos) (eUn g ea) := (pe_un ho ha).of fun _ _ _ h => rd_un nx h
theorem x_if {t : Et} (hc : ST X cA W c t) (ha : SE X cA W a ea) (hb : SE X cA W b eb) : SE X cA W (.IfExp c a b pos) (eIf t ea eb) := (pe_ifExp hc ha hb).of fun _ _ _ h => rd_if h
theorem x_nil : SA X cA W [] aNil := pa_nil.of fun _ _ _ h => rd_nil h
theorem x_cons {es : List Expr} {t : Ea} (h1 : noStar e = true) (ha : SE X cA W e ea) (ht : SA X cA W es t) : SA X cA W (e :: es) (aCons ea t) := (pa_cons ha ht (starEach_cons h1)).of fun _ _ _ h => rd_cons h
theorem x_tup {es : List Expr} {k : Nat} {t : Ea} (h : SA X cA W es t) : SE X cA W (.Tuple es k pos) (eTup t) := (pe_tup h).of fun _ _ _ h => rd_tup h
theorem x_lstC {es : List Expr} {t : Ea} (h : SA X cA W es t) : SE X cA W (.List es pos) (eLstC t) := (pe_lst h).of fun _ _ _ h => rd_lstC h
theorem x_lst {es : List Expr} {t : Ea} (h : SA X cA W es t) : SE X cA W (.List es pos) (eLst t) := (pe_lst h).of fun _ _ _ h => rd_lst h
theorem x_callB {x : Str} {id : String} {es : List Expr} {t : Ea} {g : List D → Sto → R D} {p : Pos} (nx : Nx0 g) (hc : CallR X (.builtin id) (rOn X.K cA g)) (hg : Gl X x) (hm : X.mg x = none) (hv : bootBuiltins x = some (.builtin id)) (hs : (e :: es).all noStar = true) (hn : x ≠ "__name__") (hd : (x == ("__debug__" : Str)) = false)
    (h : SA X cA W (e :: es) t) : SE X cA W (.Call (.Name x p) (e :: es) [] pos) (eArg g t) := by
  rw [List.all_cons, Bool.and_eq_true] at hs
  exact (pe_callB hc hg hm hv h hn hd (starEach_cons hs.1) (starEach_plain hs.2)).of fun _ _ _ h => rd_arg nx h
theorem x_callTy {x : Str} {id : String} {es : List Expr} {t : Ea} {g : List D → Sto → R D} {p : Pos} (nx : Nx0 g) (hc : CallR X (.type id) (rOn X.K cA g)) (hg : Gl X x) (hm : X.mg x = none) (hv : bootBuiltins x = some (.type id)) (hs : (e :: es).all noStar = true) (hn : x ≠ "__name__") (hd : (x == ("__debug__" : Str)) = false)
    (h : SA X cA W (e :: es) t) : SE X cA W (.Call (.Name x p) (e :: es) [] pos) (eArg g t) := by
  rw [List.all_cons, Bool.and_eq_true] at hs
  exact (pe_callTy hc hg hm hv h hn hd (starEach_cons hs.1) (starEach_plain hs.2)).of fun _ _ _ h => rd_arg nx h
theorem x_slice {lo hi : Option Expr} {l u : Eo} {fr : Bool} {p2 : Pos} (ha : SE X cA W a ea) (hl : PO X lo (rd X.K cA W rpO l)) (hu : PO X hi (rd X.K cA W rpO u)) (nx : ∀ d l u s x s', slOp fr d l u s = .exc x s' → False) : SE X cA W (.Subscript a (.Slice lo hi none p2) pos) (eSl (slOp fr) ea l u) :=
  (pe_slice o_slice ha hl hu).of fun _ _ _ h => rd_slice nx h
theorem x_oNone : PO X none (rd X.K cA W rpO oNone) := po_none.of fun _ _ _ h => ro_none h
theorem x_oSome (h : SE X cA W a ea) : PO X (some a) (rd X.K cA W rpO (oSome ea)) := (po_some h).of fun _ _ _ h => ro_some h
/-! and, or, not -/
theorem x_and {rest : List Expr} (ha : SE X cA W a ea) (hb : SE X cA W (.BoolOp .And (b :: rest) pos) eb) : SE X cA W (.BoolOp .And (a :: b :: rest) pos) (eAnd ea eb) := (pe_and ha hb).of fun _ _ _ h => rd_and h
theorem x_or {rest : List Expr} (ha : SE X cA W a ea) (hb : SE X cA W (.BoolOp .Or (b :: rest) pos) eb) : SE X cA W (.BoolOp .Or (a :: b :: rest) pos) (eOr ea eb) := (pe_or ha hb).of fun _ _ _ h => rd_or h
theorem x_one {op : BoolOp} (ha : SE X cA W a ea) : SE X cA W (.BoolOp op [a] pos) ea := pe_one ha
theorem x_val (hp : plainT e = true) (h : SE X cA W e ea) : ST X cA W e (tVal ea) := (pt_val h (isTrue_plain hp)).of fun _ _ _ h => rt_val h
theorem x_tnot {t : Et} (h : ST X cA W e t) : ST X cA W (.UnaryOp .Not e pos) (Rh.tNot t) := (pt_not h).of fun _ _ _ h => rt_not h
theorem x_wand1 {t : Et} (h : ST X cA W e t) : PW X (.BoolOp .And [e] pos) (rT X.K cA W t) := pw_and1 h
theorem x_wor1 {t : Et} (h : ST X cA W e t) : PW X (.BoolOp .Or [e] pos) (rT X.K cA W t) := pw_or1 h
theorem x_wand {t u : Et} {rest : List Expr} (h : ST X cA W a t) (k : PW X (.BoolOp .And (b :: rest) pos) (rT X.K cA W u)) : PW X (.BoolOp .And (a :: b :: rest) pos) (rT X.K cA W (Rh.tAnd t u)) := (pw_and h k).of fun _ _ _ h => rt_and h
theorem x_wor {t u : Et} {rest : List Expr} (h : ST X cA W a t) (k : PW X (.BoolOp .Or (b :: rest) pos) (rT X.K cA W u)) : PW X (.BoolOp .Or (a :: b :: rest) pos) (rT X.K cA W (Rh.tOr t u)) := (pw_or h k).of fun _ _ _ h => rt_or h
/-- not e as a value -/
def opNot : D → Sto → R D
  | .bl b, s => .ok (.bl (!b)) s
  | _, _ => .bad
theorem x_not (ha : SE X cA W a ea) : SE X cA W (.UnaryOp .Not a pos) (eUn opNot ea) := (pe_not ha).of fun σ H Q h => by
  obtain ⟨G, F, m, ρ, s, R, en, h⟩ := h
  refine ⟨G, F, m, ρ, s, R, en, (Post.bind h).imp fun x H1 ⟨F1, m1, s1, d, e1, p1, R1, r1, _, h1⟩ => ?_⟩
  cases d with
  | bl b =>
    have r1 : x = .bl b := r1
    exact ⟨b, r1, okP.now h1 R1 rfl⟩
  | _ => exact h1.elim
theorem non_iff {K : PySem.W.Frag} {F : Hp} {m : List Addr} {d : D} {x : V} (r : RepV K F m d x) : decide (x = .non) = isNon d := by
  cases d with
  | non => have r : x = .non := r; rw [r]; rfl
  | bl b => have r : x = .bl b := r; rw [r]; rfl
  | int b => have r : x = .int b := r; rw [r]; rfl
  | str b => have r : x = .str b := r; rw [r]; rfl
  | tup b => obtain ⟨a, vs, rfl, _⟩ := r; rfl
  | cl b => obtain ⟨a, vs, rfl, _⟩ := r; rfl
  | fz b => obtain ⟨a, vs, rfl, _⟩ := r; rfl
  | ref b => obtain ⟨a, rfl, _⟩ := r; rfl
theorem x_isN {k : Nat} {p : Pos} (ha : SE X cA W a ea) : SE X cA W (.Compare a [.Is] [.Constant .none k p] pos) (eUn opIsN ea) := (pe_cmp (pc_isN ha) rfl).of fun σ H Q h => rd_step h fun G F m s d x H1 R r q => by
  rw [non_iff r]
  exact okP.now q R rfl
theorem x_notN {k : Nat} {p : Pos} (ha : SE X cA W a ea) : SE X cA W (.Compare a [.IsNot] [.Constant .none k p] pos) (eUn opNotN ea) := (pe_cmp (pc_notN ha) rfl).of fun σ H Q h => rd_step h fun G F m s d x H1 R r q => by
  rw [non_iff r]
  exact okP.now q R rfl
/-- a comparison of any form as a test -/
theorem x_isNT {k : Nat} {p : Pos} (ha : SE X cA W a ea) : ST X cA W (.Compare a [.Is] [.Constant .none k p] pos) (tVal (eUn opIsN ea)) := (pt_cmp (pc_isN ha) rfl).of fun σ H Q h => by
  obtain ⟨G, F, m, ρ, s, R, en, h⟩ := rt_val h
  exact rd_step ⟨G, F, m, ρ, s, R, en, h⟩ fun G F m s d x H1 R r q => by
    rw [non_iff r]
    exact okP.now q R rfl
theorem x_notNT {k : Nat} {p : Pos} (ha : SE X cA W a ea) : ST X cA W (.Compare a [.IsNot] [.Constant .none k p] pos) (tVal (eUn opNotN ea)) := (pt_cmp (pc_notN ha) rfl).of fun σ H Q h => by
  obtain ⟨G, F, m, ρ, s, R, en, h⟩ := rt_val h
  exact rd_step ⟨G, F, m, ρ, s, R, en, h⟩ fun G F m s d x H1 R r q => by
    rw [non_iff r]
    exact okP.now q R rfl
theorem x_chainT {op op' : CmpOp} {f g : D → D → Sto → R D} (nf : Nx2 f) (ng : Nx2 g) (ho : OpR X (compareOp op) (rO2 X.K cA f)) (ho' : OpR X (compareOp op') (rO2 X.K cA g)) (hm' : behindInMarks op' c = false)
    (ha : SE X cA W a ea) (hb : SE X cA W b eb) (hc : SE X cA W c ec) : ST X cA W (.Compare a [op, op'] [b, c] pos) (tVal (eChain f g ea eb ec)) := (pt_chain ho ho' ha hb hc hm').of fun σ H Q h => rd_chain nf ng (rt_val h)
end
end Rh
end

section
set_option Elab.async false
set_option linter.all false
set_option maxRecDepth 100000
set_option maxHeartbeats 1000000
/-! Subscripts, in, methods of lists and dicts: forms whose rule hangs on what the thing is. -/
namespace Rh
open PySem L2

theorem nx_eq : Nx2 opEq := by
  intro d e s x s' h; unfold opEq at h; split at h <;> cases h
theorem nx_ne : Nx2 opNe := by
  intro d e s x s' h; unfold opNe at h; split at h <;> cases h
theorem nx_add {fr} : Nx2 (opAdd fr) := by
  intro d e s x s' h; unfold opAdd at h; (repeat' split at h) <;> cases h
theorem nx_addN : Nx2 opAddN := by
  intro d e s x s' h; unfold opAddN at h; (repeat' split at h) <;> cases h
theorem nx_sub : Nx2 opSub := by
  intro d e s x s' h; unfold opSub at h; (repeat' split at h) <;> cases h
theorem nx_mul : Nx2 opMul := by
  intro d e s x s' h; unfold opMul at h; (repeat' split at h) <;> cases h
theorem nx_div : Nx2 opDiv := by
  intro d e s x s' h; unfold opDiv at h; (repeat' split at h) <;> cases h
theorem nx_mod : Nx2 opMod := by
  intro d e s x s' h; unfold opMod at h; (repeat' split at h) <;> cases h
theorem nx_pow : Nx2 opPow := by
  intro d e s x s' h; unfold opPow at h; (repeat' split at h) <;> cases h
theorem nx_cmp {f} : Nx2 (opCmp f) := by
  intro d e s x s' h; unfold opCmp at h; (repeat' split at h) <;> cases h
theorem nx_neg : Nx0 opNeg := by
  intro d s x s' h; unfold opNeg at h; (repeat' split at h) <;> cases h
theorem nx_len : Nx0 bLen := by
  intro d s x s' h; unfold bLen at h; (repeat' split at h) <;> cases h
theorem nx_abs : Nx0 bAbs := by
  intro d s x s' h; unfold bAbs at h; (repeat' split at h) <;> cases h
theorem nx_max : Nx0 bMax := by
  intro d s x s' h; unfold bMax at h; (repeat' split at h) <;> cases h
theorem nx_min : Nx0 bMin := by
  intro d s x s' h; unfold bMin at h; (repeat' split at h) <;> cases h
theorem nx_sum : Nx0 bSum := by
  intro d s x s' h; unfold bSum at h; (repeat' split at h) <;> cases h
theorem nx_int : Nx0 bInt := by
  intro d s x s' h; unfold bInt at h; (repeat' split at h) <;> cases h
theorem nx_lst {fr} : Nx0 (bLst fr) := by
  intro d s x s' h; unfold bLst at h; (repeat' split at h) <;> cases h
theorem nx_slice {fr} : ∀ d l u s x s', slOp fr d l u s = .exc x s' → False := by
  intro d l u s x s' h; unfold slOp at h; (repeat' split at h) <;> cases h
theorem nx_dItem : Nx2 dItem := by
  intro d e s x s' h; unfold dItem at h; (repeat' split at h) <;> cases h
theorem nx_seqItem : Nx2 seqItem := by
  intro d e s x s' h; unfold seqItem R.ofO at h; (repeat' split at h) <;> cases h
theorem nx_seqIn : Nx2 seqIn := by
  intro d e s x s' h; unfold seqIn at h; (repeat' split at h) <;> cases h
theorem nx_seqNotIn : Nx2 seqNotIn := by
  intro d e s x s' h; unfold seqNotIn at h; (repeat' split at h) <;> cases h
/-- a subscript of anything -/
def anyItem : D → D → Sto → R D := fun o k s => match seqOf s o with
  | some _ => seqItem o k s
  | none => dItem o k s
/-- in, not in anything -/
def dIn : D → D → Sto → R D := fun k o s => match dGet s o k with
  | some v => .ok (.bl v.isSome) s
  | none => .bad
def dNotIn : D → D → Sto → R D := fun k o s => match dGet s o k with
  | some v => .ok (.bl (!v.isSome)) s
  | none => .bad
def anyIn : D → D → Sto → R D := fun x o s => match seqOf s o with
  | some _ => seqIn x o s
  | none => dIn x o s
def anyNotIn : D → D → Sto → R D := fun x o s => match seqOf s o with
  | some _ => seqNotIn x o s
  | none => dNotIn x o s
theorem nx_dIn : Nx2 dIn := by
  intro d e s x s' h; unfold dIn at h; (repeat' split at h) <;> cases h
theorem nx_dNotIn : Nx2 dNotIn := by
  intro d e s x s' h; unfold dNotIn at h; (repeat' split at h) <;> cases h

section
variable {K : PySem.W.Frag} {cA : Bg} {W : WX} {σ : L2.St} {H : Hp} {Q : VK} {ea eb : Ev}
/-- two operands, the way there told -/
theorem rd_bin_k {g : D → D → Sto → R D} {Qb : V → V → Hp → Prop} {G F : Hp} {m : List Addr} {ρ : En} {s : Sto} (R : Rel K cA G F m s H) (en : EnR K F m ρ σ) (h : Post K cA G W RepV σ F m Q (eBin g ea eb ρ s))
    (k : ∀ F2 m2 s1 s2 d e x y H2, ea ρ s = .ok d s1 → eb ρ s1 = .ok e s2 → Rel K cA G F2 m2 s2 H2 → RepV K F2 m2 d x → RepV K F2 m2 e y → Post K cA G W RepV σ F2 m2 Q (g d e s2) → Qb x y H2) :
    rE K cA W ea σ H fun x H1 => rE K cA W eb σ H1 fun y H2 => Qb x y H2 := by
  refine ⟨G, F, m, ρ, s, R, en, (Post.bind h).imp fun x H1 ⟨F1, m1, s1, d, e1, p1, R1, r1, q1, h1⟩ => ?_⟩
  refine ⟨G, F1, m1, ρ, s1, R1, en.mono e1 p1, (Post.bind h1).imp fun y H2 ⟨F2, m2, s2, e, e2, p2, R2, r2, q2, h2⟩ => ?_⟩
  exact k F2 m2 s1 s2 d e x y H2 q1 q2 R2 (RepV.mono e2 p2 _ _ r1) r2 h2
theorem dget_q {G F : Hp} {m : List Addr} {s : Sto} {d e : D} {x y : V} (R : Rel K cA G F m s H) (r1 : RepV K F m d x) (r2 : RepV K F m e y) (h : Post K cA G W RepV σ F m Q (dItem d e s)) : ∃ a v, x = .ref a ∧ DGet H a y (some v) ∧ Q v H := by
  unfold dItem at h
  split at h
  · rename_i w hg
    obtain ⟨a, ov, rfl, g1, g2⟩ := dGet_rep R r1 r2 hg
    rcases g2 with ⟨z, _⟩ | ⟨v, w', z, rfl, g3⟩
    · cases z
    · cases z
      exact ⟨a, w', rfl, g1, okP.now h R g3⟩
  · exact h.elim
end

section
variable {X : Cx} {cA : Bg} {W : WX} {a b c e : Expr} {ea eb ec : Ev} {pos : Pos}
theorem x_item (hu : X.A.units + 1 < cLine) (hs : notSl b = true) (ha : SE X cA W a ea) (hb : SE X cA W b eb) : SE X cA W (.Subscript a b pos) (eBin anyItem ea eb) := by
  refine ⟨fun pins st σ H Q I ⟨G, F, m, ρ, s, R, en, h⟩ => ?_⟩
  by_cases hk : ∃ d s1 e s2 ds, ea ρ s = .ok d s1 ∧ eb ρ s1 = .ok e s2 ∧ seqOf s2 d = some ds
  · obtain ⟨d0, t1, e0, t2, ds, k1, k2, k3⟩ := hk
    refine (pe_ix (o_item (cA := cA)) ha hb (plainIx_of hs)).run pins st σ H Q I (rd_bin_k R en h fun F2 m2 s1 s2 d e x y H2 q1 q2 R2 r1 r2 h2 => ?_)
    rw [k1] at q1
    cases q1
    rw [k2] at q2
    cases q2
    unfold anyItem at h2
    rw [k3] at h2
    exact ⟨G, F2, m2, _, _, _, R2, r1, r2, h2.okP fun x s => nx_seqItem _ _ _ x s⟩
  · refine (pe_dget hu ha hb (plainIx_of hs)).run pins st σ H Q I (rd_bin_k R en h fun F2 m2 s1 s2 d e x y H2 q1 q2 R2 r1 r2 h2 => ?_)
    unfold anyItem at h2
    split at h2
    · rename_i ds k3
      exact absurd ⟨d, s1, e, s2, ds, q1, q2, k3⟩ hk
    · exact dget_q R2 r1 r2 h2
theorem din_q {K : PySem.W.Frag} {σ : L2.St} {H : Hp} {Q : VK} {G F : Hp} {m : List Addr} {s : Sto} {d e : D} {x y : V} (R : Rel K cA G F m s H) (r1 : RepV K F m d x) (r2 : RepV K F m e y) (h : Post K cA G W RepV σ F m Q (dIn d e s)) : ∃ a o, y = .ref a ∧ DGet H a x o ∧ Q (.bl o.isSome) H := by
  unfold dIn at h
  split at h
  · rename_i v hg
    obtain ⟨a, ov, rfl, g1, g2⟩ := dGet_rep R r2 r1 hg
    rcases g2 with ⟨rfl, rfl⟩ | ⟨v, w', rfl, rfl, g3⟩
    · exact ⟨a, none, rfl, g1, okP.now h R rfl⟩
    · exact ⟨a, some w', rfl, g1, okP.now h R rfl⟩
  · exact h.elim
theorem dnin_q {K : PySem.W.Frag} {σ : L2.St} {H : Hp} {Q : VK} {G F : Hp} {m : List Addr} {s : Sto} {d e : D} {x y : V} (R : Rel K cA G F m s H) (r1 : RepV K F m d x) (r2 : RepV K F m e y) (h : Post K cA G W RepV σ F m Q (dNotIn d e s)) : ∃ a o, y = .ref a ∧ DGet H a x o ∧ Q (.bl (!o.isSome)) H := by
  unfold dNotIn at h
  split at h
  · rename_i v hg
    obtain ⟨a, ov, rfl, g1, g2⟩ := dGet_rep R r2 r1 hg
    rcases g2 with ⟨rfl, rfl⟩ | ⟨v, w', rfl, rfl, g3⟩
    · exact ⟨a, none, rfl, g1, okP.now h R rfl⟩
    · exact ⟨a, some w', rfl, g1, okP.now h R rfl⟩
  · exact h.elim
theorem x_in (hu1 : X.A.units + 1 < cLine) (hu : X.A.units + 64 < cLine) (hm : behindInMarks .In b = false) (ha : SE X cA W a ea) (hb : SE X cA W b eb) : SE X cA W (.Compare a [.In] [b] pos) (eBin anyIn ea eb) := by
  refine ⟨fun pins st σ H Q I ⟨G, F, m, ρ, s, R, en, h⟩ => ?_⟩
  by_cases hk : ∃ d s1 e s2 ds, ea ρ s = .ok d s1 ∧ eb ρ s1 = .ok e s2 ∧ seqOf s2 e = some ds
  · obtain ⟨d0, t1, e0, t2, ds, k1, k2, k3⟩ := hk
    refine (pe_cmpR (o_in (cA := cA) hu) ha hb hm).run pins st σ H Q I (rd_bin_k R en h fun F2 m2 s1 s2 d e x y H2 q1 q2 R2 r1 r2 h2 => ?_)
    rw [k1] at q1
    cases q1
    rw [k2] at q2
    cases q2
    unfold anyIn at h2
    rw [k3] at h2
    exact ⟨G, F2, m2, _, _, _, R2, r1, r2, h2.okP fun x s => nx_seqIn _ _ _ x s⟩
  · refine (pe_cmp (pc_din hu1 ha hb) hm).run pins st σ H Q I (rd_bin_k R en h fun F2 m2 s1 s2 d e x y H2 q1 q2 R2 r1 r2 h2 => ?_)
    unfold anyIn at h2
    split at h2
    · rename_i ds k3
      exact absurd ⟨d, s1, e, s2, ds, q1, q2, k3⟩ hk
    · exact din_q R2 r1 r2 h2
theorem x_notIn (hu1 : X.A.units + 1 < cLine) (hu : X.A.units + 64 < cLine) (hm : behindInMarks .NotIn b = false) (ha : SE X cA W a ea) (hb : SE X cA W b eb) : SE X cA W (.Compare a [.NotIn] [b] pos) (eBin anyNotIn ea eb) := by
  refine ⟨fun pins st σ H Q I ⟨G, F, m, ρ, s, R, en, h⟩ => ?_⟩
  by_cases hk : ∃ d s1 e s2 ds, ea ρ s = .ok d s1 ∧ eb ρ s1 = .ok e s2 ∧ seqOf s2 e = some ds
  · obtain ⟨d0, t1, e0, t2, ds, k1, k2, k3⟩ := hk
    refine (pe_cmpR (o_notIn (cA := cA) hu) ha hb hm).run pins st σ H Q I (rd_bin_k R en h fun F2 m2 s1 s2 d e x y H2 q1 q2 R2 r1 r2 h2 => ?_)
    rw [k1] at q1
    cases q1
    rw [k2] at q2
    cases q2
    unfold anyNotIn at h2
    rw [k3] at h2
    exact ⟨G, F2, m2, _, _, _, R2, r1, r2, h2.okP fun x s => nx_seqNotIn _ _ _ x s⟩
  · refine (pe_cmp (pc_dnotin hu1 ha hb) hm).run pins st σ H Q I (rd_bin_k R en h fun F2 m2 s1 s2 d e x y H2 q1 q2 R2 r1 r2 h2 => ?_)
    unfold anyNotIn at h2
    split at h2
    · rename_i ds k3
      exact absurd ⟨d, s1, e, s2, ds, q1, q2, k3⟩ hk
    · exact dnin_q R2 r1 r2 h2
/-- the same as tests -/
theorem x_inT (hu1 : X.A.units + 1 < cLine) (hu : X.A.units + 64 < cLine) (hm : behindInMarks .In b = false) (ha : SE X cA W a ea) (hb : SE X cA W b eb) : ST X cA W (.Compare a [.In] [b] pos) (tVal (eBin anyIn ea eb)) := by
  refine ⟨fun pins st σ H Q I h => ?_⟩
  obtain ⟨G, F, m, ρ, s, R, en, h⟩ := rt_val h
  by_cases hk : ∃ d s1 e s2 ds, ea ρ s = .ok d s1 ∧ eb ρ s1 = .ok e s2 ∧ seqOf s2 e = some ds
  · obtain ⟨d0, t1, e0, t2, ds, k1, k2, k3⟩ := hk
    refine (pt_cmpR (o_in (cA := cA) hu) ha hb hm).run pins st σ H Q I (rd_bin_k R en h fun F2 m2 s1 s2 d e x y H2 q1 q2 R2 r1 r2 h2 => ?_)
    rw [k1] at q1
    cases q1
    rw [k2] at q2
    cases q2
    unfold anyIn at h2
    rw [k3] at h2
    exact ⟨G, F2, m2, _, _, _, R2, r1, r2, h2.okP fun x s => nx_seqIn _ _ _ x s⟩
  · refine (pt_cmp (pc_din hu1 ha hb) hm).run pins st σ H Q I (rd_bin_k R en h fun F2 m2 s1 s2 d e x y H2 q1 q2 R2 r1 r2 h2 => ?_)
    unfold anyIn at h2
    split at h2
    · rename_i ds k3
      exact absurd ⟨d, s1, e, s2, ds, q1, q2, k3⟩ hk
    · exact din_q R2 r1 r2 h2
theorem x_notInT (hu1 : X.A.units + 1 < cLine) (hu : X.A.units + 64 < cLine) (hm : behindInMarks .NotIn b = false) (ha : SE X cA W a ea) (hb : SE X cA W b eb) : ST X cA W (.Compare a [.NotIn] [b] pos) (tVal (eBin anyNotIn ea eb)) := by
  refine ⟨fun pins st σ H Q I h => ?_⟩
  obtain ⟨G, F, m, ρ, s, R, en, h⟩ := rt_val h
  by_cases hk : ∃ d s1 e s2 ds, ea ρ s = .ok d s1 ∧ eb ρ s1 = .ok e s2 ∧ seqOf s2 e = some ds
  · obtain ⟨d0, t1, e0, t2, ds, k1, k2, k3⟩ := hk
    refine (pt_cmpR (o_notIn (cA := cA) hu) ha hb hm).run pins st σ H Q I (rd_bin_k R en h fun F2 m2 s1 s2 d e x y H2 q1 q2 R2 r1 r2 h2 => ?_)
    rw [k1] at q1
    cases q1
    rw [k2] at q2
    cases q2
    unfold anyNotIn at h2
    rw [k3] at h2
    exact ⟨G, F2, m2, _, _, _, R2, r1, r2, h2.okP fun x s => nx_seqNotIn _ _ _ x s⟩
  · refine (pt_cmp (pc_dnotin hu1 ha hb) hm).run pins st σ H Q I (rd_bin_k R en h fun F2 m2 s1 s2 d e x y H2 q1 q2 R2 r1 r2 h2 => ?_)
    unfold anyNotIn at h2
    split at h2
    · rename_i ds k3
      exact absurd ⟨d, s1, e, s2, ds, q1, q2, k3⟩ hk
    · exact dnin_q R2 r1 r2 h2
end

/-! ### methods of built-in types -/
/-- the thing's type is looked at first -/
def eMeth (ty : D → Sto → Bool) (f : D → List D → Sto → R D) (o : Ev) (t : Ea) : Ev := fun ρ s => (o ρ s).bind fun x s1 => if ty x s1 then (t ρ s1).bind fun xs s2 => f x xs s2 else .bad
def isLst (d : D) (s : Sto) : Bool := (lstOf s d).isSome
def isDct (d : D) (s : Sto) : Bool := match d with
  | .ref l => match s[l]? with
    | some (.dk _) => true
    | some (.dt _) => true
    | some (.lk _) => true
    | some (.lt _) => true
    | _ => false
  | _ => false
def NxM (f : D → List D → Sto → R D) : Prop := ∀ d ds s x s', f d ds s = .exc x s' → False
def rOm (K : PySem.W.Frag) (cA : Bg) (g : D → List D → Sto → R D) : V → List V → Hp → VK → Prop := fun x xs H Q => ∃ G F m s d ds, Rel K cA G F m s H ∧ RepV K F m d x ∧ RepVs K F m ds xs ∧ okP K cA G F m Q (g d ds s)
def mAppend : D → List D → Sto → R D
  | .ref l, [d], s => (match s[l]? with
    | some (.lst ds) => if ds.length < szl then .ok .non (s.set l (.lst (ds ++ [d]))) else .bad
    | _ => .bad)
  | _, _, _ => .bad
def mPopAt : D → List D → Sto → R D
  | .ref l, [.int i], s => (match s[l]? with
    | some (.lst ds) => if -(2 ^ 63) ≤ i ∧ i < 2 ^ 63 then (match ixAt ds.length i with
      | some k => (match ds[k]? with
        | some y => .ok y (s.set l (.lst (ds.eraseIdx k)))
        | none => .bad)
      | none => .bad) else .bad
    | _ => .bad)
  | _, _, _ => .bad
theorem nx_append : NxM mAppend := by
  intro d ds s x s' h; unfold mAppend at h; (repeat' split at h) <;> cases h
theorem nx_popAt : NxM mPopAt := by
  intro d ds s x s' h; unfold mPopAt at h; (repeat' split at h) <;> cases h
section
variable {X : Cx} {cA : Bg} {W : WX} {o e : Expr} {es : List Expr} {eo : Ev} {t : Ea} {apos cpos : Pos}
theorem rd_meth {K : PySem.W.Frag} {σ : L2.St} {H : Hp} {Q : VK} {T : String} {ty : D → Sto → Bool} {f : D → List D → Sto → R D} (nx : NxM f)
    (hty : ∀ G F m s d x H, Rel K cA G F m s H → RepV K F m d x → ty d s = true → tyV K T x H) (h : rE K cA W (eMeth ty f eo t) σ H Q) : tBM K T (rOm K cA f) (rE K cA W eo) (rA K cA W t) σ H Q := by
  obtain ⟨G, F, m, ρ, s, R, en, h⟩ := h
  refine ⟨G, F, m, ρ, s, R, en, (Post.bind h).imp fun x H1 ⟨F1, m1, s1, d, e1, p1, R1, r1, _, h1⟩ => ?_⟩
  dsimp only at h1
  by_cases c : ty d s1 = true
  · rw [if_pos c] at h1
    refine ⟨hty G F1 m1 s1 d x H1 R1 r1 c, G, F1, m1, ρ, s1, R1, en.mono e1 p1, (Post.bind h1).imp fun xs H2 ⟨F2, m2, s2, ds, e2, p2, R2, r2, _, h2⟩ => ?_⟩
    exact ⟨G, F2, m2, s2, d, ds, R2, RepV.mono e2 p2 _ _ r1, r2, h2.okP fun x s => nx d ds s2 x s⟩
  · rw [if_neg c] at h1
    exact h1.elim
theorem ty_lst {K : PySem.W.Frag} : ∀ G F m s d x H, Rel K cA G F m s H → RepV K F m d x → isLst d s = true → tyV K "list" x H := by
  intro G F m s d x H R r h
  obtain ⟨ds, q⟩ := Option.isSome_iff_exists.mp h
  obtain ⟨a, vs, rfl, h1, _⟩ := lstOf_rep R r q
  exact .inl ⟨rfl, vs, h1⟩
theorem m_append : MtR X "list.append" (rOm X.K cA mAppend) := by
  intro pins st σ H x xs v us Q I rx rxs ⟨G, F, m, s, d, ds, R, rd, rds, q⟩
  refine mt_append pins st σ H x xs v us Q I rx rxs ?_
  unfold mAppend at q
  split at q
  · rename_i l d
    obtain ⟨a, rfl, hl⟩ := rd
    obtain ⟨y, rfl, ry⟩ := rds.of1
    split at q
    · rename_i es hs
      split at q
      · rename_i hz
        have ⟨vs, g1, g2, g3⟩ := R.ob l a _ hl hs
        refine ⟨a, vs, y, rfl, rfl, g1, by rw [g3.len, ← szl_eq]; exact hz, q F m _ _ (Same.refl F) (List.prefix_refl m) (R.put hl ⟨_, rfl, ?_, g3.append (.one ry)⟩) rfl⟩
        rw [List.length_append]
        exact hz
      · exact q.elim
    · exact q.elim
  · exact q.elim
theorem m_popAt : MtR X "list.pop" (rOm X.K cA mPopAt) := by
  intro pins st σ H x xs v us Q I rx rxs ⟨G, F, m, s, d, ds, R, rd, rds, q⟩
  refine mt_popAt pins st σ H x xs v us Q I rx rxs ?_
  unfold mPopAt at q
  split at q
  · rename_i l i
    obtain ⟨a, rfl, hl⟩ := rd
    obtain ⟨y, rfl, ry⟩ := rds.of1
    have ry : y = .int i := ry
    subst ry
    split at q
    · rename_i es hs
      have ⟨vs, g1, g2, g3⟩ := R.ob l a _ hl hs
      split at q
      · rename_i hb
        split at q
        · rename_i k hk
          split at q
          · rename_i z hz
            obtain ⟨w, hw1, hw2⟩ := g3.get hz
            rw [ixAt_eq] at hk
            obtain ⟨b1, b2, _⟩ := ixN_seq hk
            refine ⟨a, vs, i, k, w, rfl, rfl, g1, hb.1, hb.2, by rw [g3.len]; exact b1, hw1, q F m _ _ (Same.refl F) (List.prefix_refl m) (R.put hl ⟨_, rfl, ?_, g3.erase k⟩) hw2⟩
            exact Nat.le_trans (len_erase _ _) g2
          · exact q.elim
        · exact q.elim
      · exact q.elim
    · exact q.elim
  · exact q.elim
theorem meth_few {env : Env} {cpos : Pos} {es : List Expr} (hs : es.all noStar = true) (hl : es.length < 30) : ((backTo cpos (starEach es env)).all (fun x => !x.1) && (backToKw cpos (keywordEach [] env)).all (fun x => x.1.isSome)
      && decide (es.length + ([] : List Keyword).length + (if ([] : List Keyword).isEmpty then 0 else 1) < 30)) = true := by
  rw [starEach_few hs]
  show (true && true && decide (es.length + 0 + 0 < 30)) = true
  rw [decide_eq_true (by omega)]
  rfl
theorem x_meth {name : Str} {T id : String} {ty : D → Sto → Bool} {f : D → List D → Sto → R D} (nx : NxM f) (hty : ∀ G F m s d x H, Rel X.K cA G F m s H → RepV X.K F m d x → ty d s = true → tyV X.K T x H)
    (pa : PlainAttrs T) (slot : Slot T name id) (ht : typeOf (.builtin id) = pure (.type "method_descriptor")) (hm : MtR X id (rOm X.K cA f)) (ha : attrB o = true) (hline : (apos.endLine == cpos.line) = true) (hs : (e :: es).all noStar = true) (hl : (e :: es).length < 30)
    (ho : SE X cA W o eo) (h : SA X cA W (e :: es) t) : SE X cA W (.Call (.Attribute o name apos) (e :: es) [] cpos) (eMeth ty f eo t) := by
  have hs' := hs
  rw [List.all_cons, Bool.and_eq_true] at hs'
  exact (pe_bm pa slot ht hm ho h (attr_base ha) (meth_few hs hl) hline (starEach_cons hs'.1) (starEach_plain hs'.2)).of fun _ _ _ h => rd_meth nx hty h
theorem x_append (ha : attrB o = true) (hline : (apos.endLine == cpos.line) = true) (hs : (e :: es).all noStar = true) (hl : (e :: es).length < 30)
    (ho : SE X cA W o eo) (h : SA X cA W (e :: es) t) : SE X cA W (.Call (.Attribute o "append" apos) (e :: es) [] cpos) (eMeth isLst mAppend eo t) :=
  x_meth nx_append ty_lst PySem.F.plainAttrs_list PySem.F.slot_list_append PySem.F.type_list_append m_append ha hline hs hl ho h
theorem x_popAt (ha : attrB o = true) (hline : (apos.endLine == cpos.line) = true) (hs : (e :: es).all noStar = true) (hl : (e :: es).length < 30)
    (ho : SE X cA W o eo) (h : SA X cA W (e :: es) t) : SE X cA W (.Call (.Attribute o "pop" apos) (e :: es) [] cpos) (eMeth isLst mPopAt eo t) :=
  x_meth nx_popAt ty_lst PySem.F.plainAttrs_list PySem.F.slot_list_pop PySem.F.type_list_pop m_popAt ha hline hs hl ho h
end
end Rh
end

section
set_option Elab.async false
set_option linter.all false
set_option maxRecDepth 100000
set_option maxHeartbeats 1000000
/-! Statements, targets, loops by data. -/
namespace Rh
open PySem L2

def PostS (K : PySem.W.Frag) (cA : Bg) (G : Hp) (W : WX) (F : Hp) (m : List Addr) (D : Ends) : O → Prop
  | .nx ρ s => ∀ F' m' σ' H', Same F F' → m <+: m' → Rel K cA G F' m' s H' → EnR K F' m' ρ σ' → D.nx σ' H'
  | .bk ρ s => ∀ F' m' σ' H', Same F F' → m <+: m' → Rel K cA G F' m' s H' → EnR K F' m' ρ σ' → D.bk σ' H'
  | .ct ρ s => ∀ F' m' σ' H', Same F F' → m <+: m' → Rel K cA G F' m' s H' → EnR K F' m' ρ σ' → D.ct σ' H'
  | .rt d s => ∀ F' m' v H', Same F F' → m <+: m' → Rel K cA G F' m' s H' → RepV K F' m' d v → D.rt v H'
  | .exc x ρ s => ∀ F' m' σ' H' cls d, Same F F' → m <+: m' → Rel K cA G F' m' s H' → EnR K F' m' ρ σ' → ExcRep K cA F' m' H' x cls d → W cls d σ' H'
  | .bad => False
/-- a statement's reading -/
def rS (K : PySem.W.Frag) (cA : Bg) (W : WX) (b : Es) : TS := fun D σ H => ∃ G F m ρ s, Rel K cA G F m s H ∧ EnR K F m ρ σ ∧ PostS K cA G W F m D (b ρ s)
def dNx (Q : L2.St → Hp → Prop) : Ends := { nx := Q, rt := fun _ _ => False }
def rG (K : PySem.W.Frag) (cA : Bg) (W : WX) (g : Tg) : TG := fun v σ H Q => ∃ G F m ρ s d, Rel K cA G F m s H ∧ EnR K F m ρ σ ∧ RepV K F m d v ∧ PostS K cA G W F m (dNx Q) (g d ρ s)
def rGs (K : PySem.W.Frag) (cA : Bg) (W : WX) (g : Tgs) : TGs := fun vs σ H Q => ∃ G F m ρ s ds, Rel K cA G F m s H ∧ EnR K F m ρ σ ∧ RepVs K F m ds vs ∧ PostS K cA G W F m (dNx Q) (g ds ρ s)
/-- a target goes on, raises or falls: nothing else -/
def TgOk (g : Tg) : Prop := ∀ d ρ s, match g d ρ s with
  | .nx _ _ => True
  | .exc _ _ _ => True
  | .bad => True
  | _ => False
def TgsOk (g : Tgs) : Prop := ∀ d ρ s, match g d ρ s with
  | .nx _ _ => True
  | .exc _ _ _ => True
  | .bad => True
  | _ => False

section
variable {K : PySem.W.Frag} {cA : Bg} {W : WX} {σ : L2.St} {G F F' : Hp} {m m' : List Addr} {De De' : Ends} {ρ : En} {s : Sto} {H : Hp}
theorem PostS.mono (e : Same F F') (p : m <+: m') {r : O} (h : PostS K cA G W F m De r) : PostS K cA G W F' m' De r := by
  cases r with
  | nx ρ s => exact fun F1 m1 σ1 H1 e1 p1 => h F1 m1 σ1 H1 (e.trans e1) (p.trans p1)
  | bk ρ s => exact fun F1 m1 σ1 H1 e1 p1 => h F1 m1 σ1 H1 (e.trans e1) (p.trans p1)
  | ct ρ s => exact fun F1 m1 σ1 H1 e1 p1 => h F1 m1 σ1 H1 (e.trans e1) (p.trans p1)
  | rt d s => exact fun F1 m1 v H1 e1 p1 => h F1 m1 v H1 (e.trans e1) (p.trans p1)
  | exc x ρ s => exact fun F1 m1 σ1 H1 cls d e1 p1 => h F1 m1 σ1 H1 cls d (e.trans e1) (p.trans p1)
  | bad => exact h
theorem PostS.imp {r : O} (h : PostS K cA G W F m De r) (h1 : ∀ σ H, De.nx σ H → De'.nx σ H) (h2 : ∀ σ H, De.bk σ H → De'.bk σ H) (h3 : ∀ σ H, De.ct σ H → De'.ct σ H) (h4 : ∀ v H, De.rt v H → De'.rt v H) : PostS K cA G W F m De' r := by
  cases r with
  | nx ρ s => exact fun F1 m1 σ1 H1 e1 p1 a b => h1 _ _ (h F1 m1 σ1 H1 e1 p1 a b)
  | bk ρ s => exact fun F1 m1 σ1 H1 e1 p1 a b => h2 _ _ (h F1 m1 σ1 H1 e1 p1 a b)
  | ct ρ s => exact fun F1 m1 σ1 H1 e1 p1 a b => h3 _ _ (h F1 m1 σ1 H1 e1 p1 a b)
  | rt d s => exact fun F1 m1 v H1 e1 p1 a b => h4 _ _ (h F1 m1 v H1 e1 p1 a b)
  | exc x ρ s => exact h
  | bad => exact h
/-- an expression, then what follows -/
theorem PostS.then {α β : Type} {rep : Rp α β} {r : R α} {f : α → Sto → O} (en : EnR K F m ρ σ) (h : PostS K cA G W F m De (r.then ρ f)) :
    Post K cA G W rep σ F m (fun v H1 => ∃ F1 m1 s1 a, Same F F1 ∧ m <+: m1 ∧ Rel K cA G F1 m1 s1 H1 ∧ rep K F1 m1 a v ∧ r = .ok a s1 ∧ PostS K cA G W F1 m1 De (f a s1)) r := by
  cases r with
  | ok a s => exact fun F' m' v H' e1 p1 r1 r2 => ⟨F', m', s, a, e1, p1, r1, r2, rfl, PostS.mono e1 p1 h⟩
  | exc x s => exact fun F' m' H' cls d e1 p1 r1 r2 => h F' m' σ H' cls d e1 p1 r1 (en.mono e1 p1) r2
  | bad => exact h
/-- a statement, then what follows -/
def seqO (r : O) (f : En → Sto → O) : O := match r with
  | .nx ρ s => f ρ s
  | o => o
theorem sSeq_eq (a b : Es) (ρ : En) (s : Sto) : sSeq a b ρ s = seqO (a ρ s) b := by
  unfold sSeq seqO
  cases a ρ s <;> rfl
theorem PostS.seq {r : O} {f : En → Sto → O} (h : PostS K cA G W F m De (seqO r f)) :
    PostS K cA G W F m { De with nx := fun σ1 H1 => ∃ F1 m1 ρ1 s1, Same F F1 ∧ m <+: m1 ∧ Rel K cA G F1 m1 s1 H1 ∧ EnR K F1 m1 ρ1 σ1 ∧ PostS K cA G W F1 m1 De (f ρ1 s1) } r := by
  cases r with
  | nx ρ s => exact fun F' m' σ' H' e1 p1 r1 r2 => ⟨F', m', ρ, s, e1, p1, r1, r2, PostS.mono e1 p1 h⟩
  | bk ρ s => exact h
  | ct ρ s => exact h
  | rt d s => exact h
  | exc x ρ s => exact h
  | bad => exact h
theorem PostS.now {ρ1 : En} (h : PostS K cA G W F m De (.nx ρ1 s)) (R : Rel K cA G F m s H) (en : EnR K F m ρ1 σ) : De.nx σ H := h F m σ H (Same.refl F) (List.prefix_refl m) R en
/-- a target's way -/
theorem PostS.tg {r : O} {f : En → Sto → O} (hr : match r with | O.nx _ _ => True | O.exc _ _ _ => True | O.bad => True | _ => False) (h : PostS K cA G W F m De (seqO r f)) :
    PostS K cA G W F m (dNx fun σ1 H1 => ∃ F1 m1 ρ1 s1, Same F F1 ∧ m <+: m1 ∧ Rel K cA G F1 m1 s1 H1 ∧ EnR K F1 m1 ρ1 σ1 ∧ PostS K cA G W F1 m1 De (f ρ1 s1)) r := by
  cases r with
  | nx ρ s => exact fun F' m' σ' H' e1 p1 r1 r2 => ⟨F', m', ρ, s, e1, p1, r1, r2, PostS.mono e1 p1 h⟩
  | exc x ρ s => exact h
  | bad => exact h
  | _ => exact hr.elim

/-! ### readings of statements -/
variable {e : Ev} {t : Et} {a b : Es} {g : Tg}
theorem rs_nil (h : rS K cA W sNil De σ H) : tNext De σ H := by
  obtain ⟨G, F, m, ρ, s, R, en, h⟩ := h
  exact PostS.now h R en
theorem rs_seq (h : rS K cA W (sSeq a b) De σ H) : tSeq (rS K cA W a) (rS K cA W b) De σ H := by
  obtain ⟨G, F, m, ρ, s, R, en, h⟩ := h
  rw [sSeq_eq] at h
  refine ⟨G, F, m, ρ, s, R, en, (PostS.seq h).imp (fun σ1 H1 ⟨F1, m1, ρ1, s1, e1, p1, R1, en1, h1⟩ => ⟨G, F1, m1, ρ1, s1, R1, en1, h1⟩) (fun _ _ q => q) (fun _ _ q => q) fun _ _ q => q⟩
theorem rs_ret (h : rS K cA W (sRet e) De σ H) : tRet (rE K cA W e) De σ H := by
  obtain ⟨G, F, m, ρ, s, R, en, h⟩ := h
  refine ⟨G, F, m, ρ, s, R, en, (PostS.then (rep := RepV) en h).imp fun v H1 ⟨F1, m1, s1, d, e1, p1, R1, r1, _, h1⟩ => ?_⟩
  exact h1 F1 m1 v H1 (Same.refl F1) (List.prefix_refl m1) R1 r1
theorem rs_retN (h : rS K cA W sRetN De σ H) : tRetN De σ H := by
  obtain ⟨G, F, m, ρ, s, R, en, h⟩ := h
  exact h F m .non H (Same.refl F) (List.prefix_refl m) R rfl
theorem rs_expr (h : rS K cA W (sExpr e) De σ H) : tDrop (rE K cA W e) De σ H := by
  obtain ⟨G, F, m, ρ, s, R, en, h⟩ := h
  refine ⟨G, F, m, ρ, s, R, en, (PostS.then (rep := RepV) en h).imp fun v H1 ⟨F1, m1, s1, d, e1, p1, R1, r1, _, h1⟩ => ?_⟩
  exact PostS.now h1 R1 (en.mono e1 p1)
theorem rs_if (h : rS K cA W (sIf t a b) De σ H) : tIfS (rT K cA W t) (rS K cA W a) (rS K cA W b) De σ H := by
  obtain ⟨G, F, m, ρ, s, R, en, h⟩ := h
  refine ⟨G, F, m, ρ, s, R, en, (PostS.then (rep := rpB) en h).imp fun c H1 ⟨F1, m1, s1, d, e1, p1, R1, r1, _, h1⟩ => ?_⟩
  have r1 : c = d := r1
  subst r1
  cases c with
  | true => exact ⟨G, F1, m1, ρ, s1, R1, en.mono e1 p1, h1⟩
  | false => exact ⟨G, F1, m1, ρ, s1, R1, en.mono e1 p1, h1⟩
theorem rs_brk (h : rS K cA W sBrk De σ H) : tBreak De σ H := by
  obtain ⟨G, F, m, ρ, s, R, en, h⟩ := h
  exact h F m σ H (Same.refl F) (List.prefix_refl m) R en
theorem rs_cnt (h : rS K cA W sCnt De σ H) : tCont De σ H := by
  obtain ⟨G, F, m, ρ, s, R, en, h⟩ := h
  exact h F m σ H (Same.refl F) (List.prefix_refl m) R en
theorem rs_asg (hg : TgOk g) (h : rS K cA W (sAsg e g) De σ H) : tAsg (rE K cA W e) (rG K cA W g) De σ H := by
  obtain ⟨G, F, m, ρ, s, R, en, h⟩ := h
  refine ⟨G, F, m, ρ, s, R, en, (PostS.then (rep := RepV) en h).imp fun v H1 ⟨F1, m1, s1, d, e1, p1, R1, r1, _, h1⟩ => ?_⟩
  refine ⟨G, F1, m1, ρ, s1, d, R1, en.mono e1 p1, r1, ?_⟩
  have hk := hg d ρ s1
  revert h1 hk
  cases g d ρ s1 with
  | nx ρ s => exact fun h1 _ => h1
  | exc x ρ s => exact fun h1 _ => h1
  | bad => exact fun h1 _ => h1
  | _ => exact fun _ hk => hk.elim
theorem rs_par {i j : Nat} {ea : Ea} (h : rS K cA W (sPar i j ea) De σ H) : tPar i j (rA K cA W ea) De σ H := by
  obtain ⟨G, F, m, ρ, s, R, en, h⟩ := h
  refine ⟨G, F, m, ρ, s, R, en, (PostS.then (rep := RepVs) en h).imp fun vs H1 ⟨F1, m1, s1, ds, e1, p1, R1, r1, _, h1⟩ => ?_⟩
  split at h1
  · rename_i x y
    obtain ⟨v, w, rfl, r2, r3⟩ := r1.of2
    exact ⟨v, w, rfl, PostS.now h1 R1 (((en.mono e1 p1).set r2).set r3)⟩
  · exact h1.elim
/-! targets -/
theorem rg_nm {i : Nat} {v : V} {Q : L2.St → Hp → Prop} (h : rG K cA W (gNm i) v σ H Q) : gName i v σ H Q := by
  obtain ⟨G, F, m, ρ, s, d, R, en, r, h⟩ := h
  exact PostS.now h R (en.set r)
theorem tg_nm {i : Nat} : TgOk (gNm i) := fun d ρ s => trivial
theorem rg_nil {vs : List V} {Q : L2.St → Hp → Prop} (h : rGs K cA W gsNil vs σ H Q) : gNil vs σ H Q := by
  obtain ⟨G, F, m, ρ, s, ds, R, en, r, h⟩ := h
  unfold gsNil at h
  split at h
  · have r : vs = [] := r
    exact ⟨r, PostS.now h R en⟩
  · exact h.elim
theorem tg_nil : TgsOk gsNil := fun d ρ s => by unfold gsNil; cases d <;> trivial
theorem gsCons_eq (g : Tg) (t : Tgs) (d : D) (r : List D) (ρ : En) (s : Sto) : gsCons g t (d :: r) ρ s = seqO (g d ρ s) (t r) := by
  cases h : g d ρ s <;> simp only [gsCons, seqO, h]
theorem rg_cons {t : Tgs} {vs : List V} {Q : L2.St → Hp → Prop} (hg : TgOk g) (h : rGs K cA W (gsCons g t) vs σ H Q) : gCons (rG K cA W g) (rGs K cA W t) vs σ H Q := by
  obtain ⟨G, F, m, ρ, s, ds, R, en, r, h⟩ := h
  cases ds with
  | nil => exact h.elim
  | cons d ds =>
    obtain ⟨v, w, rfl, r1, r2⟩ := r
    rw [gsCons_eq] at h
    refine ⟨v, w, rfl, G, F, m, ρ, s, d, R, en, r1, (PostS.tg (hg d ρ s) h).imp (fun σ1 H1 ⟨F1, m1, ρ1, s1, e1, p1, R1, en1, h1⟩ => ?_) (fun _ _ q => q) (fun _ _ q => q) fun _ _ q => q⟩
    exact ⟨G, F1, m1, ρ1, s1, ds, R1, en1, RepVs.mono e1 p1 _ _ r2, h1⟩
theorem tg_cons {t : Tgs} (hg : TgOk g) (ht : TgsOk t) : TgsOk (gsCons g t) := fun ds ρ s => by
  cases ds with
  | nil => trivial
  | cons d ds =>
    rw [gsCons_eq]
    have h := hg d ρ s
    unfold seqO
    cases q : g d ρ s with
    | nx ρ1 s1 => exact ht ds ρ1 s1
    | _ => rw [q] at h; exact h
theorem rg_tp {t : Tgs} {n : Nat} {v : V} {Q : L2.St → Hp → Prop} (h : rG K cA W (gTp n t) v σ H Q) : gTup K n (rGs K cA W t) v σ H Q := by
  obtain ⟨G, F, m, ρ, s, d, R, en, r, h⟩ := h
  unfold gTp at h
  split at h
  · rename_i ds
    split at h
    · rename_i hn
      obtain ⟨a, vs, rfl, h1, h2⟩ := r
      exact ⟨a, vs, rfl, SqT.of (R.ex _ _ h1), by rw [h2.len]; exact hn, G, F, m, ρ, s, ds, R, en, h2, h⟩
    · exact h.elim
  · exact h.elim
theorem tg_tp {t : Tgs} {n : Nat} (ht : TgsOk t) : TgOk (gTp n t) := fun d ρ s => by
  cases d with
  | tup ds =>
    show match (if ds.length = n then t ds ρ s else .bad) with | O.nx _ _ => True | O.exc _ _ _ => True | O.bad => True | _ => False
    by_cases c : ds.length = n
    · rw [if_pos c]
      exact ht ds ρ s
    · rw [if_neg c]
      trivial
  | _ => trivial
theorem then_tg {α : Type} {r : R α} {f : α → Sto → O} (h : ∀ a s, match f a s with | O.nx _ _ => True | O.exc _ _ _ => True | O.bad => True | _ => False) : match r.then ρ f with | O.nx _ _ => True | O.exc _ _ _ => True | O.bad => True | _ => False := by
  cases r with
  | ok a s => exact h a s
  | _ => trivial
/-- an item stored into a list, by the list's own rule -/
theorem rg_sb {f : D → D → D → Sto → R Unit} {o i : Ev} {v : V} {Q : L2.St → Hp → Prop} {tset : TSet} (hs : ∀ G F m s d e c x y z H Q, Rel K cA G F m s H → RepV K F m d x → RepV K F m e y → RepV K F m c z → okU K cA G F m Q (f d e c s) → tset x y z H Q)
    (nf : ∀ d e c s x s', f d e c s = .exc x s' → False) (h : rG K cA W (gSb f o i) v σ H Q) : gSub (rE K cA W o) (rE K cA W i) tset v σ H Q := by
  obtain ⟨G, F, m, ρ, s, d, R, en, r, h⟩ := h
  refine ⟨G, F, m, ρ, s, R, en, (PostS.then (rep := RepV) en h).imp fun x H1 ⟨F1, m1, s1, d1, e1, p1, R1, r1, _, h1⟩ => ?_⟩
  refine ⟨G, F1, m1, ρ, s1, R1, en.mono e1 p1, (PostS.then (rep := RepV) (en.mono e1 p1) h1).imp fun y H2 ⟨F2, m2, s2, d2, e2, p2, R2, r2, _, h2⟩ => ?_⟩
  refine hs G F2 m2 s2 d1 d2 d x y v H2 _ R2 (RepV.mono e2 p2 _ _ r1) r2 (RepV.mono (e1.trans e2) (p1.trans p2) _ _ r) ?_
  revert h2
  cases q : f d1 d2 d s2 with
  | ok u s3 => exact fun h2 F3 m3 H3 e3 p3 R3 => h2 F3 m3 σ H3 e3 p3 R3 (((en.mono e1 p1).mono e2 p2).mono e3 p3)
  | exc x s3 => exact fun _ => (nf _ _ _ _ _ _ q).elim
  | bad => exact fun h2 => h2
theorem tg_sb {f : D → D → D → Sto → R Unit} {o i : Ev} : TgOk (gSb f o i) := fun d ρ s => then_tg fun _ _ => then_tg fun _ _ => then_tg fun _ _ => trivial
end

/-! ### the text's statements -/
section
variable {X : Cx} {cA : Bg} {W : WX} {a b c e : Expr} {ea eb ec : Ev} {pos : Pos} {st : Stmt} {sts : List Stmt} {x y : Es} {g : Tg}
theorem _root_.L2.PS.of {t t' : TS} (h : PS X st t) (k : ∀ D σ H, t' D σ H → t D σ H) : PS X st t' := ⟨fun pins s σ H D I q => h.run pins s σ H D I (k D σ H q)⟩
theorem _root_.L2.PSs.of {t t' : TS} (h : PSs X sts t) (k : ∀ D σ H, t' D σ H → t D σ H) : PSs X sts t' := ⟨fun pins s σ H D I q => h.run pins s σ H D I (k D σ H q)⟩
theorem _root_.L2.PG.of {e : Expr} {t t' : TG} (h : PG X e t) (k : ∀ v σ H Q, t' v σ H Q → t v σ H Q) : PG X e t' := ⟨fun pins s σ H v u Q I r q => h.run pins s σ H v u Q I r (k v σ H Q q)⟩
theorem _root_.L2.PGs.of {es : List Expr} {t t' : TGs} (h : PGs X es t) (k : ∀ v σ H Q, t' v σ H Q → t v σ H Q) : PGs X es t' := ⟨fun pins s σ H v u Q I r q => h.run pins s σ H v u Q I r (k v σ H Q q)⟩
abbrev SS (X : Cx) (cA : Bg) (W : WX) (st : Stmt) (b : Es) : Prop := PS X st (rS X.K cA W b)
abbrev SB (X : Cx) (cA : Bg) (W : WX) (st : List Stmt) (b : Es) : Prop := PSs X st (rS X.K cA W b)
structure SG (X : Cx) (cA : Bg) (W : WX) (e : Expr) (g : Tg) : Prop where
  pg : PG X e (rG X.K cA W g)
  ok : TgOk g
structure SGs (X : Cx) (cA : Bg) (W : WX) (es : List Expr) (g : Tgs) : Prop where
  pg : PGs X es (rGs X.K cA W g)
  ok : TgsOk g
theorem y_nil : SB X cA W [] sNil := pss_nil.of fun _ _ _ h => rs_nil h
theorem y_cons (h1 : SS X cA W st x) (h2 : SB X cA W sts y) : SB X cA W (st :: sts) (sSeq x y) := (pss_cons h1 h2).of fun _ _ _ h => rs_seq h
theorem y_ret (h : SE X cA W e ea) : SS X cA W (.Return (some e) pos) (sRet ea) := (ps_ret h).of fun _ _ _ h => rs_ret h
theorem y_retN : SS X cA W (.Return none pos) sRetN := ps_retN.of fun _ _ _ h => rs_retN h
theorem y_expr (hn : notComp e = true) (h : SE X cA W e ea) : SS X cA W (.Expr e pos) (sExpr ea) := (ps_expr h (swaps_no hn)).of fun _ _ _ h => rs_expr h
theorem y_if {t : Et} {s1 s2 : List Stmt} (hc : ST X cA W c t) (h1 : SB X cA W s1 x) (h2 : SB X cA W s2 y) : SS X cA W (.If c s1 s2 pos) (sIf t x y) := (ps_if hc h1 h2).of fun _ _ _ h => rs_if h
theorem y_brk : SS X cA W (.Break pos) sBrk := ps_break.of fun _ _ _ h => rs_brk h
theorem y_cnt : SS X cA W (.Continue pos) sCnt := ps_continue.of fun _ _ _ h => rs_cnt h
theorem y_pass : SS X cA W (.Pass pos) sNil := ps_pass.of fun _ _ _ h => rs_nil h
/-- the target and the value's text are no two written tuples -/
def noPair : Expr → Expr → Bool
  | .Tuple _ _ _, .Tuple _ _ _ => false
  | .Tuple _ _ _, .List _ _ => false
  | .List _ _, .Tuple _ _ _ => false
  | .List _ _, .List _ _ => false
  | _, _ => true
theorem swapped_no {t v : Expr} {env : Env} (h : noPair t v = true) : swappedStores [t] v env = pure none := by
  cases t <;> cases v <;> first | rfl | cases h
theorem assignEach_cons {t : Expr} {ts : List Expr} {env : Env} (h : noStar t = true) : assignEach (t :: ts) env = (false, assign t env) :: assignEach ts env := by
  cases t <;> first | rfl | cases h
theorem assignEach_len {env : Env} : ∀ ts : List Expr, (assignEach ts env).length = ts.length
  | [] => rfl
  | t :: ts => by cases t <;> exact congrArg Nat.succ (assignEach_len ts)
theorem assignEach_noStar {env : Env} : ∀ {ts : List Expr}, ts.all noStar = true → (assignEach ts env).findIdx? (·.1) = none
  | [], _ => rfl
  | t :: ts, h => by
    rw [List.all_cons, Bool.and_eq_true] at h
    rw [assignEach_cons h.1, List.findIdx?_cons, assignEach_noStar h.2]
    rfl
theorem y_asg (hn : notComp e = true) (hp : noPair a e = true) (ha : noStar a = true) (he : SE X cA W e ea) (hg : SG X cA W a g) : SS X cA W (.Assign [a] e pos) (sAsg ea g) :=
  (ps_asg he hg.pg (swaps_no hn) (swapped_no hp) (by rw [assignEach_cons ha]; rfl)).of fun _ _ _ h => rs_asg hg.ok h
theorem z_nm {i : Nat} {n : Str} (hN : X.N.Nodup) (hi : X.N[i]? = some n) (hx : Loc X.env.scope n) (hf : X.fn n = true ∨ X.env.scope.names.lookup n = some .local) : SG X cA W (.Name n pos) (gNm i) := ⟨(pg_name hN hi hx hf).of fun _ _ _ _ h => rg_nm h, tg_nm⟩
theorem z_nil : SGs X cA W [] gsNil := ⟨pgs_nil.of fun _ _ _ _ h => rg_nil h, tg_nil⟩
theorem z_cons {es : List Expr} {t : Tgs} (h1 : noStar e = true) (h : SG X cA W e g) (ht : SGs X cA W es t) : SGs X cA W (e :: es) (gsCons g t) :=
  ⟨(pgs_cons h.pg ht.pg (by rw [assignEach_cons h1]; rfl)).of fun _ _ _ _ q => rg_cons h.ok q, tg_cons h.ok ht.ok⟩
theorem z_tp {es : List Expr} {k n : Nat} {t : Tgs} (hc : X.calm = true) (hs : es.all noStar = true) (hl : es.length = n) (h : SGs X cA W es t) : SG X cA W (.Tuple es k pos) (gTp n t) :=
  ⟨(pg_tup hc h.pg (by rw [assignEach_len, hl]) (assignEach_noStar hs)).of fun _ _ _ _ q => rg_tp q, tg_tp h.ok⟩
/-! ### stores -/
def rSetAny : TSet := fun o i v H Q => rSetL o i v H Q ∨ ∃ a H', o = .ref a ∧ DPut H a i v H' ∧ Q H'
theorem set_any (hu : X.A.units + 1 < cLine) : PSet X rSetAny := by
  intro pins st σ H o i v ov iv u Q I ro ri rv h
  rcases h with h | ⟨a, H', rfl, g, q⟩
  · exact set_list pins st σ H o i v ov iv u Q I ro ri rv h
  · obtain rfl : ov = Value.ref a := ro
    exact d_setItem hu I g ri rv fun s4 I4 => ⟨H', I4, q⟩
theorem setItem_q {K : PySem.W.Frag} : ∀ G F m s d e c x y z H Q, Rel K cA G F m s H → RepV K F m d x → RepV K F m e y → RepV K F m c z → okU K cA G F m Q (Rh.setItem d e c s) → rSetAny x y z H Q := by
  intro G F m s d e c x y z H Q R rd re rc q
  unfold Rh.setItem at q
  split at q
  · rename_i l
    split at q
    · rename_i ds hs
      obtain ⟨a, rfl, hl⟩ := rd
      split at q
      · rename_i i
        split at q
        · rename_i j hj
          have ⟨vs, g1, g2, g3⟩ := R.ob l a _ hl hs
          rw [ixAt_eq, ← g3.len] at hj
          refine .inl ⟨a, vs, i, j, rfl, re, g1, hj, q F m _ (Same.refl F) (List.prefix_refl m) (R.put hl ⟨_, rfl, ?_, g3.set j rc⟩)⟩
          rw [List.length_set]
          exact g2
        · exact q.elim
      · exact q.elim
    · split at q
      · rename_i s' hs
        obtain ⟨a, H', rfl, g1, g2⟩ := dPut_rep R rd re rc hs
        exact .inr ⟨a, H', rfl, g1, q F m H' (Same.refl F) (List.prefix_refl m) g2⟩
      · exact q.elim
  · exact q.elim
theorem nx_setItem : ∀ d e c s x s', Rh.setItem d e c s = .exc x s' → False := by
  intro d e c s x s' h; unfold Rh.setItem at h; (repeat' split at h) <;> cases h
theorem assign_sub {o i : Expr} {env : Env} (h : notSl i = true) : ∀ v, assign (.Subscript o i pos) env v = (do
      let ov ← holding [v] (eval o env)
      let iv ← holding [v, ov] (eval i env)
      standAt pos
      holding [v, ov, iv] (PySem.setItem ov iv v)
      release [v, ov, iv] []) := by
  intro v
  cases i <;> first | rfl | cases h
theorem z_sb {o i : Expr} {eo ei : Ev} (hu : X.A.units + 1 < cLine) (hs : notSl i = true) (ho : SE X cA W o eo) (hi : SE X cA W i ei) : SG X cA W (.Subscript o i pos) (gSb Rh.setItem eo ei) :=
  ⟨(pg_sub ho hi (set_any hu) (assign_sub hs)).of fun _ _ _ _ q => rg_sb setItem_q nx_setItem q, tg_sb⟩

/-! ### x op= e -/
theorem rs_aug {K : PySem.W.Frag} {σ : L2.St} {H : Hp} {De : Ends} {f : D → D → Sto → R D} {i : Nat} (nf : Nx2 f) (h : rS K cA W (sAug f i ea) De σ H) : tAug i (rE K cA W ea) (rO2 K cA f) De σ H := by
  obtain ⟨G, F, m, ρ, s, R, en, h⟩ := h
  unfold sAug at h
  split at h
  · rename_i d q
    obtain ⟨v, h1, h2⟩ := en.2 i d q
    refine ⟨v, h1, G, F, m, ρ, s, R, en, (PostS.then (rep := RepV) en h).imp fun y H1 ⟨F1, m1, s1, e1, x1, p1, R1, r1, _, h1⟩ => ?_⟩
    refine ⟨G, F1, m1, s1, d, e1, R1, RepV.mono x1 p1 _ _ h2, r1, (((PostS.then (rep := RepV) (en.mono x1 p1) h1).imp fun z H2 => ?_).okP fun x s => nf d e1 s1 x s)⟩
    rintro ⟨F2, m2, s2, e2, x2, p2, R2, r2, _, h3⟩
    exact PostS.now h3 R2 (((en.mono x1 p1).mono x2 p2).set r2)
  · exact h.elim
theorem y_aug {op : Operator} {f : D → D → Sto → R D} {i : Nat} {n : Str} {p : Pos} (nf : Nx2 f) (ho : OpR X (inplaceOp op) (rO2 X.K cA f)) (hN : X.N.Nodup) (hi : X.N[i]? = some n) (hx : Loc X.env.scope n) (hf : X.fn n = true ∨ X.env.scope.names.lookup n = some .local)
    (he : SE X cA W e ea) : SS X cA W (.AugAssign (.Name n p) op e pos) (sAug f i ea) := (ps_aug hN hi hx he ho hf).of fun _ _ _ h => rs_aug nf h
theorem io_add : OpR X (inplaceOp .Add) (rO2 X.K cA opAddN) := o_int (iop_add.or iop_add_str) fun G F m s d e H x y Q R rd re q => by
  unfold opAddN at q
  split at q
  · exact .inl ⟨_, _, rd, re, okP.now q R rfl⟩
  · split at q
    · rename_i hz
      exact .inr ⟨_, _, rd, re, by rw [← szl_eq]; exact hz, okP.now q R rfl⟩
    · exact q.elim
  · exact q.elim
theorem io_sub : OpR X (inplaceOp .Sub) (rO2 X.K cA opSub) := o_int iop_sub fun G F m s d e H x y Q R rd re q => by
  unfold opSub at q
  split at q
  · exact ⟨_, _, rd, re, okP.now q R rfl⟩
  · exact q.elim
/-- d[k] op= e -/
def rGetD : V → V → Hp → VK → Prop := fun x y H Q => ∃ a v, x = .ref a ∧ DGet H a y (some v) ∧ Q v H
theorem get_d (hu : X.A.units + 1 < cLine) : PGet X rGetD := by
  intro pins st σ H o i ov iv Q I ro ri ⟨a, v, ex, g, q⟩
  subst ex
  obtain rfl : ov = Value.ref a := ro
  exact d_getItem hu I g ri fun w' s3 I3 rw' => ⟨v, H, I3, rw', q⟩
theorem rs_augS {K : PySem.W.Frag} {σ : L2.St} {H : Hp} {De : Ends} {f : D → D → Sto → R D} {eo ei : Ev} (nf : Nx2 f) (h : rS K cA W (sAugS dItem f Rh.setItem eo ei ea) De σ H) : tAugS (rE K cA W eo) (rE K cA W ei) (rE K cA W ea) rGetD (rO2 K cA f) rSetAny De σ H := by
  obtain ⟨G, F, m, ρ, s, R, en, h⟩ := h
  refine ⟨G, F, m, ρ, s, R, en, (PostS.then (rep := RepV) en h).imp fun x H1 ⟨F1, m1, s1, d1, e1, p1, R1, r1, _, h1⟩ => ?_⟩
  have en1 := en.mono e1 p1
  refine ⟨G, F1, m1, ρ, s1, R1, en1, (PostS.then (rep := RepV) en1 h1).imp fun y H2 ⟨F2, m2, s2, d2, e2, p2, R2, r2, _, h2⟩ => ?_⟩
  have en2 := en1.mono e2 p2
  have r1' := RepV.mono e2 p2 _ _ r1
  -- what stands there
  have h3 := PostS.then (rep := RepV) en2 h2
  obtain ⟨a, v, ex, g, F3, m3, s3, d3, e3, p3, R3, r3, _, h4⟩ := dget_q (Q := _) R2 r1' r2 h3
  refine ⟨a, v, ex, g, ?_⟩
  have en3 := en2.mono e3 p3
  refine ⟨G, F3, m3, ρ, s3, R3, en3, (PostS.then (rep := RepV) en3 h4).imp fun u H4 ⟨F4, m4, s4, d4, e4, p4, R4, r4, _, h5⟩ => ?_⟩
  have en4 := en3.mono e4 p4
  refine ⟨G, F4, m4, s4, d3, d4, R4, RepV.mono e4 p4 _ _ r3, r4, (((PostS.then (rep := RepV) en4 h5).imp fun z H5 => ?_).okP fun x s => nf d3 d4 s4 x s)⟩
  rintro ⟨F5, m5, s5, d5, e5, p5, R5, r5, _, h6⟩
  have en5 := en4.mono e5 p5
  have q1 : Same F2 F5 := (e3.trans e4).trans e5
  have q2 : m2 <+: m5 := (p3.trans p4).trans p5
  refine setItem_q G F5 m5 s5 d1 d2 d5 x y z H5 _ R5 (RepV.mono q1 q2 _ _ r1') (RepV.mono q1 q2 _ _ r2) r5 ?_
  revert h6
  cases q : Rh.setItem d1 d2 d5 s5 with
  | ok w s6 => exact fun h6 F6 m6 H6 e6 p6 R6 => h6 F6 m6 σ H6 e6 p6 R6 (en5.mono e6 p6)
  | exc w s6 => exact fun _ => (nx_setItem _ _ _ _ _ _ q).elim
  | bad => exact fun h6 => h6
theorem aug_store {i : Expr} (h : notSl i = true) : ∀ ov iv new, augStore i ov iv new = (do holding [new, ov, iv] (PySem.setItem ov iv new); release [new, ov, iv] []; pure .next) := by
  intro ov iv new
  cases i <;> first | rfl | cases h
theorem y_augS {op : Operator} {f : D → D → Sto → R D} {o i : Expr} {eo ei : Ev} {tp : Pos} (hu : X.A.units + 1 < cLine) (nf : Nx2 f) (hop : OpR X (inplaceOp op) (rO2 X.K cA f)) (hs : notSl i = true)
    (ho : SE X cA W o eo) (hi : SE X cA W i ei) (he : SE X cA W e ea) : SS X cA W (.AugAssign (.Subscript o i tp) op e pos) (sAugS dItem f Rh.setItem eo ei ea) :=
  (ps_augS ho hi (get_d hu) he hop (set_any hu) (aug_store hs)).of fun _ _ _ h => rs_augS nf h
/-- a, b = e, f -/
theorem y_par {i j : Nat} {n1 n2 : Str} {px py pt p2 : Pos} {kt k2 : Nat} {ta : Ea} (hc : X.calm = true) (hN : X.N.Nodup) (hi : X.N[i]? = some n1) (hj : X.N[j]? = some n2) (hij : i ≠ j)
    (hx : X.env.scope.names.lookup n1 = some .local) (hy : X.env.scope.names.lookup n2 = some .local) (ha : SA X cA W [a, b] ta)
    (hw : swappedStores [.Tuple [.Name n1 px, .Name n2 py] kt pt] (.Tuple [a, b] k2 p2) X.env = pure (some [n1, n2])) :
    SS X cA W (.Assign [.Tuple [.Name n1 px, .Name n2 py] kt pt] (.Tuple [a, b] k2 p2) pos) (sPar i j ta) := (ps_par hc hN hi hj hij hx hy ha hw rfl).of fun _ _ _ h => rs_par h
end
end Rh
end

section
set_option Elab.async false
set_option linter.all false
set_option maxRecDepth 100000
set_option maxHeartbeats 1000000
/-! Loops and comprehensions by data. -/
namespace Rh
open PySem L2

structure Feeds (K : PySem.W.Frag) (cA : Bg) (F0 : Hp) (m0 : List Addr) (ds : List D) (J : L2.It) : Prop where
  len : ds.length ≤ szl
  go : ∀ i d G F m s H, ds[i]? = some d → Same F0 F → m0 <+: m → Rel K cA G F m s H → J.go i H ∧ ∀ x H', J.yld i H x H' → ∃ F', Same F F' ∧ Rel K cA G F' m s H' ∧ RepV K F' m d x
  stop : ∀ G F m s H, Same F0 F → m0 <+: m → Rel K cA G F m s H → J.stop ds.length H
structure FeedsL (K : PySem.W.Frag) (cA : Bg) (F0 : Hp) (m0 : List Addr) (vw : Sto → Option (List D)) (J : L2.It) : Prop where
  len : ∀ ds G F m s H, vw s = some ds → Same F0 F → m0 <+: m → Rel K cA G F m s H → ds.length ≤ szl
  go : ∀ i d ds G F m s H, vw s = some ds → ds[i]? = some d → Same F0 F → m0 <+: m → Rel K cA G F m s H → J.go i H ∧ ∀ x H', J.yld i H x H' → ∃ F', Same F F' ∧ Rel K cA G F' m s H' ∧ RepV K F' m d x
  stop : ∀ i ds G F m s H, vw s = some ds → ds.length ≤ i → Same F0 F → m0 <+: m → Rel K cA G F m s H → J.stop i H
def rpI (cA : Bg) : Rp Rh.It L2.It := fun K F m it J => match it with
  | .its ds => Feeds K cA F m ds J
  | .live vw => FeedsL K cA F m vw J
abbrev rI (K : PySem.W.Frag) (cA : Bg) (W : WX) (it : Ei) : TI := rd K cA W (rpI cA) it

section
variable {K : PySem.W.Frag} {cA : Bg} {W : WX} {σ : L2.St} {G F F' : Hp} {m m' : List Addr} {De : Ends} {ρ : En} {s : Sto} {H : Hp} {it : Ei} {g : Tg} {b : Es}
/-- what a turn's end asks -/
def loopO (r : O) (f : En → Sto → O) : O := match r with
  | .nx ρ s => f ρ s
  | .ct ρ s => f ρ s
  | .bk ρ s => .nx ρ s
  | .rt d s => .rt d s
  | .exc x ρ s => .exc x ρ s
  | .bad => .bad
def Nxt (K : PySem.W.Frag) (cA : Bg) (G : Hp) (W : WX) (F : Hp) (m : List Addr) (De : Ends) (f : En → Sto → O) : L2.St → Hp → Prop := fun σ1 H1 => ∃ F1 m1 ρ1 s1, Same F F1 ∧ m <+: m1 ∧ Rel K cA G F1 m1 s1 H1 ∧ EnR K F1 m1 ρ1 σ1 ∧ PostS K cA G W F1 m1 De (f ρ1 s1)
theorem PostS.loop {r : O} {f : En → Sto → O} (h : PostS K cA G W F m De (loopO r f)) : PostS K cA G W F m { De with nx := Nxt K cA G W F m De f, ct := Nxt K cA G W F m De f, bk := De.nx } r := by
  cases r with
  | nx ρ s => exact fun F' m' σ' H' e1 p1 r1 r2 => ⟨F', m', ρ, s, e1, p1, r1, r2, PostS.mono e1 p1 h⟩
  | ct ρ s => exact fun F' m' σ' H' e1 p1 r1 r2 => ⟨F', m', ρ, s, e1, p1, r1, r2, PostS.mono e1 p1 h⟩
  | bk ρ s => exact h
  | rt d s => exact h
  | exc x ρ s => exact h
  | bad => exact h
theorem forIts_cons (body : D → Es) (d : D) (ds : List D) (ρ : En) (s : Sto) : forIts body (d :: ds) ρ s = loopO (body d ρ s) (forIts body ds) := by
  cases h : body d ρ s <;> simp only [forIts, loopO, h]
theorem forLive_succ (vw : Sto → Option (List D)) (body : D → Es) (n i : Nat) (ρ : En) (s : Sto) {ds : List D} (h : vw s = some ds) : forLive vw body (n + 1) i ρ s = match ds[i]? with
    | none => .nx ρ s
    | some d => loopO (body d ρ s) (forLive vw body n (i + 1)) := by
  rw [forLive, h]
  dsimp only
  cases ds[i]? with
  | none => rfl
  | some d =>
    dsimp only
    unfold loopO
    cases body d ρ s <;> rfl
theorem thenG_eq (d : D) (ρ : En) (s : Sto) : thenG g b d ρ s = seqO (g d ρ s) b := by
  unfold thenG seqO
  cases g d ρ s <;> rfl
/-- one turn: the target takes the item, the body runs -/
theorem turn_ok (hg : TgOk g) {x : V} {d : D} {f : En → Sto → O} (R : Rel K cA G F m s H) (en : EnR K F m ρ σ) (r : RepV K F m d x) (h : PostS K cA G W F m De (loopO (thenG g b d ρ s) f)) :
    rG K cA W g x σ H fun σ2 H2 => rS K cA W b { De with nx := Nxt K cA G W F m De f, ct := Nxt K cA G W F m De f, bk := De.nx } σ2 H2 := by
  have h1 := PostS.loop h
  rw [thenG_eq] at h1
  refine ⟨G, F, m, ρ, s, d, R, en, r, (PostS.tg (hg d ρ s) h1).imp (fun σ1 H1 ⟨F1, m1, ρ1, s1, e1, p1, R1, en1, h2⟩ => ?_) (fun _ _ q => q) (fun _ _ q => q) fun _ _ q => q⟩
  exact ⟨G, F1, m1, ρ1, s1, R1, en1, h2⟩
theorem Nxt.mono {f : En → Sto → O} (e : Same F F') (p : m <+: m') {σ1 : L2.St} {H1 : Hp} (h : Nxt K cA G W F' m' De f σ1 H1) : Nxt K cA G W F m De f σ1 H1 := by
  obtain ⟨F1, m1, ρ1, s1, e1, p1, h⟩ := h
  exact ⟨F1, m1, ρ1, s1, e.trans e1, p.trans p1, h⟩
theorem rs_for (hg : TgOk g) (h : rS K cA W (sFor it g b) De σ H) : tFor (rI K cA W it) (rG K cA W g) (rS K cA W b) De σ H := by
  obtain ⟨G, F, m, ρ, s, R, en, h⟩ := h
  refine ⟨G, F, m, ρ, s, R, en, (PostS.then (rep := rpI cA) en h).imp fun J H1 ⟨F1, m1, s1, it1, e1, p1, R1, r1, _, h1⟩ => ?_⟩
  have en1 := en.mono e1 p1
  cases it1 with
  | its ds =>
    have r1 : Feeds K cA F1 m1 ds J := r1
    refine ⟨fun i n σ H => n = ds.length - i ∧ i ≤ ds.length ∧ Nxt K cA G W F1 m1 De (forIts (thenG g b) (ds.drop i)) σ H, ⟨ds.length, by simp, Nat.zero_le _, F1, m1, ρ, s1, Same.refl F1, List.prefix_refl m1, R1, en1, h1⟩, ?_⟩
    rintro i n σ2 H2 ⟨rfl, hi, F2, m2, ρ2, s2, e2, p2, R2, en2, h2⟩
    by_cases hlt : i < ds.length
    · have hd : ds[i]? = some ds[i] := List.getElem?_eq_getElem hlt
      obtain ⟨g1, g2⟩ := r1.go i ds[i] G F2 m2 s2 H2 hd e2 p2 R2
      refine .inr ⟨g1, Nxt K cA G W F2 m2 De (forIts (thenG g b) (ds.drop (i + 1))), fun σ' H' q => ⟨ds.length - (i + 1), by omega, rfl, hlt, q.mono e2 p2⟩, fun x H' y => ?_⟩
      obtain ⟨F3, e3, R3, r3⟩ := g2 x H' y
      rw [List.drop_eq_getElem_cons hlt, forIts_cons] at h2
      obtain ⟨G4, F4, m4, ρ4, s4, d4, R4, en4, r4, h4⟩ := turn_ok (b := b) hg R3 (en2.mono e3 (List.prefix_refl m2)) r3 (PostS.mono e3 (List.prefix_refl m2) h2)
      refine ⟨G4, F4, m4, ρ4, s4, d4, R4, en4, r4, h4.imp (fun σ5 H5 q => ?_) (fun _ _ q => q) (fun _ _ q => q) fun _ _ q => q⟩
      obtain ⟨G5, F5, m5, ρ5, s5, R5, en5, h5⟩ := q
      exact ⟨G5, F5, m5, ρ5, s5, R5, en5, h5.imp (fun _ _ q => q.mono e3 (List.prefix_refl m2)) (fun _ _ q => q) (fun _ _ q => q.mono e3 (List.prefix_refl m2)) fun _ _ q => q⟩
    · have e : i = ds.length := by omega
      subst e
      rw [List.drop_length] at h2
      exact .inl ⟨r1.stop G F2 m2 s2 H2 e2 p2 R2, PostS.now h2 R2 en2⟩
  | live vw =>
    have r1 : FeedsL K cA F1 m1 vw J := r1
    refine ⟨fun i n σ H => Nxt K cA G W F1 m1 De (forLive vw (thenG g b) n i) σ H, ⟨vwLen s1 vw, F1, m1, ρ, s1, Same.refl F1, List.prefix_refl m1, R1, en1, h1⟩, ?_⟩
    rintro i n σ2 H2 ⟨F2, m2, ρ2, s2, e2, p2, R2, en2, h2⟩
    cases n with
    | zero =>
      rw [forLive] at h2
      split at h2
      · rename_i ds hv
        split at h2
        · rename_i hle
          exact .inl ⟨r1.stop i ds G F2 m2 s2 H2 hv hle e2 p2 R2, PostS.now h2 R2 en2⟩
        · exact h2.elim
      · exact h2.elim
    | succ n =>
      cases hv : vw s2 with
      | none =>
        rw [forLive, hv] at h2
        exact h2.elim
      | some ds =>
        rw [forLive_succ vw _ n i ρ2 s2 hv] at h2
        cases hd : ds[i]? with
        | none =>
          rw [hd] at h2
          exact .inl ⟨r1.stop i ds G F2 m2 s2 H2 hv (List.getElem?_eq_none_iff.mp hd) e2 p2 R2, PostS.now h2 R2 en2⟩
        | some d =>
          rw [hd] at h2
          dsimp only at h2
          obtain ⟨g1, g2⟩ := r1.go i d ds G F2 m2 s2 H2 hv hd e2 p2 R2
          refine .inr ⟨g1, Nxt K cA G W F2 m2 De (forLive vw (thenG g b) n (i + 1)), fun σ' H' q => ⟨n, Nat.lt_succ_self n, q.mono e2 p2⟩, fun x H' y => ?_⟩
          obtain ⟨F3, e3, R3, r3⟩ := g2 x H' y
          obtain ⟨G4, F4, m4, ρ4, s4, d4, R4, en4, r4, h4⟩ := turn_ok (b := b) hg R3 (en2.mono e3 (List.prefix_refl m2)) r3 (PostS.mono e3 (List.prefix_refl m2) h2)
          refine ⟨G4, F4, m4, ρ4, s4, d4, R4, en4, r4, h4.imp (fun σ5 H5 q => ?_) (fun _ _ q => q) (fun _ _ q => q) fun _ _ q => q⟩
          obtain ⟨G5, F5, m5, ρ5, s5, R5, en5, h5⟩ := q
          exact ⟨G5, F5, m5, ρ5, s5, R5, en5, h5.imp (fun _ _ q => q.mono e3 (List.prefix_refl m2)) (fun _ _ q => q) (fun _ _ q => q.mono e3 (List.prefix_refl m2)) fun _ _ q => q⟩
/-! while -/
theorem whileN_succ (t : Et) (b : Es) (n : Nat) (ρ : En) (s : Sto) : whileN t b (n + 1) ρ s = (t ρ s).then ρ fun c s1 => if c then loopO (b ρ s1) (whileN t b n) else .nx ρ s1 := by
  rw [whileN]
  refine congrArg (R.then (t ρ s) ρ) (funext fun c => funext fun s1 => ?_)
  cases c with
  | false => rfl
  | true =>
    show (match b ρ s1 with | .nx ρ1 s2 => whileN t b n ρ1 s2 | .ct ρ1 s2 => whileN t b n ρ1 s2 | .bk ρ1 s2 => .nx ρ1 s2 | .rt d s2 => .rt d s2 | .exc x ρ1 s2 => .exc x ρ1 s2 | .bad => .bad) = loopO (b ρ s1) (whileN t b n)
    unfold loopO
    cases b ρ s1 <;> rfl
theorem rs_while {t : Et} {n : Nat} (h : rS K cA W (whileN t b n) De σ H) : tWhile (rT K cA W t) (rS K cA W b) De σ H := by
  obtain ⟨G, F, m, ρ, s, R, en, h⟩ := h
  refine ⟨fun n σ H => Nxt K cA G W F m De (whileN t b n) σ H, ⟨n, F, m, ρ, s, Same.refl F, List.prefix_refl m, R, en, h⟩, ?_⟩
  rintro n σ1 H1 ⟨F1, m1, ρ1, s1, e1, p1, R1, en1, h1⟩
  cases n with
  | zero => exact h1.elim
  | succ n =>
    rw [whileN_succ] at h1
    refine ⟨G, F1, m1, ρ1, s1, R1, en1, (PostS.then (rep := rpB) en1 h1).imp fun c H2 ⟨F2, m2, s2, c2, e2, p2, R2, r2, _, h2⟩ => ?_⟩
    have r2 : c = c2 := r2
    subst r2
    cases c with
    | true =>
      have h2 : PostS K cA G W F2 m2 De (loopO (b ρ1 s2) (whileN t b n)) := h2
      refine iteT ⟨Nxt K cA G W F2 m2 De (whileN t b n), fun σ' H' q => ⟨n, Nat.lt_succ_self n, q.mono (e1.trans e2) (p1.trans p2)⟩, G, F2, m2, ρ1, s2, R2, en1.mono e2 p2, PostS.loop h2⟩
    | false => exact iteF (PostS.now h2 R2 (en1.mono e2 p2))
end

/-! ### comprehensions -/
/-- what a comprehension's for stores into: names, tuples of these -/
inductive Tn where
  | nm (i : Nat)
  | tp (ts : List Tn)
mutual
def Tn.lay (K : PySem.W.Frag) : Tn → TG
  | .nm i => gName i
  | .tp ts => gTup K ts.length (Tn.lays K ts)
def Tn.lays (K : PySem.W.Frag) : List Tn → TGs
  | [] => gNil
  | t :: ts => gCons (Tn.lay K t) (Tn.lays K ts)
end
mutual
def Tn.tg : Tn → Tg
  | .nm i => gNm i
  | .tp ts => gTp ts.length (Tn.tgs ts)
def Tn.tgs : List Tn → Tgs
  | [] => gsNil
  | t :: ts => gsCons (Tn.tg t) (Tn.tgs ts)
end
mutual
def Tn.all (p : Nat → Bool) : Tn → Bool
  | .nm i => p i
  | .tp ts => Tn.alls p ts
def Tn.alls (p : Nat → Bool) : List Tn → Bool
  | [] => true
  | t :: ts => Tn.all p t && Tn.alls p ts
end
section
variable {K : PySem.W.Frag} {cA : Bg} {W : WX} {σ : L2.St} {G F F' : Hp} {m m' : List Addr} {ρ : En} {s : Sto} {H : Hp} {it : Ei} {g : Tg} {t : Et} {e : Ev} {vs : List Nat} {Q : VK}
abbrev W0 : WX := fun _ _ _ _ => False
theorem wipe_at {i : Nat} {x : Option V} : ∀ {vs : List Nat} {σ : L2.St}, i ∈ vs → L2.wipe (σ.set i x) vs = L2.wipe σ vs
  | [], _, h => by simp at h
  | v :: vs, σ, h => by
    show (L2.wipe (σ.set i x) vs).set v none = (L2.wipe σ vs).set v none
    by_cases hv : i ∈ vs
    · rw [wipe_at hv]
    · have e : i = v := by
        rcases List.mem_cons.mp h with h | h
        · exact h
        · exact absurd h hv
      subst e
      have q : L2.wipe (σ.set i x) vs = (L2.wipe σ vs).set i x := by
        clear h
        induction vs with
        | nil => rfl
        | cons w ws ih =>
          show (L2.wipe (σ.set i x) ws).set w none = ((L2.wipe σ ws).set w none).set i x
          rw [ih (fun z => hv (List.mem_cons_of_mem _ z)), List.set_comm _ _ (fun z => hv (by rw [z]; exact List.mem_cons_self))]
      rw [q, List.set_set]
theorem wipe_twice : ∀ {vs ws : List Nat} {σ : L2.St}, (∀ i ∈ ws, i ∈ vs) → L2.wipe (L2.wipe σ ws) vs = L2.wipe σ vs
  | _, [], _, _ => rfl
  | vs, w :: ws, σ, h => by
    show L2.wipe ((L2.wipe σ ws).set w none) vs = L2.wipe σ vs
    rw [wipe_at (h w List.mem_cons_self)]
    exact wipe_twice fun i hi => h i (List.mem_cons_of_mem _ hi)
mutual
theorem Tn.ok : ∀ (T : Tn) (d : D) (v : V) (ρ ρ1 : En) (σ : L2.St) (s s1 : Sto) (H : Hp) (Q : L2.St → Hp → Prop), Rel K cA G F m s H → EnR K F m ρ σ → RepV K F m d v → T.all (fun i => decide (i ∈ vs)) = true → T.tg d ρ s = .nx ρ1 s1 →
    (∀ σ1, s1 = s → EnR K F m ρ1 σ1 → L2.wipe σ1 vs = L2.wipe σ vs → Q σ1 H) → T.lay K v σ H Q
  | .nm i, d, v, ρ, ρ1, σ, s, s1, H, Q, R, en, r, hT, hg, hQ => by
    unfold Tn.tg gNm at hg
    cases hg
    unfold Tn.lay gName
    unfold Tn.all at hT
    exact hQ _ rfl (en.set r) (wipe_at (of_decide_eq_true hT))
  | .tp ts, d, v, ρ, ρ1, σ, s, s1, H, Q, R, en, r, hT, hg, hQ => by
    unfold Tn.tg gTp at hg
    unfold Tn.lay
    unfold Tn.all at hT
    split at hg
    · rename_i ds
      split at hg
      · rename_i hn
        obtain ⟨a, us, rfl, h1, h2⟩ := r
        exact ⟨a, us, rfl, SqT.of (R.ex _ _ h1), by rw [h2.len]; exact hn, Tn.oks ts ds us ρ ρ1 σ s s1 H Q R en h2 hT hg hQ⟩
      · cases hg
    · cases hg
theorem Tn.oks : ∀ (ts : List Tn) (ds : List D) (us : List V) (ρ ρ1 : En) (σ : L2.St) (s s1 : Sto) (H : Hp) (Q : L2.St → Hp → Prop), Rel K cA G F m s H → EnR K F m ρ σ → RepVs K F m ds us → Tn.alls (fun i => decide (i ∈ vs)) ts = true → Tn.tgs ts ds ρ s = .nx ρ1 s1 →
    (∀ σ1, s1 = s → EnR K F m ρ1 σ1 → L2.wipe σ1 vs = L2.wipe σ vs → Q σ1 H) → Tn.lays K ts us σ H Q
  | [], ds, us, ρ, ρ1, σ, s, s1, H, Q, R, en, r, hT, hg, hQ => by
    unfold Tn.tgs gsNil at hg
    unfold Tn.lays
    split at hg
    · cases hg
      have r : us = [] := r
      exact ⟨r, hQ σ rfl en rfl⟩
    · cases hg
  | T :: ts, ds, us, ρ, ρ1, σ, s, s1, H, Q, R, en, r, hT, hg, hQ => by
    unfold Tn.tgs at hg
    unfold Tn.lays
    unfold Tn.alls at hT
    rw [Bool.and_eq_true] at hT
    cases ds with
    | nil => cases hg
    | cons d ds =>
      obtain ⟨v, w, rfl, r1, r2⟩ := r
      rw [gsCons_eq] at hg
      unfold seqO at hg
      split at hg
      · rename_i ρ2 s2 h2
        refine ⟨v, w, rfl, Tn.ok T d v ρ ρ2 σ s s2 H _ R en r1 hT.1 h2 fun σ1 e1 en1 w1 => ?_⟩
        subst e1
        exact Tn.oks ts ds w ρ2 ρ1 σ1 s2 s1 H Q R en1 r2 hT.2 hg fun σ2 e2 en2 w2 => hQ σ2 e2 en2 (w2.trans w1)
      · rename_i x hx
        rw [hg] at hx
        exact (hx _ _ rfl).elim
end
theorem noExc_bind {α β : Type} (r : R α) (f : α → Sto → R β) : noExc (r.bind f) = (noExc r).bind fun a s => noExc (f a s) := by
  cases r <;> rfl
theorem post_noExc {α β : Type} {rep : Rp α β} {Q : β → Hp → Prop} {r : R α} {f : α → Sto → R D} {Qd : VK} (h : Post K cA G W RepV σ F m Qd ((noExc r).bind f)) (k : ∀ a s, r = .ok a s → Post K cA G W0 rep σ F m Q (.ok a s)) : Post K cA G W0 rep σ F m Q r := by
  cases r with
  | ok a s => exact k a s rfl
  | exc x s => exact h.elim
  | bad => exact h.elim
/-- a part of the turn, which raises nothing, then what follows -/
theorem post_part {Gp : Hp} {α β γ : Type} {rep : Rp α β} {r : R α} {f : α → Sto → R γ} {k : γ → Sto → R D} {Qd : VK} {σ2 : L2.St} (h : Post K cA Gp W RepV σ F m Qd ((noExc (r.bind f)).bind k)) :
    Post K cA G W0 rep σ2 F m (fun v H1 => ∃ F1 m1 s1 a, Same F F1 ∧ m <+: m1 ∧ Rel K cA G F1 m1 s1 H1 ∧ rep K F1 m1 a v ∧ r = .ok a s1 ∧ Post K cA Gp W RepV σ F1 m1 Qd ((noExc (f a s1)).bind k)) r := by
  cases r with
  | ok a s => exact fun F' m' v H' e1 p1 r1 r2 => ⟨F', m', s, a, e1, p1, r1, r2, rfl, Post.mono e1 p1 h⟩
  | exc x s => exact h.elim
  | bad => exact h.elim
/-- one turn of a comprehension whose list stands at L, beside the store -/
theorem lc_turn {Gp : Hp} {T : Tn} {L : Addr} {acc : List D} {us : List V} {d : D} {x : V} {σw : L2.St} {ρw : En} {rest : List D → Sto → R (List D)} {fin : List D → Sto → R D} {Nx : Hp → Prop}
    (hT : T.all (fun i => decide (i ∈ vs)) = true) (hGL : G L = some (.lst us)) (ra : RepVs K F m acc us) (hz : acc.length < szl) (R : Rel K cA G F m s H) (en : EnR K F m ρw σw) (r : RepV K F m d x)
    (h : Post K cA Gp W RepV σ F m Q ((noExc ((lcTurn T.tg t e ρw d acc s).bind rest)).bind fin))
    (hN : ∀ F1 m1 s1 acc1 us1 H1, Same F F1 → m <+: m1 → acc1.length ≤ acc.length + 1 → Rel K cA (upd G L (.lst us1)) F1 m1 s1 H1 → RepVs K F1 m1 acc1 us1 → Post K cA Gp W RepV σ F1 m1 Q ((noExc (rest acc1 s1)).bind fin) → Nx H1) :
    T.lay K x σw H fun σ2 H2 => L2.wipe σ2 vs = L2.wipe σw vs ∧ rT K cA W0 t σ2 H2 fun b H3 => if b = true then rE K cA W0 e σ2 H3 fun y H4 => ∃ acc, H4 L = some (.lst acc) ∧ acc.length < sizeLine ∧ Nx (upd H4 L (.lst (acc ++ [y]))) else Nx H3 := by
  unfold lcTurn at h
  split at h
  · rename_i ρ1 s1 hg
    refine Tn.ok T d x ρw ρ1 σw s s1 H _ R en r hT hg fun σ1 e1 en1 w1 => ⟨w1, ?_⟩
    subst e1
    have h : Post K cA Gp W RepV σ F m Q ((noExc ((t ρ1 s1).bind fun c s2 => ((if c then (e ρ1 s2).bind fun y s3 => .ok (acc ++ [y]) s3 else .ok acc s2 : Rh.R (List D)).bind rest))).bind fin) := by
      cases q : t ρ1 s1 with
      | ok a s => rw [q] at h; exact h
      | exc a s => rw [q] at h; exact h
      | bad => rw [q] at h; exact h
    refine ⟨G, F, m, ρ1, s1, R, en1, (post_part (rep := rpB) (σ2 := σ1) h).imp fun c H3 ⟨F3, m3, s3, c3, e3, p3, R3, r3, _, h3⟩ => ?_⟩
    have r3 : c = c3 := r3
    subst r3
    have us3 := RepVs.mono e3 p3 _ _ ra
    cases c with
    | false =>
      refine iteF (hN F3 m3 s3 acc us H3 e3 p3 (Nat.le_succ _) ?_ us3 h3)
      have hL := R3.gs L _ hGL
      obtain ⟨g1, g2⟩ := R3.gf L _ hGL
      exact R3.ghost hL g1 g2
    | true =>
      have h3 : Post K cA Gp W RepV σ F3 m3 Q ((noExc ((e ρ1 s3).bind fun y s4 => rest (acc ++ [y]) s4)).bind fin) := by
        cases q : e ρ1 s3 with
        | ok a s => rw [q] at h3; exact h3
        | exc a s => rw [q] at h3; exact h3
        | bad => rw [q] at h3; exact h3
      refine iteT ⟨G, F3, m3, ρ1, s3, R3, en1.mono e3 p3, (post_part (rep := RepV) (σ2 := σ1) h3).imp fun y H4 ⟨F4, m4, s4, d4, e4, p4, R4, r4, _, h4⟩ => ?_⟩
      have us4 := RepVs.mono e4 p4 _ _ us3
      have hL := R4.gs L _ hGL
      obtain ⟨g1, g2⟩ := R4.gf L _ hGL
      refine ⟨us, hL, by rw [us4.len, ← szl_eq]; exact hz, hN F4 m4 s4 (acc ++ [d4]) (us ++ [y]) _ (e3.trans e4) (p3.trans p4) (by simp) ?_ (us4.append (.one r4)) h4⟩
      refine ⟨fun b o q => ?_, R4.len, R4.nd, R4.fr, fun b o q => ?_, fun b o q => ?_, tabs_upd R4.tb ⟨fun ps z => (by rw [hL] at z; cases z), fun φ z => (by rw [hL] at z; cases z)⟩, ⟨R4.nt.1, R4.nt.2.upd (by intro ps h; cases h)⟩, fun l a ob q1 q2 => ?_⟩
      · rw [upd_ne (fun z => by rw [z, g1] at q; cases q)]
        exact R4.ex b o q
      · by_cases hb : b = L
        · subst hb
          rw [upd_same] at q ⊢
          exact q
        · rw [upd_ne hb] at q ⊢
          exact R4.gs b o q
      · by_cases hb : b = L
        · subst hb
          exact ⟨g1, g2⟩
        · rw [upd_ne hb] at q
          exact R4.gf b o q
      · have hal : a ≠ L := fun z => g2 (by rw [← z]; exact List.mem_of_getElem? q1)
        rw [upd_ne hal]
        exact R4.ob l a ob q1 q2
  · exact h.elim
/-- a comprehension over anything that is walked; what is made of the list at the end: fin -/
theorem rd_lc {T : Tn} {fin : List D → Sto → R D} (hT : T.all (fun i => decide (i ∈ vs)) = true)
    (hfin : ∀ (G F : Hp) (m : List Addr) (s : Sto) (H : Hp) (acc : List D) (us : List V) (L : Addr), G L = none → Rel K cA (upd G L (.lst us)) F m s H → RepVs K F m acc us → acc.length ≤ szl → Post K cA G W RepV σ F m Q (fin acc s) → Q (.ref L) H)
    (h : rE K cA W (fun ρ s => (lcAll it T.tg t e vs ρ s).bind fin) σ H Q) : tLc (rI K cA W it) (T.lay K) (rT K cA W0 t) (rE K cA W0 e) vs σ H Q := by
  obtain ⟨G, F, m, ρ, s, R, en, h⟩ := h
  have h0 : Post K cA G W RepV σ F m Q ((it ρ s).bind fun J s1 => (match J with
    | .its ds => noExc (lcIts (lcTurn T.tg t e (Rh.wipe ρ vs)) ds [] s1)
    | .live vw => noExc (lcLive vw (lcTurn T.tg t e (Rh.wipe ρ vs)) (vwLen s1 vw) 0 [] s1)).bind fin) := by
    unfold lcAll at h
    dsimp only at h
    cases q : it ρ s with
    | ok a s => rw [q] at h; exact h
    | exc a s => rw [q] at h; exact h
    | bad => rw [q] at h; exact h
  refine ⟨G, F, m, ρ, s, R, en, (Post.bind (rep := rpI cA) h0).imp fun J H1 ⟨F1, m1, s1, it1, e1, p1, R1, r1, _, h1⟩ L hL => ?_⟩
  have en1 := (en.mono e1 p1).wipe vs
  have hGL : G L = none := R1.gs.free hL
  have hFL : F1 L = none := R1.free hL
  have hmL := R1.notMem hL
  have R1' : Rel K cA (upd G L (.lst [])) F1 m1 s1 (upd H1 L (.lst [])) := (R1.beside hL hFL hGL hmL _).ghost upd_same hFL hmL
  have ww : L2.wipe (L2.wipe σ vs) vs = L2.wipe σ vs := wipe_twice fun _ h => h
  cases it1 with
  | its ds =>
    have r1 : Feeds K cA F1 m1 ds J := r1
    refine ⟨fun i n H => n = ds.length - i ∧ i ≤ ds.length ∧ ∃ F m s acc us, Same F1 F ∧ m1 <+: m ∧ Rel K cA (upd G L (.lst us)) F m s H ∧ RepVs K F m acc us ∧ acc.length ≤ i ∧ Post K cA G W RepV σ F m Q ((noExc (lcIts (lcTurn T.tg t e (Rh.wipe ρ vs)) (ds.drop i) acc s)).bind fin),
      ⟨ds.length, by simp, Nat.zero_le _, F1, m1, s1, [], [], Same.refl F1, List.prefix_refl m1, R1', rfl, Nat.le_refl _, h1⟩, ?_⟩
    rintro i n H2 ⟨rfl, hi, F2, m2, s2, acc, us, e2, p2, R2, ra, hl, h2⟩
    by_cases hlt : i < ds.length
    · have hd : ds[i]? = some ds[i] := List.getElem?_eq_getElem hlt
      obtain ⟨g1, g2⟩ := r1.go i ds[i] _ F2 m2 s2 H2 hd e2 p2 R2
      refine .inr ⟨g1, fun H' => ∃ F m s acc us, Same F1 F ∧ m1 <+: m ∧ Rel K cA (upd G L (.lst us)) F m s H' ∧ RepVs K F m acc us ∧ acc.length ≤ i + 1 ∧ Post K cA G W RepV σ F m Q ((noExc (lcIts (lcTurn T.tg t e (Rh.wipe ρ vs)) (ds.drop (i + 1)) acc s)).bind fin),
        fun H' q => ⟨ds.length - (i + 1), by omega, rfl, hlt, q⟩, fun x H' y => ?_⟩
      obtain ⟨F3, e3, R3, r3⟩ := g2 x H' y
      rw [List.drop_eq_getElem_cons hlt, lcIts] at h2
      have z := lc_turn (T := T) (L := L) (σw := L2.wipe σ vs) hT upd_same (RepVs.mono e3 (List.prefix_refl m2) _ _ ra) (by have := r1.len; omega) R3 (en1.mono (e2.trans e3) p2) r3 (Post.mono e3 (List.prefix_refl m2) h2)
        (Nx := fun H' => ∃ F m s acc us, Same F1 F ∧ m1 <+: m ∧ Rel K cA (upd G L (.lst us)) F m s H' ∧ RepVs K F m acc us ∧ acc.length ≤ i + 1 ∧ Post K cA G W RepV σ F m Q ((noExc (lcIts (lcTurn T.tg t e (Rh.wipe ρ vs)) (ds.drop (i + 1)) acc s)).bind fin))
        (fun F4 m4 s4 acc4 us4 H4 e4 p4 l4 R4 u4 q4 => ⟨F4, m4, s4, acc4, us4, (e2.trans e3).trans e4, p2.trans p4, by rw [upd_upd] at R4; exact R4, u4, by omega, q4⟩)
      rw [ww] at z
      exact z
    · have e : i = ds.length := by omega
      subst e
      rw [List.drop_length, lcIts] at h2
      exact .inl ⟨r1.stop _ F2 m2 s2 H2 e2 p2 R2, hfin G F2 m2 s2 H2 acc us L hGL R2 ra (Nat.le_trans hl r1.len) h2⟩
  | live vw =>
    have r1 : FeedsL K cA F1 m1 vw J := r1
    have hz0 : vwLen s1 vw ≤ szl := by
      unfold vwLen
      split
      · rename_i ds hv
        exact r1.len ds _ F1 m1 s1 H1 hv (Same.refl F1) (List.prefix_refl m1) R1
      · exact Nat.zero_le _
    refine ⟨fun i n H => i + n ≤ szl ∧ ∃ F m s acc us, Same F1 F ∧ m1 <+: m ∧ Rel K cA (upd G L (.lst us)) F m s H ∧ RepVs K F m acc us ∧ acc.length ≤ i ∧ Post K cA G W RepV σ F m Q ((noExc (lcLive vw (lcTurn T.tg t e (Rh.wipe ρ vs)) n i acc s)).bind fin),
      ⟨vwLen s1 vw, by omega, F1, m1, s1, [], [], Same.refl F1, List.prefix_refl m1, R1', rfl, Nat.le_refl _, h1⟩, ?_⟩
    rintro i n H2 ⟨hi, F2, m2, s2, acc, us, e2, p2, R2, ra, hl, h2⟩
    cases n with
    | zero =>
      rw [lcLive] at h2
      split at h2
      · rename_i ds hv
        split at h2
        · rename_i hle
          exact .inl ⟨r1.stop i ds _ F2 m2 s2 H2 hv hle e2 p2 R2, hfin G F2 m2 s2 H2 acc us L hGL R2 ra (by omega) h2⟩
        · exact h2.elim
      · exact h2.elim
    | succ n =>
      rw [lcLive] at h2
      split at h2
      · rename_i ds hv
        split at h2
        · rename_i hd
          exact .inl ⟨r1.stop i ds _ F2 m2 s2 H2 hv (List.getElem?_eq_none_iff.mp hd) e2 p2 R2, hfin G F2 m2 s2 H2 acc us L hGL R2 ra (by omega) h2⟩
        · rename_i d hd
          obtain ⟨g1, g2⟩ := r1.go i d ds _ F2 m2 s2 H2 hv hd e2 p2 R2
          refine .inr ⟨g1, fun H' => ∃ F m s acc us, Same F1 F ∧ m1 <+: m ∧ Rel K cA (upd G L (.lst us)) F m s H' ∧ RepVs K F m acc us ∧ acc.length ≤ i + 1 ∧ Post K cA G W RepV σ F m Q ((noExc (lcLive vw (lcTurn T.tg t e (Rh.wipe ρ vs)) n (i + 1) acc s)).bind fin),
            fun H' q => ⟨n, Nat.lt_succ_self n, by omega, q⟩, fun x H' y => ?_⟩
          obtain ⟨F3, e3, R3, r3⟩ := g2 x H' y
          have z := lc_turn (T := T) (L := L) (σw := L2.wipe σ vs) hT upd_same (RepVs.mono e3 (List.prefix_refl m2) _ _ ra) (by omega) R3 (en1.mono (e2.trans e3) p2) r3 (Post.mono e3 (List.prefix_refl m2) h2)
            (Nx := fun H' => ∃ F m s acc us, Same F1 F ∧ m1 <+: m ∧ Rel K cA (upd G L (.lst us)) F m s H' ∧ RepVs K F m acc us ∧ acc.length ≤ i + 1 ∧ Post K cA G W RepV σ F m Q ((noExc (lcLive vw (lcTurn T.tg t e (Rh.wipe ρ vs)) n (i + 1) acc s)).bind fin))
            (fun F4 m4 s4 acc4 us4 H4 e4 p4 l4 R4 u4 q4 => ⟨F4, m4, s4, acc4, us4, (e2.trans e3).trans e4, p2.trans p4, by rw [upd_upd] at R4; exact R4, u4, by omega, q4⟩)
          rw [ww] at z
          exact z
      · exact h2.elim
theorem ghost_less {L : Addr} {us : List V} (h : G L = none) : Same G (fun b => if b = L then none else upd G L (.lst us) b) := fun b o e => by
  have hb : b ≠ L := ne_of_none e h
  dsimp only
  rw [if_neg hb, upd_ne hb]
  exact e
theorem rd_lcC {T : Tn} (hT : T.all (fun i => decide (i ∈ vs)) = true) (h : rE K cA W (eLcC it T.tg t e vs) σ H Q) : tLc (rI K cA W it) (T.lay K) (rT K cA W0 t) (rE K cA W0 e) vs σ H Q :=
  rd_lc (fin := fun ds s1 => .ok (.cl ds) s1) hT (fun G F m s H acc us L hG R ra hz q => by
    have hL : H L = some (.lst us) := R.gs L _ upd_same
    obtain ⟨g1, g2⟩ := R.gf L _ upd_same
    have sF : Same F (upd F L (.lst us)) := Same.upd g1
    exact q _ m (.ref L) H sF (List.prefix_refl m) ((R.adopt hL g1 g2).less (ghost_less hG)) ⟨L, us, rfl, upd_same, hz, RepVs.mono sF (List.prefix_refl m) _ _ ra⟩) h
theorem rd_lcL {T : Tn} (hT : T.all (fun i => decide (i ∈ vs)) = true) (h : rE K cA W (eLc it T.tg t e vs) σ H Q) : tLc (rI K cA W it) (T.lay K) (rT K cA W0 t) (rE K cA W0 e) vs σ H Q :=
  rd_lc (fin := fun ds s1 => .ok (.ref s1.length) (s1 ++ [Ob.lst ds])) hT (fun G F m s H acc us L hG R ra hz q => by
    have hL : H L = some (.lst us) := R.gs L _ upd_same
    obtain ⟨g1, g2⟩ := R.gf L _ upd_same
    exact q F (m ++ [L]) (.ref L) H (Same.refl F) (List.prefix_append m [L]) ((R.adoptOb (o := .lst acc) hL g1 g2 ⟨us, rfl, hz, RepVs.mono (Same.refl F) (List.prefix_append m [L]) _ _ ra⟩).less (ghost_less hG)) R.newRef) h
end
end Rh
end

section
set_option Elab.async false
set_option linter.all false
set_option maxRecDepth 100000
set_option maxHeartbeats 1000000
/-! What is walked; comprehensions and fors of the text. -/
namespace Rh
open PySem L2

def vwLst (l : Nat) : Sto → Option (List D) := fun s => lstOf s (.ref l)
/-- the value of an expression is walked -/
def itVal (d : D) (s : Sto) : R Rh.It := match d with
  | .tup ds => if ds.length ≤ szl then .ok (.its ds) s else .bad
  | .cl ds => .ok (.its ds) s
  | .fz ds => .ok (.its ds) s
  | .ref l => match s[l]? with
    | some (.lst _) => .ok (.live (vwLst l)) s
    | _ => .bad
  | _ => .bad
def iVal (e : Ev) : Ei := fun ρ s => (e ρ s).bind itVal
def rngD (lo : Int) (n : Nat) : List D := (List.range n).map fun i : Nat => D.int (lo + (i : Int))
def itRange1 : List D → Sto → R Rh.It
  | [.int j], s => if -(2 ^ 62) ≤ j ∧ j < 2 ^ 62 ∧ j.toNat ≤ szl then .ok (.its (rngD 0 j.toNat)) s else .bad
  | _, _ => .bad
def itRange2 : List D → Sto → R Rh.It
  | [.int i, .int j], s => if (-(2 ^ 62) ≤ i ∧ i < 2 ^ 62 ∧ -(2 ^ 62) ≤ j ∧ j < 2 ^ 62) ∧ (j - i).toNat ≤ szl then .ok (.its (rngD i (j - i).toNat)) s else .bad
  | _, _ => .bad
def iRange1 (a : Ea) : Ei := fun ρ s => (a ρ s).bind itRange1
def iRange2 (a : Ea) : Ei := fun ρ s => (a ρ s).bind itRange2
def enumD (ds : List D) : List D := ds.zipIdx.map fun p => .tup [.int (p.2 : Int), p.1]
def zipD (ds es : List D) : List D := (ds.zip es).map fun p => .tup [p.1, p.2]
/-- a list that is told at once, or as it stands -/
def isRefD : D → Bool
  | .ref _ => true
  | _ => false
def itEnum : List D → Sto → R Rh.It
  | [d], s => (match lstOf s d with
    | some ds => if isRefD d then .ok (.live fun s => (lstOf s d).map enumD) s else .ok (.its (enumD ds)) s
    | none => .bad)
  | _, _ => .bad
def iEnum (a : Ea) : Ei := fun ρ s => (a ρ s).bind itEnum
def vwZip (d e : D) : Sto → Option (List D) := fun s => match lstOf s d, lstOf s e with
  | some ds, some es => some (zipD ds es)
  | _, _ => none
def itZip : List D → Sto → R Rh.It
  | [d, e], s => (match lstOf s d, lstOf s e with
    | some ds, some es => if isRefD d || isRefD e then .ok (.live (vwZip d e)) s else .ok (.its (zipD ds es)) s
    | _, _ => .bad)
  | _, _ => .bad
def iZip (a : Ea) : Ei := fun ρ s => (a ρ s).bind itZip

section
variable {K : PySem.W.Frag} {cA : Bg} {W : WX} {σ : L2.St} {G F : Hp} {m : List Addr} {s : Sto} {H : Hp} {Q : L2.It → Hp → Prop}
theorem postI_now {it : Rh.It} {J : L2.It} (h : Post K cA G W (rpI cA) σ F m Q (.ok it s)) (R : Rel K cA G F m s H) (r : rpI cA K F m it J) : Q J H := h F m J H (Same.refl F) (List.prefix_refl m) R r
theorem rd_stepI {α β : Type} {rep : Rp α β} {Qb : β → Hp → Prop} {a : En → Sto → R α} {f : α → Sto → R Rh.It}
    (h : rd K cA W (rpI cA) (fun ρ s => (a ρ s).bind f) σ H Q) (k : ∀ G F m s d v H1, Rel K cA G F m s H1 → rep K F m d v → Post K cA G W (rpI cA) σ F m Q (f d s) → Qb v H1) : rd K cA W rep a σ H Qb := by
  obtain ⟨G, F, m, ρ, s, R, en, h⟩ := h
  exact ⟨G, F, m, ρ, s, R, en, (Post.bind h).imp fun x H1 ⟨F1, m1, s1, d, e1, p1, R1, r1, _, h1⟩ => k G F1 m1 s1 d x H1 R1 r1 h1⟩
/-- a frozen list -/
theorem feeds_list {a : Addr} {ds : List D} {vs : List V} (h1 : SqL K F a vs) (hz : ds.length ≤ szl) (r : RepVs K F m ds vs) : Feeds K cA F m ds (Itl K a) := by
  refine ⟨hz, fun i d G' F' m' s' H' hd e p R => ?_, fun G' F' m' s' H' e p R => ?_⟩
  · obtain ⟨v, g1, g2⟩ := r.get hd
    have hs : SqL K H' a vs := R.ex.seq (e.seq h1)
    refine ⟨⟨vs, v, hs, g1⟩, fun x H2 y => ?_⟩
    obtain ⟨rfl, y⟩ := y
    have q := y vs hs
    rw [g1] at q
    cases q
    exact ⟨F', Same.refl F', R, RepV.mono e p _ _ g2⟩
  · exact ⟨vs, R.ex.seq (e.seq h1), by rw [r.len]; exact Nat.le_refl _⟩
theorem feeds_tup {a : Addr} {ds : List D} {vs : List V} (h1 : F a = some (.tup vs)) (hz : ds.length ≤ szl) (r : RepVs K F m ds vs) : Feeds K cA F m ds (Itt K a) := by
  refine ⟨hz, fun i d G' F' m' s' H' hd e p R => ?_, fun G' F' m' s' H' e p R => ?_⟩
  · obtain ⟨v, g1, g2⟩ := r.get hd
    have hs : SqT K H' a vs := SqT.of (R.ex _ _ (e _ _ h1))
    refine ⟨⟨vs, v, hs, g1⟩, fun x H2 y => ?_⟩
    obtain ⟨rfl, y⟩ := y
    have q := y vs hs
    rw [g1] at q
    cases q
    exact ⟨F', Same.refl F', R, RepV.mono e p _ _ g2⟩
  · exact ⟨vs, SqT.of (R.ex _ _ (e _ _ h1)), by rw [r.len]; exact Nat.le_refl _⟩
theorem feeds_live {l : Nat} {a : Addr} (hl : m[l]? = some a) : FeedsL K cA F m (vwLst l) (Itl K a) := by
  have at' : ∀ {G' F' : Hp} {m' : List Addr} {s' : Sto} {H' : Hp} {ds : List D}, vwLst l s' = some ds → m <+: m' → Rel K cA G' F' m' s' H' → ∃ vs, H' a = some (.lst vs) ∧ ds.length ≤ szl ∧ RepVs K F' m' ds vs := by
    intro G' F' m' s' H' ds hv p R
    obtain ⟨b, vs, e1, g2, g3, g4⟩ := lstOwn_rep (K := K) (d := .ref l) (x := .ref a) R ⟨a, rfl, pre_get p hl⟩ hv
    cases e1
    exact ⟨vs, g2, g3, g4⟩
  refine ⟨fun ds G' F' m' s' H' hv e p R => ?_, fun i d ds G' F' m' s' H' hv hd e p R => ?_, fun i ds G' F' m' s' H' hv hle e p R => ?_⟩
  · obtain ⟨vs, _, g, _⟩ := at' hv p R
    exact g
  · obtain ⟨vs, g1, _, g3⟩ := at' hv p R
    obtain ⟨v, g4, g5⟩ := g3.get hd
    refine ⟨⟨vs, v, SqL.of g1, g4⟩, fun x H2 y => ?_⟩
    obtain ⟨rfl, y⟩ := y
    have q := y vs (SqL.of g1)
    rw [g4] at q
    cases q
    exact ⟨F', Same.refl F', R, g5⟩
  · obtain ⟨vs, g1, _, g3⟩ := at' hv p R
    exact ⟨vs, SqL.of g1, by rw [g3.len]; exact hle⟩
theorem rngD_get {lo : Int} {n i : Nat} {d : D} (h : (rngD lo n)[i]? = some d) : i < n ∧ d = .int (lo + (i : Int)) := by
  unfold rngD at h
  rw [List.getElem?_map] at h
  by_cases hi : i < n
  · rw [List.getElem?_range hi] at h
    cases h
    exact ⟨hi, rfl⟩
  · rw [List.getElem?_eq_none (by rw [List.length_range]; omega)] at h
    cases h
theorem rngD_len (lo : Int) (n : Nat) : (rngD lo n).length = n := by
  unfold rngD
  rw [List.length_map, List.length_range]
theorem feeds_range {lo : Int} {n : Nat} (hz : n ≤ szl) : Feeds K cA F m (rngD lo n) (Itr lo n) := by
  refine ⟨by rw [rngD_len]; exact hz, fun i d G' F' m' s' H' hd e p R => ?_, fun G' F' m' s' H' e p R => ?_⟩
  · obtain ⟨h1, rfl⟩ := rngD_get hd
    refine ⟨h1, fun x H2 y => ?_⟩
    obtain ⟨rfl, rfl⟩ := y
    exact ⟨F', Same.refl F', R, rfl⟩
  · show n ≤ (rngD lo n).length
    rw [rngD_len]
    exact Nat.le_refl _
/-! pairs made on the way -/
theorem tup2_new {G F : Hp} {m : List Addr} {s : Sto} {H : Hp} {T : Addr} {d e : D} {x y : V} (R : Rel K cA G F m s H) (hT : H T = none) (r1 : RepV K F m d x) (r2 : RepV K F m e y) : ∃ F', Same F F' ∧ Rel K cA G F' m s (upd H T (.tup [x, y])) ∧ RepV K F' m (.tup [d, e]) (.ref T) := by
  have sF : Same F (upd F T (.tup [x, y])) := Same.upd (R.free hT)
  exact ⟨_, sF, R.frozen hT _, T, [x, y], rfl, upd_same, x, [y], rfl, RepV.mono sF (List.prefix_refl m) _ _ r1, y, [], rfl, RepV.mono sF (List.prefix_refl m) _ _ r2, rfl⟩
theorem enumD_get {ds : List D} {i : Nat} {d : D} (h : (enumD ds)[i]? = some d) : ∃ e, ds[i]? = some e ∧ d = .tup [.int (i : Int), e] := by
  unfold enumD at h
  rw [List.getElem?_map, List.getElem?_zipIdx] at h
  cases q : ds[i]? with
  | none => rw [q] at h; cases h
  | some e =>
    rw [q] at h
    cases h
    exact ⟨e, rfl, by rw [Nat.zero_add]⟩
theorem enumD_len (ds : List D) : (enumD ds).length = ds.length := by
  unfold enumD
  rw [List.length_map, List.length_zipIdx]
/-- how a list value stands at each later place -/
theorem lst_later {d : D} {x : V} (r : RepV K F m d x) {ds : List D} (R : Rel K cA G F m s H) (h : lstOf s d = some ds) : ∃ a, x = .ref a ∧ ∀ (G' F' : Hp) (m' : List Addr) (s' : Sto) (H' : Hp) (ds' : List D), lstOf s' d = some ds' → Same F F' → m <+: m' → Rel K cA G' F' m' s' H' → ∃ vs, SqL K H' a vs ∧ ds'.length ≤ szl ∧ RepVs K F' m' ds' vs := by
  obtain ⟨a, vs, rfl, _⟩ := lstOf_rep R r h
  refine ⟨a, rfl, fun G' F' m' s' H' ds' h' e p R' => ?_⟩
  obtain ⟨b, ws, e1, g⟩ := lstOf_rep R' (RepV.mono e p _ _ r) h'
  cases e1
  exact ⟨ws, g⟩
theorem lstOf_still {d : D} (hn : isRefD d = false) (s s' : Sto) : lstOf s d = lstOf s' d := by
  cases d <;> first | rfl | cases hn
theorem feeds_enum {d : D} {x : V} (r : RepV K F m d x) {ds : List D} (R : Rel K cA G F m s H) (h : lstOf s d = some ds) : ∃ a, x = .ref a ∧ (∃ xs, SqL K H a xs) ∧ (isRefD d = false → Feeds K cA F m (enumD ds) (Ite K a)) ∧ FeedsL K cA F m (fun s => (lstOf s d).map enumD) (Ite K a) := by
  obtain ⟨a, rfl, hl⟩ := lst_later r R h
  have go : ∀ (i : Nat) (z : D) (ds' : List D) (G' F' : Hp) (m' : List Addr) (s' : Sto) (H' : Hp), lstOf s' d = some ds' → (enumD ds')[i]? = some z → Same F F' → m <+: m' → Rel K cA G' F' m' s' H' → (Ite K a).go i H' ∧ ∀ x H2, (Ite K a).yld i H' x H2 → ∃ F'', Same F' F'' ∧ Rel K cA G' F'' m' s' H2 ∧ RepV K F'' m' z x := by
    intro i z ds' G' F' m' s' H' h' hz e p R'
    obtain ⟨vs, g1, g2, g3⟩ := hl G' F' m' s' H' ds' h' e p R'
    obtain ⟨y, hy, rfl⟩ := enumD_get hz
    obtain ⟨v, g4, g5⟩ := g3.get hy
    refine ⟨⟨vs, v, g1, g4⟩, fun x H2 yl => ?_⟩
    obtain ⟨T, w, rfl, hT, rfl, f⟩ := yl
    have q := f vs g1
    rw [g4] at q
    cases q
    exact tup2_new (d := .int (i : Int)) R' hT rfl g5
  have stop : ∀ (i : Nat) (ds' : List D) (G' F' : Hp) (m' : List Addr) (s' : Sto) (H' : Hp), lstOf s' d = some ds' → ds'.length ≤ i → Same F F' → m <+: m' → Rel K cA G' F' m' s' H' → (Ite K a).stop i H' := by
    intro i ds' G' F' m' s' H' h' hi e p R'
    obtain ⟨vs, g1, g2, g3⟩ := hl G' F' m' s' H' ds' h' e p R'
    exact ⟨vs, g1, by rw [g3.len]; exact hi⟩
  obtain ⟨vs0, k1, k2, k3⟩ := hl G F m s H ds h (Same.refl F) (List.prefix_refl m) R
  refine ⟨a, rfl, ⟨vs0, k1⟩, fun hn => ⟨by rw [enumD_len]; exact k2, fun i z G' F' m' s' H' hz e p R' => ?_, fun G' F' m' s' H' e p R' => ?_⟩, ?_, ?_, ?_⟩
  · exact go i z ds G' F' m' s' H' (by rw [lstOf_still hn s' s]; exact h) hz e p R'
  · exact stop _ ds G' F' m' s' H' (by rw [lstOf_still hn s' s]; exact h) (by rw [enumD_len]; exact Nat.le_refl _) e p R'
  · intro es G' F' m' s' H' hv e p R'
    cases q : lstOf s' d with
    | none => rw [q] at hv; cases hv
    | some ds' =>
      rw [q] at hv
      cases hv
      obtain ⟨vs, g1, g2, g3⟩ := hl G' F' m' s' H' ds' q e p R'
      rw [enumD_len]
      exact g2
  · intro i z es G' F' m' s' H' hv hz e p R'
    cases q : lstOf s' d with
    | none => rw [q] at hv; cases hv
    | some ds' =>
      rw [q] at hv
      cases hv
      exact go i z ds' G' F' m' s' H' q hz e p R'
  · intro i es G' F' m' s' H' hv hi e p R'
    cases q : lstOf s' d with
    | none => rw [q] at hv; cases hv
    | some ds' =>
      rw [q] at hv
      cases hv
      rw [enumD_len] at hi
      exact stop i ds' G' F' m' s' H' q hi e p R'
theorem zipD_get {ds es : List D} {i : Nat} {z : D} (h : (zipD ds es)[i]? = some z) : ∃ d e, ds[i]? = some d ∧ es[i]? = some e ∧ z = .tup [d, e] := by
  unfold zipD at h
  rw [List.getElem?_map] at h
  cases q : (ds.zip es)[i]? with
  | none => rw [q] at h; cases h
  | some p =>
    rw [q] at h
    cases h
    obtain ⟨h1, h2⟩ := List.getElem?_zip_eq_some.mp q
    exact ⟨p.1, p.2, h1, h2, rfl⟩
theorem zipD_len (ds es : List D) : (zipD ds es).length = min ds.length es.length := by
  unfold zipD
  rw [List.length_map, List.length_zip]
theorem feeds_zip {d d2 : D} {x x2 : V} (r : RepV K F m d x) (r2 : RepV K F m d2 x2) {ds es : List D} (R : Rel K cA G F m s H) (h : lstOf s d = some ds) (h2 : lstOf s d2 = some es) :
    ∃ a b xs ys, x = .ref a ∧ x2 = .ref b ∧ SqL K H a xs ∧ SqL K H b ys ∧ ((isRefD d || isRefD d2) = false → Feeds K cA F m (zipD ds es) (Itz K a b)) ∧ FeedsL K cA F m (vwZip d d2) (Itz K a b) := by
  obtain ⟨a, rfl, hl⟩ := lst_later r R h
  obtain ⟨b, rfl, hl2⟩ := lst_later r2 R h2
  have go : ∀ (i : Nat) (z : D) (ds' es' : List D) (G' F' : Hp) (m' : List Addr) (s' : Sto) (H' : Hp), lstOf s' d = some ds' → lstOf s' d2 = some es' → (zipD ds' es')[i]? = some z → Same F F' → m <+: m' → Rel K cA G' F' m' s' H' → (Itz K a b).go i H' ∧ ∀ x H2, (Itz K a b).yld i H' x H2 → ∃ F'', Same F' F'' ∧ Rel K cA G' F'' m' s' H2 ∧ RepV K F'' m' z x := by
    intro i z ds' es' G' F' m' s' H' h' h2' hz e p R'
    obtain ⟨vs, g1, g2, g3⟩ := hl G' F' m' s' H' ds' h' e p R'
    obtain ⟨ws, f1, f2, f3⟩ := hl2 G' F' m' s' H' es' h2' e p R'
    obtain ⟨y, y2, hy, hy2, rfl⟩ := zipD_get hz
    obtain ⟨v, g4, g5⟩ := g3.get hy
    obtain ⟨w, f4, f5⟩ := f3.get hy2
    refine ⟨⟨vs, ws, v, w, g1, f1, g4, f4⟩, fun x H2 yl => ?_⟩
    obtain ⟨T, u, u2, rfl, hT, rfl, k1, k2⟩ := yl
    have q := k1 vs g1
    rw [g4] at q
    cases q
    have q := k2 ws f1
    rw [f4] at q
    cases q
    exact tup2_new R' hT g5 f5
  have stop : ∀ (i : Nat) (ds' es' : List D) (G' F' : Hp) (m' : List Addr) (s' : Sto) (H' : Hp), lstOf s' d = some ds' → lstOf s' d2 = some es' → (zipD ds' es').length ≤ i → Same F F' → m <+: m' → Rel K cA G' F' m' s' H' → (Itz K a b).stop i H' := by
    intro i ds' es' G' F' m' s' H' h' h2' hi e p R'
    obtain ⟨vs, g1, g2, g3⟩ := hl G' F' m' s' H' ds' h' e p R'
    obtain ⟨ws, f1, f2, f3⟩ := hl2 G' F' m' s' H' es' h2' e p R'
    rw [zipD_len] at hi
    exact ⟨vs, ws, g1, f1, by rw [g3.len, f3.len]; omega⟩
  have vw : ∀ (s' : Sto) (zs : List D), vwZip d d2 s' = some zs → ∃ ds' es', lstOf s' d = some ds' ∧ lstOf s' d2 = some es' ∧ zs = zipD ds' es' := by
    intro s' zs h
    unfold vwZip at h
    split at h
    · rename_i ds' es' q1 q2
      cases h
      exact ⟨ds', es', q1, q2, rfl⟩
    · cases h
  obtain ⟨vs0, k1, k2, k3⟩ := hl G F m s H ds h (Same.refl F) (List.prefix_refl m) R
  obtain ⟨ws0, k4, k5, k6⟩ := hl2 G F m s H es h2 (Same.refl F) (List.prefix_refl m) R
  refine ⟨a, b, vs0, ws0, rfl, rfl, k1, k4, fun hn => ?_, ?_, ?_, ?_⟩
  · rw [Bool.or_eq_false_iff] at hn
    have s1 : ∀ s', lstOf s' d = some ds := fun s' => by rw [lstOf_still hn.1 s' s]; exact h
    have s2 : ∀ s', lstOf s' d2 = some es := fun s' => by rw [lstOf_still hn.2 s' s]; exact h2
    exact ⟨by rw [zipD_len]; omega, fun i z G' F' m' s' H' hz e p R' => go i z ds es G' F' m' s' H' (s1 s') (s2 s') hz e p R', fun G' F' m' s' H' e p R' => stop _ ds es G' F' m' s' H' (s1 s') (s2 s') (Nat.le_refl _) e p R'⟩
  · intro zs G' F' m' s' H' hv e p R'
    obtain ⟨ds', es', q1, q2, rfl⟩ := vw s' zs hv
    obtain ⟨vs, g1, g2, g3⟩ := hl G' F' m' s' H' ds' q1 e p R'
    rw [zipD_len]
    omega
  · intro i z zs G' F' m' s' H' hv hz e p R'
    obtain ⟨ds', es', q1, q2, rfl⟩ := vw s' zs hv
    exact go i z ds' es' G' F' m' s' H' q1 q2 hz e p R'
  · intro i zs G' F' m' s' H' hv hi e p R'
    obtain ⟨ds', es', q1, q2, rfl⟩ := vw s' zs hv
    exact stop i ds' es' G' F' m' s' H' q1 q2 hi e p R'
end

section
variable {X : Cx} {cA : Bg} {W : WX} {a b c e tg iter : Expr} {ea eb ec : Ev} {pos p : Pos} {it : Ei}
abbrev SI (X : Cx) (cA : Bg) (W : WX) (tg iter : Expr) (it : Ei) : Prop := PI X tg iter (rI X.K cA W it)
theorem _root_.L2.PI.of {t t' : TI} (h : PI X tg iter t) (k : ∀ σ H R, t' σ H R → t σ H R) : PI X tg iter t' := ⟨fun pins s σ H R I q => h.run pins s σ H R I (k σ H R q)⟩
theorem w_val (he : SE X cA W iter ea) : SI X cA W tg iter (iVal ea) := by
  refine ⟨fun pins st σ H Q I h => ?_⟩
  by_cases ht : ∃ G F m ρ s ds s1, Rel X.K cA G F m s H ∧ EnR X.K F m ρ σ ∧ Post X.K cA G W (rpI cA) σ F m Q (iVal ea ρ s) ∧ ea ρ s = .ok (.tup ds) s1
  · obtain ⟨G, F, m, ρ, s, ds, s1, R, en, h, q⟩ := ht
    refine (pi_tup he).run pins st σ H Q I ⟨G, F, m, ρ, s, R, en, (Post.bind h).imp fun x H1 ⟨F1, m1, s2, d, e1, p1, R1, r1, q1, h1⟩ => ?_⟩
    rw [q] at q1
    cases q1
    obtain ⟨a, vs, rfl, g1, g2⟩ := r1
    have h1 : Post X.K cA G W (rpI cA) σ F1 m1 Q (if ds.length ≤ szl then .ok (.its ds) s1 else .bad) := h1
    by_cases hz : ds.length ≤ szl
    · rw [if_pos hz] at h1
      exact ⟨a, rfl, ⟨vs, SqT.of (R1.ex _ _ g1)⟩, postI_now h1 R1 (show Feeds _ _ _ _ _ _ from feeds_tup g1 hz g2)⟩
    · rw [if_neg hz] at h1
      exact h1.elim
  · obtain ⟨G, F, m, ρ, s, R, en, h⟩ := h
    refine (pi_list he).run pins st σ H Q I ⟨G, F, m, ρ, s, R, en, (Post.bind h).imp fun x H1 ⟨F1, m1, s1, d, e1, p1, R1, r1, q1, h1⟩ => ?_⟩
    unfold itVal at h1
    split at h1
    · exact absurd ⟨G, F, m, ρ, s, _, s1, R, en, h, q1⟩ ht
    · obtain ⟨a, vs, rfl, g1, g2, g3⟩ := r1
      exact ⟨a, rfl, ⟨vs, SqL.of (R1.ex _ _ g1)⟩, postI_now h1 R1 (show Feeds _ _ _ _ _ _ from feeds_list (SqL.of g1) g2 g3)⟩
    · obtain ⟨a, vs, rfl, g1, g2, g3⟩ := r1
      exact ⟨a, rfl, ⟨vs, R1.ex.seq g1⟩, postI_now h1 R1 (show Feeds _ _ _ _ _ _ from feeds_list g1 g2 g3)⟩
    · rename_i l
      split at h1
      · rename_i ds hs
        obtain ⟨a, rfl, hl⟩ := r1
        have ⟨vs, g1, g2, g3⟩ := R1.ob l a _ hl hs
        exact ⟨a, rfl, ⟨vs, SqL.of g1⟩, postI_now h1 R1 (show FeedsL _ _ _ _ _ _ from feeds_live hl)⟩
      · exact h1.elim
    · exact h1.elim
theorem starEach_nil {env : Env} : starEach [] env = [] := rfl
theorem w_range1 {ta : Ea} (hg : Gl X "range") (hm : X.mg "range" = none) (h1 : noStar a = true) (h : SA X cA W [a] ta) : SI X cA W tg (.Call (.Name "range" p) [a] [] pos) (iRange1 ta) :=
  (pi_range1 hg hm h (by rw [starEach_cons h1]; rfl)).of fun σ H Q q => rd_stepI q fun G F m s ds vs H1 R rv q => by
    unfold itRange1 at q
    split at q
    · split at q
      · rename_i j hb
        obtain ⟨x, rfl, r⟩ := rv.of1
        have r : x = .int j := r
        subst r
        exact ⟨j, rfl, hb.1, hb.2.1, postI_now q R (show Feeds _ _ _ _ _ _ from feeds_range hb.2.2)⟩
      · exact q.elim
    · exact q.elim
theorem w_range2 {ta : Ea} (hg : Gl X "range") (hm : X.mg "range" = none) (h1 : noStar a = true) (h2 : noStar b = true) (h : SA X cA W [a, b] ta) : SI X cA W tg (.Call (.Name "range" p) [a, b] [] pos) (iRange2 ta) :=
  (pi_range2 hg hm h (by rw [starEach_cons h1, starEach_cons h2]; rfl) (by rw [starEach_cons h2]; rfl)).of fun σ H Q q => rd_stepI q fun G F m s ds vs H1 R rv q => by
    unfold itRange2 at q
    split at q
    · split at q
      · rename_i i j hb
        obtain ⟨x, y, rfl, r1, r2⟩ := rv.of2
        have r1 : x = .int i := r1
        have r2 : y = .int j := r2
        subst r1 r2
        exact ⟨i, j, rfl, hb.1, postI_now q R (show Feeds _ _ _ _ _ _ from feeds_range hb.2)⟩
      · exact q.elim
    · exact q.elim
theorem w_enum {ta : Ea} {elts : List Expr} {kk : Nat} {tpos : Pos} (hg : Gl X "enumerate") (hm : X.mg "enumerate" = none) (h1 : noStar a = true) (h : SA X cA W [a] ta) : SI X cA W (.Tuple elts kk tpos) (.Call (.Name "enumerate" p) [a] [] pos) (iEnum ta) :=
  (pi_enum hg hm h (by rw [starEach_cons h1]; rfl)).of fun σ H Q q => rd_stepI q fun G F m s ds vs H1 R rv q => by
    unfold itEnum at q
    split at q
    · rename_i d
      split at q
      · rename_i es hs
        obtain ⟨x, rfl, r⟩ := rv.of1
        obtain ⟨a, rfl, ⟨xs, hx⟩, f1, f2⟩ := feeds_enum r R hs
        refine ⟨a, xs, rfl, hx, ?_⟩
        split at q
        · exact postI_now q R (show FeedsL _ _ _ _ _ _ from f2)
        · rename_i hn
          exact postI_now q R (show Feeds _ _ _ _ _ _ from f1 (by simpa using hn))
      · exact q.elim
    · exact q.elim
theorem w_zip {ta : Ea} {elts : List Expr} {kk : Nat} {tpos : Pos} (hg : Gl X "zip") (hm : X.mg "zip" = none) (h1 : noStar a = true) (h2 : noStar b = true) (h : SA X cA W [a, b] ta) : SI X cA W (.Tuple elts kk tpos) (.Call (.Name "zip" p) [a, b] [] pos) (iZip ta) :=
  (pi_zip hg hm h (starEach_cons h1) (starEach_plain (by rw [List.all_cons, h2]; rfl))).of fun σ H Q q => rd_stepI q fun G F m s ds vs H1 R rv q => by
    unfold itZip at q
    split at q
    · rename_i d e
      split at q
      · rename_i es fs hs ht
        obtain ⟨x, y, rfl, r1, r2⟩ := rv.of2
        obtain ⟨a, b, xs, ys, rfl, rfl, hx, hy, f1, f2⟩ := feeds_zip r1 r2 R hs ht
        refine ⟨a, b, xs, ys, rfl, hx, hy, ?_⟩
        split at q
        · exact postI_now q R (show FeedsL _ _ _ _ _ _ from f2)
        · rename_i hn
          exact postI_now q R (show Feeds _ _ _ _ _ _ from f1 (by simpa using hn))
      · exact q.elim
    · exact q.elim

/-! ### for, while, comprehensions -/
/-- what is walked is no written set -/
def plainIter : Expr → Bool
  | .Set _ _ _ => false
  | _ => true
theorem iter_plain {e : Expr} {env : Env} (h : plainIter e = true) : ∀ x, foldedSetIterable e env x = pure x := by
  intro x
  cases e <;> first | rfl | cases h
theorem y_for {body : List Stmt} {g : Tg} {bd : Es} (hp : PassesOwn (model X.prog X.w) X.A X.env X.xe) (hc : X.calm = true) (hs : plainIter iter = true) (hi : SI X cA W tg iter it) (hg : SG X cA W tg g) (hb : SB X cA W body bd) : SS X cA W (.For tg iter body [] pos) (sFor it g bd) :=
  (ps_for hp hc hi hg.pg hb (iter_plain hs)).of fun _ _ _ h => rs_for hg.ok h
theorem y_while {body : List Stmt} {t : Et} {bd : Es} {n : Nat} (hp : PassesOwn (model X.prog X.w) X.A X.env X.xe) (hc : ST X cA W c t) (hb : SB X cA W body bd) : SS X cA W (.While c body [] pos) (whileN t bd n) :=
  (ps_while hp hc hb).of fun _ _ _ h => rs_while h
abbrev BlkCx (X : Cx) (scope : Scope) (P : Cx → Prop) : Prop := ∀ (s : Shared) (H : Hp) (C : Addr) (cl : List (Str × Addr)) (fp : List Addr), P (X.blk s H scope (compEnvC scope cl C X.env) fp)
theorem x_lcC {elt : Expr} {ifs : List Expr} {scope : Scope} {own : List (Str × Nat)} {T : Tn} {t : Et} (hc : X.calm = true) (hN : X.N.Nodup) (hs : plainIter iter = true) (hi : SI X cA W tg iter it) (ok : BlkOk X.N X.env.scope scope own) (hT : T.all (fun i => decide (i ∈ own.map (·.2))) = true)
    (hg : BlkCx X scope fun Y => PG Y tg (T.lay X.K)) (ht : BlkCx X scope fun Y => PTs Y ifs (rT X.K cA W0 t)) (he : BlkCx X scope fun Y => PE Y elt (rE X.K cA W0 ea)) : SE X cA W (.ListComp elt [⟨tg, iter, ifs, 0⟩] scope pos) (eLcC it T.tg t ea (own.map (·.2))) :=
  (pe_lc hc hN hi ok hg ht he (iter_plain hs)).of fun _ _ _ h => rd_lcC hT h
theorem x_lcL {elt : Expr} {ifs : List Expr} {scope : Scope} {own : List (Str × Nat)} {T : Tn} {t : Et} (hc : X.calm = true) (hN : X.N.Nodup) (hs : plainIter iter = true) (hi : SI X cA W tg iter it) (ok : BlkOk X.N X.env.scope scope own) (hT : T.all (fun i => decide (i ∈ own.map (·.2))) = true)
    (hg : BlkCx X scope fun Y => PG Y tg (T.lay X.K)) (ht : BlkCx X scope fun Y => PTs Y ifs (rT X.K cA W0 t)) (he : BlkCx X scope fun Y => PE Y elt (rE X.K cA W0 ea)) : SE X cA W (.ListComp elt [⟨tg, iter, ifs, 0⟩] scope pos) (eLc it T.tg t ea (own.map (·.2))) :=
  (pe_lc hc hN hi ok hg ht he (iter_plain hs)).of fun _ _ _ h => rd_lcL hT h
theorem rs_asgNm {K : PySem.W.Frag} {σ : L2.St} {H : Hp} {De : Ends} {i : Nat} (h : rS K cA W (sAsg ea (gNm i)) De σ H) : rE K cA W ea σ H fun x H1 => gName i x σ H1 De.nx := by
  obtain ⟨G, F, m, ρ, s, R, en, h⟩ := rs_asg tg_nm h
  exact ⟨G, F, m, ρ, s, R, en, h.imp fun _ _ q => rg_nm q⟩
/-- y = [..] on one line -/
theorem y_setLcC {y : Str} {py spos : Pos} {i : Nat} {elt : Expr} {ifs : List Expr} {scope : Scope} {own : List (Str × Nat)} {T : Tn} {t : Et} (hc : X.calm = true) (hN : X.N.Nodup) (hy : X.N[i]? = some y) (hyl : X.env.scope.names.lookup y = some .local)
    (hsw : swapsWith (.ListComp elt [⟨tg, iter, ifs, 0⟩] scope pos) (some (.Name y py)) spos.line X.env = pure true) (hs : plainIter iter = true) (hi : SI X cA W tg iter it) (ok : BlkOk X.N X.env.scope scope own) (hT : T.all (fun i => decide (i ∈ own.map (·.2))) = true)
    (hg : BlkCx X scope fun Y => PG Y tg (T.lay X.K)) (ht : BlkCx X scope fun Y => PTs Y ifs (rT X.K cA W0 t)) (he : BlkCx X scope fun Y => PE Y elt (rE X.K cA W0 ea)) : SS X cA W (.Assign [.Name y py] (.ListComp elt [⟨tg, iter, ifs, 0⟩] scope pos) spos) (sAsg (eLcC it T.tg t ea (own.map (·.2))) (gNm i)) :=
  (ps_setLc hc hN hy hyl hsw hi ok hg ht he (iter_plain hs)).of fun _ _ _ h => rd_lcC hT (rs_asgNm h)
theorem y_setLcL {y : Str} {py spos : Pos} {i : Nat} {elt : Expr} {ifs : List Expr} {scope : Scope} {own : List (Str × Nat)} {T : Tn} {t : Et} (hc : X.calm = true) (hN : X.N.Nodup) (hy : X.N[i]? = some y) (hyl : X.env.scope.names.lookup y = some .local)
    (hsw : swapsWith (.ListComp elt [⟨tg, iter, ifs, 0⟩] scope pos) (some (.Name y py)) spos.line X.env = pure true) (hs : plainIter iter = true) (hi : SI X cA W tg iter it) (ok : BlkOk X.N X.env.scope scope own) (hT : T.all (fun i => decide (i ∈ own.map (·.2))) = true)
    (hg : BlkCx X scope fun Y => PG Y tg (T.lay X.K)) (ht : BlkCx X scope fun Y => PTs Y ifs (rT X.K cA W0 t)) (he : BlkCx X scope fun Y => PE Y elt (rE X.K cA W0 ea)) : SS X cA W (.Assign [.Name y py] (.ListComp elt [⟨tg, iter, ifs, 0⟩] scope pos) spos) (sAsg (eLc it T.tg t ea (own.map (·.2))) (gNm i)) :=
  (ps_setLc hc hN hy hyl hsw hi ok hg ht he (iter_plain hs)).of fun _ _ _ h => rd_lcL hT (rs_asgNm h)
theorem v_tnil : PTs X [] (rT X.K cA W Rh.tYes) := ⟨fun pins s σ H Q I ⟨G, F, m, ρ, st, R, en, h⟩ => pts_nil.run pins s σ H Q I (h F m true H (Same.refl F) (List.prefix_refl m) R rfl)⟩
theorem v_tone {t : Et} (h : ST X cA W c t) : PTs X [c] (rT X.K cA W t) := pts_one h
end
end Rh
end

section
set_option Elab.async false
set_option linter.all false
set_option maxRecDepth 100000
set_option maxHeartbeats 1000000
/-! sorted(.., key=lambda x: x[k]) -/
namespace Rh
open PySem L2

/-- the key of a tuple at a place, a number -/
def keyAt (k : Nat) : D → Option Int
  | .tup es => match es[k]? with
    | some (.int i) => some i
    | _ => none
  | _ => none
def keyI (k : Nat) (d : D) : Int := (keyAt k d).getD 0
def sortK (k : Nat) (ds : List D) : List D := ds.mergeSort fun a b => decide (keyI k a ≤ keyI k b)
def bSortK (k : Nat) : List D → Sto → R D
  | [d], s => match lstOf s d with
    | some ds => if (ds.all fun d => (keyAt k d).isSome) = true then .ok (.cl (sortK k ds)) s else .bad
    | none => .bad
  | _, _ => .bad
theorem nx_sortK (k : Nat) : Nx0 (bSortK k) := by
  intro d s x s' h
  unfold bSortK at h
  split at h
  · split at h
    · split at h <;> cases h
    · cases h
  · cases h

/-- x: x[k] -/
abbrev onePar (y : Str) (p : Pos) : Arguments := { posonlyargs := [], args := [⟨y, none, p⟩], vararg := none, kwonlyargs := [], kw_defaults := [], kwarg := none, defaults := [] }
abbrev oneScope (y : Str) (mo : List (Str × Const)) : Scope := { kind := .function, names := [(y, .local)], isGenerator := false, isCoroutine := false, more := mo }
abbrev itemBody (y : Str) (k : Nat) (kd : Nat) (p1 p2 p3 : Pos) : Expr := .Subscript (.Name y p1) (.Constant (.int k) kd p2) p3
theorem isTup_keep {h h' : Heap} {a : Addr} {its : Array Value} (t : PyProof.Rows.IsTup h a its) (k : ∀ b o, h.get? b = some o → h'.get? b = some o) : PyProof.Rows.IsTup h' a its := by
  obtain ⟨o, e, r⟩ := t
  exact ⟨o, k _ _ e, r⟩
theorem lam_turn {prog : Program} {w : World} {A : Around} {s : Shared} {f c' t : Addr} {q y : Str} {mo : List (Str × Const)} {p p1 p2 p3 : Pos} {k kd : Nat} {clos : List (Str × Addr)} {pm ctv : Value} {items : Array Value} {i : Int} {u : Tok}
    (hroom : A.depth < recursionLimit) (ho : s.heap.get? f = some (PySem.W.kla_obj "<lambda>" q (onePar y p) (itemBody y k kd p1 p2 p3) (oneScope y mo) clos pm c' ctv)) (hcd : s.heap.CodeRec (.ref c') q) (lim : s.heap.NoLimit)
    (ht : PyProof.Rows.IsTup s.heap t items) (hx : items[k]? = some (.int i u)) (hk : k < 1000) (hd : (y == ("__debug__" : Str)) = false) (hcl : (y == ("__classdict__" : Str)) = false) :
    wpAny (model prog w) A (call (.ref f) [.ref t]) (PySem.W.KeyPure (.int i) s) (fun _ _ => False) s := by
  refine wpAny_call (PySem.W.kla_callFunE hroom ho rfl rfl rfl rfl hcd ?_)
  have hb : bindArgs (PySem.W.kla_fn "<lambda>" q (onePar y p) (itemBody y k kd p1 p2 p3) (oneScope y mo) clos pm (.ref c') ctv) ⟨[.ref t], []⟩ = pure [(y, .ref t)] := by
    unfold bindArgs
    simp [seqItems?, List.lookup]
    rfl
  rw [hb]
  refine wpAny_pure (wpAny_newFunctionEnv (fun x hx => ?_) (fun x hx => ?_) (fun h₁ hns hsb => ⟨lim.fresh _ hsb, ?_⟩) rfl)
  · have hx : x ∈ [(y, NameKind.local)] := hx
    rw [List.mem_singleton.mp hx]
    intro z
    cases z
  · have hx : x ∈ [(y, Value.ref t)] := hx
    rw [List.mem_singleton.mp hx]
    show List.lookup y [(y, NameKind.local)] = some .local
    simp [List.lookup]
  · have kp : ∀ b o, s.heap.get? b = some o → h₁.get? b = some o := fun b o e => hsb.extBut b o (Nat.ne_of_lt (Heap.lt_size e)) (Heap.get?_push_of_some _ e)
    refine PySem.W.kla_codeExpr (wpAny_mono (E := fun _ _ => False) (Q := fun v s' => PySem.W.KeyPure (.int i) s v s') ?_ (fun v s' hq => hq) fun e s' hq => hq.elim)
    refine PyProof.Rows.Subscript_ (wpAny_Name (wpAny_loadName_local (v := .ref t) rfl ?_ hns ?_ ?_) hd)
    · show List.lookup y [(y, NameKind.local)] = some .local
      simp [List.lookup]
    · show List.lookup y [(y, Value.ref t)] = some (.ref t)
      simp [List.lookup]
    · refine wpAny_Constant_int ?_
      have ht1 : PyProof.Rows.IsTup h₁ t items := isTup_keep ht kp
      have hlt : k < items.size := by
        rw [Array.getElem?_eq_some_iff] at hx
        exact hx.1
      refine PyProof.Rows.subscriptTail_builtinR (T := "tuple") (x := .int i u) ht1.typeIs PyProof.Rows.slot_tuple_getitem.lookup (PyProof.Rows.getItem_tuple (j := k) ht1 (by omega) (by omega) ?_ hx ⟨rfl, ?_⟩)
      · unfold seqIndex?
        simp
        omega
      · exact ⟨_, _, rfl, kp, .int _ _⟩

section
variable {K : PySem.W.Frag} {F : Hp} {m : List Addr}
theorem RepVs.pairs : ∀ {ds : List D} {vs : List V}, RepVs K F m ds vs → ∀ p ∈ vs.zip ds, RepV K F m p.2 p.1
  | [], _, h, p, hp => by simp at hp
  | d :: ds, _, ⟨v, r, e, h2, h3⟩, p, hp => by
    subst e
    rw [List.zip_cons_cons] at hp
    rcases List.mem_cons.mp hp with q | q
    · rw [q]
      exact h2
    · exact RepVs.pairs h3 p q
theorem RepVs.ofPairs : ∀ {l : List (V × D)}, (∀ p ∈ l, RepV K F m p.2 p.1) → RepVs K F m (l.map (·.2)) (l.map (·.1))
  | [], _ => rfl
  | p :: l, h => ⟨p.1, l.map (·.1), rfl, h p (by simp), RepVs.ofPairs fun q hq => h q (by simp [hq])⟩
theorem zip_snd {α β : Type} : ∀ {l : List α} {r : List β}, l.length = r.length → (l.zip r).map (·.2) = r
  | [], [], _ => rfl
  | [], _ :: _, h => by simp at h
  | _ :: _, [], h => by simp at h
  | a :: l, b :: r, h => by
    rw [List.zip_cons_cons, List.map_cons, zip_snd (by simpa using h)]
theorem zip_fst {α β : Type} : ∀ {l : List α} {r : List β}, l.length = r.length → (l.zip r).map (·.1) = l
  | [], [], _ => rfl
  | [], _ :: _, h => by simp at h
  | _ :: _, [], h => by simp at h
  | a :: l, b :: r, h => by
    rw [List.zip_cons_cons, List.map_cons, zip_fst (by simpa using h)]
end
theorem each_zip {R : Value → V × D → Prop} : ∀ {its : List Value} {vs : List V} {ds : List D}, Vals vs its → vs.length = ds.length → (∀ v x d, RelV x v → (x, d) ∈ vs.zip ds → R v (x, d)) → PySem.W.EachIs R its (vs.zip ds)
  | _, [], [], h, _, _ => by
    cases h
    exact .nil
  | _, [], _ :: _, _, h, _ => by simp at h
  | _, _ :: _, [], _, h, _ => by simp at h
  | _, v :: vs, d :: ds, h, hl, k => by
    cases h with
    | cons r t =>
      rw [List.zip_cons_cons]
      exact .cons (k _ _ _ r (by simp)) (each_zip t (by simpa using hl) fun v x d r hm => k v x d r (by rw [List.zip_cons_cons]; exact List.mem_cons_of_mem _ hm))
theorem each_fst {R : Value → V × D → Prop} (hR : ∀ v p, R v p → RelV p.1 v) : ∀ {its : List Value} {l : List (V × D)}, PySem.W.EachIs R its l → Vals (l.map (·.1)) its
  | _, _, .nil => .nil
  | _, _, .cons h t => .cons (hR _ _ h) (each_fst hR t)
section
variable {X : Cx} {cA : Bg} {c P : Addr}
theorem pe_sortK {W : WX} {y : Str} {mo : List (Str × Const)} {k kd : Nat} {p p0 p1 p2 p3 lp kp cp : Pos} {e : Expr} {t : TA} (TB : LamX.TabB X.base X.mg c P) (hcode : X.env.code = .ref c) (hm : (P, X.env.qual ++ "<lambda>") ∈ cA.tabs) (hu : ∀ q ∈ cA.tabs, q.1 = P → q.2 = X.env.qual ++ "<lambda>")
    (hr : Room 1 X.A) (hg : Gl X "sorted") (hmg : X.mg "sorted" = none) (ha : PA X [e] t) (hs : noStar e = true) (hk : k < 1000) (hd : (y == ("__debug__" : Str)) = false) (hcl : (y == ("__classdict__" : Str)) = false) :
    PE X (.Call (.Name "sorted" p) [e] [⟨some "key", .Lambda (onePar y p0) (itemBody y k kd p1 p2 p3) (oneScope y mo) lp, kp⟩] cp) (tCB (rOn X.K cA (bSortK k)) t) := by
  refine ⟨fun pins s σ H Q I h => ?_⟩
  refine wpAny_Call_Name_kw (ld_blt I hg hmg (by rfl) ?_ (by decide) (by decide))
  refine PyProof.Rows.callWith_kw (thn (ha.run cp pins s σ H _ I h) fun us s1 ⟨vs, H1, I1, r1, q1⟩ => ?_) (starEach_cons hs ▸ rfl) (starEach_plain (es := [e]) (by simp [hs])) (by rfl) (by rfl)
  obtain ⟨G, F, m, st, ds, R, rv, q⟩ := q1
  show wpAny _ _ (evalAll ((do let v ← eval (.Lambda (onePar y p0) (itemBody y k kd p1 p2 p3) (oneScope y mo) lp) X.env; standAt cp; pure v) :: [])) _ _ s1
  refine wpAny_evalAll_cons (wpAny_bind (LamX.lam_make2 I1 TB hcode hm hu R.tb (by rfl) (fun y hy e => ?_) fun f c' pm ctv H2 s2 I2 eN hT ho hfn hfr hc => wpAny_bind (wpAny_standAt (wpAny_pure (wpAny_evalAll_nil ?_)))))
  · have hy : y ∈ [(_, NameKind.local)] := hy
    rw [List.mem_singleton.mp hy] at e
    cases e
  have R2 := R.grow eN hT
  obtain ⟨⟨oc, cvs, ct, hoc, hdc, hvc⟩, _, _⟩ := I2.hok c' _ hc
  unfold bSortK at q
  split at q
  rotate_left
  · exact q.elim
  rename_i d
  split at q
  rotate_left
  · exact q.elim
  rename_i es hes
  split at q
  rotate_left
  · exact q.elim
  rename_i hall
  rw [List.all_eq_true] at hall
  obtain ⟨x, rfl, rx⟩ := rv.of1
  obtain ⟨a, xs, rfl, hsq, hz, rxs⟩ := lstOf_rep R2 rx hes
  obtain ⟨its, rits, pl, hz2⟩ := I2.list hsq
  have hlen : xs.length = es.length := rxs.len
  have eus : us = [.ref a] := by
    cases r1 with
    | cons h t =>
      cases t
      rw [show _ = Value.ref a from h]
  subst eus
  show wpAny _ _ (call (.builtin "sorted") [.ref a] [("key", .ref f)]) _ _ s2
  refine PySem.W.sorted_key_data (vs := its) (bs := xs.zip es) (R := fun v p => RelV p.1 v ∧ p ∈ xs.zip es) (b := false) (fun p => .int (keyI k p.2)) pl.isList (each_zip rits hlen fun v x d r hp => ⟨r, hp⟩) (PySem.W.AllAlike.of fun b b' => rfl) (PySem.W.Sortable.others fun b => ⟨by simp, by simp⟩) ?_ ?_ (PyProof.Rows.ksk_s1 _ _) (fun _ => PyProof.Rows.ksk_l1 _ _) (fun _ => PyProof.Rows.ksk_t1 _ _) ?_ ?_
  · rw [List.length_zip]
    rw [← szl_eq]
    omega
  · intro p hp
    have := hr.un
    show _ + 2 + 0 < _
    omega
  · intro v p hR hp h tk keep
    obtain ⟨rv2, hmem⟩ := hR
    have rp := rxs.pairs p hmem
    have hd2 : p.2 ∈ es := (List.of_mem_zip (a := p.1) (b := p.2) hmem).2
    have hk2 := hall _ hd2
    obtain ⟨pv, pd⟩ := p
    cases pd with
    | tup ys =>
      obtain ⟨ta, tvs, e1, e2, e3⟩ := rp
      have e1 : pv = .ref ta := e1
      subst e1
      have rv2 : v = Value.ref ta := rv2
      subst rv2
      obtain ⟨_, tits, rt, htup⟩ := I2.hok ta _ (R2.ex _ _ e2)
      have hget : ∃ i, ys[k]? = some (.int i) ∧ keyAt k (.tup ys) = some i := by
        unfold keyAt at hk2 ⊢
        dsimp only at hk2 ⊢
        split at hk2
        · rename_i i hi
          exact ⟨i, hi, rfl⟩
        · cases hk2
      obtain ⟨i, hi, hki⟩ := hget
      obtain ⟨w2, hw, rw2⟩ := e3.get hi
      have rw2 : w2 = .int i := rw2
      subst rw2
      have hit : ∃ u, tits.toArray[k]? = some (.int i u) := by
        obtain ⟨v3, h3, r3⟩ := rt.get hw
        obtain ⟨u, rfl⟩ := r3
        exact ⟨u, by simpa using h3⟩
      obtain ⟨u, hu2⟩ := hit
      have ek : keyI k (D.tup ys) = i := by
        unfold keyI
        rw [hki]
        rfl
      show wpAny _ _ _ (PySem.W.KeyPure (.int (keyI k (D.tup ys))) _) _ _
      rw [ek]
      exact lam_turn hr.depth (keep _ _ ho) ⟨c', oc, cvs, ct, rfl, keep _ _ hoc, hdc, hvc⟩ (I2.nolimit.keeps keep) (isTup_keep htup keep) hu2 hk hd hcl
    | _ => cases hk2
  · intro out co h' tk keep hfresh hD hol hout
    have hle : PySem.W.dataLe false (fun p : V × D => PySem.PyData.int (keyI k p.2)) = fun a b => decide (keyI k a.2 ≤ keyI k b.2) := PySem.W.dataLe_int fun p : V × D => keyI k p.2
    rw [hle] at hout
    have ev := each_fst (R := fun v p => RelV p.1 v ∧ p ∈ xs.zip es) (fun v p h => h.1) hout
    have hmem : ∀ p : V × D, p ∈ (xs.zip es).mergeSort (fun a b => decide (keyI k a.2 ≤ keyI k b.2)) → RepV X.K F m p.2 p.1 := fun p hp => rxs.pairs p (List.mem_mergeSort.mp hp)
    have rr := RepVs.ofPairs hmem
    have es2 : ((xs.zip es).mergeSort (fun a b => decide (keyI k a.2 ≤ keyI k b.2))).map (·.2) = sortK k es := by
      unfold sortK
      rw [List.map_mergeSort (s := fun a b => decide (keyI k a ≤ keyI k b)) (fun a _ b _ => rfl), zip_snd hlen]
    rw [es2] at rr
    have hl2 : (sortK k es).length ≤ szl := by
      unfold sortK
      rw [List.length_mergeSort]
      exact hz
    have hl3 : (((xs.zip es).mergeSort (fun a b => decide (keyI k a.2 ≤ keyI k b.2))).map (·.1)).length ≤ sizeLine := by
      rw [rr.len, ← szl_eq]
      exact hl2
    have hHn : H2 (s2.heap.objs.size + 1) = none := I2.hok.fresh (Nat.le_succ _)
    exact ⟨.ref _, upd H2 (s2.heap.objs.size + 1) (.lst (((xs.zip es).mergeSort (fun a b => decide (keyI k a.2 ≤ keyI k b.2))).map (·.1))), I2.laid (t' := tk) keep (Nat.le_succ _) ⟨hl3, out, co, ev, hD⟩, rfl, okP.newCl q R2 hHn hl2 rr⟩
end
end Rh
end

section
set_option Elab.async false
set_option linter.all false
set_option maxRecDepth 100000
set_option maxHeartbeats 1000000
/-! {k: v for ..} -/
namespace Rh
open PySem L2
/-- one turn of {k: v ..} -/
def dcTurn (g : Tg) (t : Et) (k v : Ev) (ρ : En) (d : D) (acc : List (Ky × D)) (s : Sto) : R (List (Ky × D)) := match g d ρ s with
  | .nx ρ1 s1 => (t ρ1 s1).bind fun c s2 => if c then (k ρ1 s2).bind fun y s3 => (v ρ1 s3).bind fun z s4 => (match kyOf y with
      | some ky => .ok (putA acc ky z) s4
      | none => .bad)
    else .ok acc s2
  | _ => .bad
def dcIts (turn : D → List (Ky × D) → Sto → R (List (Ky × D))) : List D → List (Ky × D) → Sto → R (List (Ky × D))
  | [], acc, s => .ok acc s
  | d :: ds, acc, s => (turn d acc s).bind fun acc1 s1 => dcIts turn ds acc1 s1
def dcFin : List (Ky × D) → Sto → R D := fun kvs s2 => .ok (.ref s2.length) (s2 ++ [.dk kvs])
/-- over what does not change -/
def eDc (it : Ei) (g : Tg) (t : Et) (k v : Ev) (vs : List Nat) : Ev := fun ρ s => (it ρ s).bind fun J s1 => match J with
  | .its ds => (noExc (dcIts (dcTurn g t k v (wipe ρ vs)) ds [] s1)).bind dcFin
  | .live _ => .bad
section
variable {K : PySem.W.Frag} {cA : Bg} {W : WX} {σ : L2.St} {G F : Hp} {m : List Addr} {s : Sto} {H : Hp} {Q : VK} {vs : List Nat} {it : Ei} {t : Et} {k v : Ev}
theorem Rel.ghostPut {L : Addr} {o o' : HO} (R : Rel K cA G F m s H) (hL : G L = some o) (ho : (∀ ps, o ≠ .tbl ps) ∧ ∀ φ, o ≠ .ext φ) (hn : ∀ ps, o' ≠ .tbl ps) : Rel K cA (upd G L o') F m s (upd H L o') := by
  have hH := R.gs L _ hL
  obtain ⟨g1, g2⟩ := R.gf L _ hL
  refine ⟨fun b o q => ?_, R.len, R.nd, R.fr, fun b o q => ?_, fun b o q => ?_, tabs_upd R.tb ⟨fun ps z => (by rw [hH] at z; exact ho.1 ps (Option.some.inj z)), fun φ z => (by rw [hH] at z; exact ho.2 φ (Option.some.inj z))⟩, ⟨R.nt.1, R.nt.2.upd hn⟩, fun l a ob q1 q2 => ?_⟩
  · rw [upd_ne (fun z => by rw [z, g1] at q; cases q)]
    exact R.ex b o q
  · by_cases hb : b = L
    · subst hb
      rw [upd_same] at q ⊢
      exact q
    · rw [upd_ne hb] at q ⊢
      exact R.gs b o q
  · by_cases hb : b = L
    · subst hb
      exact ⟨g1, g2⟩
    · rw [upd_ne hb] at q
      exact R.gf b o q
  · have hal : a ≠ L := fun z => g2 (by rw [← z]; exact List.mem_of_getElem? q1)
    rw [upd_ne hal]
    exact R.ob l a ob q1 q2
/-- keys and values of a dict -/
def DRep (K : PySem.W.Frag) (F : Hp) (m : List Addr) (kvs : List (Ky × D)) (ws : List (Key × V)) : Prop := ws.map (·.1) = kvs.map (·.1) ∧ RepVs K F m (kvs.map (·.2)) (ws.map (·.2))
theorem DRep.mono {F' : Hp} {m' : List Addr} {kvs : List (Ky × D)} {ws : List (Key × V)} (h : DRep K F m kvs ws) (e : Same F F') (p : m <+: m') : DRep K F' m' kvs ws := ⟨h.1, RepVs.mono e p _ _ h.2⟩
theorem putA_len {κ : Type} [DecidableEq κ] (kvs : List (κ × D)) (k : κ) (v : D) : (putA kvs k v).length ≤ kvs.length + 1 := by
  unfold putA
  split
  · rw [List.length_map]
    omega
  · rw [List.length_append]
    exact Nat.le_refl _
theorem DRep.len {kvs : List (Ky × D)} {ws : List (Key × V)} (h : DRep K F m kvs ws) : ws.length = kvs.length := by
  have := congrArg List.length h.1
  simpa using this
theorem dc_turn {Gp : Hp} {T : Tn} {L : Addr} {acc : List (Ky × D)} {us : List (Key × V)} {d : D} {x : V} {σw : L2.St} {ρw : En} {rest : List (Ky × D) → Sto → R (List (Ky × D))} {fin : List (Ky × D) → Sto → R D} {Nx : Hp → Prop}
    (hT : T.all (fun i => decide (i ∈ vs)) = true) (hGL : G L = some (.dK us)) (ra : DRep K F m acc us) (hz : acc.length < szl) (R : Rel K cA G F m s H) (en : EnR K F m ρw σw) (r : RepV K F m d x)
    (h : Post K cA Gp W RepV σ F m Q ((noExc ((dcTurn T.tg t k v ρw d acc s).bind rest)).bind fin))
    (hN : ∀ F1 m1 s1 acc1 us1 H1, Same F F1 → m <+: m1 → acc1.length ≤ acc.length + 1 → Rel K cA (upd G L (.dK us1)) F1 m1 s1 H1 → DRep K F1 m1 acc1 us1 → Post K cA Gp W RepV σ F1 m1 Q ((noExc (rest acc1 s1)).bind fin) → Nx H1) :
    T.lay K x σw H fun σ2 H2 => L2.wipe σ2 vs = L2.wipe σw vs ∧ rT K cA W0 t σ2 H2 fun b H3 => if b = true then rE K cA W0 k σ2 H3 fun y H4 => rE K cA W0 v σ2 H4 fun z H5 => ∃ kvs k, y = kV k ∧ H5 L = some (.dK kvs) ∧ kvs.length < sizeLine ∧ Nx (upd H5 L (.dK (putK kvs k z))) else Nx H3 := by
  unfold dcTurn at h
  split at h
  · rename_i ρ1 s1 hg
    refine Tn.ok T d x ρw ρ1 σw s s1 H _ R en r hT hg fun σ1 e1 en1 w1 => ⟨w1, ?_⟩
    subst e1
    have h : Post K cA Gp W RepV σ F m Q ((noExc ((t ρ1 s1).bind fun c s2 => ((if c then (k ρ1 s2).bind fun y s3 => (v ρ1 s3).bind fun z s4 => (match kyOf y with
      | some ky => .ok (putA acc ky z) s4
      | none => .bad) else .ok acc s2 : Rh.R (List (Ky × D))).bind rest))).bind fin) := by
      cases q : t ρ1 s1 with
      | ok a s => rw [q] at h; exact h
      | exc a s => rw [q] at h; exact h
      | bad => rw [q] at h; exact h
    refine ⟨G, F, m, ρ1, s1, R, en1, (post_part (rep := rpB) (σ2 := σ1) h).imp fun c H3 ⟨F3, m3, s3, c3, e3, p3, R3, r3, _, h3⟩ => ?_⟩
    have r3 : c = c3 := r3
    subst r3
    have us3 := ra.mono e3 p3
    cases c with
    | false =>
      refine iteF (hN F3 m3 s3 acc us H3 e3 p3 (Nat.le_succ _) ?_ us3 h3)
      have hL := R3.gs L _ hGL
      obtain ⟨g1, g2⟩ := R3.gf L _ hGL
      exact R3.ghost hL g1 g2
    | true =>
      have h3 : Post K cA Gp W RepV σ F3 m3 Q ((noExc ((k ρ1 s3).bind fun y s4 => (v ρ1 s4).bind fun z s5 => (match kyOf y with
        | some ky => .ok (putA acc ky z) s5
        | none => .bad : Rh.R (List (Ky × D))).bind rest)).bind fin) := by
        cases q : k ρ1 s3 with
        | ok a s =>
          rw [q] at h3
          cases q2 : v ρ1 s with
          | ok a2 s2 => dsimp only [Rh.R.bind, if_true] at h3 ⊢; rw [q2] at h3 ⊢; exact h3
          | exc a2 s2 => dsimp only [Rh.R.bind, if_true] at h3 ⊢; rw [q2] at h3 ⊢; exact h3
          | bad => dsimp only [Rh.R.bind, if_true] at h3 ⊢; rw [q2] at h3 ⊢; exact h3
        | exc a s => rw [q] at h3; exact h3
        | bad => rw [q] at h3; exact h3
      refine iteT ⟨G, F3, m3, ρ1, s3, R3, en1.mono e3 p3, (post_part (rep := RepV) (σ2 := σ1) h3).imp fun y H4 ⟨F4, m4, s4, d4, e4, p4, R4, r4, _, h4⟩ => ?_⟩
      refine ⟨G, F4, m4, ρ1, s4, R4, (en1.mono e3 p3).mono e4 p4, (post_part (rep := RepV) (σ2 := σ1) h4).imp fun z H5 ⟨F5, m5, s5, d5, e5, p5, R5, r5, _, h5⟩ => ?_⟩
      have us5 := (us3.mono e4 p4).mono e5 p5
      cases qk : kyOf d4 with
      | none =>
        rw [qk] at h5
        exact h5.elim
      | some ky =>
        rw [qk] at h5
        have hL := R5.gs L _ hGL
        obtain ⟨p1, p2⟩ := putA_rep (k := ky) us5.1 us5.2 r5
        refine ⟨us, ky, kyOf_rep r4 qk, hL, by rw [us5.len, ← szl_eq]; exact hz, hN F5 m5 s5 (putA acc ky d5) (putK us ky z) _ ((e3.trans e4).trans e5) ((p3.trans p4).trans p5) (putA_len _ _ _) ?_ ⟨p1, p2⟩ h5⟩
        exact R5.ghostPut hGL ⟨fun ps h => (by cases h), fun φ h => (by cases h)⟩ (fun ps h => by cases h)
  · exact h.elim
theorem rd_dc {T : Tn} (hT : T.all (fun i => decide (i ∈ vs)) = true) (h : rE K cA W (eDc it T.tg t k v vs) σ H Q) : tDc (rI K cA W it) (T.lay K) (rT K cA W0 t) (rE K cA W0 k) (rE K cA W0 v) vs σ H Q := by
  obtain ⟨G, F, m, ρ, s, R, en, h⟩ := h
  refine ⟨G, F, m, ρ, s, R, en, (Post.bind (rep := rpI cA) h).imp fun J H1 ⟨F1, m1, s1, it1, e1, p1, R1, r1, _, h1⟩ L hL => ?_⟩
  have en1 := (en.mono e1 p1).wipe vs
  have hGL : G L = none := R1.gs.free hL
  have hFL : F1 L = none := R1.free hL
  have hmL := R1.notMem hL
  have R1' : Rel K cA (upd G L (.dK [])) F1 m1 s1 (upd H1 L (.dK [])) := (R1.beside hL hFL hGL hmL _).ghost upd_same hFL hmL
  have ww : L2.wipe (L2.wipe σ vs) vs = L2.wipe σ vs := wipe_twice fun _ h => h
  cases it1 with
  | its ds =>
    have r1 : Feeds K cA F1 m1 ds J := r1
    refine ⟨fun i n H => n = ds.length - i ∧ i ≤ ds.length ∧ ∃ F m s acc us, Same F1 F ∧ m1 <+: m ∧ Rel K cA (upd G L (.dK us)) F m s H ∧ DRep K F m acc us ∧ acc.length ≤ i ∧ Post K cA G W RepV σ F m Q ((noExc (dcIts (dcTurn T.tg t k v (Rh.wipe ρ vs)) (ds.drop i) acc s)).bind dcFin),
      ⟨ds.length, by simp, Nat.zero_le _, F1, m1, s1, [], [], Same.refl F1, List.prefix_refl m1, R1', ⟨rfl, rfl⟩, Nat.le_refl _, h1⟩, ?_⟩
    rintro i n H2 ⟨rfl, hi, F2, m2, s2, acc, us, e2, p2, R2, ra, hl, h2⟩
    by_cases hlt : i < ds.length
    · have hd : ds[i]? = some ds[i] := List.getElem?_eq_getElem hlt
      obtain ⟨g1, g2⟩ := r1.go i ds[i] _ F2 m2 s2 H2 hd e2 p2 R2
      refine .inr ⟨g1, fun H' => ∃ F m s acc us, Same F1 F ∧ m1 <+: m ∧ Rel K cA (upd G L (.dK us)) F m s H' ∧ DRep K F m acc us ∧ acc.length ≤ i + 1 ∧ Post K cA G W RepV σ F m Q ((noExc (dcIts (dcTurn T.tg t k v (Rh.wipe ρ vs)) (ds.drop (i + 1)) acc s)).bind dcFin),
        fun H' q => ⟨ds.length - (i + 1), by omega, rfl, hlt, q⟩, fun x H' y => ?_⟩
      obtain ⟨F3, e3, R3, r3⟩ := g2 x H' y
      rw [List.drop_eq_getElem_cons hlt, dcIts] at h2
      have z := dc_turn (T := T) (L := L) (σw := L2.wipe σ vs) hT upd_same (ra.mono e3 (List.prefix_refl m2)) (by have := r1.len; omega) R3 (en1.mono (e2.trans e3) p2) r3 (Post.mono e3 (List.prefix_refl m2) h2)
        (Nx := fun H' => ∃ F m s acc us, Same F1 F ∧ m1 <+: m ∧ Rel K cA (upd G L (.dK us)) F m s H' ∧ DRep K F m acc us ∧ acc.length ≤ i + 1 ∧ Post K cA G W RepV σ F m Q ((noExc (dcIts (dcTurn T.tg t k v (Rh.wipe ρ vs)) (ds.drop (i + 1)) acc s)).bind dcFin))
        (fun F4 m4 s4 acc4 us4 H4 e4 p4 l4 R4 u4 q4 => ⟨F4, m4, s4, acc4, us4, (e2.trans e3).trans e4, p2.trans p4, by rw [upd_upd] at R4; exact R4, u4, by omega, q4⟩)
      rw [ww] at z
      exact z
    · have e : i = ds.length := by omega
      subst e
      rw [List.drop_length, dcIts] at h2
      refine .inl ⟨r1.stop _ F2 m2 s2 H2 e2 p2 R2, ?_⟩
      have hL2 : H2 L = some (.dK us) := R2.gs L _ upd_same
      obtain ⟨g1, g2⟩ := R2.gf L _ upd_same
      have gl : Same G (fun b => if b = L then none else upd G L (.dK us) b) := fun b o e => by
        have hb : b ≠ L := ne_of_none e hGL
        dsimp only
        rw [if_neg hb, upd_ne hb]
        exact e
      exact h2 F2 (m2 ++ [L]) (.ref L) H2 (Same.refl F2) (List.prefix_append m2 [L]) ((R2.adoptOb (o := .dk acc) hL2 g1 g2 ⟨us, rfl, ra.1, RepVs.mono (Same.refl F2) (List.prefix_append m2 [L]) _ _ ra.2⟩).less gl) R2.newRef
  | live vw => exact h1.elim
variable {X : Cx} {kx vx tg iter : Expr} {pos : Pos}
theorem x_dc {ifs : List Expr} {scope : Scope} {own : List (Str × Nat)} {T : Tn} (hc : X.calm = true) (hN : X.N.Nodup) (hs : plainIter iter = true) (hi : SI X cA W tg iter it) (ok : BlkOk X.N X.env.scope scope own) (hT : T.all (fun i => decide (i ∈ own.map (·.2))) = true)
    (hg : BlkCx X scope fun Y => PG Y tg (T.lay X.K)) (ht : BlkCx X scope fun Y => PTs Y ifs (rT X.K cA W0 t)) (hk : BlkCx X scope fun Y => PE Y kx (rE X.K cA W0 k)) (hv : BlkCx X scope fun Y => PE Y vx (rE X.K cA W0 v)) :
    SE X cA W (.DictComp kx vx [⟨tg, iter, ifs, 0⟩] scope pos) (eDc it T.tg t k v (own.map (·.2))) :=
  (pe_dc hc hN hi ok hg ht hk hv (iter_plain hs)).of fun _ _ _ h => rd_dc hT h
/-- name = {k: v ..} on one line -/
theorem ps_setDc {i : Nat} {y : Str} {py : Pos} {ifs : List Expr} {scope : Scope} {own : List (Str × Nat)} {pos spos : Pos} {wi : TI} {g : TG} {tt : TT} {tk tv : TE} (hc : X.calm = true) (hN : X.N.Nodup) (hy : X.N[i]? = some y) (hyl : X.env.scope.names.lookup y = some .local)
    (hsw : swapsWith (.DictComp kx vx [⟨tg, iter, ifs, 0⟩] scope pos) (some (.Name y py)) spos.line X.env = pure true) (hi : PI X tg iter wi) (ok : BlkOk X.N X.env.scope scope own)
    (hg : BlkCx X scope fun Y => PG Y tg g) (ht : BlkCx X scope fun Y => PTs Y ifs tt) (hk : BlkCx X scope fun Y => PE Y kx tk) (hv : BlkCx X scope fun Y => PE Y vx tv) (hs : ∀ x, foldedSetIterable iter X.env x = pure x) :
    PS X (.Assign [.Name y py] (.DictComp kx vx [⟨tg, iter, ifs, 0⟩] scope pos) spos) (tAsg (tDc wi g tt tk tv (own.map (·.2))) (gName i)) := by
  refine ⟨fun pins s σ H D I h => ?_⟩
  rw [exec_Assign_Name_used _ _ _ _ hsw]
  refine wpAny_bind (wpAny_standAt (wpAny_bind ?_))
  show wpAny _ X.A (do let _ ← comprehension (.DictComp kx vx [⟨tg, iter, ifs, 0⟩] scope pos) scope X.env (firstIterPos [⟨tg, iter, ifs, 0⟩] pos) newDict false (eval iter X.env) (some (assign (.Name y py) X.env))) _ _ s
  have h : tDc wi g tt tk tv (own.map (·.2)) σ H (fun x H1 => gName i x σ H1 D.nx) := h
  refine wpAny_bind (thn (dc_core (Qf := fun _ s' => SP X pins D .next s') hc hN I hi ok hg ht hk hv hs h fun L C s' m H' I' q hn f => ?_) fun _ s' hq => wpAny_pure (wpAny_pure hq))
  show wpAny _ _ (assign (.Name y py) X.env (.ref L)) _ _ _
  refine wpAny_assign_Name (store_ok2 (v := V.ref L) I' hN hy (.inl hyl) rfl (fun s2 I2 ⟨a, sb, ha⟩ => ?_) (.inr hyl))
  obtain ⟨f0, f1, f2, f3, f4, f5⟩ := f
  have haC : C ≠ a := by
    rcases ha with z | z
    · rw [z]; exact f1
    · exact fun e => f4 y a z e.symm
  refine ⟨m, hn.sameBut sb haC, fun h3 sb3 => ?_⟩
  exact ⟨_, H', I2.turned (t' := s2.toks) (fun b o hb e => (sb3.2 b hb).trans e) f0 f1 f3 f4 f5, q⟩
theorem y_setDc {i : Nat} {y : Str} {py spos : Pos} {ifs : List Expr} {scope : Scope} {own : List (Str × Nat)} {T : Tn} (hc : X.calm = true) (hN : X.N.Nodup) (hy : X.N[i]? = some y) (hyl : X.env.scope.names.lookup y = some .local)
    (hsw : swapsWith (.DictComp kx vx [⟨tg, iter, ifs, 0⟩] scope pos) (some (.Name y py)) spos.line X.env = pure true) (hs : plainIter iter = true) (hi : SI X cA W tg iter it) (ok : BlkOk X.N X.env.scope scope own) (hT : T.all (fun i => decide (i ∈ own.map (·.2))) = true)
    (hg : BlkCx X scope fun Y => PG Y tg (T.lay X.K)) (ht : BlkCx X scope fun Y => PTs Y ifs (rT X.K cA W0 t)) (hk : BlkCx X scope fun Y => PE Y kx (rE X.K cA W0 k)) (hv : BlkCx X scope fun Y => PE Y vx (rE X.K cA W0 v)) :
    SS X cA W (.Assign [.Name y py] (.DictComp kx vx [⟨tg, iter, ifs, 0⟩] scope pos) spos) (sAsg (eDc it T.tg t k v (own.map (·.2))) (gNm i)) :=
  (ps_setDc hc hN hy hyl hsw hi ok hg ht hk hv (iter_plain hs)).of fun _ _ _ h => rd_dc hT (rs_asgNm h)
end
end Rh
end

section
set_option Elab.async false
set_option linter.all false
set_option maxRecDepth 100000
set_option maxHeartbeats 1000000
/-! max, min of lists and of three; dict of pairs; isinstance; list(range) -/
namespace Rh
open PySem L2

/-! ### data -/
def bMinA : List D → Sto → R D
  | [.int i, .int j], s => .ok (.int (if j < i then j else i)) s
  | [.int i, .int j, .int k], s => .ok (.int (if k < (if j < i then j else i) then k else if j < i then j else i)) s
  | [d], s => (match lstOf s d with
    | some ds => (match intsOf ds with
      | some (n :: ns) => .ok (.int (ns.foldl min n)) s
      | _ => .bad)
    | none => .bad)
  | _, _ => .bad
def bMaxA : List D → Sto → R D
  | [.int i, .int j], s => .ok (.int (if j > i then j else i)) s
  | [d], s => (match lstOf s d with
    | some ds => (match intsOf ds with
      | some (n :: ns) => .ok (.int (ns.foldl max n)) s
      | _ => .bad)
    | none => .bad)
  | _, _ => .bad
/-- max(xs, default=k) -/
def bMaxD (k : Int) : List D → Sto → R D
  | [d], s => (match lstOf s d with
    | some ds => (match intsOf ds with
      | some [] => .ok (.int k) s
      | some (n :: ns) => .ok (.int (ns.foldl max n)) s
      | none => .bad)
    | none => .bad)
  | _, _ => .bad
def pairOf : D → Option (Ky × D)
  | .tup [k, v] => (kyOf k).map fun k => (k, v)
  | _ => none
def pairsOf : List D → Option (List (Ky × D))
  | [] => some []
  | d :: ds => match pairOf d, pairsOf ds with
    | some p, some ps => some (p :: ps)
    | _, _ => none
def mergeA (kvs more : List (Ky × D)) : List (Ky × D) := more.foldl (fun acc kv => putA acc kv.1 kv.2) kvs
/-- dict(xs), xs a list of pairs -/
def bDictP : List D → Sto → R D
  | [d], s => (match lstOf s d with
    | some ds => (match pairsOf ds with
      | some ps => .ok (.ref s.length) (s ++ [.dk (mergeA [] ps)])
      | none => .bad)
    | none => .bad)
  | _, _ => .bad
def tyName (s : Sto) : D → Option Str
  | .non => some "NoneType"
  | .bl _ => some "bool"
  | .int _ => some "int"
  | .str _ => some "str"
  | .tup _ => some "tuple"
  | .cl _ => some "list"
  | .ref l => match s[l]? with
    | some (.lst _) => some "list"
    | some (.dk _) => some "dict"
    | some (.dt _) => some "dict"
    | _ => none
  | _ => none
/-- isinstance(x, T), T a built-in type that has no other below it but bool below int -/
def isTy (T : Str) (n : Str) : Bool := n == T || (n == ("bool" : Str) && T == ("int" : Str))
def opIsi (T : Str) : D → Sto → R D := fun d s => match tyName s d with
  | some n => .ok (.bl (isTy T n)) s
  | none => .bad
/-- list(range(n)) -/
def rgD (n : Int) : List D := (List.range n.toNat).map fun (i : Nat) => D.int (i : Int)
def opRgL (fr : Bool) : D → Sto → R D := fun d s => match d with
  | .int n => if 0 ≤ n ∧ n ≤ 16777216 then (if fr then .ok (.cl (rgD n)) s else .ok (.ref s.length) (s ++ [.lst (rgD n)])) else .bad
  | _ => .bad
theorem nx_minA : Nx0 bMinA := by
  intro d s x s' h
  unfold bMinA at h
  repeat' split at h
  all_goals cases h
theorem nx_maxA : Nx0 bMaxA := by
  intro d s x s' h
  unfold bMaxA at h
  repeat' split at h
  all_goals cases h
theorem nx_maxD (k : Int) : Nx0 (bMaxD k) := by
  intro d s x s' h
  unfold bMaxD at h
  repeat' split at h
  all_goals cases h
theorem nx_dictP : Nx0 bDictP := by
  intro d s x s' h
  unfold bDictP at h
  repeat' split at h
  all_goals cases h
theorem nx_isi (T : Str) : Nx0 (opIsi T) := by
  intro d s x s' h
  unfold opIsi at h
  repeat' split at h
  all_goals cases h
theorem nx_rgL (fr : Bool) : Nx0 (opRgL fr) := by
  intro d s x s' h
  unfold opRgL at h
  repeat' split at h
  all_goals cases h

section
variable {X : Cx} {cA : Bg} {W : WX} {a b c e : Expr} {ea eb ec : Ev} {pos p p2 : Pos}
theorem alike_ints (ns : List Int) : PySem.W.AlikeAll (ns.map PyData.int) := by
  refine ⟨fun x hx y hy => ?_, fun x hx => ?_⟩
  · obtain ⟨i, _, rfl⟩ := List.mem_map.mp hx
    obtain ⟨j, _, rfl⟩ := List.mem_map.mp hy
    rfl
  · obtain ⟨i, _, rfl⟩ := List.mem_map.mp hx
    simp
theorem depth_ints (ns : List Int) : PyData.depthAll (ns.map PyData.int) = 0 := by
  induction ns with
  | nil => simp [PyData.depthAll]
  | cons n ns ih => rw [List.map_cons, PyData.depthAll, ih]; simp [PyData.depth]
theorem reads_one {h : Heap} {v : Value} {i : Int} {bs : List Addr} (r : Reads h v (.int i) bs) : RelV (.int i) v := by
  cases r
  exact ⟨_, rfl⟩
/-- max(xs), min(xs) -/
theorem call_maxL (hc : X.calm = true) (hu : X.A.units + 1 < cLine) : CallR X (.builtin "max") (fun xs H Q => ∃ (a : Addr) (n : Int) (ns : List Int), xs = [.ref a] ∧ SqL X.K H a ((n :: ns).map V.int) ∧ Q (.int (ns.foldl max n)) H) := by
  intro pins s σ H xs us Q I r ⟨a, n, ns, e, hs, q⟩
  subst e
  rw [Vals.ref1 r]
  obtain ⟨its, rv, pl, _⟩ := I.list hs
  have hr := PyProof.Rows.IntsAre.reads s.heap rv.ints
  rw [List.map_cons] at hr
  refine PySem.W.max_list_data (I.ok.hd hc) pl.isList (by rw [List.toList_toArray]; exact hr) (by rw [← List.map_cons (f := PyData.int)]; exact alike_ints _) (by rw [← List.map_cons (f := PyData.int), depth_ints]; exact hu) fun i v h' tk bs hv hrv k => ?_
  rw [PySem.W.maxD_ints] at hrv
  exact ⟨_, H, I.kept k, reads_one hrv, q⟩
theorem call_minL (hc : X.calm = true) (hu : X.A.units + 1 < cLine) : CallR X (.builtin "min") (fun xs H Q => ∃ (a : Addr) (n : Int) (ns : List Int), xs = [.ref a] ∧ SqL X.K H a ((n :: ns).map V.int) ∧ Q (.int (ns.foldl min n)) H) := by
  intro pins s σ H xs us Q I r ⟨a, n, ns, e, hs, q⟩
  subst e
  rw [Vals.ref1 r]
  obtain ⟨its, rv, pl, _⟩ := I.list hs
  have hr := PyProof.Rows.IntsAre.reads s.heap rv.ints
  rw [List.map_cons] at hr
  refine PySem.W.min_list_data (I.ok.hd hc) pl.isList (by rw [List.toList_toArray]; exact hr) (by rw [← List.map_cons (f := PyData.int)]; exact alike_ints _) (by rw [← List.map_cons (f := PyData.int), depth_ints]; exact hu) fun i v h' tk bs hv hrv k => ?_
  rw [PySem.W.minD_ints] at hrv
  exact ⟨_, H, I.kept k, reads_one hrv, q⟩
theorem RepVs.of3 {K : PySem.W.Frag} {F : Hp} {m : List Addr} {d e f : D} {xs : List V} (r : RepVs K F m [d, e, f] xs) : ∃ x y z, xs = [x, y, z] ∧ RepV K F m d x ∧ RepV K F m e y ∧ RepV K F m f z := by
  obtain ⟨x, r, rfl, h1, y, r2, rfl, h2, z, r3, rfl, h3, h4⟩ := r
  have h4 : r3 = [] := h4
  subst h4
  exact ⟨x, y, z, rfl, h1, h2, h3⟩
theorem c_maxA (hc : X.calm = true) (hu : X.A.units + 1 < cLine) : CallR X (.builtin "max") (rOn X.K cA bMaxA) := c_of ((call_max2 hc).or (call_maxL hc hu)) fun G F m s ds H xs Q R rd q => by
  unfold bMaxA at q
  split at q
  · obtain ⟨x, y, rfl, r1, r2⟩ := rd.of2
    have r1 : x = .int _ := r1
    have r2 : y = .int _ := r2
    exact .inl ⟨_, _, by rw [r1, r2], okP.now q R rfl⟩
  · split at q
    · rename_i es hs
      split at q
      · rename_i n ns hn
        obtain ⟨x, rfl, r⟩ := rd.of1
        obtain ⟨a, vs, rfl, h1, _, h2⟩ := lstOf_rep R r hs
        rw [h2.ints hn] at h1
        exact .inr ⟨a, n, ns, rfl, h1, okP.now q R rfl⟩
      · exact q.elim
    · exact q.elim
  · exact q.elim
theorem c_minA (hc : X.calm = true) (hu : X.A.units + 1 < cLine) : CallR X (.builtin "min") (rOn X.K cA bMinA) := c_of (((call_min2 hc).or (call_min3Nu hc)).or (call_minL hc hu)) fun G F m s ds H xs Q R rd q => by
  unfold bMinA at q
  split at q
  · obtain ⟨x, y, rfl, r1, r2⟩ := rd.of2
    have r1 : x = .int _ := r1
    have r2 : y = .int _ := r2
    exact .inl (.inl ⟨_, _, by rw [r1, r2], okP.now q R rfl⟩)
  · rename_i i j k
    obtain ⟨x, y, z, rfl, r1, r2, r3⟩ := rd.of3
    have r1 : x = .int i := r1
    have r2 : y = .int j := r2
    have r3 : z = .int k := r3
    subst r1 r2 r3
    refine .inl (.inr ⟨_, _, _, .int (if k < (if j < i then j else i) then k else if j < i then j else i), rfl, ?_, okP.now q R rfl⟩)
    unfold nuMin3 nuMin2 nuLt nuCB
    dsimp only [Option.map, Option.bind]
    by_cases h1 : j < i
    · rw [decide_eq_true h1, if_pos rfl, if_pos h1]
      dsimp only
      by_cases h2 : k < j
      · rw [decide_eq_true h2, if_pos rfl, if_pos h2]
      · rw [decide_eq_false h2, if_neg (by decide), if_neg h2]
    · rw [decide_eq_false h1, if_neg (by decide), if_neg h1]
      dsimp only
      by_cases h2 : k < i
      · rw [decide_eq_true h2, if_pos rfl, if_pos h2]
      · rw [decide_eq_false h2, if_neg (by decide), if_neg h2]
  · split at q
    · rename_i es hs
      split at q
      · rename_i n ns hn
        obtain ⟨x, rfl, r⟩ := rd.of1
        obtain ⟨a, vs, rfl, h1, _, h2⟩ := lstOf_rep R r hs
        rw [h2.ints hn] at h1
        exact .inr ⟨a, n, ns, rfl, h1, okP.now q R rfl⟩
      · exact q.elim
    · exact q.elim
  · exact q.elim
/-- max(xs, default=k) -/
theorem pe_maxD {t : TA} {k : Int} {n : Nat} {kp cp : Pos} (hc : X.calm = true) (hu : X.A.units + 1 < cLine) (hg : Gl X "max") (hmg : X.mg "max" = none) (ha : PA X [e] t) (hs : noStar e = true) (hk : PE X (.Constant (.int k) n p2) (tC (.int k))) :
    PE X (.Call (.Name "max" p) [e] [⟨some "default", .Constant (.int k) n p2, kp⟩] cp) (tCB (rOn X.K cA (bMaxD k)) t) := by
  refine ⟨fun pins s σ H Q I h => ?_⟩
  refine wpAny_Call_Name_kw (ld_blt I hg hmg (by rfl) ?_ (by decide) (by decide))
  refine PyProof.Rows.callWith_kw (thn (ha.run cp pins s σ H _ I h) fun us s1 ⟨vs, H1, I1, r1, q1⟩ => ?_) (starEach_cons hs ▸ rfl) (starEach_plain (es := [e]) (by simp [hs])) (by rfl) (by rfl)
  obtain ⟨G, F, m, st, ds, R, rv, q⟩ := q1
  show wpAny _ _ (evalAll ((do let v ← eval (.Constant (.int k) n p2) X.env; standAt cp; pure v) :: [])) _ _ s1
  refine wpAny_evalAll_cons (wpAny_bind (thn (hk.run pins s1 σ H1 (fun v H' => v = .int k ∧ H' = H1) I1 ⟨rfl, rfl⟩) fun u s2 ⟨v, H2, I2, r2, q2⟩ => wpAny_bind (wpAny_standAt (wpAny_pure (wpAny_evalAll_nil ?_)))))
  obtain ⟨ev, eH⟩ := q2
  subst ev eH
  unfold bMaxD at q
  split at q
  · rename_i d
    split at q
    · rename_i es hes
      obtain ⟨x, rfl, rx⟩ := rv.of1
      obtain ⟨a, xs, rfl, hsq, hz, rxs⟩ := lstOf_rep R rx hes
      obtain ⟨its, rits, pl, hz2⟩ := I2.list hsq
      have eus : us = [.ref a] := by
        cases r1 with
        | cons h t =>
          cases t
          rw [show _ = Value.ref a from h]
      subst eus
      show wpAny _ _ (call (.builtin "max") [.ref a] [("default", u)]) _ _ s2
      have core : ∀ ns, intsOf es = some ns → (ns = [] → Q (.int k) H2) → (∀ n' r, ns = n' :: r → Q (.int (r.foldl max n')) H2) → wpAny (model X.prog X.w) X.A (call (.builtin "max") [.ref a] [("default", u)]) (EP X pins σ Q) X.xe s2 := by
        intro ns hn q0 q1
        rw [rxs.ints hn] at rits
        have hr := PyProof.Rows.IntsAre.reads s2.heap rits.ints
        refine PySem.W.max_list_default (I2.ok.hd hc) pl.isList (by rw [List.toList_toArray]; exact hr) (alike_ints _) (by rw [depth_ints]; exact hu) (fun e h' tk kp => ?_) fun y ys i v h' tk bs e hv hrv kp => ?_
        · have e0 : ns = [] := by
            cases ns with
            | nil => rfl
            | cons _ _ => cases e
          exact ⟨_, _, I2.kept kp, r2, q0 e0⟩
        · cases ns with
          | nil => cases e
          | cons n' r =>
            rw [List.map_cons] at e
            cases e
            rw [PySem.W.maxD_ints] at hrv
            exact ⟨_, _, I2.kept kp, reads_one hrv, q1 n' r rfl⟩
      split at q
      · rename_i hn
        exact core [] hn (fun _ => okP.now q R rfl) fun n' r e => (by cases e)
      · rename_i n' r hn
        exact core (n' :: r) hn (fun e => (by cases e)) fun n2 r2 e => by
          cases e
          exact okP.now q R rfl
      · exact q.elim
    · exact q.elim
  · exact q.elim
theorem pairs_rep {K : PySem.W.Frag} {F : Hp} {m : List Addr} {H : Hp} (ex : Same F H) : ∀ {ds : List D} {vs : List V} {ps : List (Ky × D)}, RepVs K F m ds vs → pairsOf ds = some ps → ∃ (as : List Addr) (kvs : List (Key × V)), vs = as.map V.ref ∧ Paired (fun p kv => SqT K H p [kV kv.1, kv.2]) as kvs ∧ kvs.map (·.1) = ps.map (·.1) ∧ RepVs K F m (ps.map (·.2)) (kvs.map (·.2))
  | [], vs, ps, r, h => by
    cases h
    have r : vs = [] := r
    exact ⟨[], [], r, .nil, rfl, rfl⟩
  | d :: ds, vs, ps, r, h => by
    obtain ⟨v, w, rfl, r1, r2⟩ := r
    unfold pairsOf at h
    split at h
    · rename_i q qs h1 h2
      cases h
      obtain ⟨as, kvs, e1, e2, e3, e4⟩ := pairs_rep ex r2 h2
      unfold pairOf at h1
      split at h1
      · rename_i k x
        cases hk : kyOf k with
        | none => rw [hk] at h1; cases h1
        | some ky =>
          rw [hk] at h1
          cases h1
          obtain ⟨a, us, rfl, g1, g2⟩ := r1
          obtain ⟨u1, u2, rfl, rk, rx⟩ := g2.of2
          have := kyOf_rep rk hk
          subst this
          exact ⟨a :: as, (ky, u2) :: kvs, by rw [e1]; rfl, .cons (SqT.of (ex _ _ g1)) e2, by rw [List.map_cons, List.map_cons, e3], u2, _, rfl, rx, e4⟩
      · cases h1
    · cases h
theorem merge_rep {K : PySem.W.Frag} {F : Hp} {m : List Addr} : ∀ {ps kvs0 : List (Ky × D)} {ws ws0 : List (Key × V)}, DRep K F m kvs0 ws0 → DRep K F m ps ws → DRep K F m (mergeA kvs0 ps) (mergeK ws0 ws)
  | [], _, [], _, h, _ => h
  | [], _, _ :: _, _, _, h => by
    have := h.1
    cases this
  | _ :: _, _, [], _, _, h => by
    have := h.1
    cases this
  | p :: ps, kvs0, w :: ws, ws0, h0, h => by
    obtain ⟨e1, v, r, e2, r1, r2⟩ := h
    rw [List.map_cons] at e2
    cases e2
    rw [List.map_cons, List.map_cons, List.cons.injEq] at e1
    obtain ⟨p1, p2⟩ := putA_rep (k := p.1) h0.1 h0.2 r1
    have hw : w = (p.1, w.2) := by rw [← e1.1]
    show DRep K F m (mergeA (putA kvs0 p.1 p.2) ps) (mergeK (putK ws0 w.1 w.2) ws)
    rw [e1.1]
    exact merge_rep ⟨p1, p2⟩ ⟨e1.2, r2⟩
theorem c_dictP (hc : X.calm = true) : CallR X (.type "dict") (rOn X.K cA bDictP) := c_of (call_dictP hc) fun G F m s ds H xs Q R rd q => by
  unfold bDictP at q
  split at q
  · split at q
    · rename_i es hs
      split at q
      · rename_i ps hp
        obtain ⟨x, rfl, r⟩ := rd.of1
        obtain ⟨a, vs, rfl, h1, _, h2⟩ := lstOf_rep R r hs
        obtain ⟨as, kvs, rfl, e2, e3, e4⟩ := pairs_rep R.ex h2 hp
        refine ⟨a, as, kvs, rfl, h1, e2, fun p hpn => ?_⟩
        have dr : DRep X.K F m (mergeA [] ps) (mergeK [] kvs) := merge_rep ⟨rfl, rfl⟩ ⟨e3, e4⟩
        exact q F (m ++ [p]) _ _ (Same.refl F) (List.prefix_append m [p]) (R.new hpn (o := .dk (mergeA [] ps)) ⟨_, rfl, dr.1, RepVs.mono (Same.refl F) (List.prefix_append m [p]) _ _ dr.2⟩) R.newRef
      · exact q.elim
    · exact q.elim
  · exact q.elim
theorem tyName_rep {K : PySem.W.Frag} {G F : Hp} {m : List Addr} {s : Sto} {H : Hp} {d : D} {x : V} {n : Str} (R : Rel K cA G F m s H) (r : RepV K F m d x) (h : tyName s d = some n) : ∃ t : String, TyX K H x (.type t) ∧ n = Str.ofString t ∧ t ∈ ["NoneType", "bool", "int", "str", "tuple", "list", "dict"] := by
  unfold tyName at h
  split at h
  · cases h; have r : x = .non := r; subst r; exact ⟨"NoneType", .base .non, rfl, by simp⟩
  · cases h; have r : x = .bl _ := r; subst r; exact ⟨"bool", .base (.bl _), rfl, by simp⟩
  · cases h; have r : x = .int _ := r; subst r; exact ⟨"int", .base (.int _), rfl, by simp⟩
  · cases h; have r : x = .str _ := r; subst r; exact ⟨"str", .base (.str _), rfl, by simp⟩
  · cases h; obtain ⟨a, vs, rfl, g1, g2⟩ := r; exact ⟨"tuple", .base (.tup (R.ex _ _ g1)), rfl, by simp⟩
  · cases h; obtain ⟨a, vs, rfl, g1, g2⟩ := r; exact ⟨"list", .base (.lst (R.ex _ _ g1)), rfl, by simp⟩
  · obtain ⟨a, rfl, hl⟩ := r
    split at h
    · rename_i ds q
      cases h
      have ⟨vs, g1, g2, g3⟩ := R.ob _ a _ hl q
      exact ⟨"list", .base (.lst g1), rfl, by simp⟩
    · rename_i ds q
      cases h
      have ⟨vs, g1, g2, g3⟩ := R.ob _ a _ hl q
      exact ⟨"dict", .base (.dK g1), rfl, by simp⟩
    · rename_i ds q
      cases h
      have ⟨vs, g1, g2, g3⟩ := R.ob _ a _ hl q
      exact ⟨"dict", .base (.dT g1), rfl, by simp⟩
    · cases h
  · cases h
theorem kit_ty (K : PySem.W.Frag) : ∀ t ∈ ["NoneType", "bool", "int", "str", "tuple", "list", "dict"], ∀ T ∈ ["bool", "int", "str", "tuple", "list"], PySem.W.kitOne K (.type t) (.type T) = some (isTy (Str.ofString T) (Str.ofString t)) := by
  intro t ht T hT
  simp only [List.mem_cons, List.not_mem_nil, or_false] at ht hT
  rcases ht with rfl | rfl | rfl | rfl | rfl | rfl | rfl <;> rcases hT with rfl | rfl | rfl | rfl | rfl <;> first | rfl | kernel_rfl
theorem pe_ty {x : Str} {T : String} (hg : Gl X x) (hm : X.mg x = none) (hv : bootBuiltins x = some (.type T)) (hn : x ≠ "__name__") (hd : (x == ("__debug__" : Str)) = false) : PE X (.Name x p) (tC (.ty T)) :=
  ⟨fun _ _ _ H _ I h => ld_blt I hg hm hv ⟨.ty T, H, I, rfl, h⟩ hn hd⟩
theorem x_isi {T : String} (hT : T ∈ ["bool", "int", "str", "tuple", "list"]) (hg : Gl X "isinstance") (hm : X.mg "isinstance" = none) (hgT : Gl X (Str.ofString T)) (hmT : X.mg (Str.ofString T) = none) (hvT : bootBuiltins (Str.ofString T) = some (.type T)) (hnT : Str.ofString T ≠ "__name__") (hdT : (Str.ofString T == ("__debug__" : Str)) = false)
    (hs : noStar e = true) (he : SE X cA W e ea) : SE X cA W (.Call (.Name "isinstance" p) [e, .Name (Str.ofString T) p2] [] pos) (eUn (opIsi (Str.ofString T)) ea) :=
  (pe_callB (call_isi) hg hm (by rfl) (pa_cons he (pa_cons (pe_ty hgT hmT hvT hnT hdT) pa_nil (starEach_cons rfl)) (starEach_cons hs)) (by decide) (by decide) (starEach_cons hs) (starEach_plain (es := [.Name (Str.ofString T) p2]) rfl)).of fun σ H Q h => by
    refine rd_step (f := opIsi (Str.ofString T)) h fun G F m s d v H1 R r q => ?_
    unfold opIsi at q
    split at q
    · rename_i n hn
      obtain ⟨t, hty, rfl, hmem⟩ := tyName_rep (K := X.K) R r hn
      exact ⟨v, .ty T, .type t, .type T, _, rfl, .ty T, hty, kit_ty X.K t hmem T hT, q F m _ _ (Same.refl F) (List.prefix_refl m) R rfl⟩
    · exact q.elim
theorem x_rgL {fr : Bool} {p1 : Pos} (hc : X.calm = true) (hg : Gl X "list") (hm : X.mg "list" = none) (hg2 : Gl X "range") (hm2 : X.mg "range" = none) (hs : noStar e = true) (he : SE X cA W e ea) :
    SE X cA W (.Call (.Name "list" p) [.Call (.Name "range" p1) [e] [] p2] [] pos) (eUn (opRgL fr) ea) :=
  (pe_listRg hc hg hm (prg_1 hg2 hm2 he (starEach_cons hs)) (starEach_cons rfl)).of fun σ H Q h => by
    refine rd_step (f := opRgL fr) h fun G F m s d v H1 R r q => ?_
    unfold opRgL at q
    split at q
    · rename_i n
      have r : v = .int n := r
      subst r
      split at q
      · rename_i hb
        refine ⟨n, rfl, ⟨by omega, by omega, by omega, by omega, by omega⟩, fun L hL => ?_⟩
        have er : rgV 0 n = (List.range n.toNat).map fun (i : Nat) => V.int (i : Int) := by
          unfold rgV
          rw [Int.sub_zero]
          refine List.map_congr_left fun i _ => ?_
          rw [Int.zero_add]
        have rr : ∀ l : List Nat, RepVs X.K F m (l.map fun (i : Nat) => D.int (i : Int)) (l.map fun (i : Nat) => V.int (i : Int)) := by
          intro l
          induction l with
          | nil => rfl
          | cons i l ih => exact ⟨_, _, rfl, rfl, ih⟩
        have hz : (rgD n).length ≤ szl := by
          unfold rgD szl
          rw [List.length_map, List.length_range]
          omega
        rw [er]
        split at q
        · exact okP.newCl (q.okP fun x s h => by cases h) R hL hz (rr _)
        · exact okP.newLst (q.okP fun x s h => by cases h) R hL hz (rr _)
      · exact q.elim
    · exact q.elim
end
end Rh
end

section
set_option Elab.async false
set_option linter.all false
set_option maxRecDepth 100000
set_option maxHeartbeats 1000000
/-! Calls of own defs: a def's promise by its plain function -/
namespace Rh
open PySem L2
/-- the promise of a def that computes sem of n things -/
def spF (K : PySem.W.Frag) (cA : Bg) (n : Nat) (sem : List D → Sto → R D) : Sp := fun vs H Q E => ∃ G F m s ds, Rel K cA G F m s H ∧ RepVs K F m ds vs ∧ ds.length = n ∧ Post K cA G (fun cls d _ H => E cls d H) RepV [] F m Q (sem ds s)
theorem spF_len {K : PySem.W.Frag} {cA : Bg} {n : Nat} {sem : List D → Sto → R D} : ∀ vs H Q E, spF K cA n sem vs H Q E → vs.length = n := by
  rintro vs H Q E ⟨G, F, m, s, ds, R, r, hn, _⟩
  rw [r.len, hn]
theorem Post.at {K : PySem.W.Frag} {cA : Bg} {G F : Hp} {m : List Addr} {W : WX} {σ : L2.St} {Q : VK} {r : R D} (h : Post K cA G W RepV σ F m Q r) : Post K cA G (fun cls d _ H => W cls d σ H) RepV [] F m Q r := by
  cases r with
  | ok a s => exact h
  | exc x s => exact h
  | bad => exact h
section
variable {X : Cx} {cA : Bg} {W : WX} {e : Expr} {es : List Expr} {pos p : Pos} {t tk : Ea} {x : Str} {k n : Nat} {f : Addr} {fd : FuncData} {ps ks : List Str} {ds : List Value} {dvs : List V} {dds : List D} {sem : List D → Sto → R D}
theorem RepVs.dflt {K : PySem.W.Frag} {F : Hp} {m : List Addr} {as : List D} {vs : List V} (r : RepVs K F m as vs) (hd : ∀ F m, RepVs K F m dds dvs) : RepVs K F m (as ++ dds) (vs ++ dvs) := r.append (hd F m)
/-- f(e, ..) -/
theorem x_callF (F : FnOk X.prog X.w X.K X.mg X.base (L2.CX X.prog X.w) k f fd ps (spF X.K cA n sem)) (hr : Room k X.A) (hg : Gl X x) (hm : X.mg x = some (.ref f)) (hk : PySem.W.keepIn X.K (.ref f) = true) (hb : Binds X.K fd ps ds) (hd : Vals dvs ds) (hdd : ∀ F m, RepVs X.K F m dds dvs)
    (hx : ∀ σ, PassesAt (L2.CX X.prog X.w) X σ (WE W σ)) (hs : (e :: es).all noStar = true) (hdb : (x == ("__debug__" : Str)) = false) (ha : SA X cA W (e :: es) t) : SE X cA W (.Call (.Name x p) (e :: es) [] pos) (eArg (fun as s => if as.length + dds.length = n then sem (as ++ dds) s else .bad) t) := by
  rw [List.all_cons, Bool.and_eq_true] at hs
  refine (pe_callSD (E := WE W) F hr hg hm hk hb hd hx ha hdb (starEach_cons hs.1) (starEach_plain hs.2)).of fun σ H Q h => ?_
  refine rd_step h fun G F m s as v H1 R r q => ?_
  by_cases hn : as.length + dds.length = n
  · rw [if_pos hn] at q
    exact ⟨G, F, m, s, as ++ dds, R, r.dflt hdd, by rw [List.length_append]; exact hn, q.at⟩
  · rw [if_neg hn] at q
    exact q.elim
/-- f(e, .., k = v, ..) -/
def eKw (g : List D → List D → Sto → R D) (a b : Ea) : Ev := fun ρ s => (a ρ s).bind fun xs s1 => (b ρ s1).bind fun ys s2 => g xs ys s2
theorem rd_kw {K : PySem.W.Frag} {σ : L2.St} {H : Hp} {Q : VK} {g : List D → List D → Sto → R D} {a b : Ea} {Qb : List V → List V → Hp → Prop} (h : rE K cA W (eKw g a b) σ H Q)
    (c : ∀ G F m s xs ys us vs H1, Rel K cA G F m s H1 → RepVs K F m xs us → RepVs K F m ys vs → Post K cA G W RepV σ F m Q (g xs ys s) → Qb us vs H1) : rA K cA W a σ H fun us H1 => rA K cA W b σ H1 fun vs H2 => Qb us vs H2 := by
  obtain ⟨G, F, m, ρ, s, R, en, h⟩ := h
  refine ⟨G, F, m, ρ, s, R, en, (Post.bind (rep := RepVs) h).imp fun us H1 ⟨F1, m1, s1, xs, e1, p1, R1, r1, _, h1⟩ => ?_⟩
  exact ⟨G, F1, m1, ρ, s1, R1, en.mono e1 p1, (Post.bind (rep := RepVs) h1).imp fun vs H2 ⟨F2, m2, s2, ys, e2, p2, R2, r2, _, h2⟩ => c G F2 m2 s2 xs ys us vs H2 R2 (RepVs.mono e2 p2 _ _ r1) r2 h2⟩
variable {g : List Value → List Value → List Value} {gV : List V → List V → List V} {gD : List D → List D → List D}
theorem run_fnkS {pins : List (Addr × Obj)} {σ : L2.St} {H : Hp} {s : Shared} {Q : VK} {us ws : List Value} {vs zs : List V} {sp : Sp} {E : L2.St → XK} (F : FnOk X.prog X.w X.K X.mg X.base (L2.CX X.prog X.w) k f fd ps sp) (hr : Room k X.A) (hb : KBinds X.K fd ps ks g gV) (hx : PassesAt (L2.CX X.prog X.w) X σ (E σ))
    (I : Inv X pins σ H s) (r : Vals vs us) (rz : Vals zs ws) (h : sp (gV vs zs) H Q (E σ)) : wpAny (model X.prog X.w) X.A (call (.ref f) us (ks.zip ws)) (EP X pins σ Q) X.xe s := by
  have r2 := hb.rel r rz
  have hl : (g us ws).length = ps.length := by rw [← r2.length]; exact F.len _ _ _ _ h
  refine wpAny_call (codeAny_mono (F.run X.A X.stack s H ⟨us, ks.zip ws⟩ (g us ws) (gV vs zs) Q (E σ) hr I.env0 (hb.to s us ws I.kIn hl) r2 h) fun r s' hq => ?_)
  cases r with
  | error e => exact hx pins H s e s' I hq
  | ok fl =>
    cases fl with
    | ret u => exact I.after hq
    | next => exact False.elim hq
    | brk => exact False.elim hq
    | cont => exact False.elim hq
theorem pe_callKS {ta tkv : TA} {sp : Sp} {E : L2.St → XK} {kws : List Keyword} (F : FnOk X.prog X.w X.K X.mg X.base (L2.CX X.prog X.w) k f fd ps sp) (hr : Room k X.A) (hg : Gl X x) (hm : X.mg x = some (.ref f)) (hk : PySem.W.keepIn X.K (.ref f) = true) (hb : KBinds X.K fd ps ks g gV) (hx : ∀ σ, PassesAt (L2.CX X.prog X.w) X σ (E σ))
    (ha : PA X (e :: es) ta) (hkw : PK X kws tkv) (hall : (backToKw pos (keywordEach kws X.env)).all (·.1.isSome) = true) (hks : (backToKw pos (keywordEach kws X.env)).filterMap (·.1) = ks)
    (hdb : (x == ("__debug__" : Str)) = false) (he : starEach (e :: es) X.env = (false, eval e X.env) :: starEach es X.env)
    (hpl : ((backTo pos (starEach (e :: es) X.env)).any (·.1) || (backToKw pos (keywordEach kws X.env)).any (·.1.isNone)) = false) :
    PE X (.Call (.Name x p) (e :: es) kws pos) (fun σ H Q => ta σ H fun vs H1 => tkv σ H1 fun zs H2 => sp (gV vs zs) H2 Q (E σ)) := by
  refine ⟨fun pins s σ H Q I h => ?_⟩
  refine wpAny_Call_Name_kw (ld_glob I hg hm ?_ hdb)
  refine PySem.W.callWith_KW (h₀ := X.base) I.ok.mod.kin hk hall (thn (ha.run pos pins s σ H _ I h) fun us s1 ⟨vs, H1, I1, r, q⟩ => ?_) hpl he
  refine thn (hkw.run pos pins s1 σ H1 _ I1 q) fun ws s2 ⟨zs, H2, I2, rz, q2⟩ => ⟨I2.kIn, ?_⟩
  rw [hks]
  exact run_fnkS F hr hb (hx σ) I2 r rz q2
abbrev SK (X : Cx) (cA : Bg) (W : WX) (kws : List Keyword) (a : Ea) : Prop := PK X kws (rA X.K cA W a)
theorem _root_.L2.PK.of {kws : List Keyword} {t t' : TA} (h : PK X kws t) (k : ∀ σ H Q, t' σ H Q → t σ H Q) : PK X kws t' := ⟨fun pos pins s σ H Q I q => h.run pos pins s σ H Q I (k σ H Q q)⟩
theorem k_nil : SK X cA W [] aNil := pk_nil.of fun _ _ _ h => rd_nil h
theorem k_cons {kws : List Keyword} {nm : Option Str} {kp : Pos} {ea : Ev} {t : Ea} (ha : SE X cA W e ea) (ht : SK X cA W kws t) : SK X cA W (⟨nm, e, kp⟩ :: kws) (aCons ea t) := (pk_cons ha ht).of fun _ _ _ h => rd_cons h
/-- the names of written keywords -/
def kwNames : List Keyword → Option (List Str)
  | [] => some []
  | ⟨some n, _, _⟩ :: r => (kwNames r).map (n :: ·)
  | ⟨none, _, _⟩ :: _ => none
theorem kw_facts {env : Env} {pos : Pos} : ∀ {kws : List Keyword} {ks : List Str}, kwNames kws = some ks → (backToKw pos (keywordEach kws env)).all (·.1.isSome) = true ∧ (backToKw pos (keywordEach kws env)).filterMap (·.1) = ks ∧ (backToKw pos (keywordEach kws env)).any (·.1.isNone) = false
  | [], ks, h => by
    cases h
    exact ⟨rfl, rfl, rfl⟩
  | ⟨some n, e, p⟩ :: r, ks, h => by
    unfold kwNames at h
    cases q : kwNames r with
    | none => rw [q] at h; cases h
    | some ks' =>
      rw [q] at h
      cases h
      obtain ⟨h1, h2, h3⟩ := kw_facts (env := env) (pos := pos) q
      refine ⟨?_, ?_, ?_⟩
      · show (true && _) = true
        exact h1
      · show n :: _ = n :: ks'
        exact congrArg (List.cons n) h2
      · show (false || _) = false
        exact h3
  | ⟨none, _, _⟩ :: _, _, h => by cases h
theorem x_callK {kws : List Keyword} (F : FnOk X.prog X.w X.K X.mg X.base (L2.CX X.prog X.w) k f fd ps (spF X.K cA n sem)) (hr : Room k X.A) (hg : Gl X x) (hm : X.mg x = some (.ref f)) (hk : PySem.W.keepIn X.K (.ref f) = true) (hb : KBinds X.K fd ps ks g gV)
    (hgV : ∀ F m xs ys us vs, RepVs X.K F m xs us → RepVs X.K F m ys vs → RepVs X.K F m (gD xs ys) (gV us vs)) (hx : ∀ σ, PassesAt (L2.CX X.prog X.w) X σ (WE W σ)) (hs : (e :: es).all noStar = true) (hkn : kwNames kws = some ks) (hdb : (x == ("__debug__" : Str)) = false) (ha : SA X cA W (e :: es) t) (hkw : SK X cA W kws tk) :
    SE X cA W (.Call (.Name x p) (e :: es) kws pos) (eKw (fun as zs s => if (gD as zs).length = n then sem (gD as zs) s else .bad) t tk) := by
  have hs' := hs
  rw [List.all_cons, Bool.and_eq_true] at hs'
  obtain ⟨h1, h2, h3⟩ := kw_facts (env := X.env) (pos := pos) hkn
  refine (pe_callKS (E := WE W) F hr hg hm hk hb hx ha hkw h1 h2 hdb (starEach_cons hs'.1) (by rw [starEach_plain hs, h3]; rfl)).of fun σ H Q h => ?_
  refine rd_kw h fun G F m s xs ys us vs H1 R r1 r2 q => ?_
  by_cases hn : (gD xs ys).length = n
  · rw [if_pos hn] at q
    exact ⟨G, F, m, s, _, R, hgV F m xs ys us vs r1 r2, hn, q.at⟩
  · rw [if_neg hn] at q
    exact q.elim
end
end Rh
end

section
set_option Elab.async false
set_option linter.all false
set_option maxRecDepth 100000
set_option maxHeartbeats 1000000
/-! The text read as combinators: den of expressions. -/
namespace Rh
open PySem L2
/-- what is known where a text is read: slots, kinds of names, constants, defs, defs with keywords, built-in names, the places whose lists are of the store, names of cells that may be written, whether lambdas may be made -/
structure Sx where
  N : List Str
  nm : List (Str × NameKind)
  vals : List (Str × D)
  fns : List (Str × (List D → Sto → R D))
  kfns : List (Str × List Str × (List D → List D → Sto → R D))
  blt : List Str
  mu : List (Nat × Nat)
  ct : List Str
  lam : Bool
def Sx.fr (sx : Sx) (p : Pos) : Bool := !(sx.mu.contains (p.line, p.col))
def slotFrom (x : Str) : List Str → Nat → Option Nat
  | [], _ => none
  | y :: ys, i => if y = x then some i else slotFrom x ys (i + 1)
def slotOf (N : List Str) (x : Str) : Option Nat := slotFrom x N 0
theorem slotFrom_at {x : Str} : ∀ {N : List Str} {i j : Nat}, slotFrom x N i = some j → ∃ k, j = i + k ∧ N[k]? = some x
  | [], _, _, h => by cases h
  | y :: ys, i, j, h => by
    unfold slotFrom at h
    split at h
    · rename_i e
      cases h
      exact ⟨0, rfl, by rw [e]; rfl⟩
    · obtain ⟨k, e, hk⟩ := slotFrom_at h
      exact ⟨k + 1, by omega, hk⟩
theorem slotOf_at {N : List Str} {x : Str} {i : Nat} (h : slotOf N x = some i) : N[i]? = some x := by
  obtain ⟨k, e, hk⟩ := slotFrom_at h
  rw [e, Nat.zero_add]
  exact hk
/-- no name of the run's own -/
def okNm (x : Str) : Bool := !(x == ("__debug__" : Str)) && !(x == ("__classdict__" : Str)) && !(x == ("__name__" : Str))
theorem okNm_of {x : Str} (h : okNm x = true) : (x == ("__debug__" : Str)) = false ∧ (x == ("__classdict__" : Str)) = false ∧ x ≠ "__name__" := by
  unfold okNm at h
  simp only [Bool.and_eq_true, Bool.not_eq_true'] at h
  exact ⟨h.1.1, h.1.2, beq_eq_false_iff_ne.mp h.2⟩
def isGl (nm : List (Str × NameKind)) (x : Str) : Bool := match nm.lookup x with
  | some .globalImplicit => true
  | _ => false
def isVis (nm : List (Str × NameKind)) (x : Str) : Bool := match nm.lookup x with
  | some .local => true
  | some .cell => true
  | some .free => true
  | _ => false
def isLc (nm : List (Str × NameKind)) (x : Str) : Bool := match nm.lookup x with
  | some .local => true
  | _ => false
/-- a built-in name -/
def isBlt (sx : Sx) (x : Str) : Bool := isGl sx.nm x && sx.blt.contains x && okNm x
def denName (sx : Sx) (x : Str) : Option Ev :=
  if okNm x then (if isVis sx.nm x then (slotOf sx.N x).map eVar else if isGl sx.nm x then (sx.vals.lookup x).map eC else none) else none
def denConst : Const → Option Ev
  | .int i => some (eC (.int i))
  | .str x => some (eC (.str x))
  | .bool b => some (eC (.bl b))
  | .none => some (eC .non)
  | _ => none
def binOf (fr : Bool) : Operator → Option (D → D → Sto → R D)
  | .Add => some (opAdd fr)
  | .Sub => some opSub
  | .Mult => some opMul
  | .FloorDiv => some opDiv
  | .Mod => some opMod
  | .Pow => some opPow
  | _ => none
def augOf : Operator → Option (D → D → Sto → R D)
  | .Add => some opAddN
  | .Sub => some opSub
  | _ => none
def cmpOf : CmpOp → Option (D → D → Sto → R D)
  | .Eq => some opEq
  | .NotEq => some opNe
  | .Lt => some opLt
  | .LtE => some opLe
  | .Gt => some opGt
  | .GtE => some opGe
  | _ => none
def bltOf (fr : Bool) (x : Str) : Option (List D → Sto → R D) :=
  if x = "len" then some bLen else if x = "max" then some bMaxA else if x = "min" then some bMinA else if x = "sum" then some bSum else if x = "abs" then some bAbs else if x = "int" then some bInt else if x = "list" then some (bLst fr) else if x = "dict" then some bDictP else none
def isiOf (x : Str) : Option String :=
  if x = "int" then some "int" else if x = "bool" then some "bool" else if x = "str" then some "str" else if x = "tuple" then some "tuple" else if x = "list" then some "list" else none
def denA (f : Expr → Option Ev) : List Expr → Option Ea
  | [] => some aNil
  | e :: es => if noStar e then (match f e, denA f es with
    | some a, some t => some (aCons a t)
    | _, _ => none) else none
def denK (f : Expr → Option Ev) : List Keyword → Option Ea
  | [] => some aNil
  | ⟨_, e, _⟩ :: ks => (match f e, denK f ks with
    | some a, some t => some (aCons a t)
    | _, _ => none)
def denAnd (f : Expr → Option Ev) : List Expr → Option Ev
  | [] => none
  | [e] => f e
  | e :: es => match f e, denAnd f es with
    | some a, some b => some (eAnd a b)
    | _, _ => none
def denOr (f : Expr → Option Ev) : List Expr → Option Ev
  | [] => none
  | [e] => f e
  | e :: es => match f e, denOr f es with
    | some a, some b => some (eOr a b)
    | _, _ => none
def denTAnd (f : Expr → Option Et) : List Expr → Option Et
  | [] => none
  | [e] => f e
  | e :: es => match f e, denTAnd f es with
    | some a, some b => some (Rh.tAnd a b)
    | _, _ => none
def denTOr (f : Expr → Option Et) : List Expr → Option Et
  | [] => none
  | [e] => f e
  | e :: es => match f e, denTOr f es with
    | some a, some b => some (Rh.tOr a b)
    | _, _ => none
def denO (f : Expr → Option Ev) : Option Expr → Option Eo
  | none => some oNone
  | some e => (f e).map oSome
/-- names and tuples of names as targets -/
def tnMap (f : Expr → Option Tn) : List Expr → Option (List Tn)
  | [] => some []
  | e :: es => if noStar e then (match f e, tnMap f es with
    | some a, some t => some (a :: t)
    | _, _ => none) else none
/-- a local, or a cell that may be written -/
def isTg (sx : Sx) (x : Str) : Bool := match sx.nm.lookup x with
  | some .local => true
  | some .cell => sx.ct.contains x
  | _ => false
def denTn (sx : Sx) : Nat → Expr → Option Tn
  | 0, _ => none
  | n + 1, e => match e with
    | .Name x _ => if isTg sx x then (slotOf sx.N x).map Tn.nm else none
    | .Tuple es _ _ => (tnMap (denTn sx n) es).map Tn.tp
    | _ => none
structure Den where
  e : Sx → Expr → Option Ev
  t : Sx → Expr → Option Et
def isTupleE : Expr → Bool
  | .Tuple _ _ _ => true
  | _ => false
/-- what is walked -/
def denI (d : Den) (sx : Sx) (tg : Expr) (it : Expr) : Option Ei := match it with
  | .Call (.Name x _) [a] [] _ => if x = "range" && isBlt sx x then (denA (d.e sx) [a]).map iRange1 else if x = "enumerate" && isBlt sx x then (if isTupleE tg then (denA (d.e sx) [a]).map iEnum else none) else (d.e sx it).map iVal
  | .Call (.Name x _) [a, b] [] _ => if x = "range" && isBlt sx x then (denA (d.e sx) [a, b]).map iRange2 else if x = "zip" && isBlt sx x then (if isTupleE tg then (denA (d.e sx) [a, b]).map iZip else none) else (d.e sx it).map iVal
  | e => (d.e sx e).map iVal
/-- the names of a comprehension's own scope -/
def relN (nm : List (Str × NameKind)) (scope : Scope) : List (Str × NameKind) := scope.names.map fun (n, k) => if (k == NameKind.free && nm.lookup n == some .cell) then (n, NameKind.cell) else (n, k)
def cellsOf : List (Str × NameKind) → List Str
  | [] => []
  | (n, k) :: r => if k == NameKind.cell then n :: cellsOf r else cellsOf r
def Sx.blk (sx : Sx) (scope : Scope) : Sx := { sx with nm := relN sx.nm scope, ct := cellsOf scope.names }
def ownOf (N : List Str) : List (Str × NameKind) → List (Str × Nat)
  | [] => []
  | (n, k) :: r => match k, slotOf N n with
    | .local, some i => (n, i) :: ownOf N r
    | .cell, some i => (n, i) :: ownOf N r
    | _, _ => ownOf N r
def scOf (nm : List (Str × NameKind)) : Scope := { kind := .function, names := nm, isGenerator := false, isCoroutine := false }
def denIfs (f : Expr → Option Et) : List Expr → Option Et
  | [] => some tYes
  | [c] => f c
  | _ => none
/-- the parts of a comprehension with one for: what is walked, the targets, the test, the own slots -/
def denGen (d : Den) (sx : Sx) (tg iter : Expr) (ifs : List Expr) (scope : Scope) : Option (Ei × Tn × Et × List Nat) :=
  if plainIter iter && blkC sx.N (scOf sx.nm) scope (ownOf sx.N scope.names) then
    match denI d sx tg iter, denTn (sx.blk scope) 8 tg, denIfs (d.t (sx.blk scope)) ifs with
    | some it, some T, some t => if T.all (fun i => decide (i ∈ (ownOf sx.N scope.names).map (·.2))) then some (it, T, t, (ownOf sx.N scope.names).map (·.2)) else none
    | _, _, _ => none
  else none
def denCall (d : Den) (sx : Sx) (x : Str) (es : List Expr) (kws : List Keyword) (p : Pos) : Option Ev := match es, kws with
  | [], _ => none
  | e :: es, [] =>
    if isGl sx.nm x && okNm x then
      (match sx.fns.lookup x with
      | some sem => (denA (d.e sx) (e :: es)).map (eArg sem)
      | none => if sx.blt.contains x then
          (if x = "isinstance" then (match es with
            | [.Name T _] => (match isiOf T with
              | some S => if isBlt sx T && noStar e then (d.e sx e).map (eUn (opIsi (Str.ofString S))) else none
              | none => none)
            | _ => none)
          else if x = "list" then (match e, es with
            | .Call (.Name y _) [a] [] _, [] => if y = "range" && isBlt sx y && noStar a then (d.e sx a).map (eUn (opRgL (sx.fr p))) else (denA (d.e sx) [e]).map (eArg (bLst (sx.fr p)))
            | e, es => (denA (d.e sx) (e :: es)).map (eArg (bLst (sx.fr p))))
          else match bltOf (sx.fr p) x with
            | some g => (denA (d.e sx) (e :: es)).map (eArg g)
            | none => none)
        else none)
    else none
  | e :: es, kws =>
    if isGl sx.nm x && okNm x then
      (match sx.kfns.lookup x with
      | some (ks, sem) => if kwNames kws = some ks then (match denA (d.e sx) (e :: es), denK (d.e sx) kws with
          | some a, some b => some (eKw sem a b)
          | _, _ => none) else none
      | none => if sx.blt.contains x then (match es, kws with
          | [], [⟨some y, .Constant (.int k) _ _, _⟩] => if x = "max" ∧ y = "default" then (denA (d.e sx) [e]).map (eArg (bMaxD k)) else none
          | [], [⟨some y, .Lambda ⟨[], [⟨z, none, _⟩], none, [], [], none, []⟩ (.Subscript (.Name z2 _) (.Constant (.int (.ofNat k)) _ _) _) ⟨.function, [(z3, .local)], false, false, _⟩ _, _⟩] =>
            if x = "sorted" ∧ y = "key" ∧ z2 = z ∧ z3 = z ∧ k < 1000 ∧ okNm z = true ∧ sx.lam = true then (denA (d.e sx) [e]).map (eArg (bSortK k)) else none
          | _, _ => none)
        else none)
    else none
def denMeth (d : Den) (sx : Sx) (o : Expr) (name : Str) (apos : Pos) (es : List Expr) (cpos : Pos) : Option Ev := match es with
  | [] => none
  | e :: es => if attrB o && (apos.endLine == cpos.line) && (e :: es).all noStar && decide ((e :: es).length < 30) then
      (match d.e sx o, denA (d.e sx) (e :: es) with
      | some a, some t => if name = "append" then some (eMeth isLst mAppend a t) else if name = "pop" then some (eMeth isLst mPopAt a t) else none
      | _, _ => none)
    else none
def denCmp (d : Den) (sx : Sx) (a : Expr) (op : CmpOp) (b : Expr) : Option Ev :=
  if behindInMarks op b then none else match op, b with
  | .Is, .Constant .none _ _ => (d.e sx a).map (eUn opIsN)
  | .IsNot, .Constant .none _ _ => (d.e sx a).map (eUn opNotN)
  | .In, b => (match d.e sx a, d.e sx b with
    | some x, some y => some (eBin anyIn x y)
    | _, _ => none)
  | .NotIn, b => (match d.e sx a, d.e sx b with
    | some x, some y => some (eBin anyNotIn x y)
    | _, _ => none)
  | op, b => (match cmpOf op, d.e sx a, d.e sx b with
    | some g, some x, some y => some (eBin g x y)
    | _, _, _ => none)
def denChain (d : Den) (sx : Sx) (a : Expr) (op op' : CmpOp) (b c : Expr) : Option Ev :=
  if behindInMarks op' c then none else match cmpOf op, cmpOf op', d.e sx a, d.e sx b, d.e sx c with
    | some f, some g, some x, some y, some z => some (eChain f g x y z)
    | _, _, _, _, _ => none
def stepE (d : Den) (sx : Sx) : Expr → Option Ev
  | .Name x _ => denName sx x
  | .Constant c _ _ => denConst c
  | .BinOp a op b p => (match binOf (sx.fr p) op, d.e sx a, d.e sx b with
    | some g, some x, some y => some (eBin g x y)
    | _, _, _ => none)
  | .UnaryOp op a _ => (match op with
    | .USub => (d.e sx a).map (eUn opNeg)
    | .Not => (d.e sx a).map (eUn opNot)
    | _ => none)
  | .BoolOp op es _ => (match op with
    | .And => denAnd (d.e sx) es
    | .Or => denOr (d.e sx) es)
  | .Compare a [op] [b] _ => denCmp d sx a op b
  | .Compare a [op, op'] [b, c] _ => denChain d sx a op op' b c
  | .IfExp c a b _ => (match d.t sx c, d.e sx a, d.e sx b with
    | some t, some x, some y => some (eIf t x y)
    | _, _, _ => none)
  | .Tuple es _ _ => (denA (d.e sx) es).map eTup
  | .List es p => (denA (d.e sx) es).map (if sx.fr p then eLstC else eLst)
  | .Subscript a (.Slice lo hi none _) p => (match d.e sx a, denO (d.e sx) lo, denO (d.e sx) hi with
    | some x, some l, some u => some (eSl (slOp (sx.fr p)) x l u)
    | _, _, _ => none)
  | .Subscript a b _ => if notSl b then (match d.e sx a, d.e sx b with
    | some x, some y => some (eBin anyItem x y)
    | _, _ => none) else none
  | .Call (.Name x _) es kws p => denCall d sx x es kws p
  | .Call (.Attribute o name apos) es [] cpos => denMeth d sx o name apos es cpos
  | .ListComp elt [⟨tg, iter, ifs, 0⟩] scope p => (match denGen d sx tg iter ifs scope, d.e (sx.blk scope) elt with
    | some (it, T, t, vs), some e => some (if sx.fr p then eLcC it T.tg t e vs else eLc it T.tg t e vs)
    | _, _ => none)
  | .DictComp k v [⟨tg, iter, ifs, 0⟩] scope p => (match denGen d sx tg iter ifs scope, d.e (sx.blk scope) k, d.e (sx.blk scope) v with
    | some (it, T, t, vs), some ek, some ev => some (eDc it T.tg t ek ev vs)
    | _, _, _ => none)
  | _ => none
def stepT (d : Den) (sx : Sx) : Expr → Option Et
  | .UnaryOp op a p => (match op with
    | .Not => (d.t sx a).map Rh.tNot
    | _ => (stepE d sx (.UnaryOp op a p)).map tVal)
  | .BoolOp op es _ => (match op with
    | .And => denTAnd (d.t sx) es
    | .Or => denTOr (d.t sx) es)
  | .Compare a [op] [b] _ => (denCmp d sx a op b).map tVal
  | .Compare a [op, op'] [b, c] _ => (denChain d sx a op op' b c).map tVal
  | e => if plainT e then (stepE d sx e).map tVal else none
def den : Nat → Den
  | 0 => ⟨fun _ _ => none, fun _ _ => none⟩
  | n + 1 => ⟨fun sx e => stepE (den n) sx e, fun sx e => stepT (den n) sx e⟩
end Rh
end

section
set_option Elab.async false
set_option linter.all false
set_option maxRecDepth 100000
set_option maxHeartbeats 1000000
/-! The readings by den are right: expressions. -/
namespace Rh
open PySem L2
/-- a def known by its name -/
def FnKnown (P : Program) (w : World) (K : PySem.W.Frag) (mg : Str → Option Value) (base : Heap) (cA : Bg) (k : Nat) (x : Str) (sem : List D → Sto → R D) : Prop :=
  ∃ (f : Addr) (fd : FuncData) (ps : List Str) (ds : List Value) (dvs : List V) (dds : List D) (n : Nat) (sem0 : List D → Sto → R D), FnOk P w K mg base (L2.CX P w) k f fd ps (spF K cA n sem0) ∧ mg x = some (.ref f) ∧ PySem.W.keepIn K (.ref f) = true ∧
    Binds K fd ps ds ∧ Vals dvs ds ∧ (∀ F m, RepVs K F m dds dvs) ∧ sem = fun as s => if as.length + dds.length = n then sem0 (as ++ dds) s else .bad
def KfnKnown (P : Program) (w : World) (K : PySem.W.Frag) (mg : Str → Option Value) (base : Heap) (cA : Bg) (k : Nat) (x : Str) (ks : List Str) (sem : List D → List D → Sto → R D) : Prop :=
  ∃ (f : Addr) (fd : FuncData) (ps : List Str) (n : Nat) (sem0 : List D → Sto → R D) (g : List Value → List Value → List Value) (gV : List V → List V → List V) (gD : List D → List D → List D), FnOk P w K mg base (L2.CX P w) k f fd ps (spF K cA n sem0) ∧ mg x = some (.ref f) ∧ PySem.W.keepIn K (.ref f) = true ∧
    KBinds K fd ps ks g gV ∧ (∀ F m xs ys us vs, RepVs K F m xs us → RepVs K F m ys vs → RepVs K F m (gD xs ys) (gV us vs)) ∧ sem = fun as zs s => if (gD as zs).length = n then sem0 (gD as zs) s else .bad
theorem FnKnown.mono {P : Program} {w : World} {K : PySem.W.Frag} {mg : Str → Option Value} {base : Heap} {cA : Bg} {j k : Nat} {x : Str} {sem : List D → Sto → R D} (h : FnKnown P w K mg base cA j x sem) (hjk : j ≤ k) : FnKnown P w K mg base cA k x sem := by
  obtain ⟨f, fd, ps, ds, dvs, dds, n, sem0, F, r⟩ := h
  exact ⟨f, fd, ps, ds, dvs, dds, n, sem0, F.mono hjk, r⟩
theorem KfnKnown.mono {P : Program} {w : World} {K : PySem.W.Frag} {mg : Str → Option Value} {base : Heap} {cA : Bg} {j k : Nat} {x : Str} {ks : List Str} {sem : List D → List D → Sto → R D} (h : KfnKnown P w K mg base cA j x ks sem) (hjk : j ≤ k) : KfnKnown P w K mg base cA k x ks sem := by
  obtain ⟨f, fd, ps, n, sem0, g, gV, gD, F, r⟩ := h
  exact ⟨f, fd, ps, n, sem0, g, gV, gD, F.mono hjk, r⟩
structure SxOk (cA : Bg) (k : Nat) (sx : Sx) (X : Cx) (W : WX) : Prop where
  N : X.N = sx.N
  nd : X.N.Nodup
  nm : X.env.scope.names = sx.nm
  kind : X.env.scope.kind = .function
  calm : X.calm = true
  hr : Room k X.A
  k1 : 1 ≤ k
  vals : ∀ x d, sx.vals.lookup x = some d → ∃ v u, X.mg x = some u ∧ RelV v u ∧ ∀ F m, RepV X.K F m d v
  fns : ∀ x sem, sx.fns.lookup x = some sem → FnKnown X.prog X.w X.K X.mg X.base cA k x sem
  kfns : ∀ x ks sem, sx.kfns.lookup x = some (ks, sem) → KfnKnown X.prog X.w X.K X.mg X.base cA k x ks sem
  blt : ∀ x, sx.blt.contains x = true → X.mg x = none
  ct : ∀ x, sx.ct.contains x = true → X.fn x = true
  pass : ∀ σ, PassesAt (L2.CX X.prog X.w) X σ (WE W σ)
  lam : sx.lam = true → ∃ c P, LamX.TabB X.base X.mg c P ∧ X.env.code = .ref c ∧ (P, X.env.qual ++ "<lambda>") ∈ cA.tabs ∧ ∀ q ∈ cA.tabs, q.1 = P → q.2 = X.env.qual ++ "<lambda>"
section
variable {cA : Bg} {k : Nat} {sx : Sx} {X : Cx} {W : WX}
theorem SxOk.u64 (h : SxOk cA k sx X W) : X.A.units + 64 < cLine := by have := h.hr.un; omega
theorem SxOk.u1 (h : SxOk cA k sx X W) : X.A.units + 1 < cLine := by have := h.hr.un; omega
theorem SxOk.gl (h : SxOk cA k sx X W) {x : Str} (g : isGl sx.nm x = true) : Gl X x := by
  unfold isGl at g
  show X.env.scope.names.lookup x = some .globalImplicit
  rw [h.nm]
  split at g
  · assumption
  · cases g
theorem SxOk.vis (h : SxOk cA k sx X W) {x : Str} (g : isVis sx.nm x = true) : Vis X.env.scope x := by
  unfold isVis at g
  unfold Vis
  rw [h.nm]
  split at g
  · exact .inl (by assumption)
  · exact .inr (.inl (by assumption))
  · exact .inr (.inr (by assumption))
  · cases g
theorem SxOk.isB (h : SxOk cA k sx X W) {x : Str} (g : isBlt sx x = true) : Gl X x ∧ X.mg x = none ∧ okNm x = true := by
  unfold isBlt at g
  simp only [Bool.and_eq_true] at g
  exact ⟨h.gl g.1.1, h.blt x g.1.2, g.2⟩
theorem cellsOf_mem {x : Str} : ∀ {l : List (Str × NameKind)}, (cellsOf l).contains x = true → (x, NameKind.cell) ∈ l
  | [], h => by cases h
  | (n, q) :: r, h => by
    unfold cellsOf at h
    split at h
    · rename_i hq
      have hq : q = .cell := eq_of_beq hq
      rw [List.contains_cons, Bool.or_eq_true] at h
      rcases h with h | h
      · have h : x = n := eq_of_beq h
        rw [h, hq]
        exact List.mem_cons_self
      · exact List.mem_cons_of_mem _ (cellsOf_mem h)
    · exact List.mem_cons_of_mem _ (cellsOf_mem h)
theorem SxOk.blk (h : SxOk cA k sx X W) {scope : Scope} (hk : scope.kind = .function) (hu : ∀ y ∈ scope.names, scope.names.lookup y.1 = some y.2) (s : Shared) (H : Hp) (C : Addr) (cl : List (Str × Addr)) (fp : List Addr) : SxOk cA k (sx.blk scope) (X.blk s H scope (compEnvC scope cl C X.env) fp) W0 where
  N := h.N
  nd := h.nd
  nm := by
    show (relabel scope X.env).names = relN sx.nm scope
    unfold relabel relN
    rw [← h.nm]
    show scope.names.map _ = scope.names.map _
    refine List.map_congr_left fun p _ => ?_
    obtain ⟨n, q⟩ := p
    show (if (q == NameKind.free && X.env.scope.kind == .function && X.env.kindOf n == some .cell) then (n, NameKind.cell) else (n, q)) = _
    rw [h.kind]
    show (if (q == NameKind.free && true && X.env.scope.names.lookup n == some .cell) then (n, NameKind.cell) else (n, q)) = _
    rw [Bool.and_true]
  kind := by
    show (relabel scope X.env).kind = .function
    unfold relabel
    exact hk
  calm := h.calm
  hr := h.hr
  k1 := h.k1
  vals := h.vals
  fns := h.fns
  kfns := h.kfns
  blt := h.blt
  ct := fun x hx => by
    have hx : (cellsOf scope.names).contains x = true := hx
    show (scope.names.lookup x == some .cell) = true
    rw [hu _ (cellsOf_mem hx)]
    rfl
  pass := fun σ pins H' s' e s'' I c => by
    obtain ⟨_, _, _, _, _, _, _, _, _, _, _, _, z⟩ := c
    exact z.elim
  lam := h.lam
theorem SxOk.blkOk (h : SxOk cA k sx X W) {scope : Scope} {own : List (Str × Nat)} (b : blkC sx.N (scOf sx.nm) scope own = true) : BlkOk X.N X.env.scope scope own := by
  obtain ⟨h1, h2, h3, h4, h5⟩ := blkOk_by b
  rw [h.N]
  refine ⟨h1, h2, h3, fun y hy e => ?_, h5⟩
  rw [h.nm]
  exact h4 y hy e

theorem s_name (h : SxOk cA k sx X W) {x : Str} {p : Pos} {ev : Ev} (q : denName sx x = some ev) : SE X cA W (.Name x p) ev := by
  unfold denName at q
  split at q
  · rename_i ok
    obtain ⟨h1, h2, h3⟩ := okNm_of ok
    split at q
    · rename_i hv
      cases hs : slotOf sx.N x with
      | none => rw [hs] at q; cases q
      | some i =>
        rw [hs] at q
        cases q
        exact x_var (by rw [h.N]; exact slotOf_at hs) (h.vis hv) h1 h2
    · split at q
      · rename_i hg
        cases hl : sx.vals.lookup x with
        | none => rw [hl] at q; cases q
        | some d =>
          rw [hl] at q
          cases q
          obtain ⟨v, u, e1, e2, e3⟩ := h.vals x d hl
          exact x_glob (h.gl hg) e1 e2 e3 h1
      · cases q
  · cases q
theorem s_const {c : Const} {n : Nat} {p : Pos} {ev : Ev} (q : denConst c = some ev) : SE X cA W (.Constant c n p) ev := by
  unfold denConst at q
  split at q
  · cases q; exact x_int
  · cases q; exact x_str
  · cases q; exact x_bl
  · cases q; exact x_non
  · cases q
theorem s_binOf {fr : Bool} {op : Operator} {g : D → D → Sto → R D} (q : binOf fr op = some g) : Nx2 g ∧ OpR X (binaryOp op) (rO2 X.K cA g) := by
  unfold binOf at q
  split at q
  · cases q; exact ⟨nx_add, o_add⟩
  · cases q; exact ⟨nx_sub, o_sub⟩
  · cases q; exact ⟨nx_mul, o_mul⟩
  · cases q; exact ⟨nx_div, o_div⟩
  · cases q; exact ⟨nx_mod, o_mod⟩
  · cases q; exact ⟨nx_pow, o_pow⟩
  · cases q
theorem s_augOf {op : Operator} {g : D → D → Sto → R D} (q : augOf op = some g) : Nx2 g ∧ OpR X (inplaceOp op) (rO2 X.K cA g) := by
  unfold augOf at q
  split at q
  · cases q; exact ⟨nx_addN, io_add⟩
  · cases q; exact ⟨nx_sub, io_sub⟩
  · cases q
theorem s_cmpOf (h : SxOk cA k sx X W) {op : CmpOp} {g : D → D → Sto → R D} (q : cmpOf op = some g) : Nx2 g ∧ OpR X (compareOp op) (rO2 X.K cA g) := by
  unfold cmpOf at q
  split at q
  · cases q; exact ⟨nx_eq, o_eq h.u64⟩
  · cases q; exact ⟨nx_ne, o_ne h.u64⟩
  · cases q; exact ⟨nx_cmp, o_lt⟩
  · cases q; exact ⟨nx_cmp, o_le⟩
  · cases q; exact ⟨nx_cmp, o_gt⟩
  · cases q; exact ⟨nx_cmp, o_ge⟩
  · cases q
/-- one's own readings of parts are right -/
def PartOk (X : Cx) (cA : Bg) (W : WX) (f : Expr → Option Ev) : Prop := ∀ e ev, f e = some ev → SE X cA W e ev
def PartT (X : Cx) (cA : Bg) (W : WX) (f : Expr → Option Et) : Prop := ∀ e ev, f e = some ev → ST X cA W e ev
theorem denA_star {f : Expr → Option Ev} : ∀ {es : List Expr} {a : Ea}, denA f es = some a → es.all noStar = true
  | [], _, _ => rfl
  | e :: es, a, q => by
    unfold denA at q
    split at q
    · rename_i hn
      split at q
      · rename_i h2
        rw [List.all_cons, hn, denA_star h2]
        rfl
      · cases q
    · cases q
theorem s_A {f : Expr → Option Ev} (hf : PartOk X cA W f) : ∀ {es : List Expr} {a : Ea}, denA f es = some a → SA X cA W es a
  | [], _, q => by
    cases q
    exact x_nil
  | e :: es, a, q => by
    unfold denA at q
    split at q
    · rename_i hn
      split at q
      · rename_i h1 h2
        cases q
        exact x_cons hn (hf _ _ h1) (s_A hf h2)
      · cases q
    · cases q
theorem s_K {f : Expr → Option Ev} (hf : PartOk X cA W f) : ∀ {es : List Keyword} {a : Ea}, denK f es = some a → SK X cA W es a
  | [], _, q => by
    cases q
    exact k_nil
  | ⟨nm, e, p⟩ :: es, a, q => by
    unfold denK at q
    split at q
    · rename_i h1 h2
      cases q
      exact k_cons (hf _ _ h1) (s_K hf h2)
    · cases q
theorem s_And {f : Expr → Option Ev} (hf : PartOk X cA W f) {p : Pos} : ∀ {es : List Expr} {a : Ev}, denAnd f es = some a → SE X cA W (.BoolOp .And es p) a
  | [], _, q => by cases q
  | [e], a, q => x_one (hf _ _ q)
  | e :: e2 :: es, a, q => by
    unfold denAnd at q
    split at q
    · rename_i h1 h2
      cases q
      exact x_and (hf _ _ h1) (s_And hf h2)
    · cases q
theorem s_Or {f : Expr → Option Ev} (hf : PartOk X cA W f) {p : Pos} : ∀ {es : List Expr} {a : Ev}, denOr f es = some a → SE X cA W (.BoolOp .Or es p) a
  | [], _, q => by cases q
  | [e], a, q => x_one (hf _ _ q)
  | e :: e2 :: es, a, q => by
    unfold denOr at q
    split at q
    · rename_i h1 h2
      cases q
      exact x_or (hf _ _ h1) (s_Or hf h2)
    · cases q
theorem s_TAnd {f : Expr → Option Et} (hf : PartT X cA W f) {p : Pos} : ∀ {es : List Expr} {a : Et}, denTAnd f es = some a → PW X (.BoolOp .And es p) (rT X.K cA W a)
  | [], _, q => by cases q
  | [e], a, q => x_wand1 (hf _ _ q)
  | e :: e2 :: es, a, q => by
    unfold denTAnd at q
    split at q
    · rename_i h1 h2
      cases q
      exact x_wand (hf _ _ h1) (s_TAnd hf h2)
    · cases q
theorem s_TOr {f : Expr → Option Et} (hf : PartT X cA W f) {p : Pos} : ∀ {es : List Expr} {a : Et}, denTOr f es = some a → PW X (.BoolOp .Or es p) (rT X.K cA W a)
  | [], _, q => by cases q
  | [e], a, q => x_wor1 (hf _ _ q)
  | e :: e2 :: es, a, q => by
    unfold denTOr at q
    split at q
    · rename_i h1 h2
      cases q
      exact x_wor (hf _ _ h1) (s_TOr hf h2)
    · cases q
theorem s_O {f : Expr → Option Ev} (hf : PartOk X cA W f) {e : Option Expr} {o : Eo} (q : denO f e = some o) : PO X e (rd X.K cA W rpO o) := by
  unfold denO at q
  split at q
  · cases q
    exact x_oNone
  · rename_i e
    cases h : f e with
    | none => rw [h] at q; cases q
    | some ev =>
      rw [h] at q
      cases q
      exact x_oSome (hf _ _ h)
end
end Rh
end

section
set_option Elab.async false
set_option linter.all false
set_option maxRecDepth 100000
set_option maxHeartbeats 1000000
/-! The readings by den are right: targets, walks, calls, all forms. -/
namespace Rh
open PySem L2
structure DenOk (d : Den) : Prop where
  e : ∀ {cA : Bg} {k : Nat} {sx : Sx} {X : Cx} {W : WX}, SxOk cA k sx X W → PartOk X cA W (d.e sx)
  t : ∀ {cA : Bg} {k : Nat} {sx : Sx} {X : Cx} {W : WX}, SxOk cA k sx X W → PartT X cA W (d.t sx)
section
variable {cA : Bg} {k : Nat} {sx : Sx} {X : Cx} {W : WX} {d : Den}
theorem bind2 {α β γ : Type} {x : Option α} {y : Option β} {f : α → β → γ} {r : γ} (h : (match x, y with | some a, some b => some (f a b) | _, _ => none) = some r) : ∃ a b, x = some a ∧ y = some b ∧ r = f a b := by
  cases x with
  | none => cases h
  | some a =>
    cases y with
    | none => cases h
    | some b =>
      cases h
      exact ⟨a, b, rfl, rfl, rfl⟩
theorem map1 {α β : Type} {x : Option α} {f : α → β} {r : β} (h : x.map f = some r) : ∃ a, x = some a ∧ r = f a := by
  cases x with
  | none => cases h
  | some a => cases h; exact ⟨a, rfl, rfl⟩

/-! targets -/
theorem SxOk.tg (h : SxOk cA k sx X W) {x : Str} (q : isTg sx x = true) : L2.Loc X.env.scope x ∧ (X.fn x = true ∨ X.env.scope.names.lookup x = some .local) := by
  unfold isTg at q
  unfold L2.Loc
  rw [h.nm]
  split at q
  · rename_i e
    exact ⟨.inl e, .inr e⟩
  · rename_i e
    exact ⟨.inr e, .inl (h.ct x q)⟩
  · cases q
theorem tnMap_len {f : Expr → Option Tn} : ∀ {es : List Expr} {Ts : List Tn}, tnMap f es = some Ts → es.length = Ts.length ∧ es.all noStar = true
  | [], _, q => by
    cases q
    exact ⟨rfl, rfl⟩
  | e :: es, Ts, q => by
    unfold tnMap at q
    split at q
    · rename_i hs
      split at q
      · rename_i h1 h2
        cases q
        obtain ⟨l1, l2⟩ := tnMap_len h2
        exact ⟨by rw [List.length_cons, List.length_cons, l1], by rw [List.all_cons, hs, l2]; rfl⟩
      · cases q
    · cases q
theorem s_Tn (h : SxOk cA k sx X W) : ∀ (n : Nat) {e : Expr} {T : Tn}, denTn sx n e = some T → PG X e (T.lay X.K) ∧ SG X cA W e T.tg
  | 0, _, _, q => by cases q
  | n + 1, e, T, q => by
    have hmap : ∀ {es : List Expr} {Ts : List Tn}, tnMap (denTn sx n) es = some Ts → PGs X es (Tn.lays X.K Ts) ∧ SGs X cA W es (Tn.tgs Ts) := by
      intro es
      induction es with
      | nil =>
        intro Ts q
        cases q
        exact ⟨pgs_nil, z_nil⟩
      | cons e es ih =>
        intro Ts q
        unfold tnMap at q
        split at q
        · rename_i hs
          split at q
          · rename_i h1 h2
            cases q
            obtain ⟨i1, i2⟩ := s_Tn h n h1
            obtain ⟨j1, j2⟩ := ih h2
            exact ⟨pgs_cons i1 j1 (by rw [assignEach_cons hs]; rfl), z_cons hs i2 j2⟩
          · cases q
        · cases q
    unfold denTn at q
    split at q
    · rename_i x p
      split at q
      · rename_i h1
        obtain ⟨i, h3, rfl⟩ := map1 q
        obtain ⟨l1, l2⟩ := h.tg h1
        have hN : X.N[i]? = some x := by rw [h.N]; exact slotOf_at h3
        exact ⟨pg_name h.nd hN l1 l2, z_nm h.nd hN l1 l2⟩
      · cases q
    · obtain ⟨Ts, h1, rfl⟩ := map1 q
      obtain ⟨l1, l2⟩ := tnMap_len h1
      obtain ⟨m1, m2⟩ := hmap h1
      exact ⟨pg_tup h.calm m1 (by rw [assignEach_len, l1]) (assignEach_noStar l2), z_tp h.calm l2 l1 m2⟩
    · cases q
/-! what is walked -/
theorem and2 {a b : Bool} (h : (a && b) = true) : a = true ∧ b = true := by
  rw [Bool.and_eq_true] at h
  exact h
theorem str_eq {x : Str} {y : Str} {b : Bool} (h : (decide (x = y) && b) = true) : x = y ∧ b = true := by
  rw [Bool.and_eq_true, decide_eq_true_eq] at h
  exact h
theorem s_I (dk : DenOk d) (h : SxOk cA k sx X W) {tg it : Expr} {ei : Ei} (q : denI d sx tg it = some ei) : SI X cA W tg it ei := by
  have val : (d.e sx it).map iVal = some ei → SI X cA W tg it ei := fun q => by
    obtain ⟨ev, h1, rfl⟩ := map1 q
    exact w_val (dk.e h _ _ h1)
  unfold denI at q
  split at q
  · split at q
    · rename_i c
      obtain ⟨rfl, c2⟩ := str_eq c
      obtain ⟨g1, g2, g3⟩ := h.isB c2
      obtain ⟨a, h1, rfl⟩ := map1 q
      have hs := denA_star h1
      rw [List.all_cons, Bool.and_eq_true] at hs
      exact w_range1 g1 g2 hs.1 (s_A (dk.e h) h1)
    · split at q
      · rename_i c
        obtain ⟨rfl, c2⟩ := str_eq c
        obtain ⟨g1, g2, g3⟩ := h.isB c2
        split at q
        · rename_i ht
          obtain ⟨a, h1, rfl⟩ := map1 q
          have hs := denA_star h1
          rw [List.all_cons, Bool.and_eq_true] at hs
          cases tg <;> first | exact w_enum g1 g2 hs.1 (s_A (dk.e h) h1) | cases ht
        · cases q
      · exact val q
  · split at q
    · rename_i c
      obtain ⟨rfl, c2⟩ := str_eq c
      obtain ⟨g1, g2, g3⟩ := h.isB c2
      obtain ⟨a, h1, rfl⟩ := map1 q
      have hs := denA_star h1
      rw [List.all_cons, Bool.and_eq_true, List.all_cons, Bool.and_eq_true] at hs
      exact w_range2 g1 g2 hs.1 hs.2.1 (s_A (dk.e h) h1)
    · split at q
      · rename_i c
        obtain ⟨rfl, c2⟩ := str_eq c
        obtain ⟨g1, g2, g3⟩ := h.isB c2
        split at q
        · rename_i ht
          obtain ⟨a, h1, rfl⟩ := map1 q
          have hs := denA_star h1
          rw [List.all_cons, Bool.and_eq_true, List.all_cons, Bool.and_eq_true] at hs
          cases tg <;> first | exact w_zip g1 g2 hs.1 hs.2.1 (s_A (dk.e h) h1) | cases ht
        · cases q
      · exact val q
  · exact val q
theorem s_Ifs {f : Expr → Option Et} (hf : PartT X cA W f) {es : List Expr} {t : Et} (q : denIfs f es = some t) : PTs X es (rT X.K cA W t) := by
  unfold denIfs at q
  split at q
  · cases q
    exact v_tnil
  · exact v_tone (hf _ _ q)
  · cases q
/-- the parts of a comprehension -/
theorem s_Gen (dk : DenOk d) (h : SxOk cA k sx X W) {tg iter : Expr} {ifs : List Expr} {scope : Scope} {it : Ei} {T : Tn} {t : Et} {vs : List Nat} (q : denGen d sx tg iter ifs scope = some (it, T, t, vs)) :
    ∃ own : List (Str × Nat), vs = own.map (·.2) ∧ plainIter iter = true ∧ SI X cA W tg iter it ∧ BlkOk X.N X.env.scope scope own ∧ T.all (fun i => decide (i ∈ own.map (·.2))) = true ∧ (BlkCx X scope fun Y => PG Y tg (T.lay X.K)) ∧ (BlkCx X scope fun Y => PTs Y ifs (rT X.K cA W0 t)) ∧
      (BlkCx X scope fun Y => SxOk cA k (sx.blk scope) Y W0) := by
  unfold denGen at q
  split at q
  · rename_i c
    rw [Bool.and_eq_true] at c
    have ok := h.blkOk c.2
    have hY : BlkCx X scope fun Y => SxOk cA k (sx.blk scope) Y W0 := fun s H C cl fp => h.blk ok.kind ok.uniq s H C cl fp
    split at q
    · rename_i i1 T1 t1 e1 e2 e3
      split at q
      · rename_i hall
        cases q
        exact ⟨_, rfl, c.1, s_I dk h e1, ok, hall, fun s H C cl fp => (s_Tn (hY s H C cl fp) 8 e2).1, fun s H C cl fp => s_Ifs (dk.t (hY s H C cl fp)) e3, hY⟩
      · cases q
    · cases q
  · cases q
end
end Rh
end

section
set_option Elab.async false
set_option linter.all false
set_option maxRecDepth 100000
set_option maxHeartbeats 2000000
/-! The readings by den are right: calls, all expressions. -/
namespace Rh
open PySem L2
section
variable {cA : Bg} {k : Nat} {sx : Sx} {X : Cx} {W : WX} {d : Den}
theorem s_blt (h : SxOk cA k sx X W) {fr : Bool} {x : Str} {g : List D → Sto → R D} (q : bltOf fr x = some g) : Nx0 g ∧ ((∃ id, CallR X (.builtin id) (rOn X.K cA g) ∧ bootBuiltins x = some (.builtin id)) ∨ ∃ id, CallR X (.type id) (rOn X.K cA g) ∧ bootBuiltins x = some (.type id)) := by
  unfold bltOf at q
  split at q
  · rename_i e; subst e; cases q; exact ⟨nx_len, .inl ⟨_, c_len, by rfl⟩⟩
  split at q
  · rename_i e; subst e; cases q; exact ⟨nx_maxA, .inl ⟨_, c_maxA h.calm h.u1, by rfl⟩⟩
  split at q
  · rename_i e; subst e; cases q; exact ⟨nx_minA, .inl ⟨_, c_minA h.calm h.u1, by rfl⟩⟩
  split at q
  · rename_i e; subst e; cases q; exact ⟨nx_sum, .inl ⟨_, c_sum h.calm, by rfl⟩⟩
  split at q
  · rename_i e; subst e; cases q; exact ⟨nx_abs, .inl ⟨_, c_abs, by rfl⟩⟩
  split at q
  · rename_i e; subst e; cases q; exact ⟨nx_int, .inr ⟨_, c_int, by rfl⟩⟩
  split at q
  · rename_i e; subst e; cases q; exact ⟨nx_lst, .inr ⟨_, c_list, by rfl⟩⟩
  split at q
  · rename_i e; subst e; cases q; exact ⟨nx_dictP, .inr ⟨_, c_dictP h.calm, by rfl⟩⟩
  · cases q
theorem s_callBlt (h : SxOk cA k sx X W) {fr : Bool} {x : Str} {g : List D → Sto → R D} {e : Expr} {es : List Expr} {a : Ea} {p cp : Pos} (q : bltOf fr x = some g) (hg : Gl X x) (hm : X.mg x = none) (ok : okNm x = true) (hs : (e :: es).all noStar = true) (ha : SA X cA W (e :: es) a) : SE X cA W (.Call (.Name x p) (e :: es) [] cp) (eArg g a) := by
  obtain ⟨o1, _, o3⟩ := okNm_of ok
  obtain ⟨nx, q | q⟩ := s_blt h q
  · obtain ⟨id, c, b⟩ := q
    exact x_callB nx c hg hm b hs o3 o1 ha
  · obtain ⟨id, c, b⟩ := q
    exact x_callTy nx c hg hm b hs o3 o1 ha
theorem isi_of {x : Str} {S : String} (q : isiOf x = some S) : x = Str.ofString S ∧ S ∈ ["bool", "int", "str", "tuple", "list"] ∧ bootBuiltins x = some (.type S) := by
  unfold isiOf at q
  split at q
  · rename_i e; subst e; cases q; exact ⟨rfl, by simp, by rfl⟩
  split at q
  · rename_i e; subst e; cases q; exact ⟨rfl, by simp, by rfl⟩
  split at q
  · rename_i e; subst e; cases q; exact ⟨rfl, by simp, by rfl⟩
  split at q
  · rename_i e; subst e; cases q; exact ⟨rfl, by simp, by rfl⟩
  split at q
  · rename_i e; subst e; cases q; exact ⟨rfl, by simp, by rfl⟩
  · cases q
theorem s_callFn (h : SxOk cA k sx X W) {x : Str} {sem : List D → Sto → R D} {e : Expr} {es : List Expr} {a : Ea} {p cp : Pos} (q : sx.fns.lookup x = some sem) (hg : Gl X x) (ok : okNm x = true) (hs : (e :: es).all noStar = true) (ha : SA X cA W (e :: es) a) : SE X cA W (.Call (.Name x p) (e :: es) [] cp) (eArg sem a) := by
  obtain ⟨o1, _, o3⟩ := okNm_of ok
  obtain ⟨f, fd, ps, ds, dvs, dds, n, sem0, F, hm, hk, hb, hd, hdd, rfl⟩ := h.fns x sem q
  exact x_callF F h.hr hg hm hk hb hd hdd h.pass hs o1 ha
theorem s_list (dk : DenOk d) (h : SxOk cA k sx X W) {e : Expr} {es : List Expr} {a : Ea} {p cp : Pos} {fr : Bool} (hg : Gl X "list") (hm : X.mg "list" = none) (q : denA (d.e sx) (e :: es) = some a) : SE X cA W (.Call (.Name "list" p) (e :: es) [] cp) (eArg (bLst fr) a) :=
  s_callBlt h (fr := fr) (by rfl) hg hm (by rfl) (denA_star q) (s_A (dk.e h) q)
theorem s_call (dk : DenOk d) (h : SxOk cA k sx X W) {x : Str} {es : List Expr} {kws : List Keyword} {p cp : Pos} {ev : Ev} (q : denCall d sx x es kws cp = some ev) : SE X cA W (.Call (.Name x p) es kws cp) ev := by
  unfold denCall at q
  split at q
  · cases q
  · rename_i e es
    split at q
    · rename_i c
      obtain ⟨c1, c2⟩ := and2 c
      have hg := h.gl c1
      split at q
      · rename_i sem hl
        obtain ⟨a, h1, rfl⟩ := map1 q
        exact s_callFn h hl hg c2 (denA_star h1) (s_A (dk.e h) h1)
      · split at q
        · rename_i hb
          have hm := h.blt x hb
          split at q
          · rename_i e0
            subst e0
            split at q
            · rename_i T p2
              split at q
              · rename_i S hS
                split at q
                · rename_i c3
                  obtain ⟨c3, c4⟩ := and2 c3
                  obtain ⟨g1, g2, g3⟩ := h.isB c3
                  obtain ⟨a, h1, rfl⟩ := map1 q
                  obtain ⟨rfl, m1, m2⟩ := isi_of hS
                  obtain ⟨o1, _, o3⟩ := okNm_of g3
                  exact x_isi m1 hg hm g1 g2 m2 o3 o1 c4 (dk.e h _ _ h1)
                · cases q
              · cases q
            · cases q
          · split at q
            · rename_i e0
              subst e0
              split at q
              · rename_i y p1 a p2
                split at q
                · rename_i c3
                  rw [Bool.and_eq_true, Bool.and_eq_true, decide_eq_true_eq] at c3
                  obtain ⟨⟨rfl, c3⟩, c4⟩ := c3
                  obtain ⟨g1, g2, g3⟩ := h.isB c3
                  obtain ⟨ev, h1, rfl⟩ := map1 q
                  exact x_rgL h.calm hg hm g1 g2 c4 (dk.e h _ _ h1)
                · obtain ⟨a, h1, rfl⟩ := map1 q
                  exact s_list dk h hg hm h1
              · obtain ⟨a, h1, rfl⟩ := map1 q
                exact s_list dk h hg hm h1
            · split at q
              · rename_i g hgb
                obtain ⟨a, h1, rfl⟩ := map1 q
                exact s_callBlt h hgb hg hm c2 (denA_star h1) (s_A (dk.e h) h1)
              · cases q
        · cases q
    · cases q
  · rename_i e es hne
    split at q
    · rename_i c
      obtain ⟨c1, c2⟩ := and2 c
      have hg := h.gl c1
      obtain ⟨o1, _, o3⟩ := okNm_of c2
      split at q
      · rename_i ks sem hl
        split at q
        · rename_i hkn
          split at q
          · rename_i a b h1 h2
            cases q
            obtain ⟨f, fd, ps, n, sem0, g, gV, gD, F, hm, hk, hb, hgV, rfl⟩ := h.kfns x ks sem hl
            exact x_callK F h.hr hg hm hk hb hgV h.pass (denA_star h1) hkn o1 (s_A (dk.e h) h1) (s_K (dk.e h) h2)
          · cases q
        · cases q
      · split at q
        · rename_i hb
          have hm := h.blt x hb
          split at q
          · rename_i y kk n p2 kp _
            split at q
            · rename_i c3
              obtain ⟨rfl, rfl⟩ := c3
              obtain ⟨a, h1, rfl⟩ := map1 q
              have hs := denA_star h1
              rw [List.all_cons, Bool.and_eq_true] at hs
              exact (pe_maxD h.calm h.u1 hg hm (s_A (dk.e h) h1) hs.1 pe_int).of fun _ _ _ q => rd_arg (nx_maxD _) q
            · cases q
          · split at q
            · rename_i c3
              obtain ⟨rfl, rfl, rfl, rfl, c4, c5, c6⟩ := c3
              obtain ⟨a, h1, rfl⟩ := map1 q
              have hs := denA_star h1
              rw [List.all_cons, Bool.and_eq_true] at hs
              obtain ⟨c, P, TB, l1, l2, l3⟩ := h.lam c6
              obtain ⟨p1, p2, _⟩ := okNm_of c5
              exact (pe_sortK (W := W) TB l1 l2 l3 (h.hr.mono h.k1) hg hm (s_A (dk.e h) h1) hs.1 c4 p1 p2).of fun _ _ _ q => rd_arg (nx_sortK _) q
            · cases q
          · cases q
        · cases q
    · cases q
theorem s_meth (dk : DenOk d) (h : SxOk cA k sx X W) {o : Expr} {name : Str} {apos cpos : Pos} {es : List Expr} {ev : Ev} (q : denMeth d sx o name apos es cpos = some ev) : SE X cA W (.Call (.Attribute o name apos) es [] cpos) ev := by
  unfold denMeth at q
  split at q
  · cases q
  · split at q
    · rename_i c
      rw [Bool.and_eq_true, Bool.and_eq_true, Bool.and_eq_true, decide_eq_true_eq] at c
      obtain ⟨⟨⟨c1, c2⟩, c3⟩, c4⟩ := c
      split at q
      · rename_i h1 h2
        split at q
        · rename_i e0
          subst e0
          cases q
          exact x_append c1 c2 c3 c4 (dk.e h _ _ h1) (s_A (dk.e h) h2)
        · split at q
          · rename_i e0
            subst e0
            cases q
            exact x_popAt c1 c2 c3 c4 (dk.e h _ _ h1) (s_A (dk.e h) h2)
          · cases q
      · cases q
    · cases q
theorem s_cmp (dk : DenOk d) (h : SxOk cA k sx X W) {a b : Expr} {op : CmpOp} {p : Pos} {ev : Ev} (q : denCmp d sx a op b = some ev) : SE X cA W (.Compare a [op] [b] p) ev ∧ ST X cA W (.Compare a [op] [b] p) (tVal ev) := by
  unfold denCmp at q
  split at q
  · cases q
  · rename_i hm
    have hm : behindInMarks op b = false := by simpa using hm
    split at q
    · obtain ⟨x, h1, rfl⟩ := map1 q
      exact ⟨x_isN (dk.e h _ _ h1), x_isNT (dk.e h _ _ h1)⟩
    · obtain ⟨x, h1, rfl⟩ := map1 q
      exact ⟨x_notN (dk.e h _ _ h1), x_notNT (dk.e h _ _ h1)⟩
    · split at q
      · rename_i h1 h2
        cases q
        exact ⟨x_in h.u1 h.u64 hm (dk.e h _ _ h1) (dk.e h _ _ h2), x_inT h.u1 h.u64 hm (dk.e h _ _ h1) (dk.e h _ _ h2)⟩
      · cases q
    · split at q
      · rename_i h1 h2
        cases q
        exact ⟨x_notIn h.u1 h.u64 hm (dk.e h _ _ h1) (dk.e h _ _ h2), x_notInT h.u1 h.u64 hm (dk.e h _ _ h1) (dk.e h _ _ h2)⟩
      · cases q
    · split at q
      · rename_i h0 h1 h2
        cases q
        obtain ⟨n1, n2⟩ := s_cmpOf h h0
        exact ⟨x_cmp n1 n2 hm (dk.e h _ _ h1) (dk.e h _ _ h2), x_cmpT n1 n2 hm (dk.e h _ _ h1) (dk.e h _ _ h2)⟩
      · cases q
theorem s_chain (dk : DenOk d) (h : SxOk cA k sx X W) {a b c : Expr} {op op' : CmpOp} {p : Pos} {ev : Ev} (q : denChain d sx a op op' b c = some ev) : SE X cA W (.Compare a [op, op'] [b, c] p) ev ∧ ST X cA W (.Compare a [op, op'] [b, c] p) (tVal ev) := by
  unfold denChain at q
  split at q
  · cases q
  · rename_i hm
    have hm : behindInMarks op' c = false := by simpa using hm
    split at q
    · rename_i g1 g2 h1 h2 h3
      cases q
      obtain ⟨n1, n2⟩ := s_cmpOf h g1
      obtain ⟨n3, n4⟩ := s_cmpOf h g2
      exact ⟨x_chain n1 n3 n2 n4 hm (dk.e h _ _ h1) (dk.e h _ _ h2) (dk.e h _ _ h3), x_chainT n1 n3 n2 n4 hm (dk.e h _ _ h1) (dk.e h _ _ h2) (dk.e h _ _ h3)⟩
    · cases q
end
end Rh
end

section
set_option Elab.async false
set_option linter.all false
set_option maxRecDepth 100000
set_option maxHeartbeats 2000000
/-! The readings by den are right: all expressions. -/
namespace Rh
open PySem L2
section
variable {cA : Bg} {k : Nat} {sx : Sx} {X : Cx} {W : WX} {d : Den}
theorem s_stepE (dk : DenOk d) (h : SxOk cA k sx X W) : ∀ (e : Expr) (ev : Ev), stepE d sx e = some ev → SE X cA W e ev := by
  intro e ev q
  unfold stepE at q
  split at q
  · exact s_name h q
  · exact s_const q
  · split at q
    · rename_i h0 h1 h2
      cases q
      obtain ⟨n1, n2⟩ := s_binOf (X := X) (cA := cA) h0
      exact x_bin n1 n2 (dk.e h _ _ h1) (dk.e h _ _ h2)
    · cases q
  · split at q
    · obtain ⟨x, h1, rfl⟩ := map1 q
      exact x_un nx_neg o_neg (dk.e h _ _ h1)
    · obtain ⟨x, h1, rfl⟩ := map1 q
      exact x_not (dk.e h _ _ h1)
    · cases q
  · split at q
    · exact s_And (dk.e h) q
    · exact s_Or (dk.e h) q
  · exact (s_cmp dk h q).1
  · exact (s_chain dk h q).1
  · split at q
    · rename_i h0 h1 h2
      cases q
      exact x_if (dk.t h _ _ h0) (dk.e h _ _ h1) (dk.e h _ _ h2)
    · cases q
  · obtain ⟨a, h1, rfl⟩ := map1 q
    exact x_tup (s_A (dk.e h) h1)
  · obtain ⟨a, h1, rfl⟩ := map1 q
    split
    · exact x_lstC (s_A (dk.e h) h1)
    · exact x_lst (s_A (dk.e h) h1)
  · split at q
    · rename_i h1 h2 h3
      cases q
      exact x_slice (dk.e h _ _ h1) (s_O (dk.e h) h2) (s_O (dk.e h) h3) nx_slice
    · cases q
  · split at q
    · rename_i hs
      split at q
      · rename_i h1 h2
        cases q
        exact x_item h.u1 hs (dk.e h _ _ h1) (dk.e h _ _ h2)
      · cases q
    · cases q
  · exact s_call dk h q
  · exact s_meth dk h q
  · split at q
    · rename_i h1 h2
      cases q
      obtain ⟨own, rfl, g1, g2, g3, g4, g5, g6, g7⟩ := s_Gen dk h h1
      have he : BlkCx X _ fun Y => PE Y _ (rE X.K cA W0 _) := fun s H C cl fp => dk.e (g7 s H C cl fp) _ _ h2
      split
      · exact x_lcC h.calm h.nd g1 g2 g3 g4 g5 g6 he
      · exact x_lcL h.calm h.nd g1 g2 g3 g4 g5 g6 he
    · cases q
  · split at q
    · rename_i h1 h2 h3
      cases q
      obtain ⟨own, rfl, g1, g2, g3, g4, g5, g6, g7⟩ := s_Gen dk h h1
      exact x_dc h.calm h.nd g1 g2 g3 g4 g5 g6 (fun s H C cl fp => dk.e (g7 s H C cl fp) _ _ h2) (fun s H C cl fp => dk.e (g7 s H C cl fp) _ _ h3)
    · cases q
  · cases q
theorem s_stepT (dk : DenOk d) (h : SxOk cA k sx X W) : ∀ (e : Expr) (t : Et), stepT d sx e = some t → ST X cA W e t := by
  intro e t q
  unfold stepT at q
  split at q
  · split at q
    · obtain ⟨x, h1, rfl⟩ := map1 q
      exact x_tnot (dk.t h _ _ h1)
    · rename_i op2 _ _ _ hop
      obtain ⟨x, h1, rfl⟩ := map1 q
      refine x_val ?_ (s_stepE dk h _ _ h1)
      cases op2 <;> first | rfl | exact (hop rfl).elim
  · split at q
    · exact (s_TAnd (dk.t h) q).pt
    · exact (s_TOr (dk.t h) q).pt
  · obtain ⟨x, h1, rfl⟩ := map1 q
    exact (s_cmp dk h h1).2
  · obtain ⟨x, h1, rfl⟩ := map1 q
    exact (s_chain dk h h1).2
  · split at q
    · rename_i hp
      obtain ⟨x, h1, rfl⟩ := map1 q
      exact x_val hp (s_stepE dk h _ _ h1)
    · cases q
theorem den_ok : ∀ n, DenOk (den n)
  | 0 => ⟨fun _ _ _ q => (by cases q), fun _ _ _ q => (by cases q)⟩
  | n + 1 => ⟨fun h e ev q => s_stepE (den_ok n) h e ev q, fun h e t q => s_stepT (den_ok n) h e t q⟩
end
end Rh
end

section
set_option Elab.async false
set_option linter.all false
set_option maxRecDepth 100000
set_option maxHeartbeats 2000000
/-! Statements read as combinators, and that it is right. -/
namespace Rh
open PySem L2
/-- how often a while may turn -/
def wfuel : Nat := 1000000000
def ownName (scope : Scope) (y : Str) : Bool := scope.names.any fun (n, k) => n == y && (k == .local || k == .cell)
def denAsg (d : Den) (sx : Sx) (tg e : Expr) : Option Es := match tg, e with
  | .Name y py, .ListComp elt [⟨t2, iter, ifs, 0⟩] scope p =>
    if isLc sx.nm y && (py.line == p.line) && !(ownName scope y) then (match slotOf sx.N y, denGen d sx t2 iter ifs scope, d.e (sx.blk scope) elt with
      | some i, some (it, T, t, vs), some ev => some (sAsg (if sx.fr p then eLcC it T.tg t ev vs else eLc it T.tg t ev vs) (gNm i))
      | _, _, _ => none) else (match denTn sx 8 (.Name y py), d.e sx (.ListComp elt [⟨t2, iter, ifs, 0⟩] scope p) with
      | some T, some z => some (sAsg z T.tg)
      | _, _ => none)
  | .Name y py, .DictComp kx vx [⟨t2, iter, ifs, 0⟩] scope p =>
    if isLc sx.nm y && (py.line == p.line) && !(ownName scope y) then (match slotOf sx.N y, denGen d sx t2 iter ifs scope, d.e (sx.blk scope) kx, d.e (sx.blk scope) vx with
      | some i, some (it, T, t, vs), some ek, some ev => some (sAsg (eDc it T.tg t ek ev vs) (gNm i))
      | _, _, _, _ => none) else (match denTn sx 8 (.Name y py), d.e sx (.DictComp kx vx [⟨t2, iter, ifs, 0⟩] scope p) with
      | some T, some z => some (sAsg z T.tg)
      | _, _ => none)
  | .Tuple [.Name n1 px, .Name n2 py] kt pt, .Tuple [a, b] k2 p2 =>
    if [a, b].all (foldedForSure 8) || !(isLc sx.nm n1 && isLc sx.nm n2) then
      (match denTn sx 8 (.Tuple [.Name n1 px, .Name n2 py] kt pt), denA (d.e sx) [a, b] with
      | some T, some t => some (sAsg (eTup t) T.tg)
      | _, _ => none)
    else if isLc sx.nm n1 && isLc sx.nm n2 && (py.line == px.line) && noStar a && noStar b && !(n1 == n2) && !([a, b].all (constantsAlone 8)) then
      (match slotOf sx.N n1, slotOf sx.N n2, denA (d.e sx) [a, b] with
      | some i, some j, some t => some (sPar i j t)
      | _, _, _ => none)
    else none
  | .Subscript o i p, e => if notSl i && notComp e then (match d.e sx o, d.e sx i, d.e sx e with
      | some x, some y, some z => some (sAsg z (gSb Rh.setItem x y))
      | _, _, _ => none) else none
  | tg, e => if notComp e && noPair tg e && noStar tg then (match denTn sx 8 tg, d.e sx e with
      | some T, some z => some (sAsg z T.tg)
      | _, _ => none) else none
def denB (f : Stmt → Option Es) : List Stmt → Option Es
  | [] => some sNil
  | st :: r => match f st, denB f r with
    | some a, some b => some (sSeq a b)
    | _, _ => none
def denSt (d : Den) (sx : Sx) : Nat → Stmt → Option Es
  | 0, _ => none
  | n + 1, st => match st with
    | .Return (some e) _ => (d.e sx e).map sRet
    | .Return none _ => some sRetN
    | .Expr e _ => if notComp e then (d.e sx e).map sExpr else none
    | .Assign [tg] e _ => denAsg d sx tg e
    | .AugAssign (.Name x _) op e _ => if isTg sx x then (match augOf op, slotOf sx.N x, d.e sx e with
      | some f, some i, some z => some (sAug f i z)
      | _, _, _ => none) else none
    | .AugAssign (.Subscript o i _) op e _ => if notSl i then (match augOf op, d.e sx o, d.e sx i, d.e sx e with
      | some f, some x, some y, some z => some (sAugS dItem f Rh.setItem x y z)
      | _, _, _, _ => none) else none
    | .If c a b _ => (match d.t sx c, denB (denSt d sx n) a, denB (denSt d sx n) b with
      | some t, some x, some y => some (sIf t x y)
      | _, _, _ => none)
    | .While c a [] _ => (match d.t sx c, denB (denSt d sx n) a with
      | some t, some x => some (whileN t x wfuel)
      | _, _ => none)
    | .For tg iter a [] _ => if plainIter iter then (match denI d sx tg iter, denTn sx 8 tg, denB (denSt d sx n) a with
      | some it, some T, some x => some (sFor it T.tg x)
      | _, _, _ => none) else none
    | .Break _ => some sBrk
    | .Continue _ => some sCnt
    | .Pass _ => some sNil
    | _ => none
section
variable {cA : Bg} {k : Nat} {sx : Sx} {X : Cx} {W : WX} {d : Den}
theorem sw_trueD {kx vx : Expr} {gs : List Comprehension} {scope : Scope} {pos py : Pos} {y : Str} {l : Nat} {env : Env} (hk : env.scope.kind = .function) (hy : env.scope.names.lookup y = some .local) (hl : (py.line == pos.line) = true)
    (ha : (scope.names.any fun (n, k) => n == y && (k == .local || k == .cell)) = false) : swapsWith (.DictComp kx vx gs scope pos) (some (.Name y py)) l env = pure true := by
  have ky : env.kindOf y = some .local := hy
  have hb : env.blockKind = .function := by unfold Env.blockKind; rw [hk]; rfl
  unfold swapsWith
  simp only [hb, ky, ha, Expr.pos, hl]
  rfl
theorem swapped_folded {n1 n2 : Str} {px py pt p2 : Pos} {kt k2 : Nat} {a b : Expr} {env : Env} (h : [a, b].all (foldedForSure 8) = true) : swappedStores [.Tuple [.Name n1 px, .Name n2 py] kt pt] (.Tuple [a, b] k2 p2) env = pure none := by
  unfold swappedStores
  simp only [h, if_true, ite_self]
theorem swapped_two {n1 n2 : Str} {px py pt p2 : Pos} {kt k2 : Nat} {a b : Expr} {env : Env} (hk : env.scope.kind = .function) (h1 : env.scope.names.lookup n1 = some .local) (h2 : env.scope.names.lookup n2 = some .local) (hl : (py.line == px.line) = true) (ha : noStar a = true) (hb : noStar b = true) (hn : (n1 == n2) = false)
    (hf : [a, b].all (foldedForSure 8) = false) (hc : [a, b].all (constantsAlone 8) = false) : swappedStores [.Tuple [.Name n1 px, .Name n2 py] kt pt] (.Tuple [a, b] k2 p2) env = pure (some [n1, n2]) := by
  have k1 : env.kindOf n1 = some .local := h1
  have kk2 : env.kindOf n2 = some .local := h2
  have bk : env.blockKind = .function := by unfold Env.blockKind; rw [hk]; rfl
  have hl2 : py.line = px.line := eq_of_beq hl
  have hne : n1 ≠ n2 := beq_eq_false_iff_ne.mp hn
  have sa : (match a with | .Starred _ _ => true | _ => false) = false := by cases a <;> first | rfl | cases ha
  have sb : (match b with | .Starred _ _ => true | _ => false) = false := by cases b <;> first | rfl | cases hb
  unfold swappedStores
  have fm : List.filterMap (fun x => match x with
      | Expr.Name id pos => if (env.kindOf id == some NameKind.local && pos.line == px.line) = true then some id else none
      | _ => none) [Expr.Name n1 px, Expr.Name n2 py] = [n1, n2] := by
    simp [List.filterMap_cons, k1, kk2, hl2]
  have ed : [n1, n2].eraseDups = [n1, n2] := by
    rw [List.eraseDups_cons]
    simp [hne.symm, List.eraseDups_cons]
  simp only [List.any_cons, List.any_nil, Bool.or_false, bk, hf, hc, List.length_cons, List.length_nil, List.head?_cons, Option.map_some, Option.getD_some, Expr.pos]
  rw [if_neg (by decide), if_neg ?_]
  · rw [if_neg (by
      simp [List.filterMap_cons, k1, kk2, hl2, ed])]
    rw [if_neg (by decide), if_neg (by decide)]
    simp [List.filterMap_cons, k1, kk2, hl2]
  · rw [Bool.or_eq_true]
    rintro (q | q)
    · cases a <;> first | (cases ha; done) | cases q
    · cases b <;> first | (cases hb; done) | cases q
theorem isLc_not {nm : List (Str × NameKind)} {x : Str} (q : isLc nm x = false) : nm.lookup x ≠ some .local := fun e => by
  unfold isLc at q
  rw [e] at q
  cases q
theorem isLc_eq {nm : List (Str × NameKind)} {x : Str} : isLc nm x = (nm.lookup x == some .local) := by
  unfold isLc
  split
  · rename_i e
    rw [e]
    rfl
  · rename_i h
    symm
    rw [beq_eq_false_iff_ne]
    exact h
theorem swapped_cell {n1 n2 : Str} {px py pt p2 : Pos} {kt k2 : Nat} {a b : Expr} {env : Env} (h : (env.scope.names.lookup n1 == some .local && env.scope.names.lookup n2 == some .local) = false) : swappedStores [.Tuple [.Name n1 px, .Name n2 py] kt pt] (.Tuple [a, b] k2 p2) env = pure none := by
  have h : (env.kindOf n1 == some .local && env.kindOf n2 == some .local) = false := h
  have fm : ∀ l : Nat, (([Expr.Name n1 px, Expr.Name n2 py].filterMap fun x => match x with
      | .Name id pos => if env.kindOf id == some .local && pos.line == l then some id else none
      | _ => none).length != 2) = true := by
    intro l
    cases h1 : (env.kindOf n1 == some .local) with
    | true =>
      rw [h1, Bool.true_and] at h
      simp only [List.filterMap_cons, List.filterMap_nil, h1, h, Bool.false_and, Bool.true_and]
      split <;> simp
    | false =>
      simp only [List.filterMap_cons, List.filterMap_nil, h1, Bool.false_and]
      cases h2 : (env.kindOf n2 == some .local && py.line == l) <;> simp
  unfold swappedStores
  simp only [List.head?_cons, Option.map_some, Option.getD_some, List.length_cons, List.length_nil, Nat.zero_add]
  split
  · rfl
  split
  · rfl
  rw [if_pos (by rw [Bool.or_eq_true]; exact .inl (fm px.line))]
theorem swaps_notL {elt : Expr} {gs : List Comprehension} {scope : Scope} {pos py : Pos} {y : Str} {l : Nat} {env : Env} (c : ((env.scope.names.lookup y == some .local) && (py.line == pos.line) && !(ownName scope y)) = false) :
    swapsWith (.ListComp elt gs scope pos) (some (.Name y py)) l env = pure false := by
  show (pure (env.blockKind == .function && env.scope.names.lookup y == some .local && py.line == pos.line && !(ownName scope y)) : Sem Bool) = pure false
  rw [Bool.and_assoc, Bool.and_assoc, ← Bool.and_assoc (env.scope.names.lookup y == some .local), c, Bool.and_false]
theorem swaps_notD {kx vx : Expr} {gs : List Comprehension} {scope : Scope} {pos py : Pos} {y : Str} {l : Nat} {env : Env} (c : ((env.scope.names.lookup y == some .local) && (py.line == pos.line) && !(ownName scope y)) = false) :
    swapsWith (.DictComp kx vx gs scope pos) (some (.Name y py)) l env = pure false := by
  show (pure (env.blockKind == .function && env.scope.names.lookup y == some .local && py.line == pos.line && !(ownName scope y)) : Sem Bool) = pure false
  rw [Bool.and_assoc, Bool.and_assoc, ← Bool.and_assoc (env.scope.names.lookup y == some .local), c, Bool.and_false]
theorem y_asgW {a e : Expr} {ea : Ev} {g : Tg} {pos : Pos} (hn : swapsWith e (some a) pos.line X.env = pure false) (hp : swappedStores [a] e X.env = pure none) (ha : noStar a = true) (he : SE X cA W e ea) (hg : SG X cA W a g) : SS X cA W (.Assign [a] e pos) (sAsg ea g) :=
  (ps_asg he hg.pg hn hp (by rw [assignEach_cons ha]; rfl)).of fun _ _ _ h => rs_asg hg.ok h
theorem ntB {b : Bool} (h : (!b) = true) : b = false := by
  cases b
  · rfl
  · cases h
theorem SxOk.lc (h : SxOk cA k sx X W) {x : Str} (q : isLc sx.nm x = true) : X.env.scope.names.lookup x = some .local := by
  unfold isLc at q
  rw [h.nm]
  split at q
  · assumption
  · cases q
theorem SxOk.slot (h : SxOk cA k sx X W) {x : Str} {i : Nat} (q : slotOf sx.N x = some i) : X.N[i]? = some x := by
  rw [h.N]
  exact slotOf_at q
theorem y_asgN {a e : Expr} {ea : Ev} {g : Tg} {pos : Pos} (hn : notComp e = true) (hp : swappedStores [a] e X.env = pure none) (ha : noStar a = true) (he : SE X cA W e ea) (hg : SG X cA W a g) : SS X cA W (.Assign [a] e pos) (sAsg ea g) :=
  (ps_asg he hg.pg (swaps_no hn) hp (by rw [assignEach_cons ha]; rfl)).of fun _ _ _ h => rs_asg hg.ok h
theorem and3 {a b c : Bool} (h : (a && b && c) = true) : a = true ∧ b = true ∧ c = true := by
  rw [Bool.and_eq_true, Bool.and_eq_true] at h
  exact ⟨h.1.1, h.1.2, h.2⟩
theorem SxOk.swapN (h : SxOk cA k sx X W) {n1 n2 : Str} {px py pt p2 : Pos} {kt k2 : Nat} {a b : Expr} (hf : ([a, b].all (foldedForSure 8) || !(isLc sx.nm n1 && isLc sx.nm n2)) = true) : swappedStores [.Tuple [.Name n1 px, .Name n2 py] kt pt] (.Tuple [a, b] k2 p2) X.env = pure none := by
  rw [Bool.or_eq_true] at hf
  rcases hf with hf | hf
  · exact swapped_folded hf
  · have hf := ntB hf
    rw [isLc_eq, isLc_eq, ← h.nm] at hf
    exact swapped_cell hf
theorem slot_ne {N : List Str} {x y : Str} {i j : Nat} (h1 : slotOf N x = some i) (h2 : slotOf N y = some j) (c : (x == y) = false) : i ≠ j := fun e => by
  rw [e] at h1
  have a1 := slotOf_at h1
  rw [slotOf_at h2] at a1
  exact beq_eq_false_iff_ne.mp c (Option.some.inj a1).symm
theorem s_asg (dk : DenOk d) (h : SxOk cA k sx X W) {tg e : Expr} {pos : Pos} {b : Es} (q : denAsg d sx tg e = some b) : SS X cA W (.Assign [tg] e pos) b := by
  unfold denAsg at q
  split at q
  · split at q
    · rename_i c
      obtain ⟨c1, c2, c3⟩ := and3 c
      have c3 := ntB c3
      split at q
      · rename_i h1 h2 h3
        cases q
        obtain ⟨own, rfl, g1, g2, g3, g4, g5, g6, g7⟩ := s_Gen dk h h2
        have he : BlkCx X _ fun Y => PE Y _ (rE X.K cA W0 _) := fun s H C cl fp => dk.e (g7 s H C cl fp) _ _ h3
        split
        · exact y_setLcC h.calm h.nd (h.slot h1) (h.lc c1) (sw_true h.kind (h.lc c1) c2 c3) g1 g2 g3 g4 g5 g6 he
        · exact y_setLcL h.calm h.nd (h.slot h1) (h.lc c1) (sw_true h.kind (h.lc c1) c2 c3) g1 g2 g3 g4 g5 g6 he
      · cases q
    · rename_i c
      have c := eq_false_of_ne_true c
      rw [isLc_eq, ← h.nm] at c
      split at q
      · rename_i h1 h2
        cases q
        exact y_asgW (swaps_notL c) rfl rfl (dk.e h _ _ h2) (s_Tn h 8 h1).2
      · cases q
  · split at q
    · rename_i c
      obtain ⟨c1, c2, c3⟩ := and3 c
      have c3 := ntB c3
      split at q
      · rename_i h1 h2 h3 h4
        cases q
        obtain ⟨own, rfl, g1, g2, g3, g4, g5, g6, g7⟩ := s_Gen dk h h2
        exact y_setDc h.calm h.nd (h.slot h1) (h.lc c1) (sw_trueD h.kind (h.lc c1) c2 c3) g1 g2 g3 g4 g5 g6 (fun s H C cl fp => dk.e (g7 s H C cl fp) _ _ h3) (fun s H C cl fp => dk.e (g7 s H C cl fp) _ _ h4)
      · cases q
    · rename_i c
      have c := eq_false_of_ne_true c
      rw [isLc_eq, ← h.nm] at c
      split at q
      · rename_i h1 h2
        cases q
        exact y_asgW (swaps_notD c) rfl rfl (dk.e h _ _ h2) (s_Tn h 8 h1).2
      · cases q
  · split at q
    · rename_i hf
      split at q
      · rename_i h1 h2
        cases q
        exact y_asgN rfl (h.swapN hf) rfl (x_tup (s_A (dk.e h) h2)) (s_Tn h 8 h1).2
      · cases q
    · rename_i hf
      have hf := eq_false_of_ne_true hf
      rw [Bool.or_eq_false_iff] at hf
      have hf := hf.1
      split at q
      · rename_i c
        simp only [Bool.and_eq_true, Bool.not_eq_true'] at c
        obtain ⟨⟨⟨⟨⟨⟨c1, c2⟩, c3⟩, c4⟩, c5⟩, c6⟩, c7⟩ := c
        split at q
        · rename_i h1 h2 h3
          cases q
          have hij := slot_ne h1 h2 c6
          exact y_par h.calm h.nd (h.slot h1) (h.slot h2) hij (h.lc c1) (h.lc c2) (s_A (dk.e h) h3) (swapped_two h.kind (h.lc c1) (h.lc c2) c3 c4 c5 c6 hf c7)
        · cases q
      · cases q
  · split at q
    · rename_i c
      obtain ⟨c1, c2⟩ := and2 c
      split at q
      · rename_i h1 h2 h3
        cases q
        exact y_asgN c2 (by cases ‹Expr› <;> rfl) rfl (dk.e h _ _ h3) (z_sb h.u1 c1 (dk.e h _ _ h1) (dk.e h _ _ h2))
      · cases q
    · cases q
  · split at q
    · rename_i c
      obtain ⟨c1, c2, c3⟩ := and3 c
      split at q
      · rename_i h1 h2
        cases q
        exact y_asg c1 c2 c3 (dk.e h _ _ h2) (s_Tn h 8 h1).2
      · cases q
    · cases q
theorem s_B {f : Stmt → Option Es} (hf : ∀ st b, f st = some b → SS X cA W st b) : ∀ {l : List Stmt} {b : Es}, denB f l = some b → SB X cA W l b
  | [], b, q => by
    cases q
    exact y_nil
  | st :: r, b, q => by
    unfold denB at q
    split at q
    · rename_i h1 h2
      cases q
      exact y_cons (hf _ _ h1) (s_B hf h2)
    · cases q
theorem s_St (dk : DenOk d) (h : SxOk cA k sx X W) (hp : PassesOwn (model X.prog X.w) X.A X.env X.xe) : ∀ (n : Nat) (st : Stmt) (b : Es), denSt d sx n st = some b → SS X cA W st b
  | 0, _, _, q => by cases q
  | n + 1, st, b, q => by
    have ih := s_St dk h hp n
    unfold denSt at q
    split at q
    · obtain ⟨x, h1, rfl⟩ := map1 q
      exact y_ret (dk.e h _ _ h1)
    · cases q
      exact y_retN
    · split at q
      · rename_i hn
        obtain ⟨x, h1, rfl⟩ := map1 q
        exact y_expr hn (dk.e h _ _ h1)
      · cases q
    · exact s_asg dk h q
    · split at q
      · rename_i ht
        split at q
        · rename_i h1 h2 h3
          cases q
          obtain ⟨n1, n2⟩ := s_augOf (X := X) (cA := cA) h1
          obtain ⟨l1, l2⟩ := h.tg ht
          exact y_aug n1 n2 h.nd (h.slot h2) l1 l2 (dk.e h _ _ h3)
        · cases q
      · cases q
    · split at q
      · rename_i hs
        split at q
        · rename_i h1 h2 h3 h4
          cases q
          obtain ⟨n1, n2⟩ := s_augOf (X := X) (cA := cA) h1
          exact y_augS h.u1 n1 n2 hs (dk.e h _ _ h2) (dk.e h _ _ h3) (dk.e h _ _ h4)
        · cases q
      · cases q
    · split at q
      · rename_i h1 h2 h3
        cases q
        exact y_if (dk.t h _ _ h1) (s_B ih h2) (s_B ih h3)
      · cases q
    · split at q
      · rename_i h1 h2
        cases q
        exact y_while hp (dk.t h _ _ h1) (s_B ih h2)
      · cases q
    · split at q
      · rename_i hs
        split at q
        · rename_i h1 h2 h3
          cases q
          exact y_for hp h.calm hs (s_I dk h h1) (s_Tn h 8 h2).2 (s_B ih h3)
        · cases q
      · cases q
    · cases q
      exact y_brk
    · cases q
      exact y_cnt
    · cases q
      exact y_pass
    · cases q
end
end Rh
end

section
set_option Elab.async false
set_option linter.all false
set_option maxRecDepth 100000
set_option maxHeartbeats 2000000
/-! A def of the text computes its plain function. -/
namespace Rh
open PySem PySem.Spec PyProof.Rows L2
/-- what a def of n parameters and nN slots computes, from its body's reading -/
def fnSem (nN n : Nat) (b : Es) : List D → Sto → R D := fun ds s => if ds.length = n then (match b (ds.map some ++ List.replicate (nN - n) none) s with
  | .nx _ s1 => .ok .non s1
  | .rt d s1 => .ok d s1
  | .exc x _ s1 => .exc x s1
  | _ => .bad) else .bad
/-- what stands among the module's names -/
structure GOk (P : Program) (w : World) (K : PySem.W.Frag) (mg : Str → Option Value) (base : Heap) (cA : Bg) (k : Nat) (sx : Sx) : Prop where
  vals : ∀ x d, sx.vals.lookup x = some d → ∃ v u, mg x = some u ∧ RelV v u ∧ ∀ F m, RepV K F m d v
  fns : ∀ x sem, sx.fns.lookup x = some sem → FnKnown P w K mg base cA k x sem
  kfns : ∀ x ks sem, sx.kfns.lookup x = some (ks, sem) → KfnKnown P w K mg base cA k x ks sem
  blt : ∀ x, sx.blt.contains x = true → mg x = none
theorem start_len {N : List Str} {vs : List V} : (L2.start N vs).length = vs.length + (N.length - vs.length) := by
  unfold L2.start
  simp
theorem enr_start {K : PySem.W.Frag} {F : Hp} {m : List Addr} {ds : List D} {vs : List V} (r : RepVs K F m ds vs) (n : Nat) : EnR K F m (ds.map some ++ List.replicate n none) (vs.map some ++ List.replicate n none) := by
  refine ⟨by simp [r.len], fun i d q => ?_⟩
  by_cases h : i < ds.length
  · rw [List.getElem?_append_left (by simpa using h), List.getElem?_map] at q
    cases e : ds[i]? with
    | none => rw [e] at q; cases q
    | some d' =>
      rw [e] at q
      cases q
      obtain ⟨v, h1, h2⟩ := r.get e
      refine ⟨v, ?_, h2⟩
      rw [List.getElem?_append_left (by rw [List.length_map, r.len]; exact h), List.getElem?_map, h1]
      rfl
  · rw [List.getElem?_append_right (by simpa using h)] at q
    rw [List.getElem?_replicate] at q
    split at q <;> cases q
section
variable {P : Program} {w : World} {K : PySem.W.Frag} {mg : Str → Option Value} {base : Heap} {cA : Bg} {k : Nat} {f : Addr} {name qual : Str} {params : Arguments} {body : List Stmt} {scope : Scope} {dV kV doc pm cdv ct oc : Value} {an od : Option Addr} {osl : Array (Option Value)} {N ps : List Str} {sx : Sx} {b : Es}
theorem sxOk_def {A : Around} {outer : List Env} {s : Shared} {H : Hp} {E : XK} (S : FnScope N ps scope) (g : GOk P w K mg base cA k sx) (hN : sx.N = N) (hnm : sx.nm = scope.names) (k1 : 1 ≤ k) (hr : Room k (A.deeper (envOfC qual scope s.heap.objs.size f cdv)))
    (hl : sx.lam = true → ∃ c P, LamX.TabB base mg c P ∧ cdv = .ref c ∧ (P, qual ++ ".<locals>." ++ "<lambda>") ∈ cA.tabs ∧ ∀ q ∈ cA.tabs, q.1 = P → q.2 = qual ++ ".<locals>." ++ "<lambda>") :
    SxOk cA k sx (cxOf (L2.CX P w) P w K mg base N qual scope f cdv A outer s H E) (fun cls d _ H => E cls d H) where
  N := hN.symm
  nd := S.nd
  nm := hnm.symm
  kind := S.kind
  calm := rfl
  hr := hr
  k1 := k1
  vals := g.vals
  fns := g.fns
  kfns := g.kfns
  blt := g.blt
  ct := fun _ _ => rfl
  pass := fun σ => passAt (takes_of (X := cxOf (L2.CX P w) P w K mg base N qual scope f cdv A outer s H E) (E := E) rfl rfl rfl rfl) σ
  lam := hl
/-- THE RULE for a def -/
theorem def_ok (lk : K.lookup f = some ⟨oc, od, .func (PySem.W.fnOf name qual params body scope dV kV doc pm an cdv ct), osl⟩) (hcd : PySem.W.codeIn K cdv qual = true) (S : FnScope N ps scope) (g : GOk P w K mg base cA k sx) (hN : sx.N = N) (hnm : sx.nm = scope.names) (k1 : 1 ≤ k)
    (hl : sx.lam = true → ∃ c P, LamX.TabB base mg c P ∧ cdv = .ref c ∧ (P, qual ++ ".<locals>." ++ "<lambda>") ∈ cA.tabs ∧ ∀ q ∈ cA.tabs, q.1 = P → q.2 = qual ++ ".<locals>." ++ "<lambda>")
    (hd : denB (denSt (den 24) sx 24) body = some b) :
    FnOk P w K mg base (L2.CX P w) (k + 1) f (PySem.W.fnOf name qual params body scope dV kV doc pm an cdv ct) ps (spF K cA ps.length (fnSem N.length ps.length b)) := by
  refine fn_of lk hcd S spF_len fun A outer s H vs Q E hr h => ?_
  have sx' := sxOk_def (A := A) (outer := outer) (s := s) (H := H) (E := E) (f := f) (qual := qual) (cdv := cdv) S g hN hnm k1 hr hl
  refine ⟨_, s_B (s_St (den_ok 24) sx' (passes_of rfl) 24) hd, ?_⟩
  obtain ⟨G, F, m, st, ds, R, rv, hn, q⟩ := h
  have hlen := rv.len
  have e1 : L2.start N vs = vs.map some ++ List.replicate (N.length - ps.length) none := by
    unfold L2.start
    rw [hlen, hn]
  refine ⟨G, F, m, ds.map some ++ List.replicate (N.length - ps.length) none, st, R, by rw [e1]; exact enr_start rv _, ?_⟩
  unfold fnSem at q
  rw [if_pos hn] at q
  split at q
  · rename_i ρ1 s1 e
    rw [e]
    exact fun F' m' σ' H' e1 p1 R1 en1 => q F' m' .non H' e1 p1 R1 rfl
  · rename_i d s1 e
    rw [e]
    exact q
  · rename_i x ρ1 s1 e
    rw [e]
    exact fun F' m' σ' H' cls d e1 p1 R1 en1 x1 => q F' m' H' cls d e1 p1 R1 x1
  · exact q.elim
/-- known by its name, no defaults -/
theorem fnKnown_of {x : Str} {sem : List D → Sto → R D} {fd : FuncData} {n : Nat} (F : FnOk P w K mg base (L2.CX P w) k f fd ps (spF K cA n sem)) (hm : mg x = some (.ref f)) (hk : PySem.W.keepIn K (.ref f) = true) (hb : Binds K fd ps []) (hsem : ∀ as s, as.length ≠ n → sem as s = .bad) : FnKnown P w K mg base cA k x sem := by
  refine ⟨f, fd, ps, [], [], [], n, sem, F, hm, hk, hb, .nil, fun _ _ => rfl, ?_⟩
  funext as s
  rw [List.length_nil, Nat.add_zero, List.append_nil]
  by_cases h : as.length = n
  · rw [if_pos h]
  · rw [if_neg h]
    exact hsem as s h
theorem fnSem_bad {nN n : Nat} {b : Es} : ∀ as s, as.length ≠ n → fnSem nN n b as s = .bad := fun as s h => by
  unfold fnSem
  rw [if_neg h]
end
end Rh
end

section
set_option Elab.async false
set_option linter.all false
set_option maxRecDepth 100000
set_option maxHeartbeats 2000000
/-! From the plain law to the row. -/
namespace Rh
open PySem PySem.Spec PyProof.Rows L2
/-- the tables of the top's defs are empty -/
def TabsAt (q : Program) (K : PySem.W.Frag) (h : Heap) : Prop := ∀ (x : Str) (c P : Addr), ((recsOf q).find? (fun e => e.name == x)).isSome = true → PySem.W.tabIn K x = some (c, P) → PySem.W.CodeHd h c P ∧ h.get? P = some { cls := .none, data := .fields #[] }
/-- the law's def computes sem; ts: the code objects that make lambdas, their tables, the lambdas' names -/
def LawRh (P : Program) (w : World) (K : PySem.W.Frag) (k n : Nat) (x : Str) (mg : Str → Option Value) (fa : Addr) (h : Heap) : Prop :=
  ∃ (fd : FuncData) (ts : List (Addr × Addr × Str)) (cls : Str → Option Addr) (sem : List D → Sto → R D), (∀ t ∈ ts, h.get? t.2.1 = some { cls := .none, data := .fields #[] }) ∧ (∀ t ∈ ts, K.lookup t.2.1 = none) ∧ (∀ t ∈ ts, PySem.W.CodeHd h t.1 t.2.1) ∧
    (∀ (s : Shared) (u : Value), BindsTo s fd ⟨[u], []⟩ [(x, u)]) ∧
    (∀ ns : List Int, ns.length ≤ n → (∀ z ∈ ns, Builtin.Int.intBits z ≤ 1048576) → ∃ s', sem [.fz (ns.map D.int)] [] = .ok (.bl true) s') ∧
    ∀ base : Heap, K.In base → base.Ns mainGlobals mg → (∀ t ∈ ts, LamX.TabB base mg t.1 t.2.1) → FnOk P w K mg base (L2.CX P w) k fa fd [x] (spF K ⟨cls, ts.map fun t => (t.2.1, t.2.2)⟩ 1 sem)
theorem lk_nil {α : Type} {p : Str → α → Prop} : ∀ x a, ([] : List (Str × α)).lookup x = some a → p x a := fun _ _ h => by cases h
theorem lk_cons {α : Type} {p : Str → α → Prop} {y : Str} {b : α} {l : List (Str × α)} (h : p y b) (t : ∀ x a, l.lookup x = some a → p x a) : ∀ x a, ((y, b) :: l).lookup x = some a → p x a := fun x a q => by
  rw [List.lookup_cons] at q
  split at q
  · rename_i e
    have e : x = y := eq_of_beq e
    cases q
    rw [e]
    exact h
  · exact t x a q
theorem ct_nil {p : Str → Prop} : ∀ x, ([] : List Str).contains x = true → p x := fun _ h => by cases h
theorem ct_cons {p : Str → Prop} {y : Str} {l : List Str} (h : p y) (t : ∀ x, l.contains x = true → p x) : ∀ x, (y :: l).contains x = true → p x := fun x q => by
  rw [List.contains_cons, Bool.or_eq_true] at q
  rcases q with q | q
  · rw [show x = y from eq_of_beq q]
    exact h
  · exact t x q
/-- a constant of the module -/
theorem val_str {K : PySem.W.Frag} {mg : Str → Option Value} {x y : Str} {t : Tok} (h : mg x = some (.str y t)) : ∃ v u, mg x = some u ∧ RelV v u ∧ ∀ F m, RepV K F m (.str y) v := ⟨.str y, _, h, ⟨t, rfl⟩, fun _ _ => rfl⟩
theorem val_int {K : PySem.W.Frag} {mg : Str → Option Value} {x : Str} {y : Int} {t : Tok} (h : mg x = some (.int y t)) : ∃ v u, mg x = some u ∧ RelV v u ∧ ∀ F m, RepV K F m (.int y) v := ⟨.int y, _, h, ⟨t, rfl⟩, fun _ _ => rfl⟩
theorem kfn_nil {p : Str → List Str → (List D → List D → Sto → R D) → Prop} : ∀ x ks sem, ([] : List (Str × List Str × (List D → List D → Sto → R D))).lookup x = some (ks, sem) → p x ks sem := fun _ _ _ h => by cases h
theorem rep_ints {K : PySem.W.Frag} {F : Hp} {m : List Addr} : ∀ ns : List Int, RepVs K F m (ns.map D.int) (ns.map V.int)
  | [] => rfl
  | n :: ns => ⟨_, _, rfl, rfl, rep_ints ns⟩
theorem law_start {K : PySem.W.Frag} {cA : Bg} {H : Hp} {a : Addr} {ns : List Int} (hz : ns.length ≤ szl) (hT : LamX.Tabs cA.tabs H) (hS : SqL K H a (ns.map V.int)) : ∃ F, Rel K cA (fun _ => none) F [] [] H ∧ RepVs K F [] [.fz (ns.map D.int)] [.ref a] := by
  have mk : ∀ F : Hp, Same F H → Nt F → SqL K F a (ns.map V.int) → Rel K cA (fun _ => none) F [] [] H ∧ RepVs K F [] [.fz (ns.map D.int)] [.ref a] := fun F e n s =>
    ⟨⟨e, rfl, List.nodup_nil, fun _ h => (by cases h), fun _ _ h => (by cases h), fun _ _ h => (by cases h), hT, ⟨n, fun _ _ h => (by cases h)⟩, fun _ _ _ h => (by cases h)⟩, _, _, rfl, ⟨a, _, rfl, s, by rw [List.length_map]; exact hz, rep_ints ns⟩, rfl⟩
  have one : ∀ u : HO, H a = some u → (∀ ps, u ≠ .tbl ps) → Same (fun b => if b = a then some u else none) H ∧ Nt (fun b => if b = a then some u else none) := fun u hu ht => by
    refine ⟨fun b o e => ?_, fun b ps e => ?_⟩
    · have e : (if b = a then some u else none) = some o := e
      split at e
      · rename_i hb
        rw [hb, hu]
        exact e
      · cases e
    · have e : (if b = a then some u else none) = some (.tbl ps) := e
      split at e
      · exact ht ps (Option.some.inj e)
      · cases e
  rcases hS with (h | ⟨o, h⟩) | h
  · obtain ⟨e, n⟩ := one _ h (fun ps z => by cases z)
    exact ⟨_, mk _ e n (.inl (.inl (if_pos rfl)))⟩
  · obtain ⟨e, n⟩ := one _ h (fun ps z => by cases z)
    exact ⟨_, mk _ e n (.inl (.inr ⟨o, if_pos rfl⟩))⟩
  · exact ⟨fun _ => none, mk _ (fun _ _ e => by cases e) (fun _ _ e => by cases e) (.inr h)⟩
theorem walk_rh {l : PySem.W.OpenLaw} {n k : Nat} {q : Program} {loose : List Str} {XP : (Str → Option Value) → Heap → Prop} {YP : World → Heap → Prop} {d : DefRec} {K : Params → PySem.W.Frag} {x : Str}
    (hn : l.most = some n) (hn2 : n ≤ 1000) (hdf : d.params.defaults = []) (hr : Room k callerA) (hY : ∀ (w : World) (h : Heap), YP w h → (K w.params).In h)
    (F : ∀ (w : World) (mg : Str → Option Value) (fa : Addr) (h : Heap), YP w h → (K w.params).In h → h.Ns mainGlobals mg → mg d.name = some (.ref fa) → TabsAt q (K w.params) h → LawRh l.prog w (K w.params) k n x mg fa h) :
    PySem.W.WalkO q loose XP YP l.row.toRowW d [] (fun f vs => PySem.call f vs) := by
  refine Att.attach_callB hn hdf fun w s₀ s₁ mg mb fa o pm cd doc a vs ns G Y ho hd hcd hmg hobj hints hlen hbits hg => ?_
  have KX := hY w _ Y
  have tabs : TabsAt q (K w.params) s₁.heap := fun x c P h1 h2 => by
    obtain ⟨d, hd⟩ := Option.isSome_iff_exists.mp h1
    exact PySem.W.tab_of G.T KX hd h2
  obtain ⟨fd, ts, cls, sem, hT, nT, C, hb, hsem, hF⟩ := F w mg fa _ Y KX G.T.g hmg tabs
  have hz : ns.length ≤ sizeLine := Nat.le_trans hlen (Nat.le_trans hn2 (by rw [sizeLine_eq]; decide))
  have mem : ∀ p ∈ ts.map (fun t => (t.1, t.2.1)), ∃ t ∈ ts, p = (t.1, t.2.1) := fun p hp => by
    obtain ⟨t, h1, h2⟩ := List.mem_map.mp hp
    exact ⟨t, h1, h2.symm⟩
  refine LamX.law_callTs (cs := ts.map fun t => (t.1, t.2.1)) (CX := L2.CX l.prog w) (sp := spF (K w.params) ⟨cls, ts.map fun t => (t.2.1, t.2.2)⟩ 1 sem) KX G.T.g G.T.b G.T.builtins G.T.nolimit hg ?_ ?_ ?_ G.T.bmain hobj hints hz hr (fun base h1 h2 h3 => hF base h1 h2 fun t ht => h3 _ (List.mem_map.mpr ⟨t, ht, rfl⟩)) hb ?_ ?_
  · intro p hp
    obtain ⟨t, ht, rfl⟩ := mem p hp
    exact hT t ht
  · intro p hp
    obtain ⟨t, ht, rfl⟩ := mem p hp
    exact nT t ht
  · intro p hp
    obtain ⟨t, ht, rfl⟩ := mem p hp
    exact C t ht
  · intro H hH hS
    have hTb : LamX.Tabs (ts.map fun t => (t.2.1, t.2.2)) H := fun p hp => by
      obtain ⟨t, ht, rfl⟩ := List.mem_map.mp hp
      exact LamX.TabS.nil (hH (t.1, t.2.1) (List.mem_map.mpr ⟨t, ht, rfl⟩))
    obtain ⟨Fz, R, rv⟩ := law_start (cA := ⟨cls, ts.map fun t => (t.2.1, t.2.2)⟩) (by rw [szl_eq]; exact hz) hTb hS
    obtain ⟨s', hs⟩ := hsem ns hlen hbits
    refine ⟨_, Fz, [], [], _, R, rv, rfl, ?_⟩
    rw [hs]
    exact fun F' m' v H' _ _ _ r => r
  · intro H e s' c
    obtain ⟨_, _, _, _, _, _, _, _, _, _, _, _, z⟩ := c
    exact z.elim
end Rh
end

section
set_option Elab.async false
set_option linter.all false
set_option maxRecDepth 100000
set_option maxHeartbeats 4000000
/-! Printed by gen.py: the plain mirrors of the text of law_k41_the_most_of_pairs. -/
namespace Rh
open PySem L2
def top (i : Nat) : Stmt := PySem.Challenge.pw_ringhall_k41_the_most_of_pairs.main.body.getD i (.Pass ⟨0, 0, 0, 0⟩)
/-! raised, line 5: 0 rows, 1 side, 2 row -/
def t_raised_1 : Et := (tVal (eBin opEq (eBin anyItem (eVar 2) (eC (.int 2))) (eVar 1)))
def e_raised_1 : Ev := (eVar 2)
def b_raised : Es := (sSeq (sRet (eArg (bSortK 3) (aCons (eLcC (iVal (eVar 0)) (Tn.nm 2).tg t_raised_1 e_raised_1 [2]) aNil)))
 sNil)
def f_raised : List D → Sto → R D := fnSem 3 2 b_raised
/-! paired_off, line 7: 0 rows, 1 buys, 2 sells, 3 left, 4 cut, 5 pairs, 6 at, 7 sell, 8 buy, 9 amount, 10 row, 11 buyer, 12 seller -/
def e_paired_off_1 : Ev := (eBin anyItem (eVar 10) (eC (.int 0)))
def e_paired_off_2 : Ev := (eBin anyItem (eVar 10) (eC (.int 5)))
def t_paired_off_1 : Et := (Rh.tAnd (tVal (eBin opGt (eBin anyItem (eVar 3) (eBin anyItem (eVar 7) (eC (.int 0)))) (eC (.int 0)))) (tVal (eBin opLt (eVar 6) (eArg bLen (aCons (eVar 1) aNil)))))
def w_paired_off_1 : Es := (sSeq (sAsg (eBin anyItem (eVar 1) (eVar 6)) (Tn.nm 8).tg)
 (sSeq (sIf (Rh.tOr (tVal (eBin opLt (eBin anyItem (eVar 8) (eC (.int 3))) (eBin anyItem (eVar 7) (eC (.int 3))))) (tVal (eBin opEq (eBin anyItem (eVar 3) (eBin anyItem (eVar 8) (eC (.int 0)))) (eC (.int 0)))))
 (sSeq (sAug opAddN 6 (eC (.int 1)))
  (sSeq sCnt
  sNil))
 sNil)
 (sSeq (sAsg (eArg bMinA (aCons (eBin anyItem (eVar 3) (eBin anyItem (eVar 8) (eC (.int 0)))) (aCons (eBin anyItem (eVar 3) (eBin anyItem (eVar 7) (eC (.int 0)))) aNil))) (Tn.nm 9).tg)
 (sSeq (sExpr (eMeth isLst mAppend (eVar 5) (aCons (eTup (aCons (eBin anyItem (eVar 8) (eC (.int 0))) (aCons (eBin anyItem (eVar 7) (eC (.int 0))) (aCons (eVar 9) aNil)))) aNil)))
 (sSeq (sAugS dItem opSub Rh.setItem (eVar 3) (eBin anyItem (eVar 8) (eC (.int 0))) (eVar 9))
 (sSeq (sAugS dItem opSub Rh.setItem (eVar 3) (eBin anyItem (eVar 7) (eC (.int 0))) (eVar 9))
 sNil))))))
def t_paired_off_2 : Et := (tVal (eBin opGt (eBin anyItem (eVar 3) (eBin anyItem (eVar 10) (eC (.int 0)))) (eC (.int 0))))
def e_paired_off_3 : Ev := (eBin anyItem (eVar 10) (eC (.int 3)))
def w_paired_off_2 : Es := (sSeq (whileN t_paired_off_1 w_paired_off_1 wfuel)
 (sSeq (sIf (tVal (eBin opGt (eBin anyItem (eVar 3) (eBin anyItem (eVar 7) (eC (.int 0)))) (eC (.int 0))))
 (sSeq (sAsg (eArg (bMaxD 0) (aCons (eLcC (iVal (eVar 1)) (Tn.nm 10).tg t_paired_off_2 e_paired_off_3 [10]) aNil)) (Tn.nm 4).tg)
  (sSeq sBrk
  sNil))
 sNil)
 sNil))
def e_paired_off_4 : Ev := (eVar 9)
def b_paired_off : Es := (sSeq (sPar 1 2 (aCons (eArg f_raised (aCons (eVar 0) (aCons (eC (.str "buy")) aNil))) (aCons (eArg f_raised (aCons (eVar 0) (aCons (eC (.str "sell")) aNil))) aNil)))
 (sSeq (sAsg (eDc (iVal (eVar 0)) (Tn.nm 10).tg tYes e_paired_off_1 e_paired_off_2 [10]) (Tn.nm 3).tg)
 (sSeq (sAsg (eC (.int 1000000)) (Tn.nm 4).tg)
 (sSeq (sAsg (eLst aNil) (Tn.nm 5).tg)
 (sSeq (sAsg (eC (.int 0)) (Tn.nm 6).tg)
 (sSeq (sFor (iVal (eVar 2)) (Tn.nm 7).tg w_paired_off_2)
 (sSeq (sRet (eTup (aCons (eArg bSum (aCons (eLcC (iVal (eVar 5)) (Tn.tp [(Tn.nm 11), (Tn.nm 12), (Tn.nm 9)]).tg tYes e_paired_off_4 [11, 12, 9]) aNil)) (aCons (eVar 4) (aCons (eVar 5) aNil)))))
 sNil)))))))
def f_paired_off : List D → Sto → R D := fnSem 13 1 b_paired_off
/-! _law_tape, line 28: 0 script, 1 start, 2 cell -/
def b__law_tape : Es := (sSeq (sAsg (eC (.int 0)) (Tn.nm 2).tg)
 (sSeq (sIf (tVal (eBin opLt (eVar 1) (eArg bLen (aCons (eVar 0) aNil))))
 (sSeq (sAsg (eArg bAbs (aCons (eBin anyItem (eVar 0) (eVar 1)) aNil)) (Tn.nm 2).tg)
  sNil)
 sNil)
 (sSeq (sRet (eLst (aCons (eVar 2) (aCons (eBin (opAdd true) (eBin opMod (eBin (opAdd true) (eBin opMul (eVar 1) (eC (.int 7919))) (eVar 2)) (eC (.int 998244353))) (eC (.int 1))) aNil))))
 sNil)))
def f__law_tape : List D → Sto → R D := fnSem 3 2 b__law_tape
/-! _law_digit, line 33: 0 tape, 1 many, 2 found, 3 more -/
def b__law_digit : Es := (sSeq (sIf (tVal (eBin opGt (eBin anyItem (eVar 0) (eC (.int 0))) (eC (.int 0))))
 (sSeq (sAsg (eBin opMod (eBin anyItem (eVar 0) (eC (.int 0))) (eVar 1)) (Tn.nm 2).tg)
  (sSeq (sAsg (eBin opDiv (eBin anyItem (eVar 0) (eC (.int 0))) (eVar 1)) (gSb Rh.setItem (eVar 0) (eC (.int 0))))
  (sSeq (sRet (eVar 2))
  sNil)))
 sNil)
 (sSeq (sAsg (eBin opMod (eBin (opAdd true) (eBin opMul (eBin anyItem (eVar 0) (eC (.int 1))) (eC (.int 48271))) (eC (.int 11))) (eC (.int 2147483647))) (gSb Rh.setItem (eVar 0) (eC (.int 1))))
 (sSeq (sAsg (eBin opMod (eBin opMul (eBin anyItem (eVar 0) (eC (.int 1))) (eC (.int 40692))) (eC (.int 2147483399))) (Tn.nm 3).tg)
 (sSeq (sRet (eBin opMod (eBin (opAdd true) (eBin opMul (eBin opMod (eBin opMul (eBin anyItem (eVar 0) (eC (.int 1))) (eBin anyItem (eVar 0) (eC (.int 1)))) (eC (.int 2147483629))) (eC (.int 2147483399))) (eVar 3)) (eVar 1)))
 sNil))))
def f__law_digit : List D → Sto → R D := fnSem 4 2 b__law_digit
/-! _law_drawn_order, line 41: 0 tape, 1 many, 2 left, 3 k -/
def e__law_drawn_order_1 : Ev := (eMeth isLst mPopAt (eVar 2) (aCons (eArg f__law_digit (aCons (eVar 0) (aCons (eArg bLen (aCons (eVar 2) aNil)) aNil))) aNil))
def b__law_drawn_order : Es := (sSeq (sAsg (eUn (opRgL false) (eVar 1)) (Tn.nm 2).tg)
 (sSeq (sRet (eLcC (iRange1 (aCons (eVar 1) aNil)) (Tn.nm 3).tg tYes e__law_drawn_order_1 [3]))
 sNil))
def f__law_drawn_order : List D → Sto → R D := fnSem 4 2 b__law_drawn_order
/-! _law_row, line 44: 0 tape, 1 number, 2 stamp, 3 base, 4 spread, 5 most, 6 owner, 7 side, 8 price, 9 left, 10 shown, 11 seen -/
def b__law_row : Es := (sSeq (sAsg (eBin anyItem (eLstC (aCons (eC (.str "ann")) (aCons (eC (.str "bob")) (aCons (eC (.str "cat")) (aCons (eC (.str "dan")) aNil))))) (eArg f__law_digit (aCons (eVar 0) (aCons (eC (.int 4)) aNil)))) (Tn.nm 6).tg)
 (sSeq (sAsg (eBin anyItem (eLstC (aCons (eC (.str "buy")) (aCons (eC (.str "sell")) aNil))) (eArg f__law_digit (aCons (eVar 0) (aCons (eC (.int 2)) aNil)))) (Tn.nm 7).tg)
 (sSeq (sAsg (eBin (opAdd true) (eVar 3) (eArg f__law_digit (aCons (eVar 0) (aCons (eVar 4) aNil)))) (Tn.nm 8).tg)
 (sSeq (sAsg (eBin (opAdd true) (eC (.int 1)) (eArg f__law_digit (aCons (eVar 0) (aCons (eVar 5) aNil)))) (Tn.nm 9).tg)
 (sSeq (sPar 10 11 (aCons (eC .non) (aCons (eVar 9) aNil)))
 (sSeq (sIf (tVal (eBin opEq (eArg f__law_digit (aCons (eVar 0) (aCons (eC (.int 3)) aNil))) (eC (.int 0))))
 (sSeq (sAsg (eArg bMinA (aCons (eBin opPow (eC (.int 10)) (eC (.int 9))) (aCons (eBin (opAdd true) (eBin opDiv (eBin (opAdd true) (eVar 9) (eC (.int 19))) (eC (.int 20))) (eArg f__law_digit (aCons (eVar 0) (aCons (eVar 5) aNil)))) aNil))) (Tn.nm 10).tg)
  (sSeq (sAsg (eBin (opAdd true) (eC (.int 1)) (eArg f__law_digit (aCons (eVar 0) (aCons (eArg bMinA (aCons (eVar 10) (aCons (eVar 9) aNil))) aNil)))) (Tn.nm 11).tg)
  sNil))
 sNil)
 (sSeq (sRet (eTup (aCons (eVar 1) (aCons (eVar 6) (aCons (eVar 7) (aCons (eVar 8) (aCons (eVar 10) (aCons (eVar 9) (aCons (eVar 11) (aCons (eVar 2) aNil))))))))))
 sNil)))))))
def f__law_row : List D → Sto → R D := fnSem 12 6 b__law_row
/-! _law_rows, line 54: 0 tape, 1 most_rows, 2 many, 3 spread, 4 base, 5 most, 6 numbers, 7 stamps, 8 k -/
def e__law_rows_1 : Ev := (eArg f__law_row (aCons (eVar 0) (aCons (eBin anyItem (eVar 6) (eVar 8)) (aCons (eBin anyItem (eVar 7) (eVar 8)) (aCons (eVar 4) (aCons (eVar 3) (aCons (eVar 5) aNil)))))))
def b__law_rows : Es := (sSeq (sAsg (eArg f__law_digit (aCons (eVar 0) (aCons (eBin (opAdd true) (eVar 1) (eC (.int 1))) aNil))) (Tn.nm 2).tg)
 (sSeq (sAsg (eBin anyItem (eLstC (aCons (eC (.int 6)) (aCons (eC (.int 3)) (aCons (eC (.int 1)) (aCons (eC (.int 30)) (aCons (eC (.int 1000)) (aCons (eC (.int 1000000)) aNil))))))) (eArg f__law_digit (aCons (eVar 0) (aCons (eC (.int 6)) aNil)))) (Tn.nm 3).tg)
 (sSeq (sAsg (eBin (opAdd true) (eC (.int 1)) (eArg f__law_digit (aCons (eVar 0) (aCons (eBin opSub (eC (.int 1000001)) (eVar 3)) aNil)))) (Tn.nm 4).tg)
 (sSeq (sAsg (eBin anyItem (eLstC (aCons (eC (.int 5)) (aCons (eC (.int 3)) (aCons (eC (.int 40)) (aCons (eBin opPow (eC (.int 10)) (eC (.int 9))) aNil))))) (eArg f__law_digit (aCons (eVar 0) (aCons (eC (.int 4)) aNil)))) (Tn.nm 5).tg)
 (sSeq (sAsg (eTup (aCons (eArg f__law_drawn_order (aCons (eVar 0) (aCons (eBin (opAdd true) (eVar 2) (eC (.int 2))) aNil))) (aCons (eArg f__law_drawn_order (aCons (eVar 0) (aCons (eBin (opAdd true) (eVar 2) (eC (.int 3))) aNil))) aNil))) (Tn.tp [(Tn.nm 6), (Tn.nm 7)]).tg)
 (sSeq (sRet (eLcC (iRange1 (aCons (eVar 2) aNil)) (Tn.nm 8).tg tYes e__law_rows_1 [8]))
 sNil))))))
def f__law_rows : List D → Sto → R D := fnSem 9 2 b__law_rows
/-! _law_close_rows, line 61: 0 tape, 1 found, 2 k, 3 side, 4 left -/
def w__law_close_rows_1 : Es := (sSeq (sAsg (eBin anyItem (eLstC (aCons (eC (.str "buy")) (aCons (eC (.str "sell")) aNil))) (eArg f__law_digit (aCons (eVar 0) (aCons (eC (.int 2)) aNil)))) (Tn.nm 3).tg)
 (sSeq (sAsg (eBin (opAdd true) (eC (.int 1)) (eArg f__law_digit (aCons (eVar 0) (aCons (eC (.int 3)) aNil)))) (Tn.nm 4).tg)
 (sSeq (sExpr (eMeth isLst mAppend (eVar 1) (aCons (eTup (aCons (eVar 2) (aCons (eC (.str "ann")) (aCons (eVar 3) (aCons (eBin (opAdd true) (eC (.int 5)) (eArg f__law_digit (aCons (eVar 0) (aCons (eC (.int 6)) aNil)))) (aCons (eC .non) (aCons (eVar 4) (aCons (eVar 4) (aCons (eVar 2) aNil))))))))) aNil)))
 sNil)))
def b__law_close_rows : Es := (sSeq (sAsg (eLst aNil) (Tn.nm 1).tg)
 (sSeq (sFor (iRange1 (aCons (eBin (opAdd true) (eC (.int 2)) (eArg f__law_digit (aCons (eVar 0) (aCons (eC (.int 9)) aNil)))) aNil)) (Tn.nm 2).tg w__law_close_rows_1)
 (sSeq (sRet (eVar 1))
 sNil)))
def f__law_close_rows : List D → Sto → R D := fnSem 5 1 b__law_close_rows
/-! _law_whole, line 68: 0 thing, 1 most_of -/
def b__law_whole : Es := (sSeq (sRet (eAnd (eUn (opIsi (Str.ofString "int")) (eVar 0)) (eAnd (eUn opNot (eUn (opIsi (Str.ofString "bool")) (eVar 0))) (eChain opLe opLe (eC (.int 0)) (eVar 0) (eVar 1)))))
 sNil)
def f__law_whole : List D → Sto → R D := fnSem 2 2 b__law_whole
/-! _law_pairs_right, line 70: 0 rows, 1 pairs, 2 whole, 3 there, 4 spent, 5 seen, 6 total, 7 pair, 8 buyer, 9 seller, 10 much, 11 one, 12 other, 13 row -/
def e__law_pairs_right_1 : Ev := (eTup (aCons (eBin anyItem (eVar 13) (eC (.int 0))) (aCons (eVar 13) aNil)))
def e__law_pairs_right_2 : Ev := (eTup (aCons (eBin anyItem (eVar 13) (eC (.int 0))) (aCons (eC (.int 0)) aNil)))
def w__law_pairs_right_1 : Es := (sSeq (sIf (Rh.tOr (Rh.tNot (tVal (eUn (opIsi (Str.ofString "tuple")) (eVar 7)))) (Rh.tOr (tVal (eBin opNe (eArg bLen (aCons (eVar 7) aNil)) (eC (.int 3)))) (tVal (eBin anyIn (eSl (slOp true) (eVar 7) oNone (oSome (eC (.int 2)))) (eVar 5)))))
 (sSeq (sRet (eC (.bl false)))
  sNil)
 sNil)
 (sSeq (sIf (Rh.tOr (Rh.tNot (tVal (eArg f__law_whole (aCons (eBin anyItem (eVar 7) (eC (.int 2))) (aCons (eVar 2) aNil))))) (tVal (eBin opLt (eBin anyItem (eVar 7) (eC (.int 2))) (eC (.int 1)))))
 (sSeq (sRet (eC (.bl false)))
  sNil)
 sNil)
 (sSeq (sAsg (eVar 7) (Tn.tp [(Tn.nm 8), (Tn.nm 9), (Tn.nm 10)]).tg)
 (sSeq (sIf (Rh.tOr (tVal (eBin anyNotIn (eVar 8) (eVar 3))) (tVal (eBin anyNotIn (eVar 9) (eVar 3))))
 (sSeq (sRet (eC (.bl false)))
  sNil)
 sNil)
 (sSeq (sPar 11 12 (aCons (eBin anyItem (eVar 3) (eVar 8)) (aCons (eBin anyItem (eVar 3) (eVar 9)) aNil)))
 (sSeq (sIf (Rh.tOr (tVal (eBin opNe (eBin anyItem (eVar 11) (eC (.int 2))) (eC (.str "buy")))) (Rh.tOr (tVal (eBin opNe (eBin anyItem (eVar 12) (eC (.int 2))) (eC (.str "sell")))) (tVal (eBin opLt (eBin anyItem (eVar 11) (eC (.int 3))) (eBin anyItem (eVar 12) (eC (.int 3)))))))
 (sSeq (sRet (eC (.bl false)))
  sNil)
 sNil)
 (sSeq (sExpr (eMeth isLst mAppend (eVar 5) (aCons (eSl (slOp true) (eVar 7) oNone (oSome (eC (.int 2)))) aNil)))
 (sSeq (sAsg (eBin (opAdd true) (eBin anyItem (eVar 4) (eVar 8)) (eVar 10)) (gSb Rh.setItem (eVar 4) (eVar 8)))
 (sSeq (sAsg (eBin (opAdd true) (eBin anyItem (eVar 4) (eVar 9)) (eVar 10)) (gSb Rh.setItem (eVar 4) (eVar 9)))
 (sSeq (sAsg (eBin (opAdd true) (eVar 6) (eVar 10)) (Tn.nm 6).tg)
 sNil))))))))))
def w__law_pairs_right_2 : Es := (sSeq (sIf (tVal (eBin opGt (eBin anyItem (eVar 4) (eBin anyItem (eVar 13) (eC (.int 0)))) (eBin anyItem (eVar 13) (eC (.int 5)))))
 (sSeq (sRet (eC (.bl false)))
  sNil)
 sNil)
 sNil)
def b__law_pairs_right : Es := (sSeq (sAsg (eArg bDictP (aCons (eLcC (iVal (eVar 0)) (Tn.nm 13).tg tYes e__law_pairs_right_1 [13]) aNil)) (Tn.nm 3).tg)
 (sSeq (sAsg (eArg bDictP (aCons (eLcC (iVal (eVar 0)) (Tn.nm 13).tg tYes e__law_pairs_right_2 [13]) aNil)) (Tn.nm 4).tg)
 (sSeq (sAsg (eLst aNil) (Tn.nm 5).tg)
 (sSeq (sAsg (eC (.int 0)) (Tn.nm 6).tg)
 (sSeq (sFor (iVal (eVar 1)) (Tn.nm 7).tg w__law_pairs_right_1)
 (sSeq (sFor (iVal (eVar 0)) (Tn.nm 13).tg w__law_pairs_right_2)
 (sSeq (sRet (eBin opEq (eVar 6) (eVar 2)))
 sNil)))))))
def f__law_pairs_right : List D → Sto → R D := fnSem 14 3 b__law_pairs_right
/-! _law_right, line 94: 0 rows, 1 told, 2 due, 3 row -/
def w__law_right_1 : Es := (sSeq (sIf (tVal (eBin opEq (eBin opGt (eBin anyItem (eVar 3) (eC (.int 3))) (eBin anyItem (eVar 1) (eC (.int 1)))) (eBin opEq (eBin anyItem (eVar 3) (eC (.int 2))) (eC (.str "buy")))))
 (sSeq (sAsg (eBin (opAdd true) (eVar 2) (eBin anyItem (eVar 3) (eC (.int 5)))) (Tn.nm 2).tg)
  sNil)
 sNil)
 sNil)
def b__law_right : Es := (sSeq (sIf (Rh.tOr (Rh.tNot (tVal (eUn (opIsi (Str.ofString "tuple")) (eVar 1)))) (tVal (eBin opNe (eArg bLen (aCons (eVar 1) aNil)) (eC (.int 3)))))
 (sSeq (sRet (eC (.bl false)))
  sNil)
 sNil)
 (sSeq (sIf (Rh.tNot (tVal (eUn (opIsi (Str.ofString "list")) (eBin anyItem (eVar 1) (eC (.int 2))))))
 (sSeq (sRet (eC (.bl false)))
  sNil)
 sNil)
 (sSeq (sIf (Rh.tOr (Rh.tNot (tVal (eArg f__law_whole (aCons (eBin anyItem (eVar 1) (eC (.int 1))) (aCons (eC (.int 1000000)) aNil))))) (Rh.tNot (tVal (eArg f__law_whole (aCons (eBin anyItem (eVar 1) (eC (.int 0))) (aCons (eBin opPow (eC (.int 10)) (eC (.int 60))) aNil))))))
 (sSeq (sRet (eC (.bl false)))
  sNil)
 sNil)
 (sSeq (sAsg (eC (.int 0)) (Tn.nm 2).tg)
 (sSeq (sFor (iVal (eVar 0)) (Tn.nm 3).tg w__law_right_1)
 (sSeq (sIf (tVal (eBin opNe (eVar 2) (eBin anyItem (eVar 1) (eC (.int 0)))))
 (sSeq (sRet (eC (.bl false)))
  sNil)
 sNil)
 (sSeq (sRet (eArg f__law_pairs_right (aCons (eVar 0) (aCons (eBin anyItem (eVar 1) (eC (.int 2))) (aCons (eBin anyItem (eVar 1) (eC (.int 0))) aNil)))))
 sNil)))))))
def f__law_right : List D → Sto → R D := fnSem 4 2 b__law_right
/-! law, line 108: 0 script, 1 start, 2 tape, 3 rows, 4 turn, 5 handed, 6 told -/
def w_law_1 : Es := (sSeq (sAsg (eArg (bLst true) (aCons (eVar 3) aNil)) (Tn.nm 5).tg)
 (sSeq (sAsg (eArg f_paired_off (aCons (eVar 5) aNil)) (Tn.nm 6).tg)
 (sSeq (sIf (Rh.tOr (tVal (eBin opNe (eVar 5) (eVar 3))) (Rh.tNot (tVal (eArg f__law_right (aCons (eVar 3) (aCons (eVar 6) aNil))))))
 (sSeq (sRet (eC (.bl false)))
  sNil)
 sNil)
 (sSeq (sExpr (eMeth isLst mAppend (eBin anyItem (eVar 6) (eC (.int 2))) (aCons (eTup (aCons (eC (.str "x")) aNil)) aNil)))
 (sSeq (sIf (tVal (eBin opNe (eVar 5) (eVar 3)))
 (sSeq (sRet (eC (.bl false)))
  sNil)
 sNil)
 sNil)))))
def w_law_2 : Es := (sSeq (sAsg (eArg f__law_tape (aCons (eVar 0) (aCons (eVar 1) aNil))) (Tn.nm 2).tg)
 (sSeq (sAsg (eArg f__law_rows (aCons (eVar 2) (aCons (eC (.int 14)) aNil))) (Tn.nm 3).tg)
 (sSeq (sIf (tVal (eBin opEq (eArg f__law_digit (aCons (eVar 2) (aCons (eC (.int 3)) aNil))) (eC (.int 0))))
 (sSeq (sAsg (eArg f__law_close_rows (aCons (eVar 2) aNil)) (Tn.nm 3).tg)
  sNil)
 sNil)
 (sSeq (sFor (iRange1 (aCons (eC (.int 2)) aNil)) (Tn.nm 4).tg w_law_1)
 sNil))))
def b_law : Es := (sSeq (sFor (iRange1 (aCons (eArg bMaxA (aCons (eC (.int 1)) (aCons (eArg bMinA (aCons (eC (.int 5)) (aCons (eArg bLen (aCons (eVar 0) aNil)) aNil))) aNil))) aNil)) (Tn.nm 1).tg w_law_2)
 (sSeq (sRet (eC (.bl true)))
 sNil))
def f_law : List D → Sto → R D := fnSem 7 1 b_law
def sx_raised : Sx := { N := ["rows", "side", "row"], nm := (defScope (top 4)).names, vals := [], fns := [], kfns := [], blt := ["sorted"], mu := [], ct := cellsOf (defScope (top 4)).names, lam := true }
theorem d_raised : denB (denSt (den 24) sx_raised 24) (defBody (top 4)) = some b_raised := by kernel_rfl
theorem sc_raised : FnScope ["rows", "side", "row"] ["rows", "side"] (defScope (top 4)) := ⟨rfl, rfl, rfl, by decide +kernel, rfl, by decide +kernel, by decide +kernel⟩
def sx_paired_off : Sx := { N := ["rows", "buys", "sells", "left", "cut", "pairs", "at", "sell", "buy", "amount", "row", "buyer", "seller"], nm := (defScope (top 5)).names, vals := [("BUY", (D.str "buy")), ("SELL", (D.str "sell")), ("MOST_PRICE", (D.int 1000000))], fns := [("raised", f_raised)], kfns := [], blt := ["len", "min", "max", "sum"], mu := [(11, 12)], ct := cellsOf (defScope (top 5)).names, lam := false }
theorem d_paired_off : denB (denSt (den 24) sx_paired_off 24) (defBody (top 5)) = some b_paired_off := by kernel_rfl
theorem sc_paired_off : FnScope ["rows", "buys", "sells", "left", "cut", "pairs", "at", "sell", "buy", "amount", "row", "buyer", "seller"] ["rows"] (defScope (top 5)) := ⟨rfl, rfl, rfl, by decide +kernel, rfl, by decide +kernel, by decide +kernel⟩
def sx__law_tape : Sx := { N := ["script", "start", "cell"], nm := (defScope (top 7)).names, vals := [], fns := [], kfns := [], blt := ["len", "abs"], mu := [(32, 11)], ct := cellsOf (defScope (top 7)).names, lam := false }
theorem d__law_tape : denB (denSt (den 24) sx__law_tape 24) (defBody (top 7)) = some b__law_tape := by kernel_rfl
theorem sc__law_tape : FnScope ["script", "start", "cell"] ["script", "start"] (defScope (top 7)) := ⟨rfl, rfl, rfl, by decide +kernel, rfl, by decide +kernel, by decide +kernel⟩
def sx__law_digit : Sx := { N := ["tape", "many", "found", "more"], nm := (defScope (top 8)).names, vals := [], fns := [], kfns := [], blt := [], mu := [], ct := cellsOf (defScope (top 8)).names, lam := false }
theorem d__law_digit : denB (denSt (den 24) sx__law_digit 24) (defBody (top 8)) = some b__law_digit := by kernel_rfl
theorem sc__law_digit : FnScope ["tape", "many", "found", "more"] ["tape", "many"] (defScope (top 8)) := ⟨rfl, rfl, rfl, by decide +kernel, rfl, by decide +kernel, by decide +kernel⟩
def sx__law_drawn_order : Sx := { N := ["tape", "many", "left", "k"], nm := (defScope (top 9)).names, vals := [], fns := [("_law_digit", f__law_digit)], kfns := [], blt := ["list", "range", "len"], mu := [(42, 11)], ct := cellsOf (defScope (top 9)).names, lam := false }
theorem d__law_drawn_order : denB (denSt (den 24) sx__law_drawn_order 24) (defBody (top 9)) = some b__law_drawn_order := by kernel_rfl
theorem sc__law_drawn_order : FnScope ["tape", "many", "left", "k"] ["tape", "many"] (defScope (top 9)) := ⟨rfl, rfl, rfl, by decide +kernel, rfl, by decide +kernel, by decide +kernel⟩
def sx__law_row : Sx := { N := ["tape", "number", "stamp", "base", "spread", "most", "owner", "side", "price", "left", "shown", "seen"], nm := (defScope (top 10)).names, vals := [], fns := [("_law_digit", f__law_digit)], kfns := [], blt := ["min"], mu := [], ct := cellsOf (defScope (top 10)).names, lam := false }
theorem d__law_row : denB (denSt (den 24) sx__law_row 24) (defBody (top 10)) = some b__law_row := by kernel_rfl
theorem sc__law_row : FnScope ["tape", "number", "stamp", "base", "spread", "most", "owner", "side", "price", "left", "shown", "seen"] ["tape", "number", "stamp", "base", "spread", "most"] (defScope (top 10)) := ⟨rfl, rfl, rfl, by decide +kernel, rfl, by decide +kernel, by decide +kernel⟩
def sx__law_rows : Sx := { N := ["tape", "most_rows", "many", "spread", "base", "most", "numbers", "stamps", "k"], nm := (defScope (top 11)).names, vals := [], fns := [("_law_digit", f__law_digit), ("_law_drawn_order", f__law_drawn_order), ("_law_row", f__law_row)], kfns := [], blt := ["range"], mu := [], ct := cellsOf (defScope (top 11)).names, lam := false }
theorem d__law_rows : denB (denSt (den 24) sx__law_rows 24) (defBody (top 11)) = some b__law_rows := by kernel_rfl
theorem sc__law_rows : FnScope ["tape", "most_rows", "many", "spread", "base", "most", "numbers", "stamps", "k"] ["tape", "most_rows"] (defScope (top 11)) := ⟨rfl, rfl, rfl, by decide +kernel, rfl, by decide +kernel, by decide +kernel⟩
def sx__law_close_rows : Sx := { N := ["tape", "found", "k", "side", "left"], nm := (defScope (top 12)).names, vals := [], fns := [("_law_digit", f__law_digit)], kfns := [], blt := ["range"], mu := [(62, 12)], ct := cellsOf (defScope (top 12)).names, lam := false }
theorem d__law_close_rows : denB (denSt (den 24) sx__law_close_rows 24) (defBody (top 12)) = some b__law_close_rows := by kernel_rfl
theorem sc__law_close_rows : FnScope ["tape", "found", "k", "side", "left"] ["tape"] (defScope (top 12)) := ⟨rfl, rfl, rfl, by decide +kernel, rfl, by decide +kernel, by decide +kernel⟩
def sx__law_whole : Sx := { N := ["thing", "most_of"], nm := (defScope (top 13)).names, vals := [], fns := [], kfns := [], blt := ["isinstance", "int", "bool"], mu := [], ct := cellsOf (defScope (top 13)).names, lam := false }
theorem d__law_whole : denB (denSt (den 24) sx__law_whole 24) (defBody (top 13)) = some b__law_whole := by kernel_rfl
theorem sc__law_whole : FnScope ["thing", "most_of"] ["thing", "most_of"] (defScope (top 13)) := ⟨rfl, rfl, rfl, by decide +kernel, rfl, by decide +kernel, by decide +kernel⟩
def sx__law_pairs_right : Sx := { N := ["rows", "pairs", "whole", "there", "spent", "seen", "total", "pair", "buyer", "seller", "much", "one", "other", "row"], nm := (defScope (top 14)).names, vals := [], fns := [("_law_whole", f__law_whole)], kfns := [], blt := ["dict", "isinstance", "tuple", "len"], mu := [(73, 11)], ct := cellsOf (defScope (top 14)).names, lam := false }
theorem d__law_pairs_right : denB (denSt (den 24) sx__law_pairs_right 24) (defBody (top 14)) = some b__law_pairs_right := by kernel_rfl
theorem sc__law_pairs_right : FnScope ["rows", "pairs", "whole", "there", "spent", "seen", "total", "pair", "buyer", "seller", "much", "one", "other", "row"] ["rows", "pairs", "whole"] (defScope (top 14)) := ⟨rfl, rfl, rfl, by decide +kernel, rfl, by decide +kernel, by decide +kernel⟩
def sx__law_right : Sx := { N := ["rows", "told", "due", "row"], nm := (defScope (top 15)).names, vals := [], fns := [("_law_whole", f__law_whole), ("_law_pairs_right", f__law_pairs_right)], kfns := [], blt := ["isinstance", "tuple", "len", "list"], mu := [], ct := cellsOf (defScope (top 15)).names, lam := false }
theorem d__law_right : denB (denSt (den 24) sx__law_right 24) (defBody (top 15)) = some b__law_right := by kernel_rfl
theorem sc__law_right : FnScope ["rows", "told", "due", "row"] ["rows", "told"] (defScope (top 15)) := ⟨rfl, rfl, rfl, by decide +kernel, rfl, by decide +kernel, by decide +kernel⟩
def sx_law : Sx := { N := ["script", "start", "tape", "rows", "turn", "handed", "told"], nm := (defScope (top 16)).names, vals := [], fns := [("_law_tape", f__law_tape), ("_law_rows", f__law_rows), ("_law_digit", f__law_digit), ("_law_close_rows", f__law_close_rows), ("paired_off", f_paired_off), ("_law_right", f__law_right)], kfns := [], blt := ["range", "max", "min", "len", "list"], mu := [], ct := cellsOf (defScope (top 16)).names, lam := false }
theorem d_law : denB (denSt (den 24) sx_law 24) (defBody (top 16)) = some b_law := by kernel_rfl
theorem sc_law : FnScope ["script", "start", "tape", "rows", "turn", "handed", "told"] ["script"] (defScope (top 16)) := ⟨rfl, rfl, rfl, by decide +kernel, rfl, by decide +kernel, by decide +kernel⟩
section
variable {P : Program} {w : World} {K : PySem.W.Frag} {mg : Str → Option Value} {base : Heap} {cA : Bg}
theorem o_raised {f : Addr} {oc kV dc pm cd ct : Value} {od an : Option Addr} {sl : Array (Option Value)} (lk : K.lookup f = some ⟨oc, od, .func (PySem.W.fnOf "raised" "raised" (defArgs (top 4)) (defBody (top 4)) (defScope (top 4)) .none kV dc pm an cd ct), sl⟩) (hc : PySem.W.codeIn K cd "raised" = true) (hk : PySem.W.keepIn K (.ref f) = true) (z_sorted : mg "sorted" = none) (lam : ∃ c Q, LamX.TabB base mg c Q ∧ cd = .ref c ∧ (Q, ("raised" : Str) ++ ".<locals>." ++ "<lambda>") ∈ cA.tabs ∧ ∀ q ∈ cA.tabs, q.1 = Q → q.2 = ("raised" : Str) ++ ".<locals>." ++ "<lambda>") : FnOk P w K mg base (L2.CX P w) 2 f (PySem.W.fnOf "raised" "raised" (defArgs (top 4)) (defBody (top 4)) (defScope (top 4)) .none kV dc pm an cd ct) ["rows", "side"] (spF K cA 2 f_raised) :=
  def_ok (sx := sx_raised) lk hc sc_raised ⟨lk_nil, lk_nil, kfn_nil, (ct_cons z_sorted ct_nil)⟩ rfl rfl (by decide) (fun _ => lam) d_raised
theorem bi_raised {kV dc pm cd ct : Value} {an : Option Addr} : Binds K (PySem.W.fnOf "raised" "raised" (defArgs (top 4)) (defBody (top 4)) (defScope (top 4)) .none kV dc pm an cd ct) ["rows", "side"] [] := .all fun us hl => match us, hl with | [_, _], _ => rfl
theorem o_paired_off {f : Addr} {oc kV dc pm cd ct : Value} {od an : Option Addr} {sl : Array (Option Value)} (lk : K.lookup f = some ⟨oc, od, .func (PySem.W.fnOf "paired_off" "paired_off" (defArgs (top 5)) (defBody (top 5)) (defScope (top 5)) .none kV dc pm an cd ct), sl⟩) (hc : PySem.W.codeIn K cd "paired_off" = true) (hk : PySem.W.keepIn K (.ref f) = true) (v_BUY : ∃ t, mg "BUY" = some (.str "buy" t)) (v_SELL : ∃ t, mg "SELL" = some (.str "sell" t)) (v_MOST_PRICE : ∃ t, mg "MOST_PRICE" = some (.int 1000000 t)) (z_len : mg "len" = none) (z_min : mg "min" = none) (z_max : mg "max" = none) (z_sum : mg "sum" = none) (F_raised : FnKnown P w K mg base cA 2 "raised" f_raised) : FnOk P w K mg base (L2.CX P w) 3 f (PySem.W.fnOf "paired_off" "paired_off" (defArgs (top 5)) (defBody (top 5)) (defScope (top 5)) .none kV dc pm an cd ct) ["rows"] (spF K cA 1 f_paired_off) :=
  def_ok (sx := sx_paired_off) lk hc sc_paired_off ⟨(lk_cons (by obtain ⟨t, h⟩ := v_BUY; exact val_str h) (lk_cons (by obtain ⟨t, h⟩ := v_SELL; exact val_str h) (lk_cons (by obtain ⟨t, h⟩ := v_MOST_PRICE; exact val_int h) lk_nil))), (lk_cons (F_raised.mono (by decide)) lk_nil), kfn_nil, (ct_cons z_len (ct_cons z_min (ct_cons z_max (ct_cons z_sum ct_nil))))⟩ rfl rfl (by decide) (fun h => (by cases h)) d_paired_off
theorem bi_paired_off {kV dc pm cd ct : Value} {an : Option Addr} : Binds K (PySem.W.fnOf "paired_off" "paired_off" (defArgs (top 5)) (defBody (top 5)) (defScope (top 5)) .none kV dc pm an cd ct) ["rows"] [] := .all fun us hl => match us, hl with | [_], _ => rfl
theorem o__law_tape {f : Addr} {oc kV dc pm cd ct : Value} {od an : Option Addr} {sl : Array (Option Value)} (lk : K.lookup f = some ⟨oc, od, .func (PySem.W.fnOf "_law_tape" "_law_tape" (defArgs (top 7)) (defBody (top 7)) (defScope (top 7)) .none kV dc pm an cd ct), sl⟩) (hc : PySem.W.codeIn K cd "_law_tape" = true) (hk : PySem.W.keepIn K (.ref f) = true) (z_len : mg "len" = none) (z_abs : mg "abs" = none) : FnOk P w K mg base (L2.CX P w) 2 f (PySem.W.fnOf "_law_tape" "_law_tape" (defArgs (top 7)) (defBody (top 7)) (defScope (top 7)) .none kV dc pm an cd ct) ["script", "start"] (spF K cA 2 f__law_tape) :=
  def_ok (sx := sx__law_tape) lk hc sc__law_tape ⟨lk_nil, lk_nil, kfn_nil, (ct_cons z_len (ct_cons z_abs ct_nil))⟩ rfl rfl (by decide) (fun h => (by cases h)) d__law_tape
theorem bi__law_tape {kV dc pm cd ct : Value} {an : Option Addr} : Binds K (PySem.W.fnOf "_law_tape" "_law_tape" (defArgs (top 7)) (defBody (top 7)) (defScope (top 7)) .none kV dc pm an cd ct) ["script", "start"] [] := .all fun us hl => match us, hl with | [_, _], _ => rfl
theorem o__law_digit {f : Addr} {oc kV dc pm cd ct : Value} {od an : Option Addr} {sl : Array (Option Value)} (lk : K.lookup f = some ⟨oc, od, .func (PySem.W.fnOf "_law_digit" "_law_digit" (defArgs (top 8)) (defBody (top 8)) (defScope (top 8)) .none kV dc pm an cd ct), sl⟩) (hc : PySem.W.codeIn K cd "_law_digit" = true) (hk : PySem.W.keepIn K (.ref f) = true)  : FnOk P w K mg base (L2.CX P w) 2 f (PySem.W.fnOf "_law_digit" "_law_digit" (defArgs (top 8)) (defBody (top 8)) (defScope (top 8)) .none kV dc pm an cd ct) ["tape", "many"] (spF K cA 2 f__law_digit) :=
  def_ok (sx := sx__law_digit) lk hc sc__law_digit ⟨lk_nil, lk_nil, kfn_nil, ct_nil⟩ rfl rfl (by decide) (fun h => (by cases h)) d__law_digit
theorem bi__law_digit {kV dc pm cd ct : Value} {an : Option Addr} : Binds K (PySem.W.fnOf "_law_digit" "_law_digit" (defArgs (top 8)) (defBody (top 8)) (defScope (top 8)) .none kV dc pm an cd ct) ["tape", "many"] [] := .all fun us hl => match us, hl with | [_, _], _ => rfl
theorem o__law_drawn_order {f : Addr} {oc kV dc pm cd ct : Value} {od an : Option Addr} {sl : Array (Option Value)} (lk : K.lookup f = some ⟨oc, od, .func (PySem.W.fnOf "_law_drawn_order" "_law_drawn_order" (defArgs (top 9)) (defBody (top 9)) (defScope (top 9)) .none kV dc pm an cd ct), sl⟩) (hc : PySem.W.codeIn K cd "_law_drawn_order" = true) (hk : PySem.W.keepIn K (.ref f) = true) (z_list : mg "list" = none) (z_range : mg "range" = none) (z_len : mg "len" = none) (F__law_digit : FnKnown P w K mg base cA 2 "_law_digit" f__law_digit) : FnOk P w K mg base (L2.CX P w) 3 f (PySem.W.fnOf "_law_drawn_order" "_law_drawn_order" (defArgs (top 9)) (defBody (top 9)) (defScope (top 9)) .none kV dc pm an cd ct) ["tape", "many"] (spF K cA 2 f__law_drawn_order) :=
  def_ok (sx := sx__law_drawn_order) lk hc sc__law_drawn_order ⟨lk_nil, (lk_cons (F__law_digit.mono (by decide)) lk_nil), kfn_nil, (ct_cons z_list (ct_cons z_range (ct_cons z_len ct_nil)))⟩ rfl rfl (by decide) (fun h => (by cases h)) d__law_drawn_order
theorem bi__law_drawn_order {kV dc pm cd ct : Value} {an : Option Addr} : Binds K (PySem.W.fnOf "_law_drawn_order" "_law_drawn_order" (defArgs (top 9)) (defBody (top 9)) (defScope (top 9)) .none kV dc pm an cd ct) ["tape", "many"] [] := .all fun us hl => match us, hl with | [_, _], _ => rfl
theorem o__law_row {f : Addr} {oc kV dc pm cd ct : Value} {od an : Option Addr} {sl : Array (Option Value)} (lk : K.lookup f = some ⟨oc, od, .func (PySem.W.fnOf "_law_row" "_law_row" (defArgs (top 10)) (defBody (top 10)) (defScope (top 10)) .none kV dc pm an cd ct), sl⟩) (hc : PySem.W.codeIn K cd "_law_row" = true) (hk : PySem.W.keepIn K (.ref f) = true) (z_min : mg "min" = none) (F__law_digit : FnKnown P w K mg base cA 2 "_law_digit" f__law_digit) : FnOk P w K mg base (L2.CX P w) 3 f (PySem.W.fnOf "_law_row" "_law_row" (defArgs (top 10)) (defBody (top 10)) (defScope (top 10)) .none kV dc pm an cd ct) ["tape", "number", "stamp", "base", "spread", "most"] (spF K cA 6 f__law_row) :=
  def_ok (sx := sx__law_row) lk hc sc__law_row ⟨lk_nil, (lk_cons (F__law_digit.mono (by decide)) lk_nil), kfn_nil, (ct_cons z_min ct_nil)⟩ rfl rfl (by decide) (fun h => (by cases h)) d__law_row
theorem bi__law_row {kV dc pm cd ct : Value} {an : Option Addr} : Binds K (PySem.W.fnOf "_law_row" "_law_row" (defArgs (top 10)) (defBody (top 10)) (defScope (top 10)) .none kV dc pm an cd ct) ["tape", "number", "stamp", "base", "spread", "most"] [] := .all fun us hl => match us, hl with | [_, _, _, _, _, _], _ => rfl
theorem o__law_rows {f : Addr} {oc kV dc pm cd ct : Value} {od an : Option Addr} {sl : Array (Option Value)} (lk : K.lookup f = some ⟨oc, od, .func (PySem.W.fnOf "_law_rows" "_law_rows" (defArgs (top 11)) (defBody (top 11)) (defScope (top 11)) .none kV dc pm an cd ct), sl⟩) (hc : PySem.W.codeIn K cd "_law_rows" = true) (hk : PySem.W.keepIn K (.ref f) = true) (z_range : mg "range" = none) (F__law_digit : FnKnown P w K mg base cA 2 "_law_digit" f__law_digit) (F__law_drawn_order : FnKnown P w K mg base cA 3 "_law_drawn_order" f__law_drawn_order) (F__law_row : FnKnown P w K mg base cA 3 "_law_row" f__law_row) : FnOk P w K mg base (L2.CX P w) 4 f (PySem.W.fnOf "_law_rows" "_law_rows" (defArgs (top 11)) (defBody (top 11)) (defScope (top 11)) .none kV dc pm an cd ct) ["tape", "most_rows"] (spF K cA 2 f__law_rows) :=
  def_ok (sx := sx__law_rows) lk hc sc__law_rows ⟨lk_nil, (lk_cons (F__law_digit.mono (by decide)) (lk_cons (F__law_drawn_order.mono (by decide)) (lk_cons (F__law_row.mono (by decide)) lk_nil))), kfn_nil, (ct_cons z_range ct_nil)⟩ rfl rfl (by decide) (fun h => (by cases h)) d__law_rows
theorem bi__law_rows {kV dc pm cd ct : Value} {an : Option Addr} : Binds K (PySem.W.fnOf "_law_rows" "_law_rows" (defArgs (top 11)) (defBody (top 11)) (defScope (top 11)) .none kV dc pm an cd ct) ["tape", "most_rows"] [] := .all fun us hl => match us, hl with | [_, _], _ => rfl
theorem o__law_close_rows {f : Addr} {oc kV dc pm cd ct : Value} {od an : Option Addr} {sl : Array (Option Value)} (lk : K.lookup f = some ⟨oc, od, .func (PySem.W.fnOf "_law_close_rows" "_law_close_rows" (defArgs (top 12)) (defBody (top 12)) (defScope (top 12)) .none kV dc pm an cd ct), sl⟩) (hc : PySem.W.codeIn K cd "_law_close_rows" = true) (hk : PySem.W.keepIn K (.ref f) = true) (z_range : mg "range" = none) (F__law_digit : FnKnown P w K mg base cA 2 "_law_digit" f__law_digit) : FnOk P w K mg base (L2.CX P w) 3 f (PySem.W.fnOf "_law_close_rows" "_law_close_rows" (defArgs (top 12)) (defBody (top 12)) (defScope (top 12)) .none kV dc pm an cd ct) ["tape"] (spF K cA 1 f__law_close_rows) :=
  def_ok (sx := sx__law_close_rows) lk hc sc__law_close_rows ⟨lk_nil, (lk_cons (F__law_digit.mono (by decide)) lk_nil), kfn_nil, (ct_cons z_range ct_nil)⟩ rfl rfl (by decide) (fun h => (by cases h)) d__law_close_rows
theorem bi__law_close_rows {kV dc pm cd ct : Value} {an : Option Addr} : Binds K (PySem.W.fnOf "_law_close_rows" "_law_close_rows" (defArgs (top 12)) (defBody (top 12)) (defScope (top 12)) .none kV dc pm an cd ct) ["tape"] [] := .all fun us hl => match us, hl with | [_], _ => rfl
theorem o__law_whole {f : Addr} {oc kV dc pm cd ct : Value} {od an : Option Addr} {sl : Array (Option Value)} (lk : K.lookup f = some ⟨oc, od, .func (PySem.W.fnOf "_law_whole" "_law_whole" (defArgs (top 13)) (defBody (top 13)) (defScope (top 13)) .none kV dc pm an cd ct), sl⟩) (hc : PySem.W.codeIn K cd "_law_whole" = true) (hk : PySem.W.keepIn K (.ref f) = true) (z_isinstance : mg "isinstance" = none) (z_int : mg "int" = none) (z_bool : mg "bool" = none) : FnOk P w K mg base (L2.CX P w) 2 f (PySem.W.fnOf "_law_whole" "_law_whole" (defArgs (top 13)) (defBody (top 13)) (defScope (top 13)) .none kV dc pm an cd ct) ["thing", "most_of"] (spF K cA 2 f__law_whole) :=
  def_ok (sx := sx__law_whole) lk hc sc__law_whole ⟨lk_nil, lk_nil, kfn_nil, (ct_cons z_isinstance (ct_cons z_int (ct_cons z_bool ct_nil)))⟩ rfl rfl (by decide) (fun h => (by cases h)) d__law_whole
theorem bi__law_whole {kV dc pm cd ct : Value} {an : Option Addr} : Binds K (PySem.W.fnOf "_law_whole" "_law_whole" (defArgs (top 13)) (defBody (top 13)) (defScope (top 13)) .none kV dc pm an cd ct) ["thing", "most_of"] [] := .all fun us hl => match us, hl with | [_, _], _ => rfl
theorem o__law_pairs_right {f : Addr} {oc kV dc pm cd ct : Value} {od an : Option Addr} {sl : Array (Option Value)} (lk : K.lookup f = some ⟨oc, od, .func (PySem.W.fnOf "_law_pairs_right" "_law_pairs_right" (defArgs (top 14)) (defBody (top 14)) (defScope (top 14)) .none kV dc pm an cd ct), sl⟩) (hc : PySem.W.codeIn K cd "_law_pairs_right" = true) (hk : PySem.W.keepIn K (.ref f) = true) (z_dict : mg "dict" = none) (z_isinstance : mg "isinstance" = none) (z_tuple : mg "tuple" = none) (z_len : mg "len" = none) (F__law_whole : FnKnown P w K mg base cA 2 "_law_whole" f__law_whole) : FnOk P w K mg base (L2.CX P w) 3 f (PySem.W.fnOf "_law_pairs_right" "_law_pairs_right" (defArgs (top 14)) (defBody (top 14)) (defScope (top 14)) .none kV dc pm an cd ct) ["rows", "pairs", "whole"] (spF K cA 3 f__law_pairs_right) :=
  def_ok (sx := sx__law_pairs_right) lk hc sc__law_pairs_right ⟨lk_nil, (lk_cons (F__law_whole.mono (by decide)) lk_nil), kfn_nil, (ct_cons z_dict (ct_cons z_isinstance (ct_cons z_tuple (ct_cons z_len ct_nil))))⟩ rfl rfl (by decide) (fun h => (by cases h)) d__law_pairs_right
theorem bi__law_pairs_right {kV dc pm cd ct : Value} {an : Option Addr} : Binds K (PySem.W.fnOf "_law_pairs_right" "_law_pairs_right" (defArgs (top 14)) (defBody (top 14)) (defScope (top 14)) .none kV dc pm an cd ct) ["rows", "pairs", "whole"] [] := .all fun us hl => match us, hl with | [_, _, _], _ => rfl
theorem o__law_right {f : Addr} {oc kV dc pm cd ct : Value} {od an : Option Addr} {sl : Array (Option Value)} (lk : K.lookup f = some ⟨oc, od, .func (PySem.W.fnOf "_law_right" "_law_right" (defArgs (top 15)) (defBody (top 15)) (defScope (top 15)) .none kV dc pm an cd ct), sl⟩) (hc : PySem.W.codeIn K cd "_law_right" = true) (hk : PySem.W.keepIn K (.ref f) = true) (z_isinstance : mg "isinstance" = none) (z_tuple : mg "tuple" = none) (z_len : mg "len" = none) (z_list : mg "list" = none) (F__law_whole : FnKnown P w K mg base cA 2 "_law_whole" f__law_whole) (F__law_pairs_right : FnKnown P w K mg base cA 3 "_law_pairs_right" f__law_pairs_right) : FnOk P w K mg base (L2.CX P w) 4 f (PySem.W.fnOf "_law_right" "_law_right" (defArgs (top 15)) (defBody (top 15)) (defScope (top 15)) .none kV dc pm an cd ct) ["rows", "told"] (spF K cA 2 f__law_right) :=
  def_ok (sx := sx__law_right) lk hc sc__law_right ⟨lk_nil, (lk_cons (F__law_whole.mono (by decide)) (lk_cons (F__law_pairs_right.mono (by decide)) lk_nil)), kfn_nil, (ct_cons z_isinstance (ct_cons z_tuple (ct_cons z_len (ct_cons z_list ct_nil))))⟩ rfl rfl (by decide) (fun h => (by cases h)) d__law_right
theorem bi__law_right {kV dc pm cd ct : Value} {an : Option Addr} : Binds K (PySem.W.fnOf "_law_right" "_law_right" (defArgs (top 15)) (defBody (top 15)) (defScope (top 15)) .none kV dc pm an cd ct) ["rows", "told"] [] := .all fun us hl => match us, hl with | [_, _], _ => rfl
theorem o_law {f : Addr} {oc kV dc pm cd ct : Value} {od an : Option Addr} {sl : Array (Option Value)} (lk : K.lookup f = some ⟨oc, od, .func (PySem.W.fnOf "law" "law" (defArgs (top 16)) (defBody (top 16)) (defScope (top 16)) .none kV dc pm an cd ct), sl⟩) (hc : PySem.W.codeIn K cd "law" = true) (hk : PySem.W.keepIn K (.ref f) = true) (z_range : mg "range" = none) (z_max : mg "max" = none) (z_min : mg "min" = none) (z_len : mg "len" = none) (z_list : mg "list" = none) (F__law_tape : FnKnown P w K mg base cA 2 "_law_tape" f__law_tape) (F__law_rows : FnKnown P w K mg base cA 4 "_law_rows" f__law_rows) (F__law_digit : FnKnown P w K mg base cA 2 "_law_digit" f__law_digit) (F__law_close_rows : FnKnown P w K mg base cA 3 "_law_close_rows" f__law_close_rows) (F_paired_off : FnKnown P w K mg base cA 3 "paired_off" f_paired_off) (F__law_right : FnKnown P w K mg base cA 4 "_law_right" f__law_right) : FnOk P w K mg base (L2.CX P w) 5 f (PySem.W.fnOf "law" "law" (defArgs (top 16)) (defBody (top 16)) (defScope (top 16)) .none kV dc pm an cd ct) ["script"] (spF K cA 1 f_law) :=
  def_ok (sx := sx_law) lk hc sc_law ⟨lk_nil, (lk_cons (F__law_tape.mono (by decide)) (lk_cons (F__law_rows.mono (by decide)) (lk_cons (F__law_digit.mono (by decide)) (lk_cons (F__law_close_rows.mono (by decide)) (lk_cons (F_paired_off.mono (by decide)) (lk_cons (F__law_right.mono (by decide)) lk_nil)))))), kfn_nil, (ct_cons z_range (ct_cons z_max (ct_cons z_min (ct_cons z_len (ct_cons z_list ct_nil)))))⟩ rfl rfl (by decide) (fun h => (by cases h)) d_law
theorem bi_law {kV dc pm cd ct : Value} {an : Option Addr} : Binds K (PySem.W.fnOf "law" "law" (defArgs (top 16)) (defBody (top 16)) (defScope (top 16)) .none kV dc pm an cd ct) ["script"] [] := .all fun us hl => match us, hl with | [_], _ => rfl
end
theorem all_mk {P q : Program} {w : World} {K : PySem.W.Frag} {mg : Str → Option Value} {fa : Addr} {h : Heap} {fZ_raised : Addr} {ocZ_raised kVZ_raised dcZ_raised pmZ_raised cdZ_raised ctZ_raised : Value} {odZ_raised anZ_raised : Option Addr} {slZ_raised : Array (Option Value)} {fZ_paired_off : Addr} {ocZ_paired_off kVZ_paired_off dcZ_paired_off pmZ_paired_off cdZ_paired_off ctZ_paired_off : Value} {odZ_paired_off anZ_paired_off : Option Addr} {slZ_paired_off : Array (Option Value)} {fZ__law_tape : Addr} {ocZ__law_tape kVZ__law_tape dcZ__law_tape pmZ__law_tape cdZ__law_tape ctZ__law_tape : Value} {odZ__law_tape anZ__law_tape : Option Addr} {slZ__law_tape : Array (Option Value)} {fZ__law_digit : Addr} {ocZ__law_digit kVZ__law_digit dcZ__law_digit pmZ__law_digit cdZ__law_digit ctZ__law_digit : Value} {odZ__law_digit anZ__law_digit : Option Addr} {slZ__law_digit : Array (Option Value)} {fZ__law_drawn_order : Addr} {ocZ__law_drawn_order kVZ__law_drawn_order dcZ__law_drawn_order pmZ__law_drawn_order cdZ__law_drawn_order ctZ__law_drawn_order : Value} {odZ__law_drawn_order anZ__law_drawn_order : Option Addr} {slZ__law_drawn_order : Array (Option Value)} {fZ__law_row : Addr} {ocZ__law_row kVZ__law_row dcZ__law_row pmZ__law_row cdZ__law_row ctZ__law_row : Value} {odZ__law_row anZ__law_row : Option Addr} {slZ__law_row : Array (Option Value)} {fZ__law_rows : Addr} {ocZ__law_rows kVZ__law_rows dcZ__law_rows pmZ__law_rows cdZ__law_rows ctZ__law_rows : Value} {odZ__law_rows anZ__law_rows : Option Addr} {slZ__law_rows : Array (Option Value)} {fZ__law_close_rows : Addr} {ocZ__law_close_rows kVZ__law_close_rows dcZ__law_close_rows pmZ__law_close_rows cdZ__law_close_rows ctZ__law_close_rows : Value} {odZ__law_close_rows anZ__law_close_rows : Option Addr} {slZ__law_close_rows : Array (Option Value)} {fZ__law_whole : Addr} {ocZ__law_whole kVZ__law_whole dcZ__law_whole pmZ__law_whole cdZ__law_whole ctZ__law_whole : Value} {odZ__law_whole anZ__law_whole : Option Addr} {slZ__law_whole : Array (Option Value)} {fZ__law_pairs_right : Addr} {ocZ__law_pairs_right kVZ__law_pairs_right dcZ__law_pairs_right pmZ__law_pairs_right cdZ__law_pairs_right ctZ__law_pairs_right : Value} {odZ__law_pairs_right anZ__law_pairs_right : Option Addr} {slZ__law_pairs_right : Array (Option Value)} {fZ__law_right : Addr} {ocZ__law_right kVZ__law_right dcZ__law_right pmZ__law_right cdZ__law_right ctZ__law_right : Value} {odZ__law_right anZ__law_right : Option Addr} {slZ__law_right : Array (Option Value)} {fZ_law : Addr} {ocZ_law kVZ_law dcZ_law pmZ_law cdZ_law ctZ_law : Value} {odZ_law anZ_law : Option Addr} {slZ_law : Array (Option Value)} {t_BUY : Tok} {t_SELL : Tok} {t_MOST_PRICE : Tok} {c_raised Q_raised : Addr} (X : K.In h) (G : h.Ns mainGlobals mg) (hfa : mg "law" = some (.ref fa)) (tabs : TabsAt q K h)
    (plain : ∀ ns : List Int, ns.length ≤ 63 → (∀ z ∈ ns, Builtin.Int.intBits z ≤ 1048576) → ∃ s', f_law [.fz (ns.map D.int)] [] = .ok (.bl true) s')
    (a_raised : PySem.W.nsIn K mainGlobals "raised" = some (some (.ref fZ_raised)))
    (lkZ_raised : K.lookup fZ_raised = some ⟨ocZ_raised, odZ_raised, .func (PySem.W.fnOf "raised" "raised" (defArgs (top 4)) (defBody (top 4)) (defScope (top 4)) .none kVZ_raised dcZ_raised pmZ_raised anZ_raised cdZ_raised ctZ_raised), slZ_raised⟩) (hcZ_raised : PySem.W.codeIn K cdZ_raised "raised" = true) (hkZ_raised : PySem.W.keepIn K (.ref fZ_raised) = true)
    (a_paired_off : PySem.W.nsIn K mainGlobals "paired_off" = some (some (.ref fZ_paired_off)))
    (lkZ_paired_off : K.lookup fZ_paired_off = some ⟨ocZ_paired_off, odZ_paired_off, .func (PySem.W.fnOf "paired_off" "paired_off" (defArgs (top 5)) (defBody (top 5)) (defScope (top 5)) .none kVZ_paired_off dcZ_paired_off pmZ_paired_off anZ_paired_off cdZ_paired_off ctZ_paired_off), slZ_paired_off⟩) (hcZ_paired_off : PySem.W.codeIn K cdZ_paired_off "paired_off" = true) (hkZ_paired_off : PySem.W.keepIn K (.ref fZ_paired_off) = true)
    (a__law_tape : PySem.W.nsIn K mainGlobals "_law_tape" = some (some (.ref fZ__law_tape)))
    (lkZ__law_tape : K.lookup fZ__law_tape = some ⟨ocZ__law_tape, odZ__law_tape, .func (PySem.W.fnOf "_law_tape" "_law_tape" (defArgs (top 7)) (defBody (top 7)) (defScope (top 7)) .none kVZ__law_tape dcZ__law_tape pmZ__law_tape anZ__law_tape cdZ__law_tape ctZ__law_tape), slZ__law_tape⟩) (hcZ__law_tape : PySem.W.codeIn K cdZ__law_tape "_law_tape" = true) (hkZ__law_tape : PySem.W.keepIn K (.ref fZ__law_tape) = true)
    (a__law_digit : PySem.W.nsIn K mainGlobals "_law_digit" = some (some (.ref fZ__law_digit)))
    (lkZ__law_digit : K.lookup fZ__law_digit = some ⟨ocZ__law_digit, odZ__law_digit, .func (PySem.W.fnOf "_law_digit" "_law_digit" (defArgs (top 8)) (defBody (top 8)) (defScope (top 8)) .none kVZ__law_digit dcZ__law_digit pmZ__law_digit anZ__law_digit cdZ__law_digit ctZ__law_digit), slZ__law_digit⟩) (hcZ__law_digit : PySem.W.codeIn K cdZ__law_digit "_law_digit" = true) (hkZ__law_digit : PySem.W.keepIn K (.ref fZ__law_digit) = true)
    (a__law_drawn_order : PySem.W.nsIn K mainGlobals "_law_drawn_order" = some (some (.ref fZ__law_drawn_order)))
    (lkZ__law_drawn_order : K.lookup fZ__law_drawn_order = some ⟨ocZ__law_drawn_order, odZ__law_drawn_order, .func (PySem.W.fnOf "_law_drawn_order" "_law_drawn_order" (defArgs (top 9)) (defBody (top 9)) (defScope (top 9)) .none kVZ__law_drawn_order dcZ__law_drawn_order pmZ__law_drawn_order anZ__law_drawn_order cdZ__law_drawn_order ctZ__law_drawn_order), slZ__law_drawn_order⟩) (hcZ__law_drawn_order : PySem.W.codeIn K cdZ__law_drawn_order "_law_drawn_order" = true) (hkZ__law_drawn_order : PySem.W.keepIn K (.ref fZ__law_drawn_order) = true)
    (a__law_row : PySem.W.nsIn K mainGlobals "_law_row" = some (some (.ref fZ__law_row)))
    (lkZ__law_row : K.lookup fZ__law_row = some ⟨ocZ__law_row, odZ__law_row, .func (PySem.W.fnOf "_law_row" "_law_row" (defArgs (top 10)) (defBody (top 10)) (defScope (top 10)) .none kVZ__law_row dcZ__law_row pmZ__law_row anZ__law_row cdZ__law_row ctZ__law_row), slZ__law_row⟩) (hcZ__law_row : PySem.W.codeIn K cdZ__law_row "_law_row" = true) (hkZ__law_row : PySem.W.keepIn K (.ref fZ__law_row) = true)
    (a__law_rows : PySem.W.nsIn K mainGlobals "_law_rows" = some (some (.ref fZ__law_rows)))
    (lkZ__law_rows : K.lookup fZ__law_rows = some ⟨ocZ__law_rows, odZ__law_rows, .func (PySem.W.fnOf "_law_rows" "_law_rows" (defArgs (top 11)) (defBody (top 11)) (defScope (top 11)) .none kVZ__law_rows dcZ__law_rows pmZ__law_rows anZ__law_rows cdZ__law_rows ctZ__law_rows), slZ__law_rows⟩) (hcZ__law_rows : PySem.W.codeIn K cdZ__law_rows "_law_rows" = true) (hkZ__law_rows : PySem.W.keepIn K (.ref fZ__law_rows) = true)
    (a__law_close_rows : PySem.W.nsIn K mainGlobals "_law_close_rows" = some (some (.ref fZ__law_close_rows)))
    (lkZ__law_close_rows : K.lookup fZ__law_close_rows = some ⟨ocZ__law_close_rows, odZ__law_close_rows, .func (PySem.W.fnOf "_law_close_rows" "_law_close_rows" (defArgs (top 12)) (defBody (top 12)) (defScope (top 12)) .none kVZ__law_close_rows dcZ__law_close_rows pmZ__law_close_rows anZ__law_close_rows cdZ__law_close_rows ctZ__law_close_rows), slZ__law_close_rows⟩) (hcZ__law_close_rows : PySem.W.codeIn K cdZ__law_close_rows "_law_close_rows" = true) (hkZ__law_close_rows : PySem.W.keepIn K (.ref fZ__law_close_rows) = true)
    (a__law_whole : PySem.W.nsIn K mainGlobals "_law_whole" = some (some (.ref fZ__law_whole)))
    (lkZ__law_whole : K.lookup fZ__law_whole = some ⟨ocZ__law_whole, odZ__law_whole, .func (PySem.W.fnOf "_law_whole" "_law_whole" (defArgs (top 13)) (defBody (top 13)) (defScope (top 13)) .none kVZ__law_whole dcZ__law_whole pmZ__law_whole anZ__law_whole cdZ__law_whole ctZ__law_whole), slZ__law_whole⟩) (hcZ__law_whole : PySem.W.codeIn K cdZ__law_whole "_law_whole" = true) (hkZ__law_whole : PySem.W.keepIn K (.ref fZ__law_whole) = true)
    (a__law_pairs_right : PySem.W.nsIn K mainGlobals "_law_pairs_right" = some (some (.ref fZ__law_pairs_right)))
    (lkZ__law_pairs_right : K.lookup fZ__law_pairs_right = some ⟨ocZ__law_pairs_right, odZ__law_pairs_right, .func (PySem.W.fnOf "_law_pairs_right" "_law_pairs_right" (defArgs (top 14)) (defBody (top 14)) (defScope (top 14)) .none kVZ__law_pairs_right dcZ__law_pairs_right pmZ__law_pairs_right anZ__law_pairs_right cdZ__law_pairs_right ctZ__law_pairs_right), slZ__law_pairs_right⟩) (hcZ__law_pairs_right : PySem.W.codeIn K cdZ__law_pairs_right "_law_pairs_right" = true) (hkZ__law_pairs_right : PySem.W.keepIn K (.ref fZ__law_pairs_right) = true)
    (a__law_right : PySem.W.nsIn K mainGlobals "_law_right" = some (some (.ref fZ__law_right)))
    (lkZ__law_right : K.lookup fZ__law_right = some ⟨ocZ__law_right, odZ__law_right, .func (PySem.W.fnOf "_law_right" "_law_right" (defArgs (top 15)) (defBody (top 15)) (defScope (top 15)) .none kVZ__law_right dcZ__law_right pmZ__law_right anZ__law_right cdZ__law_right ctZ__law_right), slZ__law_right⟩) (hcZ__law_right : PySem.W.codeIn K cdZ__law_right "_law_right" = true) (hkZ__law_right : PySem.W.keepIn K (.ref fZ__law_right) = true)
    (a_law : PySem.W.nsIn K mainGlobals "law" = some (some (.ref fZ_law)))
    (lkZ_law : K.lookup fZ_law = some ⟨ocZ_law, odZ_law, .func (PySem.W.fnOf "law" "law" (defArgs (top 16)) (defBody (top 16)) (defScope (top 16)) .none kVZ_law dcZ_law pmZ_law anZ_law cdZ_law ctZ_law), slZ_law⟩) (hcZ_law : PySem.W.codeIn K cdZ_law "law" = true) (hkZ_law : PySem.W.keepIn K (.ref fZ_law) = true)
    (v_BUY : PySem.W.nsIn K mainGlobals "BUY" = some (some (.str "buy" t_BUY)))
    (v_SELL : PySem.W.nsIn K mainGlobals "SELL" = some (some (.str "sell" t_SELL)))
    (v_MOST_PRICE : PySem.W.nsIn K mainGlobals "MOST_PRICE" = some (some (.int 1000000 t_MOST_PRICE)))
    (z_sorted : PySem.W.nsIn K mainGlobals "sorted" = some none)
    (z_len : PySem.W.nsIn K mainGlobals "len" = some none)
    (z_min : PySem.W.nsIn K mainGlobals "min" = some none)
    (z_max : PySem.W.nsIn K mainGlobals "max" = some none)
    (z_sum : PySem.W.nsIn K mainGlobals "sum" = some none)
    (z_abs : PySem.W.nsIn K mainGlobals "abs" = some none)
    (z_list : PySem.W.nsIn K mainGlobals "list" = some none)
    (z_range : PySem.W.nsIn K mainGlobals "range" = some none)
    (z_isinstance : PySem.W.nsIn K mainGlobals "isinstance" = some none)
    (z_int : PySem.W.nsIn K mainGlobals "int" = some none)
    (z_bool : PySem.W.nsIn K mainGlobals "bool" = some none)
    (z_dict : PySem.W.nsIn K mainGlobals "dict" = some none)
    (z_tuple : PySem.W.nsIn K mainGlobals "tuple" = some none)
    (tb_raised : PySem.W.tabIn K "raised" = some (c_raised, Q_raised)) (cr_raised : cdZ_raised = .ref c_raised) (nt_raised : K.lookup Q_raised = none) (rc_raised : ((PyProof.Rows.recsOf q).find? (fun e => e.name == ("raised" : Str))).isSome = true) :
    LawRh P w K 5 63 "script" mg fa h := by
  have e := hfa.symm.trans (PySem.W.mg_of X G a_law)
  cases e
  refine ⟨PySem.W.fnOf "law" "law" (defArgs (top 16)) (defBody (top 16)) (defScope (top 16)) .none kVZ_law dcZ_law pmZ_law anZ_law cdZ_law ctZ_law, [(c_raised, Q_raised, ("raised" : Str) ++ ".<locals>." ++ "<lambda>")], fun _ => none, f_law, ?_, ?_, ?_, fun s v => .of_eq rfl, plain, fun base hX hG hT => ?_⟩
  · intro t ht
    simp only [List.mem_cons, List.not_mem_nil, or_false] at ht
    subst ht
    exact (tabs _ _ _ rc_raised tb_raised).2
  · intro t ht
    simp only [List.mem_cons, List.not_mem_nil, or_false] at ht
    subst ht
    exact nt_raised
  · intro t ht
    simp only [List.mem_cons, List.not_mem_nil, or_false] at ht
    subst ht
    exact (tabs _ _ _ rc_raised tb_raised).1
  have F_raised : FnKnown P w K mg base ⟨fun _ => none, [(c_raised, Q_raised, ("raised" : Str) ++ ".<locals>." ++ "<lambda>")].map fun t : Addr × Addr × Str => (t.2.1, t.2.2)⟩ 2 "raised" f_raised := fnKnown_of (o_raised (cA := ⟨fun _ => none, _⟩) lkZ_raised hcZ_raised hkZ_raised (PySem.W.mg_none_of X G z_sorted) ⟨c_raised, Q_raised, hT (c_raised, Q_raised, ("raised" : Str) ++ ".<locals>." ++ "<lambda>") (by simp), cr_raised, by simp, by intro q hq e; simp only [List.map_cons, List.map_nil, List.mem_cons, List.not_mem_nil, or_false] at hq; (first | (rw [hq]; done) | (rcases hq with hq | hq <;> simp_all))⟩) (PySem.W.mg_of X G a_raised) hkZ_raised bi_raised fnSem_bad
  have F_paired_off : FnKnown P w K mg base ⟨fun _ => none, [(c_raised, Q_raised, ("raised" : Str) ++ ".<locals>." ++ "<lambda>")].map fun t : Addr × Addr × Str => (t.2.1, t.2.2)⟩ 3 "paired_off" f_paired_off := fnKnown_of (o_paired_off (cA := ⟨fun _ => none, _⟩) lkZ_paired_off hcZ_paired_off hkZ_paired_off ⟨_, PySem.W.mg_of X G v_BUY⟩ ⟨_, PySem.W.mg_of X G v_SELL⟩ ⟨_, PySem.W.mg_of X G v_MOST_PRICE⟩ (PySem.W.mg_none_of X G z_len) (PySem.W.mg_none_of X G z_min) (PySem.W.mg_none_of X G z_max) (PySem.W.mg_none_of X G z_sum) F_raised) (PySem.W.mg_of X G a_paired_off) hkZ_paired_off bi_paired_off fnSem_bad
  have F__law_tape : FnKnown P w K mg base ⟨fun _ => none, [(c_raised, Q_raised, ("raised" : Str) ++ ".<locals>." ++ "<lambda>")].map fun t : Addr × Addr × Str => (t.2.1, t.2.2)⟩ 2 "_law_tape" f__law_tape := fnKnown_of (o__law_tape (cA := ⟨fun _ => none, _⟩) lkZ__law_tape hcZ__law_tape hkZ__law_tape (PySem.W.mg_none_of X G z_len) (PySem.W.mg_none_of X G z_abs)) (PySem.W.mg_of X G a__law_tape) hkZ__law_tape bi__law_tape fnSem_bad
  have F__law_digit : FnKnown P w K mg base ⟨fun _ => none, [(c_raised, Q_raised, ("raised" : Str) ++ ".<locals>." ++ "<lambda>")].map fun t : Addr × Addr × Str => (t.2.1, t.2.2)⟩ 2 "_law_digit" f__law_digit := fnKnown_of (o__law_digit (cA := ⟨fun _ => none, _⟩) lkZ__law_digit hcZ__law_digit hkZ__law_digit ) (PySem.W.mg_of X G a__law_digit) hkZ__law_digit bi__law_digit fnSem_bad
  have F__law_drawn_order : FnKnown P w K mg base ⟨fun _ => none, [(c_raised, Q_raised, ("raised" : Str) ++ ".<locals>." ++ "<lambda>")].map fun t : Addr × Addr × Str => (t.2.1, t.2.2)⟩ 3 "_law_drawn_order" f__law_drawn_order := fnKnown_of (o__law_drawn_order (cA := ⟨fun _ => none, _⟩) lkZ__law_drawn_order hcZ__law_drawn_order hkZ__law_drawn_order (PySem.W.mg_none_of X G z_list) (PySem.W.mg_none_of X G z_range) (PySem.W.mg_none_of X G z_len) F__law_digit) (PySem.W.mg_of X G a__law_drawn_order) hkZ__law_drawn_order bi__law_drawn_order fnSem_bad
  have F__law_row : FnKnown P w K mg base ⟨fun _ => none, [(c_raised, Q_raised, ("raised" : Str) ++ ".<locals>." ++ "<lambda>")].map fun t : Addr × Addr × Str => (t.2.1, t.2.2)⟩ 3 "_law_row" f__law_row := fnKnown_of (o__law_row (cA := ⟨fun _ => none, _⟩) lkZ__law_row hcZ__law_row hkZ__law_row (PySem.W.mg_none_of X G z_min) F__law_digit) (PySem.W.mg_of X G a__law_row) hkZ__law_row bi__law_row fnSem_bad
  have F__law_rows : FnKnown P w K mg base ⟨fun _ => none, [(c_raised, Q_raised, ("raised" : Str) ++ ".<locals>." ++ "<lambda>")].map fun t : Addr × Addr × Str => (t.2.1, t.2.2)⟩ 4 "_law_rows" f__law_rows := fnKnown_of (o__law_rows (cA := ⟨fun _ => none, _⟩) lkZ__law_rows hcZ__law_rows hkZ__law_rows (PySem.W.mg_none_of X G z_range) F__law_digit F__law_drawn_order F__law_row) (PySem.W.mg_of X G a__law_rows) hkZ__law_rows bi__law_rows fnSem_bad
  have F__law_close_rows : FnKnown P w K mg base ⟨fun _ => none, [(c_raised, Q_raised, ("raised" : Str) ++ ".<locals>." ++ "<lambda>")].map fun t : Addr × Addr × Str => (t.2.1, t.2.2)⟩ 3 "_law_close_rows" f__law_close_rows := fnKnown_of (o__law_close_rows (cA := ⟨fun _ => none, _⟩) lkZ__law_close_rows hcZ__law_close_rows hkZ__law_close_rows (PySem.W.mg_none_of X G z_range) F__law_digit) (PySem.W.mg_of X G a__law_close_rows) hkZ__law_close_rows bi__law_close_rows fnSem_bad
  have F__law_whole : FnKnown P w K mg base ⟨fun _ => none, [(c_raised, Q_raised, ("raised" : Str) ++ ".<locals>." ++ "<lambda>")].map fun t : Addr × Addr × Str => (t.2.1, t.2.2)⟩ 2 "_law_whole" f__law_whole := fnKnown_of (o__law_whole (cA := ⟨fun _ => none, _⟩) lkZ__law_whole hcZ__law_whole hkZ__law_whole (PySem.W.mg_none_of X G z_isinstance) (PySem.W.mg_none_of X G z_int) (PySem.W.mg_none_of X G z_bool)) (PySem.W.mg_of X G a__law_whole) hkZ__law_whole bi__law_whole fnSem_bad
  have F__law_pairs_right : FnKnown P w K mg base ⟨fun _ => none, [(c_raised, Q_raised, ("raised" : Str) ++ ".<locals>." ++ "<lambda>")].map fun t : Addr × Addr × Str => (t.2.1, t.2.2)⟩ 3 "_law_pairs_right" f__law_pairs_right := fnKnown_of (o__law_pairs_right (cA := ⟨fun _ => none, _⟩) lkZ__law_pairs_right hcZ__law_pairs_right hkZ__law_pairs_right (PySem.W.mg_none_of X G z_dict) (PySem.W.mg_none_of X G z_isinstance) (PySem.W.mg_none_of X G z_tuple) (PySem.W.mg_none_of X G z_len) F__law_whole) (PySem.W.mg_of X G a__law_pairs_right) hkZ__law_pairs_right bi__law_pairs_right fnSem_bad
  have F__law_right : FnKnown P w K mg base ⟨fun _ => none, [(c_raised, Q_raised, ("raised" : Str) ++ ".<locals>." ++ "<lambda>")].map fun t : Addr × Addr × Str => (t.2.1, t.2.2)⟩ 4 "_law_right" f__law_right := fnKnown_of (o__law_right (cA := ⟨fun _ => none, _⟩) lkZ__law_right hcZ__law_right hkZ__law_right (PySem.W.mg_none_of X G z_isinstance) (PySem.W.mg_none_of X G z_tuple) (PySem.W.mg_none_of X G z_len) (PySem.W.mg_none_of X G z_list) F__law_whole F__law_pairs_right) (PySem.W.mg_of X G a__law_right) hkZ__law_right bi__law_right fnSem_bad
  exact o_law (cA := ⟨fun _ => none, _⟩) lkZ_law hcZ_law hkZ_law (PySem.W.mg_none_of X G z_range) (PySem.W.mg_none_of X G z_max) (PySem.W.mg_none_of X G z_min) (PySem.W.mg_none_of X G z_len) (PySem.W.mg_none_of X G z_list) F__law_tape F__law_rows F__law_digit F__law_close_rows F_paired_off F__law_right
end Rh
end

section
set_option Elab.async false
set_option linter.all false
set_option maxRecDepth 100000
set_option maxHeartbeats 1000000
/-! Evaluation of the combinators by simp. -/
namespace Rh
open PySem
section
variable (ρ : En) (s : Sto)
@[simp] theorem ev_var (i : Nat) : eVar i ρ s = match ρ[i]? with
  | some (some d) => .ok d s
  | _ => .bad := rfl
@[simp] theorem ev_C (d : D) : eC d ρ s = .ok d s := rfl
@[simp] theorem ev_bin (f : D → D → Sto → R D) (a b : Ev) : eBin f a b ρ s = (a ρ s).bind fun x s1 => (b ρ s1).bind fun y s2 => f x y s2 := rfl
@[simp] theorem ev_un (f : D → Sto → R D) (a : Ev) : eUn f a ρ s = (a ρ s).bind f := rfl
@[simp] theorem ev_nil : aNil ρ s = .ok [] s := rfl
@[simp] theorem ev_cons (a : Ev) (t : Ea) : aCons a t ρ s = (a ρ s).bind fun x s1 => (t ρ s1).bind fun xs s2 => .ok (x :: xs) s2 := rfl
@[simp] theorem ev_arg (f : List D → Sto → R D) (a : Ea) : eArg f a ρ s = (a ρ s).bind f := rfl
@[simp] theorem ev_tup (a : Ea) : eTup a ρ s = (a ρ s).bind fun xs s => if xs.length ≤ szl then .ok (.tup xs) s else .bad := rfl
@[simp] theorem ev_lstC (a : Ea) : eLstC a ρ s = (a ρ s).bind fun xs s => if xs.length ≤ szl then .ok (.cl xs) s else .bad := rfl
@[simp] theorem ev_lst (a : Ea) : eLst a ρ s = (a ρ s).bind fun xs s => if xs.length ≤ szl then .ok (.ref s.length) (s ++ [.lst xs]) else .bad := rfl
@[simp] theorem ev_if (t : Et) (a b : Ev) : eIf t a b ρ s = (t ρ s).bind fun c s1 => if c then a ρ s1 else b ρ s1 := rfl
@[simp] theorem ev_and (a b : Ev) : eAnd a b ρ s = (a ρ s).bind fun x s1 => match x with
  | .bl true => b ρ s1
  | .bl false => .ok (.bl false) s1
  | _ => .bad := rfl
@[simp] theorem ev_or (a b : Ev) : eOr a b ρ s = (a ρ s).bind fun x s1 => match x with
  | .bl true => .ok (.bl true) s1
  | .bl false => b ρ s1
  | _ => .bad := rfl
@[simp] theorem ev_chain (f g : D → D → Sto → R D) (a b c : Ev) : eChain f g a b c ρ s = (a ρ s).bind fun x s1 => (b ρ s1).bind fun y s2 => (f x y s2).bind fun z s3 => match z with
  | .bl true => (c ρ s3).bind fun u s4 => g y u s4
  | .bl false => .ok (.bl false) s3
  | _ => .bad := rfl
@[simp] theorem ev_tVal (a : Ev) : tVal a ρ s = (a ρ s).bind truthy := rfl
@[simp] theorem ev_truthy (b : Bool) : truthy (.bl b) s = .ok b s := rfl
@[simp] theorem ev_tNot (t : Et) : Rh.tNot t ρ s = (t ρ s).bind fun b s1 => .ok (!b) s1 := rfl
@[simp] theorem ev_tAnd (t u : Et) : Rh.tAnd t u ρ s = (t ρ s).bind fun b s1 => if b then u ρ s1 else .ok false s1 := rfl
@[simp] theorem ev_tOr (t u : Et) : Rh.tOr t u ρ s = (t ρ s).bind fun b s1 => if b then .ok true s1 else u ρ s1 := rfl
@[simp] theorem ev_tYes : tYes ρ s = .ok true s := rfl
@[simp] theorem ev_sNil : sNil ρ s = .nx ρ s := rfl
@[simp] theorem ev_seq (a b : Es) : sSeq a b ρ s = match a ρ s with
  | .nx ρ1 s1 => b ρ1 s1
  | o => o := rfl
@[simp] theorem ev_ret (e : Ev) : sRet e ρ s = (e ρ s).then ρ fun d s1 => .rt d s1 := rfl
@[simp] theorem ev_retN : sRetN ρ s = .rt .non s := rfl
@[simp] theorem ev_expr (e : Ev) : sExpr e ρ s = (e ρ s).then ρ fun _ s1 => .nx ρ s1 := rfl
@[simp] theorem ev_sIf (t : Et) (a b : Es) : sIf t a b ρ s = (t ρ s).then ρ fun c s1 => if c then a ρ s1 else b ρ s1 := rfl
@[simp] theorem ev_brk : sBrk ρ s = .bk ρ s := rfl
@[simp] theorem ev_cnt : sCnt ρ s = .ct ρ s := rfl
@[simp] theorem ev_gNm (i : Nat) (d : D) : gNm i d ρ s = .nx (ρ.set i (some d)) s := rfl
@[simp] theorem ev_tgNm (i : Nat) : (Tn.nm i).tg = gNm i := rfl
@[simp] theorem ev_tgTp (ts : List Tn) : (Tn.tp ts).tg = gTp ts.length (Tn.tgs ts) := rfl
@[simp] theorem ev_tgsN : Tn.tgs [] = gsNil := rfl
@[simp] theorem ev_tgsC (t : Tn) (ts : List Tn) : Tn.tgs (t :: ts) = gsCons t.tg (Tn.tgs ts) := rfl
@[simp] theorem ev_gsNil : gsNil [] ρ s = .nx ρ s := rfl
@[simp] theorem ev_gsCons (g : Tg) (t : Tgs) (d : D) (r : List D) : gsCons g t (d :: r) ρ s = match g d ρ s with
  | .nx ρ1 s1 => t r ρ1 s1
  | o => o := rfl
@[simp] theorem ev_gTp (n : Nat) (t : Tgs) (ds : List D) : gTp n t (.tup ds) ρ s = if ds.length = n then t ds ρ s else .bad := rfl
@[simp] theorem ev_gSb (f : D → D → D → Sto → R Unit) (o i : Ev) (d : D) : gSb f o i d ρ s = (o ρ s).then ρ fun x s1 => (i ρ s1).then ρ fun y s2 => (f x y d s2).then ρ fun _ s3 => .nx ρ s3 := rfl
@[simp] theorem ev_asg (e : Ev) (g : Tg) : sAsg e g ρ s = (e ρ s).then ρ fun d s1 => g d ρ s1 := rfl
@[simp] theorem ev_par (i j : Nat) (a : Ea) : sPar i j a ρ s = (a ρ s).then ρ fun ds s1 => match ds with
  | [x, y] => .nx ((ρ.set i (some x)).set j (some y)) s1
  | _ => .bad := rfl
@[simp] theorem ev_aug (f : D → D → Sto → R D) (i : Nat) (e : Ev) : sAug f i e ρ s = match ρ[i]? with
  | some (some x) => (e ρ s).then ρ fun y s1 => (f x y s1).then ρ fun z s2 => .nx (ρ.set i (some z)) s2
  | _ => .bad := rfl
@[simp] theorem ev_augS (get : D → D → Sto → R D) (f : D → D → Sto → R D) (set : D → D → D → Sto → R Unit) (o i e : Ev) : sAugS get f set o i e ρ s =
  (o ρ s).then ρ fun x s1 => (i ρ s1).then ρ fun y s2 => (get x y s2).then ρ fun v s3 => (e ρ s3).then ρ fun u s4 => (f v u s4).then ρ fun z s5 => (set x y z s5).then ρ fun _ s6 => .nx ρ s6 := rfl
@[simp] theorem ev_meth (ty : D → Sto → Bool) (f : D → List D → Sto → R D) (o : Ev) (t : Ea) : eMeth ty f o t ρ s = (o ρ s).bind fun x s1 => if ty x s1 then (t ρ s1).bind fun xs s2 => f x xs s2 else .bad := rfl
@[simp] theorem ev_oNone : oNone ρ s = .ok none s := rfl
@[simp] theorem ev_oSome (a : Ev) : oSome a ρ s = (a ρ s).bind fun d s1 => match d with
  | .int i => .ok (some i) s1
  | _ => .bad := rfl
@[simp] theorem ev_sl (g : D → Option Int → Option Int → Sto → R D) (a : Ev) (lo hi : Eo) : eSl g a lo hi ρ s = (a ρ s).bind fun x s1 => (lo ρ s1).bind fun l s2 => (hi ρ s2).bind fun u s3 => g x l u s3 := rfl
@[simp] theorem ev_kw (g : List D → List D → Sto → R D) (a b : Ea) : eKw g a b ρ s = (a ρ s).bind fun xs s1 => (b ρ s1).bind fun ys s2 => g xs ys s2 := rfl
/-! operators -/
@[simp] theorem ev_addI (fr : Bool) (i j : Int) : opAdd fr (.int i) (.int j) s = .ok (.int (i + j)) s := rfl
@[simp] theorem ev_addN (i j : Int) : opAddN (.int i) (.int j) s = .ok (.int (i + j)) s := rfl
@[simp] theorem ev_sub (i j : Int) : opSub (.int i) (.int j) s = .ok (.int (i - j)) s := rfl
@[simp] theorem ev_mul (i j : Int) : opMul (.int i) (.int j) s = if mulOk i j then .ok (.int (i * j)) s else .bad := rfl
@[simp] theorem ev_div (i j : Int) : opDiv (.int i) (.int j) s = if 0 < j ∧ j.natAbs.log2 < 9000 then .ok (.int (i / j)) s else .bad := rfl
@[simp] theorem ev_mod (i j : Int) : opMod (.int i) (.int j) s = if 0 < j then .ok (.int (i % j)) s else .bad := rfl
@[simp] theorem ev_pow (i j : Int) : opPow (.int i) (.int j) s = if 0 ≤ j ∧ j ≤ 1000000 ∧ i.natAbs < 2 ^ 64 then .ok (.int (i ^ j.toNat)) s else .bad := rfl
@[simp] theorem ev_neg (i : Int) : opNeg (.int i) s = .ok (.int (-i)) s := rfl
@[simp] theorem ev_lt (i j : Int) : opLt (.int i) (.int j) s = .ok (.bl (decide (i < j))) s := rfl
@[simp] theorem ev_le (i j : Int) : opLe (.int i) (.int j) s = .ok (.bl (decide (i ≤ j))) s := rfl
@[simp] theorem ev_gt (i j : Int) : opGt (.int i) (.int j) s = .ok (.bl (decide (j < i))) s := rfl
@[simp] theorem ev_ge (i j : Int) : opGe (.int i) (.int j) s = .ok (.bl (decide (j ≤ i))) s := rfl
@[simp] theorem ev_eqI (i j : Int) : opEq (.int i) (.int j) s = .ok (.bl (decide (i = j))) s := by
  unfold opEq pyEq
  simp only [toPy]
  unfold PyData.eqv
  rfl
@[simp] theorem ev_eqS (x y : Str) : opEq (.str x) (.str y) s = .ok (.bl (decide (x = y))) s := by
  unfold opEq pyEq
  simp only [toPy]
  unfold PyData.eqv
  rfl
@[simp] theorem ev_neI (i j : Int) : opNe (.int i) (.int j) s = .ok (.bl (!decide (i = j))) s := by
  unfold opNe pyEq
  simp only [toPy]
  unfold PyData.eqv
  rfl
@[simp] theorem ev_neS (x y : Str) : opNe (.str x) (.str y) s = .ok (.bl (!decide (x = y))) s := by
  unfold opNe pyEq
  simp only [toPy]
  unfold PyData.eqv
  rfl
@[simp] theorem ev_isN (d : D) : opIsN d s = .ok (.bl (isNon d)) s := rfl
@[simp] theorem ev_notN (d : D) : opNotN d s = .ok (.bl (!isNon d)) s := rfl
@[simp] theorem ev_not (b : Bool) : opNot (.bl b) s = .ok (.bl (!b)) s := rfl
@[simp] theorem ev_ixT (ds : List D) (i : Int) : anyItem (.tup ds) (.int i) s = R.ofO (itemAt ds i) s := rfl
@[simp] theorem ev_ixC (ds : List D) (i : Int) : anyItem (.cl ds) (.int i) s = R.ofO (itemAt ds i) s := rfl
@[simp] theorem ev_ixF (ds : List D) (i : Int) : anyItem (.fz ds) (.int i) s = R.ofO (itemAt ds i) s := rfl
theorem ev_ixR {l : Nat} {ds : List D} {i : Int} (h : s[l]? = some (.lst ds)) : anyItem (.ref l) (.int i) s = R.ofO (itemAt ds i) s := by
  simp only [anyItem, seqItem, seqOf, lstOf, h]
@[simp] theorem ev_ofS {α : Type} (a : α) : R.ofO (some a) s = .ok a s := rfl
@[simp] theorem ev_abs (i : Int) : bAbs [.int i] s = .ok (.int (if i < 0 then -i else i)) s := rfl
@[simp] theorem ev_max2 (i j : Int) : bMaxA [.int i, .int j] s = .ok (.int (if j > i then j else i)) s := rfl
@[simp] theorem ev_min2 (i j : Int) : bMinA [.int i, .int j] s = .ok (.int (if j < i then j else i)) s := rfl
@[simp] theorem ev_min3 (i j k : Int) : bMinA [.int i, .int j, .int k] s = .ok (.int (if k < (if j < i then j else i) then k else if j < i then j else i)) s := rfl
@[simp] theorem ev_lenT (ds : List D) : bLen [.tup ds] s = .ok (.int ds.length) s := rfl
@[simp] theorem ev_lenC (ds : List D) : bLen [.cl ds] s = .ok (.int ds.length) s := rfl
@[simp] theorem ev_lenF (ds : List D) : bLen [.fz ds] s = .ok (.int ds.length) s := rfl
theorem ev_lenR {l : Nat} {ds : List D} (h : s[l]? = some (.lst ds)) : bLen [.ref l] s = .ok (.int ds.length) s := by
  unfold bLen
  simp only [seqOf, lstOf, h]
end
/-! items at written places -/
theorem itemAt_nat (ds : List D) (i : Nat) : itemAt ds (i : Int) = ds[i]? := by
  unfold itemAt ixAt
  rw [if_pos (Int.natCast_nonneg i)]
  by_cases h : i < ds.length
  · rw [if_pos (by exact_mod_cast h)]
    rfl
  · rw [if_neg (by omega), List.getElem?_eq_none (by omega)]
    rfl
@[simp] theorem itemAt_0 (a : D) (ds : List D) : itemAt (a :: ds) 0 = some a := itemAt_nat (a :: ds) 0
@[simp] theorem itemAt_1 (a b : D) (ds : List D) : itemAt (a :: b :: ds) 1 = some b := itemAt_nat (a :: b :: ds) 1
@[simp] theorem itemAt_2 (a b c : D) (ds : List D) : itemAt (a :: b :: c :: ds) 2 = some c := itemAt_nat (a :: b :: c :: ds) 2
@[simp] theorem itemAt_3 (a b c d : D) (ds : List D) : itemAt (a :: b :: c :: d :: ds) 3 = some d := itemAt_nat (a :: b :: c :: d :: ds) 3
@[simp] theorem itemAt_4 (a b c d e : D) (ds : List D) : itemAt (a :: b :: c :: d :: e :: ds) 4 = some e := itemAt_nat (a :: b :: c :: d :: e :: ds) 4
@[simp] theorem itemAt_5 (a b c d e f : D) (ds : List D) : itemAt (a :: b :: c :: d :: e :: f :: ds) 5 = some f := itemAt_nat (a :: b :: c :: d :: e :: f :: ds) 5
@[simp] theorem itemAt_6 (a b c d e f g : D) (ds : List D) : itemAt (a :: b :: c :: d :: e :: f :: g :: ds) 6 = some g := itemAt_nat (a :: b :: c :: d :: e :: f :: g :: ds) 6
@[simp] theorem itemAt_7 (a b c d e f g h : D) (ds : List D) : itemAt (a :: b :: c :: d :: e :: f :: g :: h :: ds) 7 = some h := itemAt_nat (a :: b :: c :: d :: e :: f :: g :: h :: ds) 7
theorem setItem_lst {s : Sto} {l i : Nat} {ds : List D} {v : D} (h : s[l]? = some (.lst ds)) (hi : i < ds.length) : Rh.setItem (.ref l) (.int (i : Int)) v s = .ok () (s.set l (.lst (ds.set i v))) := by
  unfold Rh.setItem
  simp only [h]
  unfold ixAt
  rw [if_pos (Int.natCast_nonneg i), if_pos (by exact_mod_cast hi)]
  rfl
@[simp] theorem forIts_nil (body : D → Es) (ρ : En) (s : Sto) : forIts body [] ρ s = .nx ρ s := rfl
theorem lcIts_cons (turn : D → List D → Sto → R (List D)) (d : D) (ds acc : List D) (s : Sto) : lcIts turn (d :: ds) acc s = (turn d acc s).bind fun acc1 s1 => lcIts turn ds acc1 s1 := rfl
@[simp] theorem lcIts_nil (turn : D → List D → Sto → R (List D)) (acc : List D) (s : Sto) : lcIts turn [] acc s = .ok acc s := rfl
/-- a comprehension by an invariant -/
theorem lcIts_ok {turn : D → List D → Sto → R (List D)} (Inv : Nat → List D → Sto → Prop) : ∀ (ds : List D) (k : Nat) (acc : List D) (s : Sto), (∀ i d acc s, ds[i]? = some d → Inv (k + i) acc s → ∃ acc' s', turn d acc s = .ok acc' s' ∧ Inv (k + i + 1) acc' s') → Inv k acc s →
    ∃ out s', lcIts turn ds acc s = .ok out s' ∧ Inv (k + ds.length) out s'
  | [], k, acc, s, _, h => ⟨acc, s, rfl, h⟩
  | d :: ds, k, acc, s, st, h => by
    obtain ⟨a1, s1, e1, h1⟩ := st 0 d acc s rfl h
    obtain ⟨out, s2, e2, h2⟩ := lcIts_ok Inv ds (k + 1) a1 s1 (fun i d acc s hi hv => by
      have := st (i + 1) d acc s (by simpa using hi) (by rw [← Nat.add_assoc, Nat.add_right_comm]; exact hv)
      rw [Nat.add_right_comm k 1 i]
      exact this) h1
    refine ⟨out, s2, ?_, ?_⟩
    · rw [lcIts_cons, e1]
      exact e2
    · rw [List.length_cons, Nat.add_comm ds.length, ← Nat.add_assoc]
      exact h2
/-- a comprehension that leaves the store as it is -/
theorem lcIts_pure {α : Type} {turn : D → List D → Sto → R (List D)} {s : Sto} (enc : α → D) (p : α → Bool) (f : α → D) (xs : List α) (h : ∀ x acc, x ∈ xs → turn (enc x) acc s = .ok (if p x then acc ++ [f x] else acc) s) : ∀ acc, lcIts turn (xs.map enc) acc s = .ok (acc ++ (xs.filter p).map f) s := by
  induction xs with
  | nil => intro acc; simp
  | cons x xs ih =>
    intro acc
    rw [List.map_cons, lcIts_cons, h x acc List.mem_cons_self]
    show lcIts turn (xs.map enc) (if p x then acc ++ [f x] else acc) s = _
    rw [ih fun y a hy => h y a (List.mem_cons_of_mem _ hy)]
    cases hp : p x <;> simp [hp]
theorem lcC_its {it : Ei} {g : Tg} {t : Et} {e : Ev} {vs : List Nat} {ρ : En} {s s1 s2 : Sto} {ds out : List D} (h : it ρ s = .ok (.its ds) s1) (k : lcIts (lcTurn g t e (wipe ρ vs)) ds [] s1 = .ok out s2) : eLcC it g t e vs ρ s = .ok (.cl out) s2 := by
  unfold eLcC lcAll
  rw [h]
  show ((noExc (lcIts (lcTurn g t e (wipe ρ vs)) ds [] s1)).bind fun ds s1 => .ok (D.cl ds) s1) = _
  rw [k]
  rfl
theorem lcC_live {it : Ei} {g : Tg} {t : Et} {e : Ev} {vs : List Nat} {ρ : En} {s s1 s2 : Sto} {vw : Sto → Option (List D)} {out : List D} (h : it ρ s = .ok (.live vw) s1) (k : lcLive vw (lcTurn g t e (wipe ρ vs)) (vwLen s1 vw) 0 [] s1 = .ok out s2) : eLcC it g t e vs ρ s = .ok (.cl out) s2 := by
  unfold eLcC lcAll
  rw [h]
  show ((noExc (lcLive vw (lcTurn g t e (wipe ρ vs)) (vwLen s1 vw) 0 [] s1)).bind fun ds s1 => .ok (D.cl ds) s1) = _
  rw [k]
  rfl
/-- what stands in the store and is not changed by the turns -/
theorem lcLive_pure {turn : D → List D → Sto → R (List D)} {s : Sto} {vw : Sto → Option (List D)} {ds : List D} (hv : vw s = some ds) (h : ∀ d acc, d ∈ ds → ∃ a, turn d acc s = .ok a s) : ∀ (n i : Nat) (acc : List D), n + i = ds.length → lcLive vw turn n i acc s = lcIts turn (ds.drop i) acc s
  | 0, i, acc, e => by
    rw [lcLive, hv]
    dsimp only
    rw [if_pos (by omega), List.drop_eq_nil_of_le (by omega)]
    rfl
  | n + 1, i, acc, e => by
    have hi : i < ds.length := by omega
    rw [lcLive, hv]
    dsimp only
    rw [List.getElem?_eq_getElem hi]
    dsimp only
    rw [List.drop_eq_getElem_cons hi, lcIts_cons]
    obtain ⟨a, ha⟩ := h ds[i] acc (List.getElem_mem hi)
    rw [ha]
    show lcLive vw turn n (i + 1) a s = lcIts turn (ds.drop (i + 1)) a s
    exact lcLive_pure hv h n (i + 1) a (by omega)
theorem forIts_ok {body : D → Es} (Inv : Nat → En → Sto → Prop) : ∀ (ds : List D) (k : Nat) (ρ : En) (s : Sto), (∀ i d ρ s, ds[i]? = some d → Inv (k + i) ρ s → ∃ ρ' s', (body d ρ s = .nx ρ' s' ∨ body d ρ s = .ct ρ' s') ∧ Inv (k + i + 1) ρ' s') → Inv k ρ s →
    ∃ ρ' s', forIts body ds ρ s = .nx ρ' s' ∧ Inv (k + ds.length) ρ' s'
  | [], k, ρ, s, _, h => ⟨ρ, s, rfl, h⟩
  | d :: ds, k, ρ, s, st, h => by
    obtain ⟨ρ1, s1, e1, h1⟩ := st 0 d ρ s rfl h
    obtain ⟨ρ2, s2, e2, h2⟩ := forIts_ok Inv ds (k + 1) ρ1 s1 (fun i d ρ s hi hv => by
      have := st (i + 1) d ρ s (by simpa using hi) (by rw [← Nat.add_assoc, Nat.add_right_comm]; exact hv)
      rw [Nat.add_right_comm k 1 i]
      exact this) h1
    refine ⟨ρ2, s2, ?_, ?_⟩
    · rw [forIts_cons]
      rcases e1 with e1 | e1 <;> (rw [e1]; exact e2)
    · rw [List.length_cons, Nat.add_comm ds.length, ← Nat.add_assoc]
      exact h2
theorem sFor_its {it : Ei} {g : Tg} {b : Es} {ρ : En} {s s1 : Sto} {ds : List D} (h : it ρ s = .ok (.its ds) s1) : sFor it g b ρ s = forIts (thenG g b) ds ρ s1 := by
  unfold sFor
  rw [h]
  rfl
theorem sFor_live {it : Ei} {g : Tg} {b : Es} {ρ : En} {s s1 : Sto} {vw : Sto → Option (List D)} (h : it ρ s = .ok (.live vw) s1) : sFor it g b ρ s = forLive vw (thenG g b) (vwLen s1 vw) 0 ρ s1 := by
  unfold sFor
  rw [h]
  rfl
/-- a walk over a list of the store that stays as it is while it is walked -/
theorem forLive_ok {body : D → Es} {vw : Sto → Option (List D)} {ds : List D} (Inv : Nat → En → Sto → Prop) (hv : ∀ i ρ s, Inv i ρ s → vw s = some ds) (st : ∀ i d ρ s, ds[i]? = some d → Inv i ρ s → ∃ ρ' s', (body d ρ s = .nx ρ' s' ∨ body d ρ s = .ct ρ' s') ∧ Inv (i + 1) ρ' s') : ∀ (n i : Nat) (ρ : En) (s : Sto), n + i = ds.length → Inv i ρ s →
    ∃ ρ' s', forLive vw body n i ρ s = .nx ρ' s' ∧ Inv ds.length ρ' s'
  | 0, i, ρ, s, e, h => by
    refine ⟨ρ, s, ?_, ?_⟩
    · rw [forLive, hv i ρ s h]
      dsimp only
      rw [if_pos (by omega)]
    · rw [← e, Nat.zero_add]
      exact h
  | n + 1, i, ρ, s, e, h => by
    have hi : i < ds.length := by omega
    obtain ⟨ρ1, s1, e1, h1⟩ := st i ds[i] ρ s (List.getElem?_eq_getElem hi) h
    obtain ⟨ρ2, s2, e2, h2⟩ := forLive_ok Inv hv st n (i + 1) ρ1 s1 (by omega) h1
    refine ⟨ρ2, s2, ?_, h2⟩
    rw [forLive_succ _ _ _ _ _ _ (hv i ρ s h), List.getElem?_eq_getElem hi]
    dsimp only
    rcases e1 with e1 | e1 <;> (rw [e1]; exact e2)
theorem vwLen_of {s : Sto} {vw : Sto → Option (List D)} {ds : List D} (h : vw s = some ds) : vwLen s vw = ds.length := by
  unfold vwLen
  rw [h]
theorem lcTurn_yes {T : Tn} {e : Ev} {ρ ρ1 : En} {d : D} {acc : List D} {s s1 : Sto} (h : T.tg d ρ s = .nx ρ1 s1) : lcTurn T.tg tYes e ρ d acc s = (e ρ1 s1).bind fun y s2 => .ok (acc ++ [y]) s2 := by
  unfold lcTurn
  rw [h]
  rfl
theorem lcTurn_eq {T : Tn} {t : Et} {e : Ev} {ρ ρ1 : En} {d : D} {acc : List D} {s s1 : Sto} (h : T.tg d ρ s = .nx ρ1 s1) : lcTurn T.tg t e ρ d acc s = (t ρ1 s1).bind fun c s2 => if c then (e ρ1 s2).bind fun y s3 => .ok (acc ++ [y]) s3 else .ok acc s2 := by
  unfold lcTurn
  rw [h]
@[simp] theorem ev_iVal (e : Ev) (ρ : En) (s : Sto) : iVal e ρ s = (e ρ s).bind itVal := rfl
@[simp] theorem ev_itC (ds : List D) (s : Sto) : itVal (.cl ds) s = .ok (.its ds) s := rfl
@[simp] theorem ev_itF (ds : List D) (s : Sto) : itVal (.fz ds) s = .ok (.its ds) s := rfl
theorem ev_itR {l : Nat} {ds : List D} {s : Sto} (h : s[l]? = some (.lst ds)) : itVal (.ref l) s = .ok (.live (vwLst l)) s := by
  unfold itVal
  simp only [h]
@[simp] theorem ev_iR1 (a : Ea) (ρ : En) (s : Sto) : iRange1 a ρ s = (a ρ s).bind itRange1 := rfl
theorem ev_range {n : Int} {s : Sto} (h0 : 0 ≤ n) (h : n ≤ 1000) : itRange1 [.int n] s = .ok (.its (rngD 0 n.toNat)) s := by
  unfold itRange1
  exact if_pos ⟨by omega, by omega, by unfold szl; omega⟩
theorem rgL_ref {n : Int} {s : Sto} (h0 : 0 ≤ n) (h1 : n ≤ 1000) : opRgL false (.int n) s = .ok (.ref s.length) (s ++ [.lst (rgD n)]) := by
  unfold opRgL
  dsimp only
  rw [if_pos ⟨h0, by omega⟩]
  rfl
theorem popAt_ok {s : Sto} {l i : Nat} {ds : List D} {y : D} (h : s[l]? = some (.lst ds)) (hi : ds[i]? = some y) (hz : i < 1000) : mPopAt (.ref l) [.int (i : Int)] s = .ok y (s.set l (.lst (ds.eraseIdx i))) := by
  have hlt := (List.getElem?_eq_some_iff.mp hi).1
  unfold mPopAt
  simp only [h]
  rw [if_pos (by omega)]
  unfold ixAt
  rw [if_pos (Int.natCast_nonneg i), if_pos (by exact_mod_cast hlt)]
  simp only [Int.toNat_natCast, hi]
theorem append_ok {s : Sto} {l : Nat} {ds : List D} {d : D} (h : s[l]? = some (.lst ds)) (hz : ds.length < 16777216) : mAppend (.ref l) [d] s = .ok .non (s.set l (.lst (ds ++ [d]))) := by
  unfold mAppend
  simp only [h]
  rw [if_pos (by unfold szl; exact hz)]
theorem isLst_ref {s : Sto} {l : Nat} {ds : List D} (h : s[l]? = some (.lst ds)) : isLst (.ref l) s = true := by
  unfold isLst lstOf
  simp only [h]
  rfl
theorem szl_small {n : Nat} (h : n ≤ 1000) : n ≤ szl := by unfold szl; omega
theorem mulOk_small {i j : Int} (h : -(2 ^ 64) < i ∧ i < 2 ^ 64) : mulOk i j := .inl (.inl h)
theorem mulOk_small' {i j : Int} (h : -(2 ^ 64) < j ∧ j < 2 ^ 64) : mulOk i j := .inl (.inr h)
end Rh
end

section
set_option Elab.async false
set_option linter.all false
set_option maxRecDepth 100000
set_option maxHeartbeats 4000000
/-! The laws' own tape: digits, drawn orders, rows. -/
namespace Rh
open PySem
/-- a tape at l -/
def Tape (s : Sto) (l : Nat) : Prop := ∃ a b : Int, 0 ≤ a ∧ 0 ≤ b ∧ s[l]? = some (.lst [.int a, .int b])
/-- from s to s' only the tape at l was changed; more may have been laid -/
structure Step (l : Nat) (s s' : Sto) : Prop where
  tape : Tape s' l
  len : s.length ≤ s'.length
  same : ∀ j, j ≠ l → j < s.length → s'[j]? = s[j]?
theorem Step.refl {l : Nat} {s : Sto} (h : Tape s l) : Step l s s := ⟨h, Nat.le_refl _, fun _ _ _ => rfl⟩
theorem Step.trans {l : Nat} {s s' s'' : Sto} (h : Step l s s') (k : Step l s' s'') : Step l s s'' := ⟨k.tape, Nat.le_trans h.len k.len, fun j h1 h2 => (k.same j h1 (Nat.lt_of_lt_of_le h2 h.len)).trans (h.same j h1 h2)⟩
theorem Tape.lt {l : Nat} {s : Sto} (h : Tape s l) : l < s.length := by
  obtain ⟨a, b, _, _, h⟩ := h
  exact (List.getElem?_eq_some_iff.mp h).1
theorem Step.set {l : Nat} {s : Sto} {a b : Int} (h : Tape s l) (ha : 0 ≤ a) (hb : 0 ≤ b) : Step l s (s.set l (.lst [.int a, .int b])) :=
  ⟨⟨a, b, ha, hb, List.getElem?_set_self h.lt⟩, by rw [List.length_set]; exact Nat.le_refl _, fun j h1 h2 => List.getElem?_set_ne (Ne.symm h1)⟩
theorem Step.app {l : Nat} {s : Sto} (h : Tape s l) (o : Ob) : Step l s (s ++ [o]) := by
  obtain ⟨a, b, h1, h2, h3⟩ := h
  refine ⟨⟨a, b, h1, h2, ?_⟩, by rw [List.length_append]; omega, fun j _ hj => List.getElem?_append_left hj⟩
  rw [List.getElem?_append_left (List.getElem?_eq_some_iff.mp h3).1]
  exact h3
/-- a draw of 0 .. m - 1 -/
theorem digit_ok {s : Sto} {l : Nat} {m : Int} (h : Tape s l) (h0 : 0 < m) (hm : m ≤ 1000000000000) : ∃ v s', f__law_digit [.ref l, .int m] s = .ok (.int v) s' ∧ 0 ≤ v ∧ v < m ∧ Step l s s' ∧ s'.length = s.length := by
  have ht := h
  obtain ⟨a, b, ha, hb, h⟩ := h
  have i0 : anyItem (.ref l) (.int 0) s = .ok (.int a) s := by rw [ev_ixR s h]; rfl
  have i1 : anyItem (.ref l) (.int 1) s = .ok (.int b) s := by rw [ev_ixR s h]; rfl
  have lg : m.natAbs.log2 < 9000 := by
    have h1 : m.natAbs < 2 ^ 40 := by omega
    have h2 : m.natAbs.log2 < 40 := by
      by_cases hz : m.natAbs = 0
      · omega
      · exact (Nat.log2_lt hz).mpr h1
    omega
  by_cases hp : 0 < a
  · refine ⟨a % m, s.set l (.lst [.int (a / m), .int b]), ?_, Int.emod_nonneg _ (by omega), Int.emod_lt_of_pos _ h0, Step.set ht (Int.ediv_nonneg ha (by omega)) hb, List.length_set⟩
    have st : Rh.setItem (.ref l) (.int 0) (.int (a / m)) s = .ok () (s.set l (.lst [.int (a / m), .int b])) := setItem_lst (i := 0) h (by simp)
    simp [f__law_digit, fnSem, b__law_digit, i0, i1, hp, h0, lg, st]
  · have b2 : 0 ≤ (b * 48271 + 11) % 2147483647 := Int.emod_nonneg _ (by decide)
    have b3 : (b * 48271 + 11) % 2147483647 < 2147483647 := Int.emod_lt_of_pos _ (by decide)
    have st : Rh.setItem (.ref l) (.int 1) (.int ((b * 48271 + 11) % 2147483647)) s = .ok () (s.set l (.lst [.int a, .int ((b * 48271 + 11) % 2147483647)])) := setItem_lst (i := 1) h (by simp)
    have i1' : anyItem (.ref l) (.int 1) (s.set l (.lst [.int a, .int ((b * 48271 + 11) % 2147483647)])) = .ok (.int ((b * 48271 + 11) % 2147483647)) (s.set l (.lst [.int a, .int ((b * 48271 + 11) % 2147483647)])) := by
      rw [ev_ixR _ (List.getElem?_set_self ht.lt)]
      rfl
    generalize hc : (b * 48271 + 11) % 2147483647 = c at b2 b3 st i1'
    have m1 : mulOk b 48271 := mulOk_small' (by omega)
    have m2 : mulOk c 40692 := mulOk_small' (by omega)
    have m3 : mulOk c c := mulOk_small (by omega)
    have m4 : mulOk (c * c % 2147483629) 2147483399 := mulOk_small' (by omega)
    refine ⟨(c * c % 2147483629 * 2147483399 + c * 40692 % 2147483399) % m, s.set l (.lst [.int a, .int c]), ?_, Int.emod_nonneg _ (by omega), Int.emod_lt_of_pos _ h0, Step.set ht ha b2, List.length_set⟩
    simp [f__law_digit, fnSem, b__law_digit, i0, i1, hp, h0, lg, st, i1', m1, m2, m3, m4, hc]
theorem Step.over {l L : Nat} {s s' : Sto} (h : Step l s s') (hL : s.length ≤ L) (ht : L ≠ l) (o : Ob) : Step l s (s'.set L o) := by
  refine ⟨?_, by rw [List.length_set]; exact h.len, fun j h1 h2 => ?_⟩
  · obtain ⟨a, b, h1, h2, h3⟩ := h.tape
    exact ⟨a, b, h1, h2, by rw [List.getElem?_set_ne ht]; exact h3⟩
  · rw [List.getElem?_set_ne (by omega)]
    exact h.same j h1 h2
theorem erase_map {α β : Type} (f : α → β) (l : List α) (k : Nat) : (l.map f).eraseIdx k = (l.eraseIdx k).map f := by
  rw [List.eraseIdx_eq_take_drop_succ, List.eraseIdx_eq_take_drop_succ, List.map_append, List.map_take, List.map_drop]
theorem erase_perm {α : Type} {l : List α} {k : Nat} (h : k < l.length) : (l[k] :: l.eraseIdx k).Perm l := by
  have e : l = l.take k ++ l[k] :: l.drop (k + 1) := by
    rw [← List.drop_eq_getElem_cons h, List.take_append_drop]
  rw [List.eraseIdx_eq_take_drop_succ]
  conv => rhs; rw [e]
  exact List.perm_middle.symm
/-- 0 .. m - 1 -/
def rng (m : Int) : List Int := (List.range m.toNat).map fun (i : Nat) => (i : Int)
theorem rng_len (m : Int) : (rng m).length = m.toNat := by unfold rng; rw [List.length_map, List.length_range]
theorem rngD_eq (m : Int) : rngD 0 m.toNat = (rng m).map D.int := by
  unfold rngD rng
  rw [List.map_map]
  exact List.map_congr_left fun i _ => by simp
theorem rgD_eq (m : Int) : rgD m = (rng m).map D.int := by
  unfold rgD rng
  rw [List.map_map]
  rfl
theorem drawn_ok {s : Sto} {l : Nat} {m : Int} (h : Tape s l) (h0 : 0 ≤ m) (hm : m ≤ 1000) : ∃ (σ : List Int) (s' : Sto), f__law_drawn_order [.ref l, .int m] s = .ok (.cl (σ.map D.int)) s' ∧ σ.Perm (rng m) ∧ Step l s s' := by
  have hl := h.lt
  have s1 := Step.app h (.lst ((rng m).map D.int))
  have rg : opRgL false (.int m) s = .ok (.ref s.length) (s ++ [.lst ((rng m).map D.int)]) := by rw [rgL_ref h0 hm, rgD_eq]
  have key := lcIts_ok (turn := lcTurn (Tn.nm 3).tg tYes e__law_drawn_order_1 [some (.ref l), some (.int m), some (.ref s.length), none])
    (fun i acc s' => ∃ got rest : List Int, acc = got.map D.int ∧ s'[s.length]? = some (.lst (rest.map D.int)) ∧ (got ++ rest).Perm (rng m) ∧ rest.length + i = m.toNat ∧ Step l s s' ∧ s.length < s'.length)
    ((rng m).map D.int) 0 [] (s ++ [.lst ((rng m).map D.int)]) (fun i d acc s' hi ⟨got, rest, e1, e2, e3, e4, e5, e6⟩ => ?_) ⟨[], rng m, rfl, by simp, List.Perm.refl _, by rw [rng_len]; rfl, s1, by simp⟩
  · obtain ⟨out, s', e1, got, rest, e2, e3, e4, e5, e6, e7⟩ := key
    have hr : rest = [] := by
      rw [List.length_map, rng_len] at e5
      exact List.eq_nil_of_length_eq_zero (by omega)
    subst hr
    rw [List.append_nil] at e4
    refine ⟨got, s', ?_, e4, e6⟩
    have it : (iRange1 (aCons (eVar 1) aNil)) [some (.ref l), some (.int m), some (.ref s.length), none] (s ++ [.lst ((rng m).map D.int)]) = .ok (.its ((rng m).map D.int)) (s ++ [.lst ((rng m).map D.int)]) := by
      simp [ev_range h0 hm, rngD_eq]
    have lc := lcC_its (vs := [3]) it e1
    simp [f__law_drawn_order, fnSem, b__law_drawn_order, rg]
    simp at lc
    rw [lc, e2]
    rfl
  · have hi' : i < m.toNat := by
      have := (List.getElem?_eq_some_iff.mp hi).1
      rwa [List.length_map, rng_len] at this
    have hpos : 0 < rest.length := by omega
    have hle : rest.length ≤ 1000 := by omega
    obtain ⟨v, s2, d1, d2, d3, d4, d5⟩ := digit_ok (m := (rest.length : Int)) e5.tape (by omega) (by omega)
    have hL : s2[s.length]? = some (.lst (rest.map D.int)) := by
      rw [d4.same s.length (by omega) e6]
      exact e2
    obtain ⟨vn, rfl⟩ : ∃ vn : Nat, v = (vn : Int) := ⟨v.toNat, by omega⟩
    have hvn : vn < rest.length := by omega
    have hy : (rest.map D.int)[vn]? = some (.int rest[vn]) := by
      rw [List.getElem?_map, List.getElem?_eq_getElem hvn]
      rfl
    have pp := popAt_ok hL hy (by omega)
    have il := isLst_ref e2
    have ln := ev_lenR s' e2
    rw [List.length_map] at ln
    refine ⟨acc ++ [.int rest[vn]], s2.set s.length (.lst ((rest.map D.int).eraseIdx vn)), ?_, got ++ [rest[vn]], rest.eraseIdx vn, by rw [e1]; simp, ?_, ?_, ?_, ?_, ?_⟩
    · rw [lcTurn_yes (ρ1 := [some (.ref l), some (.int m), some (.ref s.length), some d]) rfl]
      simp [e__law_drawn_order_1, il, ln, d1, pp]
    · rw [List.getElem?_set_self (by omega), erase_map]
    · have p1 := erase_perm hvn
      rw [List.append_assoc]
      exact (p1.append_left got).trans e3
    · rw [List.length_eraseIdx_of_lt hvn]
      omega
    · exact (e5.trans d4).over (Nat.le_refl _) (by omega) _
    · rw [List.length_set]
      omega
/-! rows -/
structure Row where
  no : Int
  own : Str
  buy : Bool
  price : Int
  shown : Option Int
  left : Int
  seen : Int
  stamp : Int
def sideS (b : Bool) : Str := if b then "buy" else "sell"
def shD : Option Int → D
  | none => .non
  | some i => .int i
def rowD (r : Row) : D := .tup [.int r.no, .str r.own, .str (sideS r.buy), .int r.price, shD r.shown, .int r.left, .int r.seen, .int r.stamp]
/-- what is seen and hidden of a row is right -/
def ShownOk (r : Row) : Prop := match r.shown with
  | none => r.seen = r.left
  | some h => 1 ≤ h ∧ h ≤ 1000000000 ∧ r.left ≤ 20 * h ∧ 1 ≤ r.seen ∧ r.seen ≤ h ∧ r.seen ≤ r.left
theorem four {v : Int} (h0 : 0 ≤ v) (h : v < 4) : v = 0 ∨ v = 1 ∨ v = 2 ∨ v = 3 := by omega
theorem row_ok {s : Sto} {l : Nat} {n st base spread most : Int} (h : Tape s l) (hs0 : 1 ≤ spread) (hs1 : spread ≤ 1000000) (hm0 : 1 ≤ most) (hm1 : most ≤ 1000000000) :
    ∃ (r : Row) (s' : Sto), f__law_row [.ref l, .int n, .int st, .int base, .int spread, .int most] s = .ok (rowD r) s' ∧ r.no = n ∧ r.stamp = st ∧ base ≤ r.price ∧ r.price < base + spread ∧ 1 ≤ r.left ∧ r.left ≤ most ∧ ShownOk r ∧ r.own ∈ (["ann", "bob", "cat", "dan"] : List Str) ∧ Step l s s' := by
  obtain ⟨v1, s1, e1, a1, b1, c1, _⟩ := digit_ok (m := 4) h (by omega) (by omega)
  obtain ⟨v2, s2, e2, a2, b2, c2, _⟩ := digit_ok (m := 2) c1.tape (by omega) (by omega)
  obtain ⟨v3, s3, e3, a3, b3, c3, _⟩ := digit_ok (m := spread) c2.tape (by omega) (by omega)
  obtain ⟨v4, s4, e4, a4, b4, c4, _⟩ := digit_ok (m := most) c3.tape (by omega) (by omega)
  obtain ⟨v5, s5, e5, a5, b5, c5, _⟩ := digit_ok (m := 3) c4.tape (by omega) (by omega)
  have own : ∃ o : Str, o ∈ (["ann", "bob", "cat", "dan"] : List Str) ∧ itemAt [.str "ann", .str "bob", .str "cat", .str "dan"] v1 = some (.str o) := by
    rcases four a1 b1 with rfl | rfl | rfl | rfl
    · exact ⟨_, by simp, itemAt_0 _ _⟩
    · exact ⟨_, by simp, itemAt_1 _ _ _⟩
    · exact ⟨_, by simp, itemAt_2 _ _ _ _⟩
    · exact ⟨_, by simp, itemAt_3 _ _ _ _ _⟩
  have side : ∃ b : Bool, itemAt [.str "buy", .str "sell"] v2 = some (.str (sideS b)) := by
    have : v2 = 0 ∨ v2 = 1 := by omega
    rcases this with rfl | rfl
    · exact ⟨true, itemAt_0 _ _⟩
    · exact ⟨false, itemAt_1 _ _ _⟩
  obtain ⟨o, ho, io⟩ := own
  obtain ⟨b, ib⟩ := side
  by_cases hz : v5 = 0
  · obtain ⟨v6, s6, e6, a6, b6, c6, _⟩ := digit_ok (m := most) c5.tape (by omega) (by omega)
    have sh0 : ∃ sh : Int, (if (1 + v4 + 19) / 20 + v6 < 1000000000 then (1 + v4 + 19) / 20 + v6 else 1000000000) = sh ∧ 1 ≤ sh ∧ sh ≤ 1000000000 ∧ 1 + v4 ≤ 20 * sh := by
      refine ⟨_, rfl, ?_, ?_, ?_⟩ <;> (split <;> omega)
    obtain ⟨sh, esh, p1, p2, p3⟩ := sh0
    have mn : ∃ mm : Int, (if 1 + v4 < sh then 1 + v4 else sh) = mm ∧ 1 ≤ mm ∧ mm ≤ sh ∧ mm ≤ 1 + v4 := by
      refine ⟨_, rfl, ?_, ?_, ?_⟩ <;> (split <;> omega)
    obtain ⟨mm, emm, q1, q2, q3⟩ := mn
    obtain ⟨v7, s7, e7, a7, b7, c7, _⟩ := digit_ok (m := mm) c6.tape (by omega) (by omega)
    refine ⟨⟨n, o, b, base + v3, some sh, 1 + v4, 1 + v7, st⟩, s7, ?_, rfl, rfl, by show base ≤ base + v3; omega, by show base + v3 < _; omega, by show 1 ≤ 1 + v4; omega, by show 1 + v4 ≤ _; omega, ⟨p1, p2, p3, by show 1 ≤ 1 + v7; omega, by show 1 + v7 ≤ sh; omega, by show 1 + v7 ≤ 1 + v4; omega⟩, ho, (((((c1.trans c2).trans c3).trans c4).trans c5).trans c6).trans c7⟩
    subst hz
    simp [f__law_row, fnSem, b__law_row, e1, e2, e3, e4, e5, e6, e7, io, ib, rowD, shD, szl, esh, emm, show Nat.log2 20 < 9000 by decide]
  · refine ⟨⟨n, o, b, base + v3, none, 1 + v4, 1 + v4, st⟩, s5, ?_, rfl, rfl, by show base ≤ base + v3; omega, by show base + v3 < _; omega, by show 1 ≤ 1 + v4; omega, by show 1 + v4 ≤ _; omega, rfl, ho, (((c1.trans c2).trans c3).trans c4).trans c5⟩
    simp [f__law_row, fnSem, b__law_row, e1, e2, e3, e4, e5, hz, io, ib, rowD, shD, szl]
structure RowOk (r : Row) : Prop where
  p0 : 1 ≤ r.price
  p1 : r.price ≤ 1000000
  l0 : 1 ≤ r.left
  l1 : r.left ≤ 1000000000
  sh : ShownOk r
  own : r.own ∈ (["ann", "bob", "cat", "dan"] : List Str)
structure RowsOk (n : Nat) (rows : List Row) : Prop where
  row : ∀ r ∈ rows, RowOk r
  len : rows.length ≤ n
  nos : (rows.map Row.no).Nodup
  sts : (rows.map Row.stamp).Nodup
  no0 : ∀ r ∈ rows, 0 ≤ r.no ∧ r.no < n + 2
  st0 : ∀ r ∈ rows, 0 ≤ r.stamp ∧ r.stamp < n + 3
theorem rng_nodup (m : Int) : (rng m).Nodup := by
  unfold rng
  unfold List.Nodup
  rw [List.pairwise_map]
  exact (show (List.range m.toNat).Nodup from List.nodup_range).imp fun h e => h (by exact_mod_cast e)
theorem rng_mem {m x : Int} (h : x ∈ rng m) : 0 ≤ x ∧ x < m := by
  unfold rng at h
  obtain ⟨i, hi, rfl⟩ := List.mem_map.mp h
  have := List.mem_range.mp hi
  omega
theorem six {v : Int} (h0 : 0 ≤ v) (h : v < 6) : v = 0 ∨ v = 1 ∨ v = 2 ∨ v = 3 ∨ v = 4 ∨ v = 5 := by omega
theorem rows_ok {s : Sto} {l : Nat} {mr : Nat} (h : Tape s l) (hm : mr ≤ 100) : ∃ (rows : List Row) (s' : Sto), f__law_rows [.ref l, .int mr] s = .ok (.cl (rows.map rowD)) s' ∧ RowsOk mr rows ∧ Step l s s' := by
  obtain ⟨many, s1, e1, a1, b1, c1, _⟩ := digit_ok (m := (mr : Int) + 1) h (by omega) (by omega)
  obtain ⟨v2, s2, e2, a2, b2, c2, _⟩ := digit_ok (m := 6) c1.tape (by omega) (by omega)
  have sp : ∃ p : Int, 1 ≤ p ∧ p ≤ 1000000 ∧ itemAt [.int 6, .int 3, .int 1, .int 30, .int 1000, .int 1000000] v2 = some (.int p) := by
    rcases six a2 b2 with rfl | rfl | rfl | rfl | rfl | rfl
    · exact ⟨_, by decide, by decide, itemAt_0 _ _⟩
    · exact ⟨_, by decide, by decide, itemAt_1 _ _ _⟩
    · exact ⟨_, by decide, by decide, itemAt_2 _ _ _ _⟩
    · exact ⟨_, by decide, by decide, itemAt_3 _ _ _ _ _⟩
    · exact ⟨_, by decide, by decide, itemAt_4 _ _ _ _ _ _⟩
    · exact ⟨_, by decide, by decide, itemAt_5 _ _ _ _ _ _ _⟩
  obtain ⟨spread, sp0, sp1, isp⟩ := sp
  obtain ⟨v3, s3, e3, a3, b3, c3, _⟩ := digit_ok (m := 1000001 - spread) c2.tape (by omega) (by omega)
  obtain ⟨v4, s4, e4, a4, b4, c4, _⟩ := digit_ok (m := 4) c3.tape (by omega) (by omega)
  have ms : ∃ p : Int, 1 ≤ p ∧ p ≤ 1000000000 ∧ itemAt [.int 5, .int 3, .int 40, .int 1000000000] v4 = some (.int p) := by
    rcases four a4 b4 with rfl | rfl | rfl | rfl
    · exact ⟨_, by decide, by decide, itemAt_0 _ _⟩
    · exact ⟨_, by decide, by decide, itemAt_1 _ _ _⟩
    · exact ⟨_, by decide, by decide, itemAt_2 _ _ _ _⟩
    · exact ⟨_, by decide, by decide, itemAt_3 _ _ _ _ _⟩
  obtain ⟨most, ms0, ms1, ims⟩ := ms
  obtain ⟨σ, s5, e5, p5, c5⟩ := drawn_ok (m := many + 2) c4.tape (by omega) (by omega)
  obtain ⟨τ, s6, e6, p6, c6⟩ := drawn_ok (m := many + 3) c5.tape (by omega) (by omega)
  have lσ : σ.length = (many + 2).toNat := by rw [p5.length_eq, rng_len]
  have lτ : τ.length = (many + 3).toNat := by rw [p6.length_eq, rng_len]
  have key := lcIts_ok (turn := lcTurn (Tn.nm 8).tg tYes e__law_rows_1
      [some (.ref l), some (.int mr), some (.int many), some (.int spread), some (.int (1 + v3)), some (.int most), some (.cl (σ.map D.int)), some (.cl (τ.map D.int)), none])
    (fun i acc s' => ∃ rows : List Row, acc = rows.map rowD ∧ rows.map Row.no = σ.take i ∧ rows.map Row.stamp = τ.take i ∧ (∀ r ∈ rows, RowOk r) ∧ Step l s6 s')
    ((rng many).map D.int) 0 [] s6 (fun i d acc s' hi ⟨rows, r1, r2, r3, r4, r5⟩ => ?_) ⟨[], rfl, by simp, by simp, by simp, Step.refl c6.tape⟩
  · obtain ⟨out, s7, k1, rows, k2, k3, k4, k5, k6⟩ := key
    rw [List.length_map, rng_len, Nat.zero_add] at k3 k4
    have hlen : rows.length = many.toNat := by
      have := congrArg List.length k3
      rw [List.length_map, List.length_take, lσ] at this
      omega
    refine ⟨rows, s7, ?_, ⟨k5, by omega, ?_, ?_, fun r hr => ?_, fun r hr => ?_⟩, (((((c1.trans c2).trans c3).trans c4).trans c5).trans c6).trans k6⟩
    · have it : (iRange1 (aCons (eVar 2) aNil)) [some (.ref l), some (.int mr), some (.int many), some (.int spread), some (.int (1 + v3)), some (.int most), some (.cl (σ.map D.int)), some (.cl (τ.map D.int)), none] s6 = .ok (.its ((rng many).map D.int)) s6 := by
        simp [ev_range a1 (show many ≤ 1000 by omega), rngD_eq]
      have lc := lcC_its (vs := [8]) it k1
      simp [f__law_rows, fnSem, b__law_rows, e1, e2, e3, e4, e5, e6, isp, ims, szl]
      simp at lc
      rw [lc, k2]
      rfl
    · rw [k3]
      exact ((p5.nodup_iff.mpr (rng_nodup _)).sublist (List.take_sublist _ _))
    · rw [k4]
      exact ((p6.nodup_iff.mpr (rng_nodup _)).sublist (List.take_sublist _ _))
    · have hm1 : r.no ∈ σ := List.mem_of_mem_take (by rw [← k3]; exact List.mem_map.mpr ⟨r, hr, rfl⟩)
      have := rng_mem (p5.mem_iff.mp hm1)
      omega
    · have hm1 : r.stamp ∈ τ := List.mem_of_mem_take (by rw [← k4]; exact List.mem_map.mpr ⟨r, hr, rfl⟩)
      have := rng_mem (p6.mem_iff.mp hm1)
      omega
  · have hi' : i < many.toNat := by
      have := (List.getElem?_eq_some_iff.mp hi).1
      rwa [List.length_map, rng_len] at this
    have hd : d = .int (i : Int) := by
      have q := hi
      unfold rng at q
      rw [List.map_map, List.getElem?_map, List.getElem?_range hi'] at q
      cases q
      rfl
    subst hd
    have hσ : i < σ.length := by omega
    have hτ : i < τ.length := by omega
    have iσ : itemAt (σ.map D.int) (i : Int) = some (.int σ[i]) := by
      rw [itemAt_nat, List.getElem?_map, List.getElem?_eq_getElem hσ]
      rfl
    have iτ : itemAt (τ.map D.int) (i : Int) = some (.int τ[i]) := by
      rw [itemAt_nat, List.getElem?_map, List.getElem?_eq_getElem hτ]
      rfl
    obtain ⟨r, s7, k1, k2, k3, k4, k5, k6, k7, k8, k9, k10⟩ := row_ok (n := σ[i]) (st := τ[i]) (base := 1 + v3) (spread := spread) (most := most) r5.tape sp0 sp1 ms0 ms1
    refine ⟨acc ++ [rowD r], s7, ?_, rows ++ [r], by rw [r1]; simp, ?_, ?_, ?_, r5.trans k10⟩
    · rw [lcTurn_yes (ρ1 := [some (.ref l), some (.int mr), some (.int many), some (.int spread), some (.int (1 + v3)), some (.int most), some (.cl (σ.map D.int)), some (.cl (τ.map D.int)), some (.int (i : Int))]) rfl]
      simp [e__law_rows_1, iσ, iτ, k1]
    · rw [List.map_append, r2, Nat.zero_add, List.take_add_one, List.getElem?_eq_getElem hσ, ← k2]
      rfl
    · rw [List.map_append, r3, Nat.zero_add, List.take_add_one, List.getElem?_eq_getElem hτ, ← k3]
      rfl
    · intro x hx
      rcases List.mem_append.mp hx with hx | hx
      · exact r4 x hx
      · rw [List.mem_singleton.mp hx]
        exact ⟨by omega, by omega, k6, by omega, k8, k9⟩
end Rh
end

section
set_option Elab.async false
set_option linter.all false
set_option maxRecDepth 100000
set_option maxHeartbeats 4000000
/-! k41: the tape, rows of few prices. -/
namespace Rh
open PySem
theorem itemI {ns : List Int} {i : Nat} {n : Int} (h : ns[i]? = some n) : itemAt (ns.map D.int) (i : Int) = some (.int n) := by
  rw [itemAt_nat, List.getElem?_map, h]
  rfl
theorem tape_in {s : Sto} {ds : List D} {i v c : Int} (hlt : i < (ds.length : Int)) (it : itemAt ds i = some (.int v)) (hc : (if v < 0 then -v else v) = c) (m1 : mulOk i 7919) :
    f__law_tape [.fz ds, .int i] s = .ok (.ref s.length) (s ++ [.lst [.int c, .int ((i * 7919 + c) % 998244353 + 1)]]) := by
  simp [f__law_tape, fnSem, b__law_tape, hlt, it, hc, m1, szl]
theorem tape_out {s : Sto} {ds : List D} {i : Int} (hlt : ¬ i < (ds.length : Int)) (m1 : mulOk i 7919) :
    f__law_tape [.fz ds, .int i] s = .ok (.ref s.length) (s ++ [.lst [.int 0, .int ((i * 7919 + 0) % 998244353 + 1)]]) := by
  simp [f__law_tape, fnSem, b__law_tape, hlt, m1, szl]
theorem mod_pos (x : Int) : 0 ≤ x % 998244353 + 1 := by
  have := Int.emod_nonneg x (show (998244353 : Int) ≠ 0 by decide)
  generalize x % 998244353 = y at this
  omega
theorem tape_new {s : Sto} {c d : Int} (c0 : 0 ≤ c) (d0 : 0 ≤ d) : Tape (s ++ [.lst [.int c, .int d]]) s.length := ⟨c, d, c0, d0, by simp⟩
theorem tape_ok {s : Sto} {ns : List Int} {i : Nat} (hi : i ≤ 100) : ∃ s' o, f__law_tape [.fz (ns.map D.int), .int (i : Int)] s = .ok (.ref s.length) s' ∧ Tape s' s.length ∧ s' = s ++ [o] := by
  have m1 : mulOk (i : Int) 7919 := mulOk_small' (by omega)
  by_cases h : i < ns.length
  · have hlt : (i : Int) < ((ns.map D.int).length : Int) := by rw [List.length_map]; omega
    have hc : ∃ c : Int, (if ns[i] < 0 then -ns[i] else ns[i]) = c ∧ 0 ≤ c := ⟨_, rfl, by split <;> omega⟩
    obtain ⟨c, hc, c0⟩ := hc
    exact ⟨_, _, tape_in hlt (itemI (List.getElem?_eq_getElem h)) hc m1, tape_new c0 (mod_pos _), rfl⟩
  · have hlt : ¬ (i : Int) < ((ns.map D.int).length : Int) := by rw [List.length_map]; omega
    exact ⟨_, _, tape_out hlt m1, tape_new (by decide) (mod_pos _), rfl⟩
/-- rows of few prices: what is asked of rows holds of them, too -/
theorem close_ok {s : Sto} {l : Nat} (h : Tape s l) : ∃ (rows : List Row) (s' : Sto), f__law_close_rows [.ref l] s = .ok (.ref s.length) s' ∧ s'[s.length]? = some (.lst (rows.map rowD)) ∧ RowsOk 14 rows ∧ Step l s s' := by
  have hl := h.lt
  obtain ⟨v, s1, e1, a1, b1, c1, d1⟩ := digit_ok (m := 9) (Step.app h (.lst [])).tape (by omega) (by omega)
  have c1' : Step l s s1 := (Step.app h (.lst [])).trans c1
  have hL1 : s1[s.length]? = some (.lst []) := by
    rw [c1.same s.length (by omega) (by simp)]
    simp
  have hlen1 : s.length < s1.length := by rw [d1]; simp
  have it : (iRange1 (aCons (eBin (opAdd true) (eC (.int 2)) (eArg f__law_digit (aCons (eVar 0) (aCons (eC (.int 9)) aNil)))) aNil)) [some (.ref l), some (.ref s.length), none, none, none] (s ++ [.lst []]) = .ok (.its ((rng (2 + v)).map D.int)) s1 := by
    simp [e1, ev_range (show 0 ≤ 2 + v by omega) (show 2 + v ≤ 1000 by omega), rngD_eq]
  have key := forIts_ok (body := thenG (Tn.nm 2).tg w__law_close_rows_1)
    (fun i ρ s' => ∃ (rows : List Row) (x y z : Option D), ρ = [some (.ref l), some (.ref s.length), x, y, z] ∧ s'[s.length]? = some (.lst (rows.map rowD)) ∧ rows.map Row.no = (List.range i).map (fun (k : Nat) => (k : Int)) ∧ rows.map Row.stamp = (List.range i).map (fun (k : Nat) => (k : Int)) ∧ (∀ r ∈ rows, RowOk r) ∧ Step l s s' ∧ s.length < s'.length)
    ((rng (2 + v)).map D.int) 0 [some (.ref l), some (.ref s.length), none, none, none] s1 (fun i d ρ s' hi ⟨rows, x, y, z, r0, r1, r2, r3, r4, r5, r6⟩ => ?_) ⟨[], none, none, none, rfl, hL1, rfl, rfl, by simp, c1', hlen1⟩
  · obtain ⟨ρ', s', k1, rows, x, y, z, k0, k2, k3, k4, k5, k6, k7⟩ := key
    rw [List.length_map, rng_len, Nat.zero_add] at k3 k4
    have hlen : rows.length = (2 + v).toNat := by
      have := congrArg List.length k3
      simpa using this
    have nd : ((List.range (2 + v).toNat).map fun (k : Nat) => (k : Int)).Nodup := rng_nodup (2 + v)
    have bd : ∀ x ∈ (List.range (2 + v).toNat).map (fun (k : Nat) => (k : Int)), 0 ≤ x ∧ x < 2 + v := fun x hx => rng_mem (m := 2 + v) hx
    refine ⟨rows, s', ?_, k2, ⟨k5, by omega, by rw [k3]; exact nd, by rw [k4]; exact nd, fun r hr => ?_, fun r hr => ?_⟩, k6⟩
    · have fr := sFor_its (g := (Tn.nm 2).tg) (b := w__law_close_rows_1) it
      rw [k1] at fr
      simp [f__law_close_rows, fnSem, b__law_close_rows, szl]
      simp at fr
      rw [fr]
      subst k0
      simp
    · have := bd r.no (by rw [← k3]; exact List.mem_map.mpr ⟨r, hr, rfl⟩)
      omega
    · have := bd r.stamp (by rw [← k4]; exact List.mem_map.mpr ⟨r, hr, rfl⟩)
      omega
  · have hi' : i < (2 + v).toNat := by
      have := (List.getElem?_eq_some_iff.mp hi).1
      rwa [List.length_map, rng_len] at this
    have hd : d = .int (i : Int) := by
      have q := hi
      unfold rng at q
      rw [List.map_map, List.getElem?_map, List.getElem?_range hi'] at q
      cases q
      rfl
    subst hd
    obtain ⟨v1, t1, f1, g1, h1, i1, _⟩ := digit_ok (m := 2) r5.tape (by omega) (by omega)
    obtain ⟨v2, t2, f2, g2, h2, i2, _⟩ := digit_ok (m := 3) i1.tape (by omega) (by omega)
    obtain ⟨v3, t3, f3, g3, h3, i3, j3⟩ := digit_ok (m := 6) i2.tape (by omega) (by omega)
    have side : ∃ b : Bool, itemAt [.str "buy", .str "sell"] v1 = some (.str (sideS b)) := by
      have : v1 = 0 ∨ v1 = 1 := by omega
      rcases this with rfl | rfl
      · exact ⟨true, itemAt_0 _ _⟩
      · exact ⟨false, itemAt_1 _ _ _⟩
    obtain ⟨b, ib⟩ := side
    have i13 := (i1.trans i2).trans i3
    have lt3 : s.length < t3.length := Nat.lt_of_lt_of_le r6 i13.len
    have h3' : t3[s.length]? = some (.lst (rows.map rowD)) := by
      rw [i13.same s.length (by omega) r6]
      exact r1
    have h2' : t2[s.length]? = some (.lst (rows.map rowD)) := by
      rw [(i1.trans i2).same s.length (by omega) r6]
      exact r1
    have hrl : rows.length = i := by
      have := congrArg List.length r2
      simpa using this
    have ap := append_ok (d := rowD ⟨i, "ann", b, 5 + v3, none, 1 + v2, 1 + v2, i⟩) h3' (by rw [List.length_map]; omega)
    have il := isLst_ref h2'
    refine ⟨_, t3.set s.length (.lst (rows.map rowD ++ [rowD ⟨i, "ann", b, 5 + v3, none, 1 + v2, 1 + v2, i⟩])), .inl ?_, rows ++ [⟨i, "ann", b, 5 + v3, none, 1 + v2, 1 + v2, i⟩], some (.int (i : Int)), some (.str (sideS b)), some (.int (1 + v2)), rfl, ?_, ?_, ?_, ?_, ?_, ?_⟩
    · subst r0
      have ap : mAppend (.ref s.length) [.tup [.int (i : Int), .str "ann", .str (sideS b), .int (5 + v3), .non, .int (1 + v2), .int (1 + v2), .int (i : Int)]] t3 = _ := ap
      simp [thenG, w__law_close_rows_1, f1, f2, f3, ib, il, ap, szl]
    · rw [List.getElem?_set_self lt3]
      simp
    · rw [List.map_append, r2, Nat.zero_add, List.range_succ]
      simp
    · rw [List.map_append, r3, Nat.zero_add, List.range_succ]
      simp
    · intro x hx
      rcases List.mem_append.mp hx with hx | hx
      · exact r4 x hx
      · rw [List.mem_singleton.mp hx]
        exact ⟨by show 1 ≤ 5 + v3; omega, by show 5 + v3 ≤ _; omega, by show 1 ≤ 1 + v2; omega, by show 1 + v2 ≤ _; omega, rfl, by simp⟩
    · exact (r5.trans i13).over (Nat.le_refl _) (by omega) _
    · rw [List.length_set]
      exact lt3
end Rh
end

section
set_option Elab.async false
set_option linter.all false
set_option maxRecDepth 100000
set_option maxHeartbeats 4000000
/-! k41: dealing buys with sells. -/
namespace Rh
open PySem
section
variable (r : Row) (s : Sto)
@[simp] theorem row_0 : anyItem (rowD r) (.int 0) s = .ok (.int r.no) s := rfl
@[simp] theorem row_1 : anyItem (rowD r) (.int 1) s = .ok (.str r.own) s := rfl
@[simp] theorem row_2 : anyItem (rowD r) (.int 2) s = .ok (.str (sideS r.buy)) s := rfl
@[simp] theorem row_3 : anyItem (rowD r) (.int 3) s = .ok (.int r.price) s := rfl
@[simp] theorem row_4 : anyItem (rowD r) (.int 4) s = .ok (shD r.shown) s := rfl
@[simp] theorem row_5 : anyItem (rowD r) (.int 5) s = .ok (.int r.left) s := rfl
@[simp] theorem row_6 : anyItem (rowD r) (.int 6) s = .ok (.int r.seen) s := rfl
@[simp] theorem row_7 : anyItem (rowD r) (.int 7) s = .ok (.int r.stamp) s := rfl
end
theorem ixD {s : Sto} {l : Nat} {kvs : List (Ky × D)} {n : Int} {v : D} (h : s[l]? = some (.dk kvs)) (ha : asc kvs (.inl n) = some v) : anyItem (.ref l) (.int n) s = .ok v s ∧ dItem (.ref l) (.int n) s = .ok v s := by
  have hd : dItem (.ref l) (.int n) s = .ok v s := by
    simp only [dItem, dGet, h, kyOf, Option.map_some, ha]
  refine ⟨?_, hd⟩
  simp only [anyItem, seqOf, lstOf, h]
  exact hd
theorem setD {s : Sto} {l : Nat} {kvs : List (Ky × D)} {n : Int} {v : D} (h : s[l]? = some (.dk kvs)) (hz : kvs.length ≤ 1000) : Rh.setItem (.ref l) (.int n) v s = .ok () (s.set l (.dk (putA kvs (.inl n) v))) := by
  have hz : kvs.length < szl := by unfold szl; omega
  simp only [Rh.setItem, h, dPut, kyOf, if_pos hz]
/-- what is left, by number -/
abbrev Lf := Int → Int
def lkv (rows : List Row) (L : Lf) : List (Ky × D) := rows.map fun r => (.inl r.no, .int (L r.no))
def Lf.set (L : Lf) (n v : Int) : Lf := fun m => if m = n then v else L m
theorem Lf.set_same (L : Lf) (n v : Int) : L.set n v n = v := if_pos rfl
theorem Lf.set_ne (L : Lf) {n m v : Int} (h : m ≠ n) : L.set n v m = L m := if_neg h
theorem asc_lkv {L : Lf} : ∀ {rows : List Row} {r : Row}, r ∈ rows → asc (lkv rows L) (.inl r.no) = some (.int (L r.no))
  | [], _, h => by cases h
  | q :: rows, r, h => by
    show (if (Sum.inl q.no : Ky) = Sum.inl r.no then some (D.int (L q.no)) else asc (lkv rows L) (.inl r.no)) = _
    by_cases e : q.no = r.no
    · rw [if_pos (by rw [e]), e]
    · rw [if_neg (fun z => e (Sum.inl.inj z))]
      rcases List.mem_cons.mp h with q | q
      · exact absurd (by rw [q]) e
      · exact asc_lkv q
theorem put_lkv {L : Lf} {rows : List Row} {r : Row} {v : Int} (h : r ∈ rows) : putA (lkv rows L) (.inl r.no) (.int v) = lkv rows (L.set r.no v) := by
  unfold putA
  rw [if_pos (by
    rw [List.any_eq_true]
    exact ⟨(.inl r.no, .int (L r.no)), List.mem_map.mpr ⟨r, h, rfl⟩, by simp⟩)]
  unfold lkv
  rw [List.map_map]
  refine List.map_congr_left fun q _ => ?_
  show (if (Sum.inl q.no : Ky) = Sum.inl r.no then (Sum.inl q.no, D.int v) else (Sum.inl q.no, D.int (L q.no))) = (Sum.inl q.no, D.int (L.set r.no v q.no))
  by_cases e : q.no = r.no
  · rw [if_pos (by rw [e]), e, Lf.set_same]
  · rw [if_neg (fun z => e (Sum.inl.inj z)), Lf.set_ne L e]
theorem lkv_len (rows : List Row) (L : Lf) : (lkv rows L).length = rows.length := List.length_map _
structure Pair where
  b : Row
  s : Row
  a : Int
def pairD (p : Pair) : D := .tup [.int p.b.no, .int p.s.no, .int p.a]

/-! sums -/
def sumR (rows : List Row) (f : Row → Int) : Int := (rows.map f).sum
def sumP (ps : List Pair) (f : Row → Int) : Int := (ps.map fun p => p.a * (f p.b + f p.s)).sum
theorem sumR_sub (rows : List Row) (f g : Row → Int) : sumR rows (fun r => f r + g r) = sumR rows f + sumR rows g := by
  unfold sumR
  induction rows with
  | nil => rfl
  | cons r rows ih =>
    simp only [List.map_cons, List.sum_cons]
    rw [ih]
    omega
theorem sumR_zero {rows : List Row} {f : Row → Int} (h : ∀ r ∈ rows, f r = 0) : sumR rows f = 0 := by
  unfold sumR
  induction rows with
  | nil => rfl
  | cons r rows ih =>
    simp only [List.map_cons, List.sum_cons]
    rw [ih fun q hq => h q (List.mem_cons_of_mem _ hq), h r List.mem_cons_self]
    rfl
theorem sumR_congr {rows : List Row} {f g : Row → Int} (h : ∀ r ∈ rows, f r = g r) : sumR rows f = sumR rows g := by
  unfold sumR
  rw [List.map_congr_left h]
theorem sumR_pick {rows : List Row} {f : Row → Int} {b : Row} {a : Int} (nd : (rows.map Row.no).Nodup) (hb : b ∈ rows) : sumR rows (fun r => f r * (if r.no = b.no then a else 0)) = f b * a := by
  induction rows with
  | nil => cases hb
  | cons r rows ih =>
    rw [List.map_cons, List.nodup_cons] at nd
    have e1 : sumR (r :: rows) (fun r => f r * (if r.no = b.no then a else 0)) = f r * (if r.no = b.no then a else 0) + sumR rows (fun r => f r * (if r.no = b.no then a else 0)) := by
      unfold sumR
      rw [List.map_cons, List.sum_cons]
    rw [e1]
    rcases List.mem_cons.mp hb with q | q
    · subst q
      rw [if_pos rfl, sumR_zero, Int.add_zero]
      intro x hx
      rw [if_neg (fun e => nd.1 (by rw [← e]; exact List.mem_map.mpr ⟨x, hx, rfl⟩)), Int.mul_zero]
    · rw [if_neg (fun e => nd.1 (by rw [e]; exact List.mem_map.mpr ⟨b, q, rfl⟩)), Int.mul_zero, Int.zero_add]
      exact ih nd.2 q
theorem no_inj {rows : List Row} (nd : (rows.map Row.no).Nodup) {a b : Row} (ha : a ∈ rows) (hb : b ∈ rows) (e : a.no = b.no) : a = b := by
  induction rows with
  | nil => cases ha
  | cons r rows ih =>
    rw [List.map_cons, List.nodup_cons] at nd
    rcases List.mem_cons.mp ha with q | q <;> rcases List.mem_cons.mp hb with p | p
    · rw [q, p]
    · subst q
      exact absurd (by rw [e]; exact List.mem_map.mpr ⟨b, p, rfl⟩) nd.1
    · subst p
      exact absurd (by rw [← e]; exact List.mem_map.mpr ⟨a, q, rfl⟩) nd.1
    · exact ih nd.2 q p

/-! what holds while buys are dealt with sells -/
structure PI (rows buys sells : List Row) (j at_ : Nat) (L : Lf) (ps : List Pair) : Prop where
  nn : ∀ r ∈ rows, 0 ≤ L r.no
  acc : ∀ f : Row → Int, sumR rows (fun r => f r * (r.left - L r.no)) = sumP ps f
  pr : ∀ p ∈ ps, p.b ∈ buys ∧ p.s ∈ sells ∧ p.s.price ≤ p.b.price ∧ 1 ≤ p.a ∧ (L p.b.no = 0 ∨ L p.s.no = 0)
  nd : ps.Pairwise fun p q => ¬ (p.b.no = q.b.no ∧ p.s.no = q.s.no)
  pass : ∀ i b, i < at_ → buys[i]? = some b → L b.no = 0 ∨ ∀ s, sells[j]? = some s → b.price < s.price
  done : ∀ i s, i < j → sells[i]? = some s → L s.no = 0
  old : ∀ p ∈ ps, ∀ b ∈ buys, b.price < p.b.price → L b.no = 0 ∨ b.price < p.s.price
  le : at_ ≤ buys.length
/-- buys and sells of the rows, prices rising -/
structure Sides (rows buys sells : List Row) : Prop where
  nos : (rows.map Row.no).Nodup
  bm : ∀ r, r ∈ buys ↔ r ∈ rows ∧ r.buy = true
  sm : ∀ r, r ∈ sells ↔ r ∈ rows ∧ r.buy = false
  bs : buys.Pairwise fun a b => a.price ≤ b.price
  ss : sells.Pairwise fun a b => a.price ≤ b.price
section
variable {rows buys sells : List Row} {j at_ : Nat} {L : Lf} {ps : List Pair}
theorem pairwise_at {α : Type} {R : α → α → Prop} {l : List α} (h : l.Pairwise R) {i j : Nat} {a b : α} (hij : i < j) (ha : l[i]? = some a) (hb : l[j]? = some b) : R a b := by
  obtain ⟨h1, rfl⟩ := List.getElem?_eq_some_iff.mp ha
  obtain ⟨h2, rfl⟩ := List.getElem?_eq_some_iff.mp hb
  exact List.pairwise_iff_getElem.mp h i j h1 h2 hij
/-- a buy that is passed over -/
theorem PI.skip (h : PI rows buys sells j at_ L ps) {b s : Row} (hb : buys[at_]? = some b) (hs : sells[j]? = some s) (c : b.price < s.price ∨ L b.no = 0) : PI rows buys sells j (at_ + 1) L ps := by
  refine ⟨h.nn, h.acc, h.pr, h.nd, fun i x hi hx => ?_, h.done, h.old, (List.getElem?_eq_some_iff.mp hb).1⟩
  by_cases e : i < at_
  · exact h.pass i x e hx
  · have e : i = at_ := by omega
    rw [e, hb] at hx
    cases hx
    rcases c with c | c
    · refine .inr fun s' hs' => ?_
      rw [hs] at hs'
      cases hs'
      exact c
    · exact .inl c
/-- the next sell -/
theorem PI.next (S : Sides rows buys sells) (h : PI rows buys sells j at_ L ps) {s : Row} (hs : sells[j]? = some s) (c : L s.no = 0) : PI rows buys sells (j + 1) at_ L ps := by
  refine ⟨h.nn, h.acc, h.pr, h.nd, fun i x hi hx => ?_, fun i x hi hx => ?_, h.old, h.le⟩
  · rcases h.pass i x hi hx with q | q
    · exact .inl q
    · refine .inr fun s' hs' => ?_
      exact Int.lt_of_lt_of_le (q s hs) (pairwise_at S.ss (Nat.lt_succ_self j) hs hs')
  · by_cases e : i < j
    · exact h.done i x e hx
    · have e : i = j := by omega
      rw [e, hs] at hx
      cases hx
      exact c
/-- an amount dealt -/
theorem PI.deal (S : Sides rows buys sells) (h : PI rows buys sells j at_ L ps) {b s : Row} {a : Int} (hb : buys[at_]? = some b) (hs : sells[j]? = some s) (hp : s.price ≤ b.price) (a0 : 1 ≤ a) (ab : a ≤ L b.no) (as : a ≤ L s.no) (az : a = L b.no ∨ a = L s.no) :
    PI rows buys sells j at_ ((L.set b.no (L b.no - a)).set s.no (L s.no - a)) (ps ++ [⟨b, s, a⟩]) := by
  have mb := (S.bm b).mp (List.mem_of_getElem? hb)
  have ms := (S.sm s).mp (List.mem_of_getElem? hs)
  have ne : b.no ≠ s.no := fun e => by
    have := no_inj S.nos mb.1 ms.1 e
    rw [this, ms.2] at mb
    cases mb.2
  have val : ∀ n, ((L.set b.no (L b.no - a)).set s.no (L s.no - a)) n = L n - (if n = b.no then a else 0) - (if n = s.no then a else 0) := fun n => by
    by_cases e1 : n = s.no
    · subst e1
      rw [Lf.set_same, if_neg ne.symm, if_pos rfl]
      omega
    · rw [Lf.set_ne _ e1, if_neg e1]
      by_cases e2 : n = b.no
      · subst e2
        rw [Lf.set_same, if_pos rfl]
        omega
      · rw [Lf.set_ne _ e2, if_neg e2]
        omega
  have lo : ∀ n, L n = 0 → 0 ≤ ((L.set b.no (L b.no - a)).set s.no (L s.no - a)) n → ((L.set b.no (L b.no - a)).set s.no (L s.no - a)) n = 0 := fun n z q => by
    rw [val] at q ⊢
    split at q <;> split at q <;> simp_all <;> omega
  have nn : ∀ r ∈ rows, 0 ≤ ((L.set b.no (L b.no - a)).set s.no (L s.no - a)) r.no := fun r hr => by
    have := h.nn r hr
    rw [val]
    by_cases e1 : r.no = b.no
    · rw [if_pos e1, if_neg (fun z => ne (e1.symm.trans z)), e1]
      omega
    · rw [if_neg e1]
      by_cases e2 : r.no = s.no
      · rw [if_pos e2, e2]
        omega
      · rw [if_neg e2]
        omega
  have inB : ∀ x ∈ buys, x ∈ rows := fun x hx => ((S.bm x).mp hx).1
  have inS : ∀ x ∈ sells, x ∈ rows := fun x hx => ((S.sm x).mp hx).1
  refine ⟨nn, fun f => ?_, fun p hp' => ?_, ?_, fun i x hi hx => ?_, fun i x hi hx => ?_, fun p hp' x hx hlt => ?_, h.le⟩
  · have e1 : sumR rows (fun r => f r * (r.left - ((L.set b.no (L b.no - a)).set s.no (L s.no - a)) r.no)) = sumR rows (fun r => f r * (r.left - L r.no)) + (f b * a + f s * a) := by
      rw [← sumR_pick (f := f) (a := a) S.nos mb.1, ← sumR_pick (f := f) (a := a) S.nos ms.1, ← sumR_sub, ← sumR_sub]
      refine sumR_congr fun r _ => ?_
      rw [val, ← Int.mul_add, ← Int.mul_add]
      congr 1
      omega
    rw [e1, h.acc f]
    unfold sumP
    rw [List.map_append, List.sum_append]
    simp only [List.map_cons, List.map_nil, List.sum_cons, List.sum_nil]
    rw [Int.mul_add, Int.mul_comm a, Int.mul_comm a]
    omega
  · rcases List.mem_append.mp hp' with q | q
    · obtain ⟨h1, h2, h3, h4, h5⟩ := h.pr p q
      refine ⟨h1, h2, h3, h4, ?_⟩
      rcases h5 with z | z
      · exact .inl (lo _ z (nn _ (inB _ h1)))
      · exact .inr (lo _ z (nn _ (inS _ h2)))
    · rw [List.mem_singleton.mp q]
      refine ⟨List.mem_of_getElem? hb, List.mem_of_getElem? hs, hp, a0, ?_⟩
      rcases az with z | z
      · left
        show ((L.set b.no (L b.no - a)).set s.no (L s.no - a)) b.no = 0
        rw [val, if_pos rfl, if_neg ne]
        omega
      · right
        show ((L.set b.no (L b.no - a)).set s.no (L s.no - a)) s.no = 0
        rw [val, if_neg ne.symm, if_pos rfl]
        omega
  · rw [List.pairwise_append]
    refine ⟨h.nd, List.pairwise_singleton _ _, fun p hp' q hq e => ?_⟩
    rw [List.mem_singleton.mp hq] at e
    obtain ⟨h1, h2, h3, h4, h5⟩ := h.pr p hp'
    dsimp only at e
    rcases h5 with z | z
    · rw [e.1] at z
      omega
    · rw [e.2] at z
      omega
  · rcases h.pass i x hi hx with q | q
    · exact .inl (lo _ q (nn _ (inB _ (List.mem_of_getElem? hx))))
    · exact .inr q
  · exact lo _ (h.done i x hi hx) (nn _ (inS _ (List.mem_of_getElem? hx)))
  · rcases List.mem_append.mp hp' with q | q
    · rcases h.old p q x hx hlt with z | z
      · exact .inl (lo _ z (nn _ (inB _ hx)))
      · exact .inr z
    · rw [List.mem_singleton.mp q] at hlt ⊢
      obtain ⟨i, hi⟩ := List.mem_iff_getElem?.mp hx
      have hia : i < at_ := by
        rcases Nat.lt_trichotomy i at_ with z | z | z
        · exact z
        · rw [z, hb] at hi
          cases hi
          exact absurd hlt (Int.lt_irrefl _)
        · have := pairwise_at S.bs z hb hi
          dsimp only at hlt
          omega
      rcases h.pass i x hia hi with z | z
      · exact .inl (lo _ z (nn _ (inB _ hx)))
      · exact .inr (z s hs)
end
end Rh
end

section
set_option Elab.async false
set_option linter.all false
set_option maxRecDepth 100000
set_option maxHeartbeats 4000000
/-! k41: what is due at the cut is what was dealt. -/
namespace Rh
open PySem
def due (cut : Int) (r : Row) : Bool := decide (cut < r.price) == r.buy
def total (ps : List Pair) : Int := (ps.map Pair.a).sum
def dueSum (cut : Int) (rows : List Row) : Int := sumR rows fun r => if due cut r then r.left else 0
section
variable {rows buys sells : List Row} {j at_ : Nat} {L : Lf} {ps : List Pair}
theorem due_ok (S : Sides rows buys sells) (h : PI rows buys sells j at_ L ps) {cut : Int} (h1 : ∀ p ∈ ps, (cut < p.b.price ∧ cut < p.s.price) ∨ (p.b.price ≤ cut ∧ p.s.price ≤ cut)) (h2 : ∀ r ∈ rows, due cut r = true → L r.no = 0) : dueSum cut rows = total ps := by
  have e := h.acc fun r => if due cut r then 1 else 0
  have e1 : sumR rows (fun r => (if due cut r then 1 else 0) * (r.left - L r.no)) = dueSum cut rows := by
    refine sumR_congr fun r hr => ?_
    by_cases c : due cut r = true
    · rw [if_pos c, if_pos c, h2 r hr c]
      omega
    · rw [if_neg c, if_neg c]
      omega
  rw [← e1, e]
  unfold sumP total
  congr 1
  refine List.map_congr_left fun p hp => ?_
  obtain ⟨b1, b2, _, _, _⟩ := h.pr p hp
  have q1 := ((S.bm p.b).mp b1).2
  have q2 := ((S.sm p.s).mp b2).2
  have : (if due cut p.b = true then (1 : Int) else 0) + (if due cut p.s = true then 1 else 0) = 1 := by
    unfold due
    rw [q1, q2]
    rcases h1 p hp with ⟨c1, c2⟩ | ⟨c1, c2⟩
    · rw [decide_eq_true c1, decide_eq_true c2]
      rfl
    · rw [decide_eq_false (by omega), decide_eq_false (by omega)]
      rfl
  rw [this, Int.mul_one]
/-- all sells are done -/
theorem end_all (S : Sides rows buys sells) (h : PI rows buys sells sells.length at_ L ps) (hp : ∀ r ∈ rows, r.price ≤ 1000000) : dueSum 1000000 rows = total ps := by
  refine due_ok S h (fun p hq => ?_) fun r hr c => ?_
  · obtain ⟨b1, b2, _, _, _⟩ := h.pr p hq
    exact .inr ⟨hp _ ((S.bm _).mp b1).1, hp _ ((S.sm _).mp b2).1⟩
  · have := hp r hr
    unfold due at c
    rw [decide_eq_false (by omega)] at c
    have hb : r.buy = false := by
      cases q : r.buy
      · rfl
      · rw [q] at c; cases c
    obtain ⟨i, hi⟩ := List.mem_iff_getElem?.mp ((S.sm r).mpr ⟨hr, hb⟩)
    exact h.done i r (List.getElem?_eq_some_iff.mp hi).1 hi
/-- a sell has something left that no buy takes -/
theorem end_cut (S : Sides rows buys sells) (h : PI rows buys sells j buys.length L ps) (hp : ∀ r ∈ rows, 1 ≤ r.price) {s : Row} (hs : sells[j]? = some s) {cut : Int} (c1 : ∀ b ∈ buys, L b.no ≠ 0 → b.price ≤ cut) (c2 : cut = 0 ∨ ∃ b ∈ buys, L b.no ≠ 0 ∧ b.price = cut) :
    dueSum cut rows = total ps := by
  refine due_ok S h (fun p hq => ?_) fun r hr c => ?_
  · obtain ⟨b1, b2, b3, _, _⟩ := h.pr p hq
    by_cases q : cut < p.b.price
    · refine .inl ⟨q, ?_⟩
      rcases c2 with z | ⟨b, z1, z2, z3⟩
      · have := hp _ ((S.sm _).mp b2).1
        omega
      · rcases h.old p hq b z1 (by omega) with y | y
        · exact absurd y z2
        · omega
    · exact .inr ⟨by omega, by omega⟩
  · cases q : r.buy with
    | true =>
      unfold due at c
      rw [q] at c
      have hc : cut < r.price := by simpa using c
      refine Classical.byContradiction fun z => ?_
      have := c1 r ((S.bm r).mpr ⟨hr, q⟩) z
      omega
    | false =>
      unfold due at c
      rw [q] at c
      have hc : r.price ≤ cut := by
        have : ¬ cut < r.price := by simpa using c
        omega
      have cs : cut < s.price := by
        rcases c2 with z | ⟨b, z1, z2, z3⟩
        · have := hp _ ((S.sm _).mp (List.mem_of_getElem? hs)).1
          omega
        · obtain ⟨i, hi⟩ := List.mem_iff_getElem?.mp z1
          rcases h.pass i b (List.getElem?_eq_some_iff.mp hi).1 hi with y | y
          · exact absurd y z2
          · have := y s hs
            omega
      obtain ⟨i, hi⟩ := List.mem_iff_getElem?.mp ((S.sm r).mpr ⟨hr, q⟩)
      rcases Nat.lt_trichotomy i j with z | z | z
      · exact h.done i r z hi
      · rw [z, hs] at hi
        cases hi
        omega
      · have := pairwise_at S.ss z hs hi
        omega
end
/-- what a run of paired_off tells -/
structure PairsOk (rows : List Row) (cut : Int) (ps : List Pair) : Prop where
  c0 : 0 ≤ cut
  c1 : cut ≤ 1000000
  due : dueSum cut rows = total ps
  pr : ∀ p ∈ ps, p.b ∈ rows ∧ p.b.buy = true ∧ p.s ∈ rows ∧ p.s.buy = false ∧ p.s.price ≤ p.b.price ∧ 1 ≤ p.a
  nd : ps.Pairwise fun p q => ¬ (p.b.no = q.b.no ∧ p.s.no = q.s.no)
  sp : ∀ r ∈ rows, (ps.map fun p => p.a * ((if p.b.no = r.no then 1 else 0) + (if p.s.no = r.no then 1 else 0))).sum ≤ r.left
theorem pairs_of {rows buys sells : List Row} {j at_ : Nat} {L : Lf} {ps : List Pair} {cut : Int} (S : Sides rows buys sells) (h : PI rows buys sells j at_ L ps) (c0 : 0 ≤ cut) (c1 : cut ≤ 1000000) (hd : dueSum cut rows = total ps) : PairsOk rows cut ps := by
  refine ⟨c0, c1, hd, fun p hp => ?_, h.nd, fun r hr => ?_⟩
  · obtain ⟨b1, b2, b3, b4, _⟩ := h.pr p hp
    exact ⟨((S.bm _).mp b1).1, ((S.bm _).mp b1).2, ((S.sm _).mp b2).1, ((S.sm _).mp b2).2, b3, b4⟩
  · have e := h.acc fun q => if q.no = r.no then 1 else 0
    have e1 : sumR rows (fun q => (if q.no = r.no then 1 else 0) * (q.left - L q.no)) = r.left - L r.no := by
      have e2 := sumR_pick (f := fun q => q.left - L q.no) (a := 1) S.nos hr
      rw [Int.mul_one] at e2
      rw [← e2]
      exact sumR_congr fun q _ => Int.mul_comm _ _
    rw [e1] at e
    have := h.nn r hr
    have e3 : (ps.map fun p => p.a * ((if p.b.no = r.no then 1 else 0) + (if p.s.no = r.no then 1 else 0))).sum = sumP ps fun q => if q.no = r.no then 1 else 0 := rfl
    rw [e3, ← e]
    omega
end Rh
end

section
set_option Elab.async false
set_option linter.all false
set_option maxRecDepth 100000
set_option maxHeartbeats 4000000
/-! k41: paired_off runs so. -/
namespace Rh
open PySem
theorem side_ne : ¬ (("sell" : Str) = "buy") := by decide +kernel
theorem side_dec (a b : Bool) : decide (sideS a = sideS b) = (a == b) := by
  have h1 := side_ne
  have h2 : ¬ (("buy" : Str) = "sell") := fun e => h1 e.symm
  cases a <;> cases b <;> simp [sideS, h1, h2]
def sideRows (rows : List Row) (b : Bool) : List Row := (rows.filter fun r => r.buy == b).mergeSort fun x y => decide (x.price ≤ y.price)
theorem sort_rows (xs : List Row) : sortK 3 (xs.map rowD) = (xs.mergeSort fun x y => decide (x.price ≤ y.price)).map rowD := by
  unfold sortK
  rw [List.map_mergeSort (s := fun a b => decide (keyI 3 a ≤ keyI 3 b))]
  intro a _ b _
  rfl
theorem raised_ok (rows : List Row) (b : Bool) (s : Sto) : f_raised [.cl (rows.map rowD), .str (sideS b)] s = .ok (.cl ((sideRows rows b).map rowD)) s := by
  have k := lcIts_pure (turn := lcTurn (Tn.nm 2).tg t_raised_1 e_raised_1 [some (.cl (rows.map rowD)), some (.str (sideS b)), none]) (s := s) rowD (fun r => r.buy == b) rowD rows (fun r acc _ => by
    rw [lcTurn_eq (ρ1 := [some (.cl (rows.map rowD)), some (.str (sideS b)), some (rowD r)]) rfl]
    simp only [t_raised_1, e_raised_1, ev_tVal, ev_bin, ev_var, ev_C, List.getElem?_cons_succ, List.getElem?_cons_zero, R.bind_ok, row_2, ev_eqS, ev_truthy, side_dec]
    cases (r.buy == b) <;> rfl) []
  have lc := lcC_its (it := iVal (eVar 0)) (vs := [2]) (ρ := [some (.cl (rows.map rowD)), some (.str (sideS b)), none]) (s := s) (s1 := s) (ds := rows.map rowD) (by simp) k
  have srt : bSortK 3 [.cl ([] ++ (rows.filter fun r => r.buy == b).map rowD)] s = .ok (.cl ((sideRows rows b).map rowD)) s := by
    unfold bSortK
    simp only [lstOf, List.nil_append]
    rw [if_pos, sort_rows]
    · rfl
    · rw [List.all_map, List.all_eq_true]
      intro r _
      rfl
  simp only [f_raised, fnSem, b_raised, List.length_cons, List.length_nil, Nat.zero_add, Nat.reduceAdd, if_true, ev_seq, ev_ret, ev_arg, ev_cons, ev_nil, List.map_cons, List.map_nil, Nat.reduceSub, List.replicate, List.cons_append, List.nil_append]
  rw [lc]
  simp only [R.bind_ok]
  rw [srt]
  rfl
theorem sides_of {rows : List Row} (nd : (rows.map Row.no).Nodup) : Sides rows (sideRows rows true) (sideRows rows false) := by
  have srt : ∀ b, (sideRows rows b).Pairwise fun a b => a.price ≤ b.price := fun b => by
    have := List.pairwise_mergeSort (le := fun x y : Row => decide (x.price ≤ y.price)) (fun a b c h1 h2 => by
      rw [decide_eq_true_eq] at *
      omega) (fun a b => by
      rw [Bool.or_eq_true, decide_eq_true_eq, decide_eq_true_eq]
      omega) (rows.filter fun r => r.buy == b)
    exact this.imp fun h => of_decide_eq_true h
  have mem : ∀ b r, r ∈ sideRows rows b ↔ r ∈ rows ∧ r.buy = b := fun b r => by
    unfold sideRows
    rw [List.mem_mergeSort, List.mem_filter, beq_iff_eq]
  exact ⟨nd, mem true, mem false, srt true, srt false⟩
/-- what is left at first -/
def left0 (rows : List Row) : Lf := fun n => ((rows.find? fun r => r.no == n).map Row.left).getD 0
theorem left0_at {rows : List Row} (nd : (rows.map Row.no).Nodup) {r : Row} (hr : r ∈ rows) : left0 rows r.no = r.left := by
  unfold left0
  cases h : rows.find? fun q => q.no == r.no with
  | none =>
    have := List.find?_eq_none.mp h r hr
    simp at this
  | some q =>
    have h1 := List.find?_some h
    have h2 := List.mem_of_find?_eq_some h
    rw [no_inj nd h2 hr (eq_of_beq h1)]
    rfl
theorem putA_new {kvs : List (Ky × D)} {k : Ky} {v : D} (h : ∀ kv ∈ kvs, kv.1 ≠ k) : putA kvs k v = kvs ++ [(k, v)] := by
  unfold putA
  rw [if_neg]
  intro q
  rw [List.any_eq_true] at q
  obtain ⟨kv, h1, h2⟩ := q
  exact h kv h1 (of_decide_eq_true h2)
theorem dc_rows {turn : D → List (Ky × D) → Sto → R (List (Ky × D))} {s : Sto} {f : Row → Int} : ∀ {rows : List Row} {acc : List (Ky × D)}, (rows.map Row.no).Nodup → (∀ r ∈ rows, ∀ kv ∈ acc, kv.1 ≠ .inl r.no) → (∀ r ∈ rows, ∀ acc, turn (rowD r) acc s = .ok (putA acc (.inl r.no) (.int (f r))) s) →
    dcIts turn (rows.map rowD) acc s = .ok (acc ++ rows.map fun r => (.inl r.no, .int (f r))) s
  | [], acc, _, _, _ => by simp [dcIts]
  | r :: rows, acc, nd, ha, ht => by
    rw [List.map_cons, List.nodup_cons] at nd
    rw [List.map_cons, dcIts, ht r List.mem_cons_self acc, putA_new (ha r List.mem_cons_self)]
    show dcIts turn (rows.map rowD) (acc ++ [(.inl r.no, .int (f r))]) s = _
    rw [dc_rows nd.2 (fun q hq kv hkv => ?_) fun q hq => ht q (List.mem_cons_of_mem _ hq)]
    · simp
    · rcases List.mem_append.mp hkv with z | z
      · exact ha q (List.mem_cons_of_mem _ hq) kv z
      · rw [List.mem_singleton.mp z]
        intro e
        have e : r.no = q.no := Sum.inl.inj e
        exact nd.1 (by rw [e]; exact List.mem_map.mpr ⟨q, hq, rfl⟩)
theorem forIts_brk {body : D → Es} (Inv : Nat → En → Sto → Prop) (Fin : En → Sto → Prop) : ∀ (ds : List D) (k : Nat) (ρ : En) (s : Sto), (∀ i d ρ s, ds[i]? = some d → Inv (k + i) ρ s → ∃ ρ' s', (body d ρ s = .nx ρ' s' ∧ Inv (k + i + 1) ρ' s') ∨ (body d ρ s = .bk ρ' s' ∧ Fin ρ' s')) → Inv k ρ s →
    ∃ ρ' s', forIts body ds ρ s = .nx ρ' s' ∧ (Inv (k + ds.length) ρ' s' ∨ Fin ρ' s')
  | [], k, ρ, s, _, h => ⟨ρ, s, rfl, .inl h⟩
  | d :: ds, k, ρ, s, st, h => by
    obtain ⟨ρ1, s1, q⟩ := st 0 d ρ s rfl h
    rcases q with ⟨e1, h1⟩ | ⟨e1, h1⟩
    · obtain ⟨ρ2, s2, e2, h2⟩ := forIts_brk Inv Fin ds (k + 1) ρ1 s1 (fun i d ρ s hi hv => by
        have := st (i + 1) d ρ s (by simpa using hi) (by rw [← Nat.add_assoc, Nat.add_right_comm]; exact hv)
        rw [Nat.add_right_comm k 1 i]
        exact this) h1
      refine ⟨ρ2, s2, ?_, ?_⟩
      · rw [forIts_cons, e1]
        exact e2
      · rw [List.length_cons, Nat.add_comm ds.length, ← Nat.add_assoc]
        exact h2
    · refine ⟨ρ1, s1, ?_, .inr h1⟩
      rw [forIts_cons, e1]
      rfl
/-- the store while paired_off runs: the dict at n, the pairs at n + 1 -/
structure Run (rows : List Row) (s0 : Sto) (L : Lf) (ps : List Pair) (s : Sto) : Prop where
  d : s[s0.length]? = some (.dk (lkv rows L))
  p : s[s0.length + 1]? = some (.lst (ps.map pairD))
  fr : ∀ j, j < s0.length → s[j]? = s0[j]?
  len : s.length = s0.length + 2
/-- the slots while it runs -/
def slots (R B S : List Row) (n : Nat) (cut : Int) (a : Nat) (x y z : Option D) : En := [some (.cl (R.map rowD)), some (.cl (B.map rowD)), some (.cl (S.map rowD)), some (.ref n), some (.int cut), some (.ref (n + 1)), some (.int (a : Int)), x, y, z, none, none, none]
def mu (B : List Row) (L : Lf) (a : Nat) (sell : Row) : Nat := 2 * (B.length - a) + (match B[a]? with
  | some b => if 0 < L b.no then 1 else 0
  | none => 0) + (if 0 < L sell.no then 1 else 0)
theorem while_pairs {rows B S : List Row} (SS : Sides rows B S) {s0 : Sto} {sell : Row} {j : Nat} (hs : S[j]? = some sell) (hsz : rows.length ≤ 1000) : ∀ (n a : Nat) (L : Lf) (ps : List Pair) (s : Sto) (y z : Option D), PI rows B S j a L ps → Run rows s0 L ps s → ps.length + mu B L a sell ≤ 100000 → mu B L a sell < n →
    ∃ a' L' ps' s' y' z', whileN t_paired_off_1 w_paired_off_1 n (slots rows B S s0.length 1000000 a (some (rowD sell)) y z) s = .nx (slots rows B S s0.length 1000000 a' (some (rowD sell)) y' z') s' ∧ PI rows B S j a' L' ps' ∧ Run rows s0 L' ps' s' ∧ ps'.length ≤ ps.length + mu B L a sell ∧ (L' sell.no = 0 ∨ a' = B.length)
  | 0, a, L, ps, s, y, z, _, _, _, h => absurd h (Nat.not_lt_zero _)
  | n + 1, a, L, ps, s, y, z, h, hr, hn, hm => by
    have ms := (SS.sm sell).mp (List.mem_of_getElem? hs)
    have gs := ixD hr.d (asc_lkv (L := L) ms.1)
    have nns := h.nn sell ms.1
    rw [whileN_succ]
    by_cases c1 : 0 < L sell.no
    · by_cases c2 : a < B.length
      · have hb : B[a]? = some B[a] := List.getElem?_eq_getElem c2
        generalize B[a] = b at hb
        have mb := (SS.bm b).mp (List.mem_of_getElem? hb)
        have gb := ixD hr.d (asc_lkv (L := L) mb.1)
        have nnb := h.nn b mb.1
        have ib : itemAt (B.map rowD) (a : Int) = some (rowD b) := by
          rw [itemAt_nat, List.getElem?_map, hb]
          rfl
        have lt : (a : Int) < (B.length : Int) := by omega
        have test : t_paired_off_1 (slots rows B S s0.length 1000000 a (some (rowD sell)) y z) s = .ok true s := by
          simp [t_paired_off_1, slots, gs.1, c1, c2]
        rw [test]
        simp only [R.then_ok, if_true]
        by_cases c3 : b.price < sell.price ∨ L b.no = 0
        · have body : w_paired_off_1 (slots rows B S s0.length 1000000 a (some (rowD sell)) y z) s = .ct (slots rows B S s0.length 1000000 (a + 1) (some (rowD sell)) (some (rowD b)) z) s := by
            by_cases c4 : b.price < sell.price
            · simp [w_paired_off_1, slots, ib, c4]
            · have c5 : L b.no = 0 := c3.resolve_left c4
              simp [w_paired_off_1, slots, ib, c4, gb.1, c5]
          rw [body]
          have hmu : mu B L (a + 1) sell < mu B L a sell := by
            unfold mu
            rw [hb]
            dsimp only
            have h1 : B.length - a = (B.length - (a + 1)) + 1 := by omega
            rw [h1]
            cases B[a + 1]? with
            | none => dsimp only; split <;> omega
            | some b2 => dsimp only; split <;> split <;> omega
          obtain ⟨a', L', ps', s', y', z', k1, k2, k3, k4, k5⟩ := while_pairs SS hs hsz n (a + 1) L ps s (some (rowD b)) z (h.skip hb hs c3) hr (by omega) (by omega)
          exact ⟨a', L', ps', s', y', z', k1, k2, k3, by omega, k5⟩
        · have c4 : ¬ b.price < sell.price := fun q => c3 (.inl q)
          have c5 : ¬ L b.no = 0 := fun q => c3 (.inr q)
          obtain ⟨am, ham, a0, ab, as, az⟩ : ∃ am : Int, (if L sell.no < L b.no then L sell.no else L b.no) = am ∧ 1 ≤ am ∧ am ≤ L b.no ∧ am ≤ L sell.no ∧ (am = L b.no ∨ am = L sell.no) := by
            refine ⟨_, rfl, ?_, ?_, ?_, ?_⟩ <;> (split <;> omega)
          have ne : b.no ≠ sell.no := fun e => by
            have := no_inj SS.nos mb.1 ms.1 e
            rw [this, ms.2] at mb
            cases mb.2
          have il := isLst_ref hr.p
          have hlen := hr.len
          -- the pair is laid
          have ap := append_ok (d := .tup [.int b.no, .int sell.no, .int am]) hr.p (by rw [List.length_map]; omega)
          generalize hs1 : s.set (s0.length + 1) (.lst (ps.map pairD ++ [.tup [.int b.no, .int sell.no, .int am]])) = s1 at ap
          have d1 : s1[s0.length]? = some (.dk (lkv rows L)) := by
            rw [← hs1, List.getElem?_set_ne (by omega)]
            exact hr.d
          have g1 := ixD d1 (asc_lkv (L := L) mb.1)
          have u1 := setD (n := b.no) (v := .int (L b.no - am)) d1 (by rw [lkv_len]; exact hsz)
          rw [put_lkv mb.1] at u1
          generalize hs2 : s1.set s0.length (.dk (lkv rows (L.set b.no (L b.no - am)))) = s2 at u1
          have d2 : s2[s0.length]? = some (.dk (lkv rows (L.set b.no (L b.no - am)))) := by
            rw [← hs2, List.getElem?_set_self (by rw [← hs1, List.length_set]; omega)]
          have g2 := ixD d2 (asc_lkv (L := L.set b.no (L b.no - am)) ms.1)
          rw [Lf.set_ne L ne.symm] at g2
          have u2 := setD (n := sell.no) (v := .int (L sell.no - am)) d2 (by rw [lkv_len]; exact hsz)
          rw [put_lkv ms.1] at u2
          generalize hs3 : s2.set s0.length (.dk (lkv rows ((L.set b.no (L b.no - am)).set sell.no (L sell.no - am)))) = s3 at u2
          have body : w_paired_off_1 (slots rows B S s0.length 1000000 a (some (rowD sell)) y z) s = .nx (slots rows B S s0.length 1000000 a (some (rowD sell)) (some (rowD b)) (some (.int am))) s3 := by
            simp [w_paired_off_1, slots, ib, c4, gb.1, gs.1, c5, ham, il, szl, ap, g1.2, u1, g2.2, u2]
          rw [body]
          have len3 : s3.length = s0.length + 2 := by rw [← hs3, ← hs2, ← hs1]; simp only [List.length_set]; exact hlen
          have run3 : Run rows s0 ((L.set b.no (L b.no - am)).set sell.no (L sell.no - am)) (ps ++ [⟨b, sell, am⟩]) s3 := by
            refine ⟨?_, ?_, fun i hi => ?_, len3⟩
            · rw [← hs3, List.getElem?_set_self (by rw [← hs2, ← hs1]; simp only [List.length_set]; omega)]
            · rw [← hs3, List.getElem?_set_ne (by omega), ← hs2, List.getElem?_set_ne (by omega), ← hs1, List.getElem?_set_self (by omega), List.map_append]
              rfl
            · rw [← hs3, List.getElem?_set_ne (by omega), ← hs2, List.getElem?_set_ne (by omega), ← hs1, List.getElem?_set_ne (by omega)]
              exact hr.fr i hi
          have hmu : mu B ((L.set b.no (L b.no - am)).set sell.no (L sell.no - am)) a sell < mu B L a sell := by
            unfold mu
            rw [hb]
            dsimp only
            rw [Lf.set_same, Lf.set_ne _ ne, Lf.set_same]
            rcases az with z | z
            · repeat' split
              all_goals omega
            · repeat' split
              all_goals omega
          obtain ⟨a', L', ps', s', y', z', k1, k2, k3, k4, k5⟩ := while_pairs SS hs hsz n a _ _ s3 (some (rowD b)) (some (.int am)) (h.deal SS hb hs (by omega) a0 ab as az) run3 (by rw [List.length_append, List.length_singleton]; omega) (by omega)
          refine ⟨a', L', ps', s', y', z', k1, k2, k3, ?_, k5⟩
          rw [List.length_append, List.length_singleton] at k4
          omega
      · have test : t_paired_off_1 (slots rows B S s0.length 1000000 a (some (rowD sell)) y z) s = .ok false s := by
          simp [t_paired_off_1, slots, gs.1, c1, c2]
        rw [test]
        exact ⟨a, L, ps, s, y, z, rfl, h, hr, Nat.le_add_right _ _, .inr (by have := h.le; omega)⟩
    · have test : t_paired_off_1 (slots rows B S s0.length 1000000 a (some (rowD sell)) y z) s = .ok false s := by
        simp [t_paired_off_1, slots, gs.1, c1]
      rw [test]
      exact ⟨a, L, ps, s, y, z, rfl, h, hr, Nat.le_add_right _ _, .inl (by omega)⟩
end Rh
end

section
set_option Elab.async false
set_option linter.all false
set_option maxRecDepth 100000
set_option maxHeartbeats 4000000
/-! k41: what paired_off tells. -/
namespace Rh
open PySem
theorem intsOf_map {α : Type} (f : α → Int) : ∀ l : List α, intsOf (l.map fun x => .int (f x)) = some (l.map f)
  | [] => rfl
  | x :: l => by
    rw [List.map_cons, intsOf, intsOf_map f l]
    rfl
def maxOf : List Int → Int
  | [] => 0
  | n :: ns => ns.foldl max n
theorem foldl_max : ∀ (ns : List Int) (n : Int), (n ≤ ns.foldl max n ∧ ∀ x ∈ ns, x ≤ ns.foldl max n) ∧ (ns.foldl max n = n ∨ ns.foldl max n ∈ ns)
  | [], n => ⟨⟨Int.le_refl _, by simp⟩, .inl rfl⟩
  | k :: ns, n => by
    obtain ⟨⟨h1, h2⟩, h3⟩ := foldl_max ns (max n k)
    rw [List.foldl_cons]
    refine ⟨⟨by omega, fun x hx => ?_⟩, ?_⟩
    · rcases List.mem_cons.mp hx with q | q
      · rw [q]
        omega
      · exact h2 x q
    · rcases h3 with q | q
      · by_cases c : n ≤ k
        · right
          rw [q, Int.max_eq_right c]
          exact List.mem_cons_self
        · left
          rw [q, Int.max_eq_left (by omega)]
      · exact .inr (List.mem_cons_of_mem _ q)
theorem maxOf_ge {l : List Int} {x : Int} (h : x ∈ l) : x ≤ maxOf l := by
  cases l with
  | nil => cases h
  | cons n ns =>
    obtain ⟨⟨h1, h2⟩, _⟩ := foldl_max ns n
    rcases List.mem_cons.mp h with q | q
    · rw [q]
      exact h1
    · exact h2 x q
theorem maxOf_mem {l : List Int} (h : l ≠ []) : maxOf l ∈ l := by
  cases l with
  | nil => exact absurd rfl h
  | cons n ns =>
    rcases (foldl_max ns n).2 with q | q
    · show ns.foldl max n ∈ n :: ns
      rw [q]
      exact List.mem_cons_self
    · exact List.mem_cons_of_mem _ q
theorem maxD_ok {s : Sto} {α : Type} (f : α → Int) (l : List α) : bMaxD 0 [.cl (l.map fun x => .int (f x))] s = .ok (.int (maxOf (l.map f))) s := by
  unfold bMaxD
  simp only [lstOf, intsOf_map f l]
  cases l with
  | nil => rfl
  | cons x l => rfl
theorem sum_ok {s : Sto} {α : Type} (f : α → Int) (l : List α) : bSum [.cl (l.map fun x => .int (f x))] s = .ok (.int (l.map f).sum) s := by
  unfold bSum
  simp only [lstOf, intsOf_map f l]
theorem mu_le (B : List Row) (L : Lf) (a : Nat) (sell : Row) : mu B L a sell ≤ 2 * B.length + 2 := by
  unfold mu
  repeat' split
  all_goals omega
theorem cut_comp {rows B S : List Row} (SS : Sides rows B S) {s0 s : Sto} {L : Lf} {ps : List Pair} {cut : Int} {a : Nat} {x y z : Option D} (hr : Run rows s0 L ps s) :
    eLcC (iVal (eVar 1)) (Tn.nm 10).tg t_paired_off_2 e_paired_off_3 [10] (slots rows B S s0.length cut a x y z) s = .ok (.cl ((B.filter fun r => decide (0 < L r.no)).map fun r => .int r.price)) s := by
  have k := lcIts_pure (turn := lcTurn (Tn.nm 10).tg t_paired_off_2 e_paired_off_3 (slots rows B S s0.length cut a x y z)) (s := s) rowD (fun r => decide (0 < L r.no)) (fun r => .int r.price) B (fun r acc hb => by
    have mb := (SS.bm r).mp hb
    have g := ixD hr.d (asc_lkv (L := L) mb.1)
    rw [lcTurn_eq (ρ1 := (slots rows B S s0.length cut a x y z).set 10 (some (rowD r))) rfl]
    unfold slots
    simp only [t_paired_off_2, e_paired_off_3, ev_tVal, ev_bin, ev_var, ev_C, List.set_cons_succ, List.set_cons_zero, List.getElem?_cons_succ, List.getElem?_cons_zero, R.bind_ok, row_0, row_3, g.1, ev_gt, ev_truthy]
    cases decide (0 < L r.no) <;> rfl) []
  exact lcC_its (it := iVal (eVar 1)) (vs := [10]) (s1 := s) (ds := B.map rowD) (by unfold slots; simp) k
theorem paired_for {rows B S : List Row} (SS : Sides rows B S) (hp : ∀ r ∈ rows, 1 ≤ r.price ∧ r.price ≤ 1000000) (hsz : rows.length ≤ 100) (hB : B.length ≤ 100) (hS : S.length ≤ 100) {s0 s : Sto} (h0 : PI rows B S 0 0 (left0 rows) []) (hr : Run rows s0 (left0 rows) [] s) :
    ∃ ρ' s', forIts (thenG (Tn.nm 7).tg w_paired_off_2) (S.map rowD) (slots rows B S s0.length 1000000 0 none none none) s = .nx ρ' s' ∧ ∃ cut a L ps x y z, ρ' = slots rows B S s0.length cut a x y z ∧ PairsOk rows cut ps ∧ Run rows s0 L ps s' ∧ ps.length ≤ 30000 := by
  have key := forIts_brk (body := thenG (Tn.nm 7).tg w_paired_off_2)
    (fun j ρ s => ∃ a L ps x y z, ρ = slots rows B S s0.length 1000000 a x y z ∧ PI rows B S j a L ps ∧ Run rows s0 L ps s ∧ ps.length ≤ j * 202)
    (fun ρ s => ∃ cut a L ps x y z, ρ = slots rows B S s0.length cut a x y z ∧ PairsOk rows cut ps ∧ Run rows s0 L ps s ∧ ps.length ≤ 30000)
    (S.map rowD) 0 (slots rows B S s0.length 1000000 0 none none none) s (fun j d ρ s hd ⟨a, L, ps, x, y, z, r1, r2, r3, r4⟩ => ?_) ⟨0, left0 rows, [], none, none, none, rfl, h0, hr, by simp⟩
  · obtain ⟨ρ', s', e, q⟩ := key
    refine ⟨ρ', s', e, ?_⟩
    rcases q with ⟨a, L, ps, x, y, z, r1, r2, r3, r4⟩ | q
    · rw [List.length_map, Nat.zero_add] at r2
      exact ⟨1000000, a, L, ps, x, y, z, r1, pairs_of SS r2 (by decide) (by decide) (end_all SS r2 fun r hr => (hp r hr).2), r3, by rw [List.length_map] at r4; omega⟩
    · exact q
  · simp only [Nat.zero_add] at r2 r4 ⊢
    rw [List.getElem?_map] at hd
    cases hs : S[j]? with
    | none => rw [hs] at hd; cases hd
    | some sell =>
      rw [hs] at hd
      cases hd
      have hj := (List.getElem?_eq_some_iff.mp hs).1
      have ms := (SS.sm sell).mp (List.mem_of_getElem? hs)
      have hmu := mu_le B L a sell
      obtain ⟨a', L', ps', s2, y', z', k1, k2, k3, k4, k5⟩ := while_pairs SS hs (by omega) wfuel a L ps s y z r2 r3 (by omega) (by unfold wfuel; omega)
      have gs := ixD k3.d (asc_lkv (L := L') ms.1)
      have start : thenG (Tn.nm 7).tg w_paired_off_2 (rowD sell) ρ s = w_paired_off_2 (slots rows B S s0.length 1000000 a (some (rowD sell)) y z) s := by
        rw [r1]
        rfl
      rw [start]
      unfold w_paired_off_2
      rw [ev_seq, k1]
      dsimp only
      by_cases c : 0 < L' sell.no
      · have ha : a' = B.length := k5.resolve_left (by omega)
        subst ha
        have cc := cut_comp SS (cut := 1000000) (a := B.length) (x := some (rowD sell)) (y := y') (z := z') k3
        rw [ev_tgNm] at cc
        have mx := maxD_ok (s := s2) Row.price (B.filter fun r => decide (0 < L' r.no))
        generalize hc : maxOf ((B.filter fun r => decide (0 < L' r.no)).map Row.price) = cut at mx
        have c1 : ∀ b ∈ B, L' b.no ≠ 0 → b.price ≤ cut := fun b hb hne => by
          rw [← hc]
          refine maxOf_ge (List.mem_map.mpr ⟨b, List.mem_filter.mpr ⟨hb, decide_eq_true ?_⟩, rfl⟩)
          have := k2.nn b ((SS.bm b).mp hb).1
          omega
        have c2 : cut = 0 ∨ ∃ b ∈ B, L' b.no ≠ 0 ∧ b.price = cut := by
          by_cases he : (B.filter fun r => decide (0 < L' r.no)).map Row.price = []
          · left
            rw [← hc, he]
            rfl
          · right
            have := maxOf_mem he
            rw [hc] at this
            obtain ⟨b, hb, e⟩ := List.mem_map.mp this
            obtain ⟨hb1, hb2⟩ := List.mem_filter.mp hb
            have := of_decide_eq_true hb2
            exact ⟨b, hb1, by omega, e⟩
        have cr : 0 ≤ cut ∧ cut ≤ 1000000 := by
          rcases c2 with z | ⟨b, b1, _, b3⟩
          · omega
          · have := hp b ((SS.bm b).mp b1).1
            omega
        refine ⟨slots rows B S s0.length cut B.length (some (rowD sell)) y' z', s2, .inr ⟨?_, cut, B.length, L', ps', some (rowD sell), y', z', rfl, pairs_of SS k2 cr.1 cr.2 (end_cut SS k2 (fun r hr => (hp r hr).1) hs c1 c2), k3, by omega⟩⟩
        have test : tVal (eBin opGt (eBin anyItem (eVar 3) (eBin anyItem (eVar 7) (eC (.int 0)))) (eC (.int 0))) (slots rows B S s0.length 1000000 B.length (some (rowD sell)) y' z') s2 = .ok true s2 := by
          unfold slots
          simp [gs.1, c]
        rw [ev_seq, ev_sIf, test]
        simp only [R.then_ok, if_true, ev_seq, ev_asg, ev_arg, ev_cons, ev_nil, cc, R.bind_ok, mx, ev_tgNm, ev_gNm, ev_brk]
        rfl
      · refine ⟨slots rows B S s0.length 1000000 a' (some (rowD sell)) y' z', s2, .inl ⟨?_, a', L', ps', some (rowD sell), y', z', rfl, k2.next SS hs (by have := k2.nn sell ms.1; omega), k3, ?_⟩⟩
        · have test : tVal (eBin opGt (eBin anyItem (eVar 3) (eBin anyItem (eVar 7) (eC (.int 0)))) (eC (.int 0))) (slots rows B S s0.length 1000000 a' (some (rowD sell)) y' z') s2 = .ok false s2 := by
            unfold slots
            simp [gs.1, c]
          rw [ev_seq, ev_sIf, test]
          rfl
        · omega
theorem side_len (rows : List Row) (b : Bool) : (sideRows rows b).length ≤ rows.length := by
  unfold sideRows
  rw [List.length_mergeSort]
  exact List.length_filter_le _ _
theorem paired_ok {rows : List Row} (s : Sto) (nd : (rows.map Row.no).Nodup) (hp : ∀ r ∈ rows, 1 ≤ r.price ∧ r.price ≤ 1000000) (hl : ∀ r ∈ rows, 0 ≤ r.left) (hsz : rows.length ≤ 100) :
    ∃ (cut : Int) (ps : List Pair) (s' : Sto), f_paired_off [.cl (rows.map rowD)] s = .ok (.tup [.int (total ps), .int cut, .ref (s.length + 1)]) s' ∧ PairsOk rows cut ps ∧ s'[s.length + 1]? = some (.lst (ps.map pairD)) ∧ (∀ j, j < s.length → s'[j]? = s[j]?) ∧ s'.length = s.length + 2 ∧ ps.length ≤ 30000 := by
  have SS := sides_of nd
  have lb : (sideRows rows true).length ≤ 100 := Nat.le_trans (side_len _ _) hsz
  have ls : (sideRows rows false).length ≤ 100 := Nat.le_trans (side_len _ _) hsz
  have rb := raised_ok rows true s
  have rs := raised_ok rows false s
  have dc := dc_rows (turn := dcTurn (Tn.nm 10).tg tYes e_paired_off_1 e_paired_off_2 [some (.cl (rows.map rowD)), some (.cl ((sideRows rows true).map rowD)), some (.cl ((sideRows rows false).map rowD)), none, none, none, none, none, none, none, none, none, none]) (s := s) (f := Row.left) nd (acc := []) (by simp) (fun r hr acc => by
    simp [dcTurn, e_paired_off_1, e_paired_off_2, kyOf])
  have ek : (rows.map fun r => ((Sum.inl r.no, D.int r.left) : Ky × D)) = lkv rows (left0 rows) := by
    unfold lkv
    refine List.map_congr_left fun r hr => ?_
    rw [left0_at nd hr]
  rw [List.nil_append, ek] at dc
  have h0 : PI rows (sideRows rows true) (sideRows rows false) 0 0 (left0 rows) [] := by
    refine ⟨fun r hr => by rw [left0_at nd hr]; exact hl r hr, fun f => ?_, by simp, List.Pairwise.nil, fun i b hi _ => absurd hi (Nat.not_lt_zero _), fun i x hi _ => absurd hi (Nat.not_lt_zero _), by simp, Nat.zero_le _⟩
    exact sumR_zero fun r hr => by rw [left0_at nd hr, Int.sub_self, Int.mul_zero]
  have hr : Run rows s (left0 rows) [] (s ++ [.dk (lkv rows (left0 rows))] ++ [.lst []]) := by
    refine ⟨by simp, by simp, fun j hj => ?_, by simp⟩
    rw [List.append_assoc, List.getElem?_append_left hj]
  obtain ⟨ρ', s', e, cut, a, L, ps, x, y, z, r1, r2, r3, r4⟩ := paired_for SS hp hsz lb ls h0 hr
  refine ⟨cut, ps, s', ?_, r2, r3.p, r3.fr, r3.len, r4⟩
  have fr := sFor_its (it := iVal (eVar 2)) (g := (Tn.nm 7).tg) (b := w_paired_off_2) (ρ := slots rows (sideRows rows true) (sideRows rows false) s.length 1000000 0 none none none) (s := s ++ [.dk (lkv rows (left0 rows))] ++ [.lst []]) (s1 := s ++ [.dk (lkv rows (left0 rows))] ++ [.lst []]) (ds := (sideRows rows false).map rowD) (by unfold slots; simp)
  rw [e] at fr
  have dce : eDc (iVal (eVar 0)) (Tn.nm 10).tg tYes e_paired_off_1 e_paired_off_2 [10] [some (.cl (rows.map rowD)), some (.cl ((sideRows rows true).map rowD)), some (.cl ((sideRows rows false).map rowD)), none, none, none, none, none, none, none, none, none, none] s = .ok (.ref s.length) (s ++ [.dk (lkv rows (left0 rows))]) := by
    unfold eDc
    simp only [ev_iVal, ev_var, List.getElem?_cons_zero, R.bind_ok, ev_itC]
    show ((noExc (dcIts (dcTurn (Tn.nm 10).tg tYes e_paired_off_1 e_paired_off_2 [some (.cl (rows.map rowD)), some (.cl ((sideRows rows true).map rowD)), some (.cl ((sideRows rows false).map rowD)), none, none, none, none, none, none, none, none, none, none]) (rows.map rowD) [] s)).bind dcFin) = _
    rw [dc]
    rfl
  -- the sum
  have k := lcIts_pure (turn := lcTurn (Tn.tp [Tn.nm 11, Tn.nm 12, Tn.nm 9]).tg tYes e_paired_off_4 (wipe ρ' [11, 12, 9])) (s := s') pairD (fun _ => true) (fun p => .int p.a) ps (fun p acc _ => by
    rw [r1]
    unfold slots
    simp [lcTurn, wipe, pairD, e_paired_off_4]) []
  have lv : vwLst (s.length + 1) s' = some (ps.map pairD) := by
    simp only [vwLst, lstOf, r3.p]
  have lp := lcLive_pure (turn := lcTurn (Tn.tp [Tn.nm 11, Tn.nm 12, Tn.nm 9]).tg tYes e_paired_off_4 (wipe ρ' [11, 12, 9])) lv (fun d acc hd => by
    obtain ⟨p, _, rfl⟩ := List.mem_map.mp hd
    refine ⟨acc ++ [.int p.a], ?_⟩
    rw [r1]
    unfold slots
    simp [lcTurn, wipe, pairD, e_paired_off_4]) (ps.map pairD).length 0 [] (by simp)
  rw [List.drop_zero, k] at lp
  have lc := lcC_live (it := iVal (eVar 5)) (g := (Tn.tp [Tn.nm 11, Tn.nm 12, Tn.nm 9]).tg) (t := tYes) (e := e_paired_off_4) (vs := [11, 12, 9]) (ρ := ρ') (s := s') (s1 := s') (vw := vwLst (s.length + 1)) (out := [] ++ ((ps.filter fun _ => true).map fun p => .int p.a)) (by
    rw [r1]
    unfold slots
    simp [ev_itR r3.p]) (by rw [vwLen_of lv]; exact lp)
  have sm := sum_ok (s := s') Pair.a (ps.filter fun _ => true)
  have e0 : (ps.filter fun _ => true) = ps := by simp
  rw [List.nil_append] at lc
  rw [e0] at sm lc
  have rb : f_raised [.cl (rows.map rowD), .str "buy"] s = .ok (.cl ((sideRows rows true).map rowD)) s := rb
  have rs : f_raised [.cl (rows.map rowD), .str "sell"] s = .ok (.cl ((sideRows rows false).map rowD)) s := rs
  rw [ev_tgNm] at dce
  unfold slots at fr
  simp only [f_paired_off, fnSem, b_paired_off, List.length_cons, List.length_nil, Nat.zero_add, Nat.reduceAdd, if_true, ev_seq, ev_par, ev_ret, ev_asg, ev_arg, ev_cons, ev_nil, ev_var, ev_C, List.map_cons, List.map_nil, Nat.reduceSub, List.replicate, List.cons_append, List.nil_append, List.getElem?_cons_zero, R.bind_ok, R.then_ok, rb, rs, List.set_cons_succ, List.set_cons_zero, ev_tgNm, ev_gNm, dce, ev_lst]
  rw [if_pos (Nat.zero_le _)]
  have el : (s ++ [Ob.dk (lkv rows (left0 rows))]).length = s.length + 1 := by simp
  have fr : sFor (iVal (eVar 2)) (gNm 7) w_paired_off_2 [some (.cl (rows.map rowD)), some (.cl ((sideRows rows true).map rowD)), some (.cl ((sideRows rows false).map rowD)), some (.ref s.length), some (.int 1000000), some (.ref (s.length + 1)), some (.int 0), none, none, none, none, none, none] (s ++ [.dk (lkv rows (left0 rows))] ++ [.lst []]) = .nx ρ' s' := fr
  simp only [R.then_ok, el, List.set_cons_succ, List.set_cons_zero, fr, ev_tup, ev_cons, ev_nil, ev_arg, lc, R.bind_ok, sm, ev_var]
  rw [r1]
  unfold slots
  simp only [List.getElem?_cons_succ, List.getElem?_cons_zero, R.bind_ok, List.length_cons, List.length_nil]
  rw [if_pos (szl_small (by decide))]
  rfl
end Rh
end

section
set_option Elab.async false
set_option linter.all false
set_option maxRecDepth 100000
set_option maxHeartbeats 4000000
/-! k41: what the law asks of the told pairs. -/
namespace Rh
open PySem
/-- rows as a list at hand or of the store -/
def Rv (s : Sto) (d : D) (rows : List Row) : Prop := d = .cl (rows.map rowD) ∨ ∃ l, d = .ref l ∧ s[l]? = some (.lst (rows.map rowD))
theorem for_rows {e : Ev} {g : Tg} {b : Es} {ρ : En} {s : Sto} {d : D} {rows : List Row} (he : e ρ s = .ok d s) (hd : Rv s d rows) (Inv : Nat → En → Sto → Prop) (keep : ∀ i ρ s', Inv i ρ s' → Rv s' d rows)
    (st : ∀ i r ρ s', rows[i]? = some r → Inv i ρ s' → ∃ ρ' s'', (thenG g b (rowD r) ρ s' = .nx ρ' s'' ∨ thenG g b (rowD r) ρ s' = .ct ρ' s'') ∧ Inv (i + 1) ρ' s'') (h0 : Inv 0 ρ s) : ∃ ρ' s', sFor (iVal e) g b ρ s = .nx ρ' s' ∧ Inv rows.length ρ' s' := by
  have step : ∀ i d' ρ s', (rows.map rowD)[i]? = some d' → Inv i ρ s' → ∃ ρ' s'', (thenG g b d' ρ s' = .nx ρ' s'' ∨ thenG g b d' ρ s' = .ct ρ' s'') ∧ Inv (i + 1) ρ' s'' := fun i d' ρ s' hi hv => by
    rw [List.getElem?_map] at hi
    cases hr : rows[i]? with
    | none => rw [hr] at hi; cases hi
    | some r =>
      rw [hr] at hi
      cases hi
      exact st i r ρ s' hr hv
  rcases hd with rfl | ⟨l, rfl, hl⟩
  · rw [sFor_its (ds := rows.map rowD) (s1 := s) (by simp [he])]
    obtain ⟨ρ', s', e1, h1⟩ := forIts_ok Inv (rows.map rowD) 0 ρ s (fun i d' ρ s' hi hv => by
      rw [Nat.zero_add] at hv ⊢
      exact step i d' ρ s' hi hv) h0
    rw [Nat.zero_add, List.length_map] at h1
    exact ⟨ρ', s', e1, h1⟩
  · have lv : vwLst l s = some (rows.map rowD) := by simp only [vwLst, lstOf, hl]
    rw [sFor_live (vw := vwLst l) (s1 := s) (by simp [he, ev_itR hl]), vwLen_of lv]
    obtain ⟨ρ', s', e1, h1⟩ := forLive_ok (ds := rows.map rowD) Inv (fun i ρ s' hv => by
      rcases keep i ρ s' hv with q | ⟨l', q, hl'⟩
      · cases q
      · cases q
        show lstOf s' (.ref l) = _
        simp only [lstOf, hl']) step (rows.map rowD).length 0 ρ s (by simp) h0
    rw [List.length_map] at h1
    exact ⟨ρ', s', e1, h1⟩
theorem comp_rows {e el : Ev} {T : Tn} {t : Et} {vs : List Nat} {ρ : En} {s : Sto} {d : D} {rows : List Row} (he : e ρ s = .ok d s) (hd : Rv s d rows) (p : Row → Bool) (f : Row → D)
    (h : ∀ r acc, r ∈ rows → lcTurn T.tg t el (wipe ρ vs) (rowD r) acc s = .ok (if p r then acc ++ [f r] else acc) s) : eLcC (iVal e) T.tg t el vs ρ s = .ok (.cl ((rows.filter p).map f)) s := by
  have k := lcIts_pure (turn := lcTurn T.tg t el (wipe ρ vs)) (s := s) rowD p f rows h []
  rw [List.nil_append] at k
  rcases hd with rfl | ⟨l, rfl, hl⟩
  · exact lcC_its (s1 := s) (ds := rows.map rowD) (by simp [he]) k
  · have lv : vwLst l s = some (rows.map rowD) := by simp only [vwLst, lstOf, hl]
    refine lcC_live (vw := vwLst l) (s1 := s) (by simp [he, ev_itR hl]) ?_
    rw [vwLen_of lv, lcLive_pure lv (fun d' acc hd' => by
      obtain ⟨r, hr, rfl⟩ := List.mem_map.mp hd'
      exact ⟨_, h r acc hr⟩) _ 0 [] (by simp), List.drop_zero]
    exact k
theorem isi_facts : isTy ("int" : Str) ("int" : Str) = true ∧ isTy ("bool" : Str) ("int" : Str) = false ∧ isTy ("tuple" : Str) ("tuple" : Str) = true ∧ isTy ("list" : Str) ("list" : Str) = true := by decide +kernel
theorem whole_ok (a m : Int) (s : Sto) : f__law_whole [.int a, .int m] s = .ok (.bl (decide (0 ≤ a) && decide (a ≤ m))) s := by
  obtain ⟨i1, i2, _, _⟩ := isi_facts
  have e1 : opIsi (Str.ofString "int") (.int a) s = .ok (.bl true) s := by
    unfold opIsi
    simp only [tyName]
    rw [i1]
  have e2 : opIsi (Str.ofString "bool") (.int a) s = .ok (.bl false) s := by
    unfold opIsi
    simp only [tyName]
    rw [i2]
  by_cases c : 0 ≤ a
  · simp [f__law_whole, fnSem, b__law_whole, e1, e2, c]
  · simp [f__law_whole, fnSem, b__law_whole, e1, e2, c]
theorem isi_tup (ds : List D) (s : Sto) : opIsi (Str.ofString "tuple") (.tup ds) s = .ok (.bl true) s := by
  unfold opIsi
  simp only [tyName]
  rw [isi_facts.2.2.1]
theorem isi_lst {l : Nat} {ds : List D} {s : Sto} (h : s[l]? = some (.lst ds)) : opIsi (Str.ofString "list") (.ref l) s = .ok (.bl true) s := by
  unfold opIsi
  simp only [tyName, h]
  rw [isi_facts.2.2.2]
/-! the pairs -/
def thereK (rows : List Row) : List (Ky × D) := rows.map fun r => (.inl r.no, rowD r)
theorem asc_there : ∀ {rows : List Row} {r : Row}, (rows.map Row.no).Nodup → r ∈ rows → asc (thereK rows) (.inl r.no) = some (rowD r)
  | [], _, _, h => by cases h
  | q :: rows, r, nd, h => by
    rw [List.map_cons, List.nodup_cons] at nd
    show (if (Sum.inl q.no : Ky) = Sum.inl r.no then some (rowD q) else asc (thereK rows) (.inl r.no)) = _
    rcases List.mem_cons.mp h with z | z
    · rw [z, if_pos rfl]
    · rw [if_neg (fun e => nd.1 (by rw [Sum.inl.inj e]; exact List.mem_map.mpr ⟨r, z, rfl⟩))]
      exact asc_there nd.2 z
theorem merge_new : ∀ {ps acc : List (Ky × D)}, (ps.map (·.1)).Nodup → (∀ p ∈ ps, ∀ q ∈ acc, q.1 ≠ p.1) → mergeA acc ps = acc ++ ps
  | [], acc, _, _ => by simp [mergeA]
  | p :: ps, acc, nd, h => by
    rw [List.map_cons, List.nodup_cons] at nd
    show mergeA (putA acc p.1 p.2) ps = _
    rw [putA_new (h p List.mem_cons_self), merge_new nd.2]
    · simp
    · intro q hq x hx
      rcases List.mem_append.mp hx with z | z
      · exact h q (List.mem_cons_of_mem _ hq) x z
      · rw [List.mem_singleton.mp z]
        exact fun e => nd.1 (by rw [e]; exact List.mem_map.mpr ⟨q, hq, rfl⟩)
theorem pairsOf_map (f : Row → D) : ∀ rows : List Row, pairsOf (rows.map fun r => .tup [.int r.no, f r]) = some (rows.map fun r => (.inl r.no, f r))
  | [] => rfl
  | r :: rows => by
    rw [List.map_cons, pairsOf, pairsOf_map f rows]
    rfl
theorem dictP_rows {rows : List Row} (nd : (rows.map Row.no).Nodup) (f : Row → D) (s : Sto) : bDictP [.cl (rows.map fun r => .tup [.int r.no, f r])] s = .ok (.ref s.length) (s ++ [.dk (rows.map fun r => (.inl r.no, f r))]) := by
  unfold bDictP
  simp only [lstOf, pairsOf_map f rows]
  rw [merge_new, List.nil_append]
  · rw [List.map_map]
    unfold List.Nodup at nd ⊢
    rw [List.pairwise_map] at nd ⊢
    exact nd.imp fun h e => h (Sum.inl.inj e)
  · simp
def spentF (ps : List Pair) (k : Nat) : Lf := fun n => ((ps.take k).map fun p => (if p.b.no = n then p.a else 0) + (if p.s.no = n then p.a else 0)).sum
theorem spentF_succ {ps : List Pair} {k : Nat} {p : Pair} (h : ps[k]? = some p) (n : Int) : spentF ps (k + 1) n = spentF ps k n + ((if p.b.no = n then p.a else 0) + (if p.s.no = n then p.a else 0)) := by
  unfold spentF
  rw [List.take_add_one, h, List.map_append, List.sum_append]
  simp
theorem toPy_two (a b : Int) (s : Sto) : toPy 12 s (.tup [.int a, .int b]) = some (.tuple [.int a, .int b]) := by
  simp [toPy, toPys]
theorem eqv_two (a b c d : Int) : PyData.eqv (.tuple [.int a, .int b]) (.tuple [.int c, .int d]) = (decide (a = c) && decide (b = d)) := by
  simp [PyData.eqv, PyData.eqvAll]
  rfl
theorem anyEq_two {a b : Int} {s : Sto} : ∀ {ps : List Pair}, (∀ p ∈ ps, ¬ (p.b.no = a ∧ p.s.no = b)) → anyEq s (.tup [.int a, .int b]) (ps.map fun p => .tup [.int p.b.no, .int p.s.no]) = some false
  | [], _ => rfl
  | p :: ps, h => by
    have e : pyEq s (.tup [.int p.b.no, .int p.s.no]) (.tup [.int a, .int b]) = some false := by
      unfold pyEq
      rw [toPy_two, toPy_two]
      dsimp only
      rw [eqv_two]
      have := h p List.mem_cons_self
      by_cases c : p.b.no = a
      · rw [decide_eq_false (fun z => this ⟨c, z⟩), Bool.and_false]
      · rw [decide_eq_false c, Bool.false_and]
    rw [List.map_cons, anyEq, e, anyEq_two fun q hq => h q (List.mem_cons_of_mem _ hq)]
    rfl
theorem inSeen {a b : Int} {s : Sto} {l : Nat} {ps : List Pair} (hl : s[l]? = some (.lst (ps.map fun p => .tup [.int p.b.no, .int p.s.no]))) (h : ∀ p ∈ ps, ¬ (p.b.no = a ∧ p.s.no = b)) : anyIn (.tup [.int a, .int b]) (.ref l) s = .ok (.bl false) s := by
  have so : seqOf s (.ref l) = some (ps.map fun p => .tup [.int p.b.no, .int p.s.no]) := by simp only [seqOf, lstOf, hl]
  unfold anyIn
  rw [so]
  unfold seqIn
  rw [so]
  dsimp only
  rw [toPy_two, anyEq_two h]
theorem notInD {s : Sto} {l : Nat} {kvs : List (Ky × D)} {n : Int} {v : D} (h : s[l]? = some (.dk kvs)) (ha : asc kvs (.inl n) = some v) : anyNotIn (.int n) (.ref l) s = .ok (.bl false) s := by
  have so : seqOf s (.ref l) = none := by simp only [seqOf, lstOf, h]
  unfold anyNotIn
  rw [so]
  simp only [dNotIn, dGet, h, kyOf, Option.map_some, ha]
  rfl
theorem cut2 (a b c : D) (s : Sto) : slOp true (.tup [a, b, c]) none (some 2) s = .ok (.tup [a, b]) s := rfl
/-- the store while pairs are looked through -/
structure Look (rows : List Row) (ps : List Pair) (s0 : Sto) (k : Nat) (s : Sto) : Prop where
  th : s[s0.length]? = some (.dk (thereK rows))
  sp : s[s0.length + 1]? = some (.dk (lkv rows (spentF ps k)))
  se : s[s0.length + 2]? = some (.lst ((ps.take k).map fun p => .tup [.int p.b.no, .int p.s.no]))
  fr : ∀ j, j < s0.length → s[j]? = s0[j]?
  len : s.length = s0.length + 3
theorem pair_step {rows : List Row} {ps : List Pair} {s0 s : Sto} {k : Nat} {p : Pair} {cut : Int} {d pd : D} {x7 x8 x9 x10 x11 x12 x13 : Option D} (nd : (rows.map Row.no).Nodup) (hsz : rows.length ≤ 1000) (hps : ps.length ≤ 100000) (ok : PairsOk rows cut ps) (hk : ps[k]? = some p) (h : Look rows ps s0 k s) (hT : p.a ≤ total ps) :
    ∃ s' y7 y8 y9 y10 y11 y12, thenG (Tn.nm 7).tg w__law_pairs_right_1 (pairD p) [some d, some pd, some (.int (total ps)), some (.ref s0.length), some (.ref (s0.length + 1)), some (.ref (s0.length + 2)), some (.int (total (ps.take k))), x7, x8, x9, x10, x11, x12, x13] s =
      .nx [some d, some pd, some (.int (total ps)), some (.ref s0.length), some (.ref (s0.length + 1)), some (.ref (s0.length + 2)), some (.int (total (ps.take (k + 1)))), y7, y8, y9, y10, y11, y12, x13] s' ∧ Look rows ps s0 (k + 1) s' := by
  obtain ⟨b1, b2, b3, b4, b5, b6⟩ := ok.pr p (List.mem_of_getElem? hk)
  have hkl := (List.getElem?_eq_some_iff.mp hk).1
  have ne : p.b.no ≠ p.s.no := fun e => by
    have := no_inj nd b1 b3 e
    rw [this, b4] at b2
    cases b2
  have nin : ∀ q ∈ ps.take k, ¬ (q.b.no = p.b.no ∧ q.s.no = p.s.no) := fun q hq => by
    obtain ⟨i, hi⟩ := List.mem_iff_getElem?.mp hq
    have hik : i < k := by
      have := (List.getElem?_eq_some_iff.mp hi).1
      rw [List.length_take] at this
      omega
    rw [List.getElem?_take_of_lt hik] at hi
    exact pairwise_at ok.nd hik hi hk
  have sn := inSeen h.se nin
  have t1 := ixD h.th (asc_there nd b1)
  have t2 := ixD h.th (asc_there nd b3)
  have n1 := notInD h.th (asc_there nd b1)
  have n2 := notInD h.th (asc_there nd b3)
  have wh := whole_ok p.a (total ps) s
  rw [decide_eq_true (show 0 ≤ p.a by omega), decide_eq_true hT] at wh
  have hlen := h.len
  have il := isLst_ref h.se
  have ap := append_ok (d := .tup [.int p.b.no, .int p.s.no]) h.se (by rw [List.length_map, List.length_take]; omega)
  generalize hs1 : s.set (s0.length + 2) (.lst ((ps.take k).map (fun p => .tup [.int p.b.no, .int p.s.no]) ++ [.tup [.int p.b.no, .int p.s.no]])) = s1 at ap
  have d1 : s1[s0.length + 1]? = some (.dk (lkv rows (spentF ps k))) := by
    rw [← hs1, List.getElem?_set_ne (by omega)]
    exact h.sp
  have g1 := ixD d1 (asc_lkv (L := spentF ps k) b1)
  have u1 := setD (n := p.b.no) (v := .int (spentF ps k p.b.no + p.a)) d1 (by rw [lkv_len]; exact hsz)
  rw [put_lkv b1] at u1
  generalize hs2 : s1.set (s0.length + 1) (.dk (lkv rows ((spentF ps k).set p.b.no (spentF ps k p.b.no + p.a)))) = s2 at u1
  have d2 : s2[s0.length + 1]? = some (.dk (lkv rows ((spentF ps k).set p.b.no (spentF ps k p.b.no + p.a)))) := by
    rw [← hs2, List.getElem?_set_self (by rw [← hs1, List.length_set]; omega)]
  have g2 := ixD d2 (asc_lkv (L := (spentF ps k).set p.b.no (spentF ps k p.b.no + p.a)) b3)
  rw [Lf.set_ne _ ne.symm] at g2
  have u2 := setD (n := p.s.no) (v := .int (spentF ps k p.s.no + p.a)) d2 (by rw [lkv_len]; exact hsz)
  rw [put_lkv b3] at u2
  generalize hs3 : s2.set (s0.length + 1) (.dk (lkv rows (((spentF ps k).set p.b.no (spentF ps k p.b.no + p.a)).set p.s.no (spentF ps k p.s.no + p.a)))) = s3 at u2
  have hL : ((spentF ps k).set p.b.no (spentF ps k p.b.no + p.a)).set p.s.no (spentF ps k p.s.no + p.a) = spentF ps (k + 1) := by
    funext n
    rw [spentF_succ hk]
    by_cases e1 : n = p.s.no
    · subst e1
      rw [Lf.set_same, if_neg ne, if_pos rfl]
      omega
    · rw [Lf.set_ne _ e1]
      by_cases e2 : n = p.b.no
      · subst e2
        rw [Lf.set_same, if_pos rfl, if_neg ne.symm]
        omega
      · rw [Lf.set_ne _ e2, if_neg (fun z => e2 z.symm), if_neg (fun z => e1 z.symm)]
        omega
  have tot : total (ps.take (k + 1)) = total (ps.take k) + p.a := by
    unfold total
    rw [List.take_add_one, hk, List.map_append, List.sum_append]
    simp
  have sd1 : ("sell" : Str) ≠ "buy" := side_ne
  refine ⟨s3, some (pairD p), some (.int p.b.no), some (.int p.s.no), some (.int p.a), some (rowD p.b), some (rowD p.s), ?_, ?_, ?_, ?_, fun j hj => ?_, ?_⟩
  · rw [tot]
    have e2 : sideS p.b.buy = ("buy" : Str) := by rw [b2]; rfl
    have e3 : sideS p.s.buy = ("sell" : Str) := by rw [b4]; rfl
    simp [thenG, w__law_pairs_right_1, pairD, isi_tup, cut2, sn, wh, show ¬ p.a < 1 by omega, n1, n2, t1.1, t2.1, e2, e3, show ¬ p.b.price < p.s.price by omega, il, ap, g1.1, u1, g2.1, u2]
  · rw [← hs3, List.getElem?_set_ne (by omega), ← hs2, List.getElem?_set_ne (by omega), ← hs1, List.getElem?_set_ne (by omega)]
    exact h.th
  · rw [← hs3, List.getElem?_set_self (by rw [← hs2, ← hs1]; simp only [List.length_set]; omega), hL]
  · rw [← hs3, List.getElem?_set_ne (by omega), ← hs2, List.getElem?_set_ne (by omega), ← hs1, List.getElem?_set_self (by omega), List.take_add_one, hk, List.map_append]
    rfl
  · rw [← hs3, List.getElem?_set_ne (by omega), ← hs2, List.getElem?_set_ne (by omega), ← hs1, List.getElem?_set_ne (by omega)]
    exact h.fr j hj
  · rw [← hs3, ← hs2, ← hs1]
    simp only [List.length_set]
    exact hlen
end Rh
end

section
set_option Elab.async false
set_option linter.all false
set_option maxRecDepth 100000
set_option maxHeartbeats 4000000
/-! k41: the law's own look at the pairs answers True. -/
namespace Rh
open PySem
theorem Rv.app {s : Sto} {d : D} {rows : List Row} (h : Rv s d rows) {s' : Sto} (fr : ∀ j, j < s.length → s'[j]? = s[j]?) : Rv s' d rows := by
  rcases h with h | ⟨l, rfl, hl⟩
  · exact .inl h
  · exact .inr ⟨l, rfl, by rw [fr l (List.getElem?_eq_some_iff.mp hl).1]; exact hl⟩
theorem app_fr (s : Sto) (o : Ob) : ∀ j, j < s.length → (s ++ [o])[j]? = s[j]? := fun j hj => List.getElem?_append_left hj
theorem sum_le_of {α : Type} {l : List α} {f : α → Int} (h : ∀ x ∈ l, 0 ≤ f x) : ∀ x ∈ l, f x ≤ (l.map f).sum := by
  induction l with
  | nil => intro x hx; cases hx
  | cons y l ih =>
    intro x hx
    rw [List.map_cons, List.sum_cons]
    have hs : 0 ≤ (l.map f).sum := by
      clear ih hx
      induction l with
      | nil => simp
      | cons z l ih2 =>
        rw [List.map_cons, List.sum_cons]
        have := h z (by simp)
        have := ih2 (fun x hx => h x (by
          rcases List.mem_cons.mp hx with q | q
          · rw [q]; simp
          · simp [q]))
        omega
    rcases List.mem_cons.mp hx with q | q
    · rw [q]
      omega
    · have := ih (fun z hz => h z (List.mem_cons_of_mem _ hz)) x q
      have := h y List.mem_cons_self
      omega
theorem pairs_right_ok {rows : List Row} {ps : List Pair} {s : Sto} {cut : Int} {d : D} {P : Nat} (nd : (rows.map Row.no).Nodup) (hsz : rows.length ≤ 1000) (hps : ps.length ≤ 100000) (ok : PairsOk rows cut ps) (hd : Rv s d rows) (hP : s[P]? = some (.lst (ps.map pairD))) :
    ∃ s', f__law_pairs_right [d, .ref P, .int (total ps)] s = .ok (.bl true) s' ∧ ∀ j, j < s.length → s'[j]? = s[j]? := by
  have hPl := (List.getElem?_eq_some_iff.mp hP).1
  have c1 := comp_rows (e := eVar 0) (T := Tn.nm 13) (t := tYes) (el := e__law_pairs_right_1) (vs := [13]) (ρ := [some d, some (.ref P), some (.int (total ps)), none, none, none, none, none, none, none, none, none, none, none]) (s := s) rfl hd (fun _ => true) (fun r => .tup [.int r.no, rowD r]) (fun r acc _ => by
    simp [lcTurn, wipe, e__law_pairs_right_1, szl])
  have e0 : (rows.filter fun _ => true) = rows := by simp
  rw [e0, ev_tgNm] at c1
  have d1 := dictP_rows nd rowD s
  have hd1 : Rv (s ++ [Ob.dk (thereK rows)]) d rows := hd.app (app_fr s _)
  have c2 := comp_rows (e := eVar 0) (T := Tn.nm 13) (t := tYes) (el := e__law_pairs_right_2) (vs := [13]) (ρ := [some d, some (.ref P), some (.int (total ps)), some (.ref s.length), none, none, none, none, none, none, none, none, none, none]) (s := s ++ [Ob.dk (thereK rows)]) rfl hd1 (fun _ => true) (fun r => .tup [.int r.no, .int 0]) (fun r acc _ => by
    simp [lcTurn, wipe, e__law_pairs_right_2, szl])
  rw [e0, ev_tgNm] at c2
  have d2 := dictP_rows nd (fun _ => .int 0) (s ++ [Ob.dk (thereK rows)])
  have l1 : (s ++ [Ob.dk (thereK rows)]).length = s.length + 1 := by simp
  rw [l1] at d2
  have hk0 : (rows.map fun r => ((Sum.inl r.no, D.int 0) : Ky × D)) = lkv rows (spentF ps 0) := rfl
  rw [hk0] at d2
  have look0 : Look rows ps s 0 (s ++ [Ob.dk (thereK rows)] ++ [Ob.dk (lkv rows (spentF ps 0))] ++ [Ob.lst []]) := by
    refine ⟨by simp, by simp, by simp, fun j hj => ?_, by simp⟩
    rw [List.append_assoc, List.append_assoc, List.getElem?_append_left hj]
  have aT : ∀ p ∈ ps, p.a ≤ total ps := sum_le_of fun p hp => by
    obtain ⟨_, _, _, _, _, h⟩ := ok.pr p hp
    omega
  have vw : ∀ k s', Look rows ps s k s' → vwLst P s' = some (ps.map pairD) := fun k s' h => by
    have : s'[P]? = some (.lst (ps.map pairD)) := by rw [h.fr P hPl]; exact hP
    simp only [vwLst, lstOf, this]
  obtain ⟨ρ1, s1, f1, y7, y8, y9, y10, y11, y12, r1, look1⟩ := forLive_ok (body := thenG (Tn.nm 7).tg w__law_pairs_right_1) (vw := vwLst P) (ds := ps.map pairD)
    (fun k ρ s' => ∃ y7 y8 y9 y10 y11 y12, ρ = [some d, some (.ref P), some (.int (total ps)), some (.ref s.length), some (.ref (s.length + 1)), some (.ref (s.length + 2)), some (.int (total (ps.take k))), y7, y8, y9, y10, y11, y12, none] ∧ Look rows ps s k s')
    (fun k ρ s' ⟨_, _, _, _, _, _, _, h⟩ => vw k s' h) (fun k pd ρ s' hk ⟨y7, y8, y9, y10, y11, y12, r, h⟩ => by
      rw [List.getElem?_map] at hk
      cases hp : ps[k]? with
      | none => rw [hp] at hk; cases hk
      | some p =>
        rw [hp] at hk
        cases hk
        obtain ⟨s'', z7, z8, z9, z10, z11, z12, e, h'⟩ := pair_step (d := d) (pd := .ref P) (x7 := y7) (x8 := y8) (x9 := y9) (x10 := y10) (x11 := y11) (x12 := y12) (x13 := none) nd hsz hps ok hp h (aT p (List.mem_of_getElem? hp))
        exact ⟨_, s'', .inl (by rw [r]; exact e), z7, z8, z9, z10, z11, z12, rfl, h'⟩) (ps.map pairD).length 0 [some d, some (.ref P), some (.int (total ps)), some (.ref s.length), some (.ref (s.length + 1)), some (.ref (s.length + 2)), some (.int 0), none, none, none, none, none, none, none] _ (by simp) ⟨none, none, none, none, none, none, by simp [total], look0⟩
  have hP0 : (s ++ [Ob.dk (thereK rows)] ++ [Ob.dk (lkv rows (spentF ps 0))] ++ [Ob.lst []])[P]? = some (.lst (ps.map pairD)) := by rw [look0.fr P hPl]; exact hP
  have fr1 := sFor_live (it := iVal (eVar 1)) (g := (Tn.nm 7).tg) (b := w__law_pairs_right_1) (ρ := [some d, some (.ref P), some (.int (total ps)), some (.ref s.length), some (.ref (s.length + 1)), some (.ref (s.length + 2)), some (.int 0), none, none, none, none, none, none, none]) (s := s ++ [Ob.dk (thereK rows)] ++ [Ob.dk (lkv rows (spentF ps 0))] ++ [Ob.lst []]) (s1 := s ++ [Ob.dk (thereK rows)] ++ [Ob.dk (lkv rows (spentF ps 0))] ++ [Ob.lst []]) (vw := vwLst P) (by show (R.ok (D.ref P) _).bind itVal = _; exact ev_itR hP0)
  rw [vwLen_of (vw 0 _ look0), f1, ev_tgNm] at fr1
  rw [List.length_map] at r1 look1
  have tk : ps.take ps.length = ps := List.take_length
  rw [tk] at r1
  have hd2 : Rv s1 d rows := hd.app look1.fr
  have sp : ∀ r ∈ rows, spentF ps ps.length r.no ≤ r.left := fun r hr => by
    have := ok.sp r hr
    unfold spentF
    rw [tk]
    refine Int.le_trans (Int.le_of_eq ?_) this
    congr 1
    refine List.map_congr_left fun p _ => ?_
    split <;> split <;> omega
  obtain ⟨ρ2, s2, f2, x, r2, e2⟩ := for_rows (e := eVar 0) (g := (Tn.nm 13).tg) (b := w__law_pairs_right_2) (ρ := ρ1) (s := s1) (d := d) (rows := rows) (by rw [r1]; rfl) hd2
    (fun i ρ s' => ∃ x, ρ = [some d, some (.ref P), some (.int (total ps)), some (.ref s.length), some (.ref (s.length + 1)), some (.ref (s.length + 2)), some (.int (total ps)), y7, y8, y9, y10, y11, y12, x] ∧ s' = s1)
    (fun i ρ s' ⟨x, _, h⟩ => by rw [h]; exact hd2) (fun i r ρ s' hi ⟨x, hr, hs⟩ => by
      have hm := List.mem_of_getElem? hi
      have g := ixD look1.sp (asc_lkv (L := spentF ps ps.length) hm)
      have le := sp r hm
      refine ⟨_, s1, .inl ?_, some (rowD r), rfl, rfl⟩
      rw [hr, hs]
      simp [thenG, w__law_pairs_right_2, g.1, show ¬ r.left < spentF ps ps.length r.no by omega]) ⟨none, r1, rfl⟩
  rw [ev_tgNm] at f2
  refine ⟨s1, ?_, look1.fr⟩
  simp only [f__law_pairs_right, fnSem, b__law_pairs_right, List.length_cons, List.length_nil, Nat.zero_add, Nat.reduceAdd, if_true, ev_seq, ev_ret, ev_asg, ev_arg, ev_cons, ev_nil, ev_C, List.map_cons, List.map_nil, Nat.reduceSub, List.replicate, List.cons_append, List.nil_append, R.bind_ok, R.then_ok, List.set_cons_succ, List.set_cons_zero, ev_tgNm, ev_gNm, ev_lst, c1, d1]
  have c2 : eLcC (iVal (eVar 0)) (gNm 13) tYes e__law_pairs_right_2 [13] [some d, some (.ref P), some (.int (total ps)), some (.ref s.length), none, none, none, none, none, none, none, none, none, none] (s ++ [Ob.dk (rows.map fun r => (.inl r.no, rowD r))]) = _ := c2
  simp only [c2, R.bind_ok, d2, R.then_ok, List.set_cons_succ, List.set_cons_zero, List.length_nil]
  rw [if_pos (Nat.zero_le _)]
  have l2 : (s ++ [Ob.dk (thereK rows)] ++ [Ob.dk (lkv rows (spentF ps 0))]).length = s.length + 2 := by simp
  have fr1 : sFor (iVal (eVar 1)) (gNm 7) w__law_pairs_right_1 [some d, some (.ref P), some (.int (total ps)), some (.ref s.length), some (.ref (s.length + 1)), some (.ref (s.length + 2)), some (.int 0), none, none, none, none, none, none, none] (s ++ [Ob.dk (thereK rows)] ++ [Ob.dk (lkv rows (spentF ps 0))] ++ [Ob.lst []]) = .nx ρ1 s1 := fr1
  simp only [R.then_ok, l2, List.set_cons_succ, List.set_cons_zero]
  erw [fr1]
  dsimp only
  rw [f2, r2, e2]
  simp
end Rh
end

section
set_option Elab.async false
set_option linter.all false
set_option maxRecDepth 100000
set_option maxHeartbeats 4000000
/-! k41: the law's own look answers True. -/
namespace Rh
open PySem
@[simp] theorem ev_eqB (a b : Bool) (s : Sto) : opEq (.bl a) (.bl b) s = .ok (.bl (a == b)) s := by
  unfold opEq pyEq
  simp only [toPy]
  unfold PyData.eqv
  cases a <;> cases b <;> rfl
theorem sumR_bd {f : Row → Int} {M : Int} (hM : 0 ≤ M) : ∀ {rows : List Row}, (∀ r ∈ rows, 0 ≤ f r ∧ f r ≤ M) → 0 ≤ sumR rows f ∧ sumR rows f ≤ rows.length * M
  | [], _ => ⟨Int.le_refl _, by simp [sumR]⟩
  | r :: rows, h => by
    obtain ⟨h1, h2⟩ := sumR_bd hM (rows := rows) fun q hq => h q (List.mem_cons_of_mem _ hq)
    obtain ⟨h3, h4⟩ := h r List.mem_cons_self
    have e : sumR (r :: rows) f = f r + sumR rows f := by unfold sumR; rw [List.map_cons, List.sum_cons]
    rw [e, List.length_cons]
    refine ⟨by omega, ?_⟩
    have : ((rows.length + 1 : Nat) : Int) * M = rows.length * M + M := by
      rw [Int.natCast_add, Int.add_mul]
      simp
    rw [this]
    omega
theorem due_take {rows : List Row} {i : Nat} {r : Row} {cut : Int} (h : rows[i]? = some r) : dueSum cut (rows.take (i + 1)) = dueSum cut (rows.take i) + if due cut r then r.left else 0 := by
  unfold dueSum sumR
  rw [List.take_add_one, h, List.map_append, List.sum_append]
  simp
theorem buy_dec (b : Bool) : decide (sideS b = ("buy" : Str)) = b := by
  have := side_dec b true
  rw [show sideS true = ("buy" : Str) from rfl] at this
  rw [this]
  cases b <;> rfl
theorem right_ok {rows : List Row} {ps : List Pair} {s : Sto} {cut : Int} {d : D} {P : Nat} (nd : (rows.map Row.no).Nodup) (hsz : rows.length ≤ 1000) (hl : ∀ r ∈ rows, 0 ≤ r.left ∧ r.left ≤ 1000000000) (hps : ps.length ≤ 100000) (ok : PairsOk rows cut ps) (hd : Rv s d rows) (hP : s[P]? = some (.lst (ps.map pairD))) :
    ∃ s', f__law_right [d, .tup [.int (total ps), .int cut, .ref P]] s = .ok (.bl true) s' ∧ ∀ j, j < s.length → s'[j]? = s[j]? := by
  obtain ⟨s', e1, fr⟩ := pairs_right_ok nd hsz hps ok hd hP
  have bd := sumR_bd (f := fun r => if due cut r then r.left else 0) (M := 1000000000) (by decide) (rows := rows) (fun r hr => by
    have := hl r hr
    split <;> omega)
  have bt : 0 ≤ total ps ∧ total ps ≤ 1000000000000 := by
    rw [← ok.due]
    have h1 : (rows.length : Int) * 1000000000 ≤ 1000000000000 := by omega
    exact ⟨bd.1, Int.le_trans bd.2 h1⟩
  have w1 := whole_ok cut 1000000 s
  rw [decide_eq_true ok.c0, decide_eq_true ok.c1] at w1
  have w2 := whole_ok (total ps) 1000000000000000000000000000000000000000000000000000000000000 s
  rw [decide_eq_true bt.1, decide_eq_true (Int.le_trans bt.2 (by decide))] at w2
  have il := isi_lst hP
  obtain ⟨ρ2, s2, f2, x, r2, e2⟩ := for_rows (e := eVar 0) (g := (Tn.nm 3).tg) (b := w__law_right_1) (ρ := [some d, some (.tup [.int (total ps), .int cut, .ref P]), some (.int 0), none]) (s := s) (d := d) (rows := rows) rfl hd
    (fun i ρ s' => ∃ x, ρ = [some d, some (.tup [.int (total ps), .int cut, .ref P]), some (.int (dueSum cut (rows.take i))), x] ∧ s' = s)
    (fun i ρ s' ⟨x, _, h⟩ => by rw [h]; exact hd) (fun i r ρ s' hi ⟨x, hr, hs⟩ => by
      rw [hr, hs, due_take hi]
      by_cases c : (decide (cut < r.price) == r.buy) = true
      · refine ⟨[some d, some (.tup [.int (total ps), .int cut, .ref P]), some (.int (dueSum cut (rows.take i) + if due cut r then r.left else 0)), some (rowD r)], s, .inl ?_, some (rowD r), rfl, rfl⟩
        have c' : due cut r = true := c
        simp only [thenG, w__law_right_1, ev_tgNm, ev_gNm, List.set_cons_succ, List.set_cons_zero, ev_seq, ev_sIf, ev_tVal, ev_bin, ev_var, ev_C, List.getElem?_cons_succ, List.getElem?_cons_zero, R.bind_ok, row_3, row_2, row_5, ev_ixT, itemAt_1, ev_ofS, ev_gt, ev_eqS, buy_dec, ev_eqB, c, ev_truthy, R.then_ok, if_true, ev_asg, ev_addI, c', ev_sNil]
      · refine ⟨[some d, some (.tup [.int (total ps), .int cut, .ref P]), some (.int (dueSum cut (rows.take i) + if due cut r then r.left else 0)), some (rowD r)], s, .inl ?_, some (rowD r), rfl, rfl⟩
        have c2 : (decide (cut < r.price) == r.buy) = false := by simpa using c
        have c' : due cut r = false := c2
        simp only [thenG, w__law_right_1, ev_tgNm, ev_gNm, List.set_cons_succ, List.set_cons_zero, ev_seq, ev_sIf, ev_tVal, ev_bin, ev_var, ev_C, List.getElem?_cons_succ, List.getElem?_cons_zero, R.bind_ok, row_3, row_2, row_5, ev_ixT, itemAt_1, ev_ofS, ev_gt, ev_eqS, buy_dec, ev_eqB, c2, ev_truthy, R.then_ok, if_true, ev_asg, ev_addI, c', ev_sNil, Bool.false_eq_true, if_false, Int.add_zero]) ⟨none, by simp [dueSum, sumR], rfl⟩
  rw [List.take_length, ok.due] at r2
  rw [ev_tgNm] at f2
  refine ⟨s', ?_, fr⟩
  have pw : (10 : Int) ^ (60 : Int).toNat = 1000000000000000000000000000000000000000000000000000000000000 := by decide
  simp [f__law_right, fnSem, b__law_right, isi_tup, il, w1, w2, f2, r2, e2, e1, pw]
end Rh
end

section
set_option Elab.async false
set_option linter.all false
set_option maxRecDepth 100000
set_option maxHeartbeats 4000000
/-! k41: the law is True. -/
namespace Rh
open PySem
def shP : Option Int → PyData
  | none => .none
  | some i => .int i
def rowP (r : Row) : PyData := .tuple [.int r.no, .str r.own, .str (sideS r.buy), .int r.price, shP r.shown, .int r.left, .int r.seen, .int r.stamp]
theorem toPy_row (r : Row) (s : Sto) : toPy 11 s (rowD r) = some (rowP r) := by
  unfold rowD rowP
  cases h : r.shown <;> simp [toPy, toPys, shD, shP]
theorem toPys_rows (s : Sto) : ∀ rows : List Row, toPys (toPy 11 s) (rows.map rowD) = some (rows.map rowP)
  | [] => rfl
  | r :: rows => by
    rw [List.map_cons, toPys, toPy_row, toPys_rows s rows]
    rfl
theorem plain_rows : ∀ rows : List Row, PyData.eqv (.list (rows.map rowP)) (.list (rows.map rowP)) = true := by
  intro rows
  refine PySem.SeqAt.eqv_refl_plain _ ?_
  show PyData.plainAll (rows.map rowP) = true
  induction rows with
  | nil => rfl
  | cons r rows ih =>
    show (PyData.plain (rowP r) && PyData.plainAll (rows.map rowP)) = true
    rw [ih, Bool.and_true]
    unfold rowP
    cases r.shown <;> rfl
theorem rows_ne {s : Sto} {d : D} {rows : List Row} (h : Rv s d rows) : opNe (.cl (rows.map rowD)) d s = .ok (.bl false) s := by
  have e1 : toPy 12 s (.cl (rows.map rowD)) = some (.list (rows.map rowP)) := by
    show (toPys (toPy 11 s) (rows.map rowD)).map PyData.list = _
    rw [toPys_rows]
    rfl
  have e2 : toPy 12 s d = some (.list (rows.map rowP)) := by
    rcases h with rfl | ⟨l, rfl, hl⟩
    · exact e1
    · simp only [toPy, hl, toPys_rows, Option.map_some]
  unfold opNe pyEq
  rw [e1, e2]
  dsimp only
  rw [plain_rows]
  rfl
theorem list_rows {s : Sto} {d : D} {rows : List Row} (h : Rv s d rows) (hl : rows.length ≤ 1000) : bLst true [d] s = .ok (.cl (rows.map rowD)) s := by
  have so : seqOf s d = some (rows.map rowD) := by
    rcases h with rfl | ⟨l, rfl, hl⟩
    · rfl
    · simp only [seqOf, lstOf, hl]
  unfold bLst
  dsimp only
  rw [so]
  dsimp only
  rw [if_pos (by rw [List.length_map]; exact szl_small hl)]
  rfl
/-- one turn of two: told, looked at, changed behind -/
theorem turn41_ok {s : Sto} {d : D} {rows : List Row} {n : Nat} (hd : Rv s d rows) (ok : RowsOk n rows) (hn : n ≤ 100) {a b c x4 x5 x6 : Option D} {k : D} :
    ∃ s' y5 y6, thenG (Tn.nm 4).tg w_law_1 k [a, b, c, some d, x4, x5, x6] s = .nx [a, b, c, some d, some k, y5, y6] s' ∧ Rv s' d rows := by
  have hlen : rows.length ≤ 100 := Nat.le_trans ok.len hn
  have l1 := list_rows hd (by omega)
  obtain ⟨cut, ps, s1, e1, pk, hP, fr1, len1, hps⟩ := paired_ok s ok.nos (fun r hr => ⟨(ok.row r hr).p0, (ok.row r hr).p1⟩) (fun r hr => by have := (ok.row r hr).l0; omega) hlen
  have hd1 := hd.app fr1
  have n1 := rows_ne hd1
  obtain ⟨s2, e2, fr2⟩ := right_ok ok.nos (by omega) (fun r hr => ⟨by have := (ok.row r hr).l0; omega, (ok.row r hr).l1⟩) (by omega) pk hd1 hP
  have hP2 : s2[s.length + 1]? = some (.lst (ps.map pairD)) := by
    rw [fr2 _ (by omega)]
    exact hP
  have il := isLst_ref hP2
  have ap := append_ok (d := .tup [.str "x"]) hP2 (by rw [List.length_map]; omega)
  have fr3 : ∀ j, j < s.length → (s2.set (s.length + 1) (.lst (ps.map pairD ++ [.tup [.str "x"]])))[j]? = s[j]? := fun j hj => by
    rw [List.getElem?_set_ne (by omega), fr2 j (by omega), fr1 j hj]
  have hd3 := hd.app fr3
  have n3 := rows_ne hd3
  refine ⟨s2.set (s.length + 1) (.lst (ps.map pairD ++ [.tup [.str "x"]])), some (.cl (rows.map rowD)), some (.tup [.int (total ps), .int cut, .ref (s.length + 1)]), ?_, hd3⟩
  simp [thenG, w_law_1, l1, e1, n1, e2, il, szl, ap, n3]
/-- one cell -/
theorem cell_ok {s : Sto} {ns : List Int} {i : Nat} (hi : i ≤ 100) {x1 x2 x3 x4 x5 x6 : Option D} : ∃ s' y2 y3 y4 y5 y6, thenG (Tn.nm 1).tg w_law_2 (.int (i : Int)) [some (.fz (ns.map D.int)), x1, x2, x3, x4, x5, x6] s = .nx [some (.fz (ns.map D.int)), some (.int (i : Int)), y2, y3, y4, y5, y6] s' := by
  obtain ⟨s1, o1, e1, t1, h1⟩ := tape_ok (s := s) (ns := ns) hi
  obtain ⟨rows, s2, e2, ok2, c2⟩ := rows_ok (mr := 14) t1 (by decide)
  have e2 : f__law_rows [.ref s.length, .int 14] s1 = .ok (.cl (rows.map rowD)) s2 := e2
  obtain ⟨v, s3, e3, a3, b3, c3, _⟩ := digit_ok (m := 3) c2.tape (by decide) (by decide)
  have it : ∀ ρ s, iRange1 (aCons (eC (.int 2)) aNil) ρ s = .ok (.its ((rng 2).map D.int)) s := fun ρ s => by
    show (R.ok [D.int 2] s).bind itRange1 = _
    have := ev_range (n := 2) (s := s) (by decide) (by decide)
    rw [rngD_eq] at this
    exact this
  -- whichever rows they are
  have rest : ∀ (d : D) (rw_ : List Row) (s4 : Sto), Rv s4 d rw_ → RowsOk 14 rw_ → ∃ s' y4 y5 y6, sFor (iRange1 (aCons (eC (.int 2)) aNil)) (Tn.nm 4).tg w_law_1 [some (.fz (ns.map D.int)), some (.int (i : Int)), some (.ref s.length), some d, x4, x5, x6] s4 = .nx [some (.fz (ns.map D.int)), some (.int (i : Int)), some (.ref s.length), some d, y4, y5, y6] s' := by
    intro d rw_ s4 hd ok
    rw [sFor_its (it _ _)]
    obtain ⟨ρ', s', e, y4, y5, y6, r, _⟩ := forIts_ok (body := thenG (Tn.nm 4).tg w_law_1) (fun _ ρ s' => ∃ y4 y5 y6, ρ = [some (.fz (ns.map D.int)), some (.int (i : Int)), some (.ref s.length), some d, y4, y5, y6] ∧ Rv s' d rw_)
      ((rng 2).map D.int) 0 [some (.fz (ns.map D.int)), some (.int (i : Int)), some (.ref s.length), some d, x4, x5, x6] s4 (fun k kd ρ s' _ ⟨y4, y5, y6, r, hd'⟩ => by
        obtain ⟨s'', z5, z6, e, hd''⟩ := turn41_ok (a := some (.fz (ns.map D.int))) (b := some (.int (i : Int))) (c := some (.ref s.length)) (x4 := y4) (x5 := y5) (x6 := y6) (k := kd) hd' ok (by decide)
        exact ⟨_, s'', .inl (by rw [r]; exact e), some kd, z5, z6, rfl, hd''⟩) ⟨x4, x5, x6, rfl, hd⟩
    exact ⟨s', y4, y5, y6, by rw [e, r]⟩
  by_cases hz : v = 0
  · subst hz
    obtain ⟨rw_, s4, e4, hL, ok4, c4⟩ := close_ok c3.tape
    obtain ⟨s', y4, y5, y6, e5⟩ := rest (.ref s3.length) rw_ s4 (.inr ⟨_, rfl, hL⟩) ok4
    rw [ev_tgNm] at e5
    refine ⟨s', some (.ref s.length), some (.ref s3.length), y4, y5, y6, ?_⟩
    simp [thenG, w_law_2, e1, e2, e3, e4, e5]
  · obtain ⟨s', y4, y5, y6, e5⟩ := rest (.cl (rows.map rowD)) rows s3 (.inl rfl) ok2
    rw [ev_tgNm] at e5
    refine ⟨s', some (.ref s.length), some (.cl (rows.map rowD)), y4, y5, y6, ?_⟩
    simp [thenG, w_law_2, e1, e2, e3, hz, e5]
theorem plain_law : ∀ ns : List Int, ns.length ≤ 63 → (∀ z ∈ ns, Builtin.Int.intBits z ≤ 1048576) → ∃ s', f_law [.fz (ns.map D.int)] [] = .ok (.bl true) s' := by
  intro ns _ _
  obtain ⟨n, hn, n0, n1⟩ : ∃ n : Int, (if (if (ns.length : Int) < 5 then (ns.length : Int) else 5) > 1 then (if (ns.length : Int) < 5 then (ns.length : Int) else 5) else 1) = n ∧ 0 ≤ n ∧ n ≤ 5 := by
    refine ⟨_, rfl, ?_, ?_⟩ <;> (repeat' split) <;> omega
  have it : (iRange1 (aCons (eArg bMaxA (aCons (eC (.int 1)) (aCons (eArg bMinA (aCons (eC (.int 5)) (aCons (eArg bLen (aCons (eVar 0) aNil)) aNil))) aNil))) aNil)) [some (.fz (ns.map D.int)), none, none, none, none, none, none] [] = .ok (.its ((rng n).map D.int)) [] := by
    have := ev_range (n := n) (s := []) n0 (by omega)
    rw [rngD_eq] at this
    rw [← this, ← hn]
    simp
  obtain ⟨ρ', s', e, y1, y2, y3, y4, y5, y6, r⟩ := forIts_ok (body := thenG (Tn.nm 1).tg w_law_2) (fun _ ρ _ => ∃ y1 y2 y3 y4 y5 y6, ρ = [some (.fz (ns.map D.int)), y1, y2, y3, y4, y5, y6])
    ((rng n).map D.int) 0 [some (.fz (ns.map D.int)), none, none, none, none, none, none] [] (fun k kd ρ s' hk ⟨y1, y2, y3, y4, y5, y6, r⟩ => by
      have hk' : k < n.toNat := by
        have := (List.getElem?_eq_some_iff.mp hk).1
        rwa [List.length_map, rng_len] at this
      have hd : kd = .int (k : Int) := by
        have q := hk
        unfold rng at q
        rw [List.map_map, List.getElem?_map, List.getElem?_range hk'] at q
        cases q
        rfl
      subst hd
      obtain ⟨s'', z2, z3, z4, z5, z6, e⟩ := cell_ok (s := s') (ns := ns) (i := k) (by omega) (x1 := y1) (x2 := y2) (x3 := y3) (x4 := y4) (x5 := y5) (x6 := y6)
      exact ⟨_, s'', .inl (by rw [r]; exact e), some (.int (k : Int)), z2, z3, z4, z5, z6, rfl⟩) ⟨none, none, none, none, none, none, rfl⟩
  have fr := sFor_its (g := (Tn.nm 1).tg) (b := w_law_2) it
  rw [e, ev_tgNm] at fr
  refine ⟨s', ?_⟩
  simp [f_law, fnSem, b_law, fr]
end Rh
end

section

open PySem PySem.W PyProof.Rows in
set_option maxRecDepth 100000 in
set_option maxHeartbeats 0 in
theorem PySem.Challenge.cw_ringhall_k41_the_most_of_pairs_holds : PySem.Challenge.rw_ringhall_k41_the_most_of_pairs.Holds := by
  w_on; o_law; k_head; (case hw => w_witness2)
  k_fill
  refine Rh.walk_rh (l := PySem.Challenge.rw_ringhall_k41_the_most_of_pairs) (n := 63) (k := 5) (x := "script") rfl (by decide) rfl ⟨rfl, by decide, by decide⟩ (fun w h Y => Y.1) ?F
  case F =>
    intro w mg fa h Y KX G hmg tabs
    refine' Rh.all_mk KX G hmg tabs Rh.plain_law ?a_raised ?lkZ_raised ?hcZ_raised ?hkZ_raised ?a_paired_off ?lkZ_paired_off ?hcZ_paired_off ?hkZ_paired_off ?a__law_tape ?lkZ__law_tape ?hcZ__law_tape ?hkZ__law_tape ?a__law_digit ?lkZ__law_digit ?hcZ__law_digit ?hkZ__law_digit ?a__law_drawn_order ?lkZ__law_drawn_order ?hcZ__law_drawn_order ?hkZ__law_drawn_order ?a__law_row ?lkZ__law_row ?hcZ__law_row ?hkZ__law_row ?a__law_rows ?lkZ__law_rows ?hcZ__law_rows ?hkZ__law_rows ?a__law_close_rows ?lkZ__law_close_rows ?hcZ__law_close_rows ?hkZ__law_close_rows ?a__law_whole ?lkZ__law_whole ?hcZ__law_whole ?hkZ__law_whole ?a__law_pairs_right ?lkZ__law_pairs_right ?hcZ__law_pairs_right ?hkZ__law_pairs_right ?a__law_right ?lkZ__law_right ?hcZ__law_right ?hkZ__law_right ?a_law ?lkZ_law ?hcZ_law ?hkZ_law ?v_BUY ?v_SELL ?v_MOST_PRICE ?z_sorted ?z_len ?z_min ?z_max ?z_sum ?z_abs ?z_list ?z_range ?z_isinstance ?z_int ?z_bool ?z_dict ?z_tuple ?tb_raised ?cr_raised ?nt_raised ?rc_raised
    (case a_raised => k_is)
    (case lkZ_raised => k_is)
    (case hcZ_raised => k_is)
    (case hkZ_raised => k_is)
    (case a_paired_off => k_is)
    (case lkZ_paired_off => k_is)
    (case hcZ_paired_off => k_is)
    (case hkZ_paired_off => k_is)
    (case a__law_tape => k_is)
    (case lkZ__law_tape => k_is)
    (case hcZ__law_tape => k_is)
    (case hkZ__law_tape => k_is)
    (case a__law_digit => k_is)
    (case lkZ__law_digit => k_is)
    (case hcZ__law_digit => k_is)
    (case hkZ__law_digit => k_is)
    (case a__law_drawn_order => k_is)
    (case lkZ__law_drawn_order => k_is)
    (case hcZ__law_drawn_order => k_is)
    (case hkZ__law_drawn_order => k_is)
    (case a__law_row => k_is)
    (case lkZ__law_row => k_is)
    (case hcZ__law_row => k_is)
    (case hkZ__law_row => k_is)
    (case a__law_rows => k_is)
    (case lkZ__law_rows => k_is)
    (case hcZ__law_rows => k_is)
    (case hkZ__law_rows => k_is)
    (case a__law_close_rows => k_is)
    (case lkZ__law_close_rows => k_is)
    (case hcZ__law_close_rows => k_is)
    (case hkZ__law_close_rows => k_is)
    (case a__law_whole => k_is)
    (case lkZ__law_whole => k_is)
    (case hcZ__law_whole => k_is)
    (case hkZ__law_whole => k_is)
    (case a__law_pairs_right => k_is)
    (case lkZ__law_pairs_right => k_is)
    (case hcZ__law_pairs_right => k_is)
    (case hkZ__law_pairs_right => k_is)
    (case a__law_right => k_is)
    (case lkZ__law_right => k_is)
    (case hcZ__law_right => k_is)
    (case hkZ__law_right => k_is)
    (case a_law => k_is)
    (case lkZ_law => k_is)
    (case hcZ_law => k_is)
    (case hkZ_law => k_is)
    (case v_BUY => k_is)
    (case v_SELL => k_is)
    (case v_MOST_PRICE => k_is)
    (case z_sorted => k_is)
    (case z_len => k_is)
    (case z_min => k_is)
    (case z_max => k_is)
    (case z_sum => k_is)
    (case z_abs => k_is)
    (case z_list => k_is)
    (case z_range => k_is)
    (case z_isinstance => k_is)
    (case z_int => k_is)
    (case z_bool => k_is)
    (case z_dict => k_is)
    (case z_tuple => k_is)
    (case tb_raised => with_unfolding_all exact rfl)
    (case cr_raised => exact rfl)
    (case nt_raised => with_unfolding_all exact rfl)
    (case rc_raised => decide +kernel)
#print axioms PySem.Challenge.cw_ringhall_k41_the_most_of_pairs_holds
end
