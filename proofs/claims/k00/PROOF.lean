import PyProof.Rows.All
import Wide.All
import OpenK.AllK
import Wide.FinOn
import HandS.ForMost
import HandS.TupAny
import KE.SortData
import HandS.ForExc
import HandS.Deep
import HandS.Strs
import HandS.TupLen
import HandS.IsInst
import HandS.Conv
import HandS.More
import KE.KExcIs
import HandS.ExcField
import PyProof.ReprReads
import PyProof.ReprRoads
import HandS.Sort
import KE.KExcSuper
import HandS.ExcInit
import HandS.ExcValue
import HandS.TryOnly
import HandS.Small
import HandS.Style
import HandS.Iter
import HandS.Zip
import HandS.Defaults
import HandS.HeadEnd
import HandS.HeadHook1
import HandS.HeadHook2
import HandS.Head0
import HandS.Head1
import HandS.Head2
import PySem.Challenge.RW_ringcubes_k00_errors_of_all_parts
section Z_Rc0
set_option Elab.async false
set_option linter.all false
namespace Rc
open PySem

/-- plain data; drw: the handle of the draws -/
inductive D where
  | non
  | bl (b : Bool)
  | int (i : Int)
  | str (x : Str)
  | tup (l : List D)
  | lst (l : List D)
  | dct (l : List (D × D))
  | set (l : List Int)
  | obj (k : Nat) (l : List (Nat × D))
  | err (k : Nat) (a : List D)
  | drw

def D.isNon : D → Bool
  | .non => true
  | _ => false
mutual
def D.py : D → Option PyData
  | .non => some .none
  | .bl b => some (.bool b)
  | .int i => some (.int i)
  | .str x => some (.str x)
  | .tup l => match D.pys l with
    | some r => some (.tuple r)
    | none => none
  | .lst l => match D.pys l with
    | some r => some (.list r)
    | none => none
  | .dct l => match D.pyk l with
    | some r => some (.dict r)
    | none => none
  | .set _ => none
  | .obj _ _ => none
  | .err _ _ => none
  | .drw => none
def D.pys : List D → Option (List PyData)
  | [] => some []
  | x :: r => match D.py x, D.pys r with
    | some a, some b => some (a :: b)
    | _, _ => none
def D.pyk : List (D × D) → Option (List (PyData × PyData))
  | [] => some []
  | (x, y) :: r => match D.py x, D.py y, D.pyk r with
    | some a, some b, some c => some ((a, b) :: c)
    | _, _, _ => none
end

/-- the state of the draws -/
structure S where
  large : List Int
  rest : Int
  cells : List Int
  turn : Int

/-- what a place of a frame holds: nothing known, a value that stays as it is, a list, a dict, a dict of lists, a list of lists of the frame's own, the j-th list of the own list of lists at place i -/
inductive Slot where
  | none
  | fz (d : D)
  | ol (l : List D)
  | od (l : List (D × D))
  | oll (l : List (D × List D))
  | onn (l : List (List D))
  | ali (i j : Nat)

structure Cfg where
  env : List Slot
  s : S

/-- what an expression hands back: a value, a new list, a new dict, a new list of new lists -/
inductive Out where
  | v (d : D)
  | l (l : List D)
  | d (l : List (D × D))
  | n (l : List (List D))

def Out.val : Out → D
  | .v a => a
  | .l a => .lst a
  | .d a => .dct a
  | .n a => .lst (a.map .lst)
def Out.slot : Out → Slot
  | .v a => .fz a
  | .l a => .ol a
  | .d a => .od a
  | .n a => .onn a

inductive Res (α : Type) where
  | ok (a : α) (c : Cfg)
  | exc (k : Nat) (a : List D) (s : S)
  | bad

def Res.bind {α β : Type} : Res α → (α → Cfg → Res β) → Res β
  | .ok a c, f => f a c
  | .exc k a s, _ => .exc k a s
  | .bad, _ => .bad
@[simp] theorem Res.bind_ok {α β : Type} (a : α) (c : Cfg) (f : α → Cfg → Res β) : (Res.ok a c).bind f = f a c := rfl
@[simp] theorem Res.bind_exc {α β : Type} (k : Nat) (a : List D) (s : S) (f : α → Cfg → Res β) : (Res.exc k a s : Res α).bind f = .exc k a s := rfl
@[simp] theorem Res.bind_bad {α β : Type} (f : α → Cfg → Res β) : (Res.bad : Res α).bind f = .bad := rfl

/-- what a call hands back -/
inductive CRes where
  | ok (d : D) (s : S)
  | exc (k : Nat) (a : List D) (s : S)
  | bad

inductive Op where
  | add | sub | mul | fdiv | mod | pow
  deriving DecidableEq
inductive Cm where
  | eq | ne | lt | le | gt | ge | isin | notin
  deriving DecidableEq
inductive Bi where
  | len | sorted | list | tuple | dict | set | abs | int | repr | sum | min | max | all | any | listRange
  deriving DecidableEq
inductive Df where
  | rest | turn
  deriving DecidableEq
inductive Ty where
  | own (k : Nat) | int | bool | str | list | tuple | dict | valueError
  deriving DecidableEq
inductive Tg where
  | nm (i : Nat)
  | tp (l : List Nat)
  deriving DecidableEq

mutual
inductive E where
  | loc (i : Nat)
  | cst (d : D)
  | op (o : Op) (a b : E)
  | neg (a : E)
  | cm (o : Cm) (a b : E)
  | cm2 (o p : Cm) (a b c : E)
  | isN (a : E)
  | notN (a : E)
  | and (a b : E)
  | or (a b : E)
  | not (a : E)
  | ite (c a b : E)
  | tup (l : Es)
  | lst (l : Es)
  | dct (l : Kv)
  | ix (a b : E)
  | sl (a : E) (lo hi : Eo)
  | fld (a : E) (j : Nat)
  | call (j : Nat) (l : Es)
  | bi (b : Bi) (a : E)
  | bi2 (b : Bi) (a c : E)
  | get (a k z : E)
  | pop (i : Nat) (k : Eo)
  | comp (e : E) (t : Tg) (src : Src) (c : Eo) (own : List Nat)
  | comp2 (e : E) (t : Tg) (src : Src) (t2 : Tg) (src2 : Src) (c2 : Eo) (own own2 : List Nat)
  | newErr (k : Nat) (a : E)
  | dget (i : Nat) (f : Df)
  | dpop (i : Nat)
  | dlarge (i : Nat)
  | mkdrw (a b : E)
  | caught (e : E)
  | isa (a : E) (k : List Ty)
inductive Es where
  | nil
  | cons (a : E) (r : Es)
  | star (a : E) (r : Es)
inductive Kv where
  | nil
  | cons (k v : E) (r : Kv)
inductive Eo where
  | no
  | yes (e : E)
inductive Src where
  | seq (e : E)
  | rng (e : E)
  | rng2 (a b : E)
  | enum (e : E)
  | zip (a b : E)
  | items (e : E)
  | cells (i : Nat)
end

mutual
inductive C where
  | asg (t : Tg) (e : E)
  | par (ts : List Nat) (l : Es)
  | put (i : Nat) (k e : E)
  | put2 (i : Nat) (k : E) (j : Nat) (m : E) (e f : E)
  | aug (i : Nat) (o : Op) (e : E)
  | app (i : Nat) (e : E)
  | sapp (i : Nat) (k e : E)
  | setd (i : Nat) (k e : E)
  | ex (e : E)
  | ifs (c : E) (a b : Cs)
  | whl (c : E) (a : Cs)
  | for (t : Tg) (src : Src) (a : Cs)
  | ret (e : E)
  | retN
  | brk
  | cnt
  | pass
  | raise (k : Nat) (a : E)
  | dset (i : Nat) (f : Df) (e : E)
inductive Cs where
  | nil
  | cons (a : C) (r : Cs)
end

structure Pr where
  /-- the own classes that a class is of, itself among them; whether it is an error; the field ids of an error's attribute -/
  mro : Nat → List Nat
  isErr : Nat → Bool
  isObj : Nat → Bool
  attr : Nat → Option Nat
  /-- the fields of an object of an own class -/
  flds : Nat → List Nat

def leD (a b : D) : Bool := PySem.W.dataLe false (fun d : D => (d.py).getD .none) a b
def alikeB (l : List PyData) : Bool := l.all fun a => l.all fun b => PySem.W.alike a b
def tupB : PyData → Bool
  | .tuple (_ :: _) => true
  | _ => false
def flatB : PyData → Bool
  | .none => false
  | .tuple _ => false
  | _ => true
def sortOkB (l : List PyData) : Bool := l.all tupB || l.all flatB
def sortD (l : List D) : Option (List D) := match D.pys l with
  | some ps => if alikeB ps && sortOkB ps && ps.all (fun p => decide (p.depth ≤ 64)) then some (l.mergeSort leD) else none
  | none => none

/-- both are plain, not too deep, without dicts -/
def dEqP (x y : D) : Option Bool := match x.py, y.py with
  | some p, some q => if PySem.SeqAt.shaped p && PySem.SeqAt.shaped q then some (PyData.eqv p q) else none
  | _, _ => none
def lenL : D → Option Nat
  | .lst l => some l.length
  | _ => none
def dEq (x y : D) : Option Bool := match lenL x, lenL y with
  | some m, some n => if m = n then dEqP x y else some false
  | _, _ => dEqP x y

/-- x in l, by == -/
def dIn (x : D) (l : List D) : Option Bool := match x.py, D.pys l with
  | some p, some ps => if PySem.SeqAt.shaped p && PyData.canLayAll0 ps then some (ps.any fun z => PyData.eqv z p) else none
  | _, _ => none

/-- two keys of a dict: numbers, texts, tuples of these -/
def keyD : D → Option (List (Int ⊕ Str) ⊕ (Int ⊕ Str))
  | .int i => some (.inr (.inl i))
  | .str x => some (.inr (.inr x))
  | .tup l => match keys l with
    | some r => some (.inl r)
    | none => none
  | _ => none
where keys : List D → Option (List (Int ⊕ Str))
  | [] => some []
  | .int i :: r => match keys r with
    | some q => some (.inl i :: q)
    | none => none
  | .str x :: r => match keys r with
    | some q => some (.inr x :: q)
    | none => none
  | _ :: _ => none
def keyEq (a b : D) : Option Bool := match keyD a, keyD b with
  | some (.inl p), some (.inl q) => some (decide (p = q))
  | some (.inr p), some (.inr q) => some (decide (p = q))
  | _, _ => none
def dFind {α : Type} (k : D) : List (D × α) → Option (Option α)
  | [] => match keyD k with
    | some _ => some none
    | none => none
  | (q, v) :: r => match keyEq q k with
    | some true => some (some v)
    | some false => dFind k r
    | none => none
def dPut {α : Type} (k : D) (v : α) : List (D × α) → Option (List (D × α))
  | [] => match keyD k with
    | some _ => some [(k, v)]
    | none => none
  | (q, w) :: r => match keyEq q k with
    | some true => some ((q, v) :: r)
    | some false => match dPut k v r with
      | some t => some ((q, w) :: t)
      | none => none
    | none => none

def dIsin : D → D → Option Bool
  | x, .lst l => dIn x l
  | x, .tup l => dIn x l
  | x, .dct l => match dFind x l with
    | some r => some r.isSome
    | none => none
  | .int i, .set l => some (l.contains i)
  | _, _ => none
def cmI (f : Int → Int → Bool) : D → D → Option Bool
  | .int i, .int j => some (f i j)
  | _, _ => none
def optNot : Option Bool → Option Bool
  | some b => some (!b)
  | none => none
def dCm : Cm → D → D → Option Bool
  | .eq => dEq
  | .ne => fun x y => optNot (dEq x y)
  | .lt => cmI fun i j => decide (i < j)
  | .le => cmI fun i j => decide (i ≤ j)
  | .gt => cmI fun i j => decide (j < i)
  | .ge => cmI fun i j => decide (j ≤ i)
  | .isin => dIsin
  | .notin => fun x y => optNot (dIsin x y)

def most : Nat := 100000
/-- numbers whose products and quotients are let -/
def bigN : Nat := 2 ^ 600
def dAdd : D → D → Option Out
  | .int i, .int j => some (.v (.int (i + j)))
  | .lst a, .lst b => if a.length + b.length ≤ most then some (.l (a ++ b)) else none
  | .tup a, .tup b => if a.length + b.length ≤ most then some (.v (.tup (a ++ b))) else none
  | _, _ => none
def dSub : D → D → Option Out
  | .int i, .int j => some (.v (.int (i - j)))
  | _, _ => none
def dMul : D → D → Option Out
  | .int i, .int j => if (-(2 ^ 64) < i ∧ i < 2 ^ 64) ∨ (-(2 ^ 64) < j ∧ j < 2 ^ 64) then some (.v (.int (i * j))) else none
  | _, _ => none
def dFdiv : D → D → Option Out
  | .int i, .int j => if 0 < j ∧ j < 1073741824 then some (.v (.int (i / j))) else none
  | _, _ => none
def dMod : D → D → Option Out
  | .int i, .int j => if 0 < j then some (.v (.int (i % j))) else none
  | _, _ => none
def dPow : D → D → Option Out
  | .int i, .int j => if 0 ≤ j ∧ j ≤ 1000 ∧ i.natAbs < 2 ^ 64 then some (.v (.int (i ^ j.toNat))) else none
  | _, _ => none
def dOp : Op → D → D → Option Out
  | .add => dAdd
  | .sub => dSub
  | .mul => dMul
  | .fdiv => dFdiv
  | .mod => dMod
  | .pow => dPow

/-- the place that an index means -/
def place (i : Int) (n : Nat) : Option Nat := L2.ixN n i
def dIx (x y : D) : Option D := match x, y with
  | .lst l, .int i => match place i l.length with
    | some j => l[j]?
    | none => none
  | .tup l, .int i => match place i l.length with
    | some j => l[j]?
    | none => none
  | .dct l, k => match dFind k l with
    | some (some v) => some v
    | _ => none
  | _, _ => none
def cut (l : List D) (lo hi : Option Int) : List D := (l.drop (HT.sIx l.length 0 lo)).take (HT.sIx l.length l.length hi - HT.sIx l.length 0 lo)

def dSl (x : D) (i j : Option Int) : Option Out := match x with
  | .lst l => some (.l (cut l i j))
  | .tup l => some (.v (.tup (cut l i j)))
  | _ => none
def dLen : D → Option Nat
  | .lst l => some l.length
  | .tup l => some l.length
  | .dct l => some l.length
  | .set l => some l.length
  | .str x => if x.length ≤ most then some x.length else none
  | _ => none
def intsD : List D → Option (List Int)
  | [] => some []
  | .int i :: r => match intsD r with
    | some q => some (i :: q)
    | none => none
  | _ :: _ => none
def bools : List D → Option (List Bool)
  | [] => some []
  | .bl i :: r => match bools r with
    | some q => some (i :: q)
    | none => none
  | _ :: _ => none
def pairs : List D → Option (List (D × D))
  | [] => some []
  | .tup [a, b] :: r => match pairs r with
    | some q => some ((a, b) :: q)
    | none => none
  | _ :: _ => none
def putAll : List (D × D) → List (D × D) → Option (List (D × D))
  | acc, [] => some acc
  | acc, (k, v) :: r => match dPut k v acc with
    | some a => putAll a r
    | none => none
def dedup : List Int → List Int
  | [] => []
  | x :: r => x :: (dedup r).filter (fun y => y != x)
def flatK : D → Bool
  | .int _ => true
  | .str _ => true
  | _ => false
def items : D → Option (List D)
  | .lst l => some l
  | .tup l => some l
  | .dct l => if (l.all fun p => flatK p.1) = true then some (l.map (·.1)) else none
  | _ => none

def seqD : D → Option (List D)
  | .lst l => some l
  | .tup l => some l
  | _ => none

def dBi (b : Bi) (x : D) : Option Out := match b, x with
  | .len, x => match dLen x with
    | some n => some (.v (.int n))
    | none => none
  | .sorted, .set l => some (.l ((l.map D.int).mergeSort leD))
  | .sorted, x => match items x with
    | some l => match sortD l with
      | some r => some (.l r)
      | none => none
    | none => none
  | .list, x => match items x with
    | some l => some (.l l)
    | none => none
  | .tuple, .dct _ => none
  | .tuple, x => match items x with
    | some l => some (.v (.tup l))
    | none => none
  | .dict, .lst l => match pairs l with
    | some ps => match putAll [] ps with
      | some r => some (.d r)
      | none => none
    | none => none
  | .set, .lst l => match intsD l with
    | some ns => some (.v (.set (dedup ns)))
    | none => none
  | .abs, .int i => some (.v (.int (if i < 0 then -i else i)))
  | .int, .int i => some (.v (.int i))
  | .int, .bl b => some (.v (.int (if b then 1 else 0)))
  | .repr, x => match x.py with
    | some p => if p.showable && decide (p.depth ≤ 64) && decide (p.shown.length ≤ 1000000) then some (.v (.str p.shown)) else none
    | none => none
  | .sum, .lst l => match intsD l with
    | some ns => some (.v (.int ns.sum))
    | none => none
  | .all, .lst l => match bools l with
    | some bs => some (.v (.bl (bs.all id)))
    | none => none
  | .any, .lst l => match bools l with
    | some bs => some (.v (.bl (bs.any id)))
    | none => none
  | .listRange, .int n => if n ≤ most then some (.l ((List.range n.toNat).map fun i : Nat => .int i)) else none
  | _, _ => none
def dBi2 (b : Bi) (x y : D) : Option Out := match b, x, y with
  | .min, .int i, .int j => some (.v (.int (if j < i then j else i)))
  | .max, .int i, .int j => some (.v (.int (if j > i then j else i)))
  | _, _, _ => none

/-- a value's class: a built-in one, an own one -/
def tyD (P : Pr) : D → Option (String ⊕ Nat)
  | .non => some (.inl "NoneType")
  | .bl _ => some (.inl "bool")
  | .int _ => some (.inl "int")
  | .str _ => some (.inl "str")
  | .tup _ => some (.inl "tuple")
  | .lst _ => some (.inl "list")
  | .dct _ => some (.inl "dict")
  | .obj k _ => if P.isObj k then some (.inr k) else none
  | .err k _ => if P.isErr k then some (.inr k) else none
  | _ => none
def tgT (P : Pr) : Ty → Option (String ⊕ Nat)
  | .own k => if P.isErr k || P.isObj k then some (.inr k) else none
  | .int => some (.inl "int")
  | .bool => some (.inl "bool")
  | .str => some (.inl "str")
  | .list => some (.inl "list")
  | .tuple => some (.inl "tuple")
  | .dict => some (.inl "dict")
  | .valueError => some (.inl "ValueError")
def subT (P : Pr) : String ⊕ Nat → String ⊕ Nat → Bool
  | .inl a, .inl b => a == b || (a == "bool" && b == "int")
  | .inl _, .inr _ => false
  | .inr k, .inr j => (P.mro k).contains j
  | .inr k, .inl b => P.isErr k && b == "ValueError"
def isT (P : Pr) (x : D) (t : Ty) : Option Bool := match tyD P x, tgT P t with
  | some a, some b => some (subT P a b)
  | _, _ => none
def isTs (P : Pr) (x : D) : List Ty → Option Bool
  | [] => some false
  | t :: r => match isT P x t with
    | some true => some true
    | some false => isTs P x r
    | none => none
def dFld (P : Pr) (x : D) (j : Nat) : Option D := match x with
  | .obj k l => if P.isObj k = true ∧ (P.flds k).contains j = true ∧ (l.all fun p => (P.flds k).contains p.1) = true then l.lookup j else none
  | .err k [a] => if P.isErr k = true ∧ P.attr k = some j then some a else none
  | _ => none

def errA (P : Pr) (k : Nat) (d : D) : List D := match P.attr k with
  | some _ => [d]
  | none => []

def setAll : List Nat → List D → List Slot → List Slot
  | i :: r, d :: q, env => setAll r q (env.set i (.fz d))
  | _, _, env => env
def store (t : Tg) (o : Out) (env : List Slot) : Option (List Slot) := match t, o with
  | .nm i, o => some (env.set i o.slot)
  | .tp l, o => match o.val with
    | .tup xs => if xs.length = l.length then some (setAll l xs env) else none
    | .lst xs => if xs.length = l.length then some (setAll l xs env) else none
    | _ => none
def wipe : List Nat → List Slot → List Slot
  | [], env => env
  | i :: r, env => (wipe r env).set i .none
/-- a place read for good: what is its own is from now on nobody's -/
def load (i : Nat) (c : Cfg) : Res Out := match c.env[i]? with
  | some (.fz d) => .ok (.v d) c
  | some (.ol l) => .ok (.v (.lst l)) { c with env := c.env.set i (.fz (.lst l)) }
  | some (.od l) => .ok (.v (.dct l)) { c with env := c.env.set i (.fz (.dct l)) }
  | some (.oll l) => .ok (.v (.dct (l.map fun p => (p.1, .lst p.2)))) { c with env := c.env.set i (.fz (.dct (l.map fun p => (p.1, .lst p.2)))) }
  | _ => .bad
/-- a place looked at -/
def peek (i : Nat) (c : Cfg) : Res D := match c.env[i]? with
  | some (.fz d) => .ok d c
  | some (.ol l) => .ok (.lst l) c
  | some (.od l) => .ok (.dct l) c
  | some (.oll l) => .ok (.dct (l.map fun p => (p.1, .lst p.2))) c
  | _ => .bad
def bor (e : E) (f : Cfg → Res Out) (c : Cfg) : Res D := match e with
  | .loc i => peek i c
  | _ => (f c).bind fun o c => .ok o.val c
def optR {α : Type} (o : Option α) (c : Cfg) : Res α := match o with
  | some a => .ok a c
  | none => .bad
def truth (o : Out) (c : Cfg) : Res Bool := match o with
  | .v (.bl b) => .ok b c
  | _ => .bad
def ofCall (r : CRes) (env : List Slot) : Res Out := match r with
  | .ok d s => .ok (.v d) ⟨env, s⟩
  | .exc k a s => .exc k a s
  | .bad => .bad
def setS (c : Cfg) (s : S) : Cfg := ⟨c.env, s⟩

mutual
def nomut : E → Bool
  | .loc _ | .cst _ | .dget _ _ | .dlarge _ => true
  | .op _ a b => nomut a && nomut b
  | .neg a => nomut a
  | .cm _ a b => nomut a && nomut b
  | .cm2 _ _ a b c => nomut a && nomut b && nomut c
  | .isN a | .notN a | .not a => nomut a
  | .and a b | .or a b => nomut a && nomut b
  | .ite c a b => nomut c && nomut a && nomut b
  | .tup l | .lst l => nomuts l
  | .ix a b => nomut a && nomut b
  | .fld a _ => nomut a
  | .call _ l => nomuts l
  | .bi _ a => nomut a
  | .isa a _ => nomut a
  | .get a b c => nomut a && nomut b && nomut c
  | .comp e _ s k _ => nomutS s && nomutO k && nomut e
  | _ => false
def nomutS : Src → Bool
  | .seq e | .rng e | .enum e | .items e => nomut e
  | .rng2 a b | .zip a b => nomut a && nomut b
  | .cells _ => true
def nomutO : Eo → Bool
  | .no => true
  | .yes e => nomut e
def nomuts : Es → Bool
  | .nil => true
  | .cons a r => nomut a && nomuts r
  | .star a r => nomut a && nomuts r
end

def noexc {α : Type} : Res α → Res α
  | .exc _ _ _ => .bad
  | r => r
/-- items one after another -/
def mapR (f : D → Cfg → Res (Option D)) : List D → Cfg → Res (List D)
  | [], c => .ok [] c
  | x :: r, c => (f x c).bind fun o c => (mapR f r c).bind fun q c => .ok (match o with
    | some d => d :: q
    | none => q) c
def isLoc : E → Bool
  | .loc _ => true
  | _ => false
def numb (o : Out) (c : Cfg) : Res (Option Int) := match o with
  | .v (.int i) => .ok (some i) c
  | _ => .bad

section
variable (P : Pr) (sem : Nat → List D → S → CRes)
mutual
def ev : E → Cfg → Res Out
  | .loc i, c => load i c
  | .cst d, c => .ok (.v d) c
  | .op o a b, c => (ev a c).bind fun x c => (ev b c).bind fun y c => optR (dOp o x.val y.val) c
  | .neg a, c => (ev a c).bind fun x c => match x with
    | .v (.int i) => .ok (.v (.int (-i))) c
    | _ => .bad
  | .cm o a b, c => if nomut b then (bor a (ev a) c).bind fun x c => (bor b (ev b) c).bind fun y c => (optR (dCm o x y) c).bind fun r c => .ok (.v (.bl r)) c else .bad
  | .cm2 o p a b d, c => if nomut b && nomut d then (bor a (ev a) c).bind fun x c => (bor b (ev b) c).bind fun y c => (optR (dCm o x y) c).bind fun r c =>
      if r = true then (bor d (ev d) c).bind fun z c => (optR (dCm p y z) c).bind fun r c => .ok (.v (.bl r)) c else .ok (.v (.bl false)) c else .bad
  | .isN a, c => (bor a (ev a) c).bind fun x c => .ok (.v (.bl x.isNon)) c
  | .notN a, c => (bor a (ev a) c).bind fun x c => .ok (.v (.bl (!x.isNon))) c
  | .and a b, c => (ev a c).bind fun x c => (truth x c).bind fun r c => if r = true then (ev b c).bind fun y c => (truth y c).bind fun q c => .ok (.v (.bl q)) c else .ok (.v (.bl false)) c
  | .or a b, c => (ev a c).bind fun x c => (truth x c).bind fun r c => if r = true then .ok (.v (.bl true)) c else (ev b c).bind fun y c => (truth y c).bind fun q c => .ok (.v (.bl q)) c
  | .not a, c => (ev a c).bind fun x c => (truth x c).bind fun r c => .ok (.v (.bl (!r))) c
  | .ite t a b, c => (ev t c).bind fun x c => (truth x c).bind fun r c => if r = true then ev a c else ev b c
  | .tup l, c => (evs l c).bind fun xs c => if xs.length ≤ most then .ok (.v (.tup xs)) c else .bad
  | .lst l, c => (evs l c).bind fun xs c => if xs.length ≤ most then .ok (.l xs) c else .bad
  | .dct l, c => (evk l [] c).bind fun xs c => .ok (.d xs) c
  | .ix a b, c => if nomut b then (bor a (ev a) c).bind fun x c => (ev b c).bind fun y c => (optR (dIx x y.val) c).bind fun d c => .ok (.v d) c else .bad
  | .sl a lo hi, c => (ev a c).bind fun x c => (evo lo c).bind fun i c => (evo hi c).bind fun j c => optR (dSl x.val i j) c
  | .fld a j, c => (ev a c).bind fun x c => (optR (dFld P x.val j) c).bind fun d c => .ok (.v d) c
  | .call j l, c => (evs l c).bind fun xs c => ofCall (sem j xs c.s) c.env
  | .bi b a, c => (bor a (ev a) c).bind fun x c => optR (dBi b x) c
  | .bi2 b a e, c => (ev a c).bind fun x c => (ev e c).bind fun y c => optR (dBi2 b x.val y.val) c
  | .get a k z, c => if nomut k && nomut z then (bor a (ev a) c).bind fun x c => (ev k c).bind fun y c => (ev z c).bind fun w c => match x with
      | .dct l => match dFind y.val l with
        | some (some v) => .ok (.v v) c
        | some none => .ok (.v w.val) c
        | none => .bad
      | _ => .bad
    else .bad
  | .pop i k, c => (evo k c).bind fun j c => match c.env[i]? with
    | some (.ol l) => match place (j.getD (-1)) l.length with
      | some m => match l[m]? with
        | some d => .ok (.v d) { c with env := c.env.set i (.ol (l.eraseIdx m)) }
        | none => .bad
      | none => .bad
    | _ => .bad
  | .comp e t src k own, c => (evSrc src c).bind fun xs c => (noexc (mapR (fun x c => match store t (.v x) (wipe own c.env) with
      | some env => (evc k ⟨env, c.s⟩).bind fun r c => if r = true then (ev e c).bind fun o c => .ok (some o.val) c else .ok none c
      | none => .bad) xs c)).bind fun ds c' => if ds.length ≤ most then .ok (.l ds) ⟨wipe own c'.env, c'.s⟩ else .bad
  | .comp2 e t src t2 src2 k own own2, c => .bad
  | .newErr k a, c => (ev a c).bind fun x c => if P.isErr k = true then .ok (.v (.err k (errA P k x.val))) c else .bad
  | .dget i f, c => match c.env[i]? with
    | some (.fz .drw) => .ok (.v (.int (match f with
      | .rest => c.s.rest
      | .turn => c.s.turn))) c
    | _ => .bad
  | .dlarge i, c => match c.env[i]? with
    | some (.fz .drw) => .ok (.v (.bl (!c.s.large.isEmpty))) c
    | _ => .bad
  | .dpop i, c => match c.env[i]? with
    | some (.fz .drw) => match c.s.large with
      | x :: r => .ok (.v (.int x)) ⟨c.env, { c.s with large := r }⟩
      | [] => .bad
    | _ => .bad
  | .mkdrw a b, c => .bad
  | .caught e, c => match ev e c with
    | .ok _ c' => .ok (.v .non) c'
    | .exc k a s => .ok (.v (.err k a)) ⟨c.env, s⟩
    | .bad => .bad
  | .isa a ts, c => (bor a (ev a) c).bind fun x c => (optR (isTs P x ts) c).bind fun b c => .ok (.v (.bl b)) c
def evs : Es → Cfg → Res (List D)
  | .nil, c => .ok [] c
  | .cons a r, c => (ev a c).bind fun x c => (evs r c).bind fun q c => .ok (x.val :: q) c
  | .star a r, c => (ev a c).bind fun x c => match items x.val with
    | some l => (evs r c).bind fun q c => .ok (l ++ q) c
    | none => .bad
def evk : Kv → List (D × D) → Cfg → Res (List (D × D))
  | .nil, acc, c => .ok acc c
  | .cons k v r, acc, c => (ev k c).bind fun x c => (ev v c).bind fun y c => if flatK x.val = true then (match dPut x.val y.val acc with
    | some a => evk r a c
    | none => .bad) else .bad
def evo : Eo → Cfg → Res (Option Int)
  | .no, c => .ok none c
  | .yes e, c => (ev e c).bind fun x c => numb x c
def evc : Eo → Cfg → Res Bool
  | .no, c => .ok true c
  | .yes e, c => (ev e c).bind fun x c => truth x c
def evSrc : Src → Cfg → Res (List D)
  | .seq e, c => (ev e c).bind fun x c => optR (seqD x.val) c
  | .rng e, c => (ev e c).bind fun x c => match x with
    | .v (.int n) => if -(most : Int) ≤ n ∧ n ≤ most then .ok ((List.range n.toNat).map fun i : Nat => .int i) c else .bad
    | _ => .bad
  | .rng2 a b, c => (ev a c).bind fun x c => (ev b c).bind fun y c => match x, y with
    | .v (.int m), .v (.int n) => if (-(most : Int) ≤ m ∧ m ≤ most) ∧ -(most : Int) ≤ n ∧ n ≤ most then .ok ((List.range (n - m).toNat).map fun i : Nat => .int (m + i)) c else .bad
    | _, _ => .bad
  | .enum e, c => (ev e c).bind fun x c => match x.val with
    | .lst l => .ok (l.mapIdx fun i d => .tup [.int i, d]) c
    | _ => .bad
  | .zip a b, c => (ev a c).bind fun x c => (ev b c).bind fun y c => match x.val, y.val with
    | .lst l, .lst m => .ok (List.zipWith (fun p q => D.tup [p, q]) l m) c
    | .tup l, .tup m => .ok (List.zipWith (fun p q => D.tup [p, q]) l m) c
    | _, _ => .bad
  | .items e, c => (ev e c).bind fun x c => match x.val with
    | .dct l => .ok (l.map fun p => .tup [p.1, p.2]) c
    | _ => .bad
  | .cells i, c => match c.env[i]? with
    | some (.fz .drw) => .ok (c.s.cells.map .int) c
    | _ => .bad
end

inductive SRes where
  | nx (c : Cfg)
  | brk (c : Cfg)
  | cnt (c : Cfg)
  | ret (d : D) (s : S)
  | exc (k : Nat) (a : List D) (s : S)
  | bad
def SRes.then : SRes → (Cfg → SRes) → SRes
  | .nx c, f => f c
  | .brk c, _ => .brk c
  | .cnt c, _ => .cnt c
  | .ret d s, _ => .ret d s
  | .exc k a s, _ => .exc k a s
  | .bad, _ => .bad
def Res.to {α : Type} : Res α → (α → Cfg → SRes) → SRes
  | .ok a c, f => f a c
  | .exc k a s, _ => .exc k a s
  | .bad, _ => .bad
@[simp] theorem Res.to_ok {α : Type} (a : α) (c : Cfg) (f : α → Cfg → SRes) : (Res.ok a c).to f = f a c := rfl
@[simp] theorem Res.to_exc {α : Type} (k : Nat) (a : List D) (s : S) (f : α → Cfg → SRes) : (Res.exc k a s : Res α).to f = .exc k a s := rfl
@[simp] theorem Res.to_bad {α : Type} (f : α → Cfg → SRes) : (Res.bad : Res α).to f = .bad := rfl
@[simp] theorem SRes.then_nx (c : Cfg) (f : Cfg → SRes) : (SRes.nx c).then f = f c := rfl
@[simp] theorem SRes.then_brk (c : Cfg) (f : Cfg → SRes) : (SRes.brk c).then f = .brk c := rfl
@[simp] theorem SRes.then_cnt (c : Cfg) (f : Cfg → SRes) : (SRes.cnt c).then f = .cnt c := rfl
@[simp] theorem SRes.then_ret (d : D) (s : S) (f : Cfg → SRes) : (SRes.ret d s).then f = .ret d s := rfl
@[simp] theorem SRes.then_exc (k : Nat) (a : List D) (s : S) (f : Cfg → SRes) : (SRes.exc k a s).then f = .exc k a s := rfl
@[simp] theorem SRes.then_bad (f : Cfg → SRes) : (SRes.bad).then f = .bad := rfl
/-- a loop over items -/
def loopF (f : D → Cfg → SRes) : List D → Cfg → SRes
  | [], c => .nx c
  | x :: r, c => match f x c with
    | .nx c => loopF f r c
    | .cnt c => loopF f r c
    | .brk c => .nx c
    | .ret d s => .ret d s
    | .exc k a s => .exc k a s
    | .bad => .bad
def loopW (t : Cfg → Res Bool) (f : Cfg → SRes) : Nat → Cfg → SRes
  | 0, _ => .bad
  | n + 1, c => (t c).to fun b c => if b = true then match f c with
    | .nx c => loopW t f n c
    | .cnt c => loopW t f n c
    | .brk c => .nx c
    | .ret d s => .ret d s
    | .exc k a s => .exc k a s
    | .bad => .bad
    else .nx c
def setOuts : List Nat → List Out → List Slot → List Slot
  | i :: r, o :: q, env => setOuts r q (env.set i o.slot)
  | _, _, env => env
def optS {α : Type} (o : Option α) (f : α → SRes) : SRes := match o with
  | some a => f a
  | none => .bad
def putAt (i : Nat) (k d : D) (env : List Slot) : Option (List Slot) := match env[i]? with
  | some (.ol l) => match k with
    | .int j => match place j l.length with
      | some m => some (env.set i (.ol (l.set m d)))
      | none => none
    | _ => none
  | some (.od l) => match dPut k d l with
    | some r => if r.length ≤ most then some (env.set i (.od r)) else none
    | none => none
  | some (.ali p q) => match env[p]?, k with
    | some (.onn ls), .int j => match ls[q]? with
      | some l => match place j l.length with
        | some m => some (env.set p (.onn (ls.set q (l.set m d))))
        | none => none
      | none => none
    | _, _ => none
  | _ => none

variable (fuel : Nat)
def evouts : Es → Cfg → Res (List Out)
  | .nil, c => .ok [] c
  | .cons a r, c => (ev P sem a c).bind fun x c => (evouts r c).bind fun q c => .ok (x :: q) c
  | .star _ _, _ => .bad
mutual
def exec : C → Cfg → SRes
  | .asg t e, c => (ev P sem e c).to fun o c => optS (store t o c.env) fun env => .nx ⟨env, c.s⟩
  | .par ts l, c => (evouts P sem l c).to fun os c => if os.length = ts.length then .nx ⟨setOuts ts os c.env, c.s⟩ else .bad
  | .put i k e, c => (ev P sem e c).to fun o c => (ev P sem k c).to fun x c => optS (putAt i x.val o.val c.env) fun env => .nx ⟨env, c.s⟩
  | .put2 i k j m e f, c => (ev P sem e c).to fun o c => (ev P sem f c).to fun p c => (ev P sem k c).to fun x c => optS (putAt i x.val o.val c.env) fun env =>
      (ev P sem m ⟨env, c.s⟩).to fun y c => optS (putAt j y.val p.val c.env) fun env => .nx ⟨env, c.s⟩
  | .aug i o e, c => (load i c).to fun x c => (ev P sem e c).to fun y c => match x, y with
    | .v (.int a), .v (.int b) => match o with
      | .add => .nx ⟨c.env.set i (.fz (.int (a + b))), c.s⟩
      | .sub => .nx ⟨c.env.set i (.fz (.int (a - b))), c.s⟩
      | _ => .bad
    | _, _ => .bad
  | .app i e, c => match c.env[i]? with
    | some (.ol _) => (ev P sem e c).to fun o c => match c.env[i]? with
      | some (.ol l) => if l.length < most then .nx ⟨c.env.set i (.ol (l ++ [o.val])), c.s⟩ else .bad
      | _ => .bad
    | _ => .bad
  | .sapp i k e, c => (ev P sem k c).to fun x c => (ev P sem e c).to fun o c => match c.env[i]? with
    | some (.od []) => match dPut x.val [o.val] [] with
      | some r => .nx ⟨c.env.set i (.oll r), c.s⟩
      | none => .bad
    | some (.oll l) => match dFind x.val l with
      | some (some q) => if q.length < most then (match dPut x.val (q ++ [o.val]) l with
        | some r => .nx ⟨c.env.set i (.oll r), c.s⟩
        | none => .bad) else .bad
      | some none => if l.length < most then (match dPut x.val [o.val] l with
        | some r => .nx ⟨c.env.set i (.oll r), c.s⟩
        | none => .bad) else .bad
      | none => .bad
    | _ => .bad
  | .setd i k e, c => (ev P sem k c).to fun x c => (ev P sem e c).to fun o c => match c.env[i]? with
    | some (.od l) => match dFind x.val l with
      | some (some _) => .nx c
      | some none => if l.length < most then (match dPut x.val o.val l with
        | some r => .nx ⟨c.env.set i (.od r), c.s⟩
        | none => .bad) else .bad
      | none => .bad
    | _ => .bad
  | .ex e, c => (ev P sem e c).to fun _ c => .nx c
  | .ifs t a b, c => (ev P sem t c).to fun x c => (truth x c).to fun r c => if r = true then execs a c else execs b c
  | .whl t a, c => loopW (fun c => (ev P sem t c).bind fun x c => truth x c) (fun c => execs a c) fuel c
  | .for t src a, c => (evSrc P sem src c).to fun xs c => loopF (fun x c => optS (store t (.v x) c.env) fun env => execs a ⟨env, c.s⟩) xs c
  | .ret e, c => (ev P sem e c).to fun o c => .ret o.val c.s
  | .retN, c => .ret .non c.s
  | .brk, c => .brk c
  | .cnt, c => .cnt c
  | .pass, c => .nx c
  | .raise k a, c => (ev P sem a c).to fun x c => if P.isErr k = true then .exc k (errA P k x.val) c.s else .bad
  | .dset i f e, c => (ev P sem e c).to fun o c => match c.env[i]?, o with
    | some (.fz .drw), .v (.int n) => .nx ⟨c.env, match f with
      | .rest => { c.s with rest := n }
      | .turn => { c.s with turn := n }⟩
    | _, _ => .bad
def execs : Cs → Cfg → SRes
  | .nil, c => .nx c
  | .cons a r, c => (exec a c).then fun c => execs r c
end
end

/-- a def: how many places, parameters first; its body -/
structure Df0 where
  par : Nat
  size : Nat
  body : Cs
def frame (n : Nat) (xs : List D) : List Slot := xs.map .fz ++ List.replicate (n - xs.length) .none
def runD (P : Pr) (sem : Nat → List D → S → CRes) (fuel : Nat) (f : Df0) (xs : List D) (s : S) : CRes :=
  if xs.length = f.par then match execs P sem fuel f.body ⟨frame f.size xs, s⟩ with
    | .nx c => .ok .non c.s
    | .ret d s => .ok d s
    | .exc k a s => .exc k a s
    | _ => .bad
  else .bad
/-- the whole program, calls by their depth -/
def run (P : Pr) (fuel : Nat) (fs : Nat → Option Df0) : Nat → Nat → List D → S → CRes
  | 0, _, _, _ => .bad
  | n + 1, j, xs, s => match fs j with
    | some f => runD P (run P fuel fs n) fuel f xs s
    | none => .bad
end Rc
end Z_Rc0
section Z_Rc1
set_option Elab.async false
set_option linter.all false
set_option maxRecDepth 100000
set_option autoImplicit false
namespace Rc
open PySem PySem.Spec PyProof.Rows L2

/-- on: the draws are there -/
structure Dr where
  on : Bool
  d : Addr
  l : Addr
  c : Addr
  cs : List Int
def Dr.has (r : Dr) (a : Addr) : Prop := r.on = true ∧ (a = r.d ∨ a = r.l ∨ a = r.c)
/-- where the own classes stand, the names of the fields, where the draws stand -/
structure Wd where
  cls : Nat → Addr
  fld : Nat → Str
  att : Nat → Option Nat
  dr : Dr

/-- an exception object that is nobody's business any more: its class, its own dict -/
def ErO (cls : Value) (dd : Option Addr) (a : Addr) : HO := .ext fun h => ∃ (oe : Obj) (vs : Array Value), h.get? a = some oe ∧ Zc cls dd oe ∧ oe.data = .fields vs

mutual
inductive Is (w : Wd) (G : Hp) : V → D → Prop
  | non : Is w G .non .non
  | bl (b : Bool) : Is w G (.bl b) (.bl b)
  | int (i : Int) : Is w G (.int i) (.int i)
  | str (x : Str) : Is w G (.str x) (.str x)
  | drw (h : w.dr.on = true) : Is w G (.ref w.dr.d) .drw
  | tup {a : Addr} {vs : List V} {ds : List D} (h : G a = some (.tup vs)) (r : IsL w G vs ds) : Is w G (.ref a) (.tup ds)
  | lst {a : Addr} {vs : List V} {ds : List D} (h : Rd G a (.lst vs)) (r : IsL w G vs ds) : Is w G (.ref a) (.lst ds)
  | dK {a : Addr} {kvs : List (Key × V)} {ds : List (D × D)} (h : G a = some (.dK kvs)) (r : IsK w G kvs ds) : Is w G (.ref a) (.dct ds)
  | dT {a : Addr} {kvs : List (List Key × V)} {ds : List (D × D)} (h : G a = some (.dT kvs)) (r : IsT w G kvs ds) : Is w G (.ref a) (.dct ds)
  | obj {a dx : Addr} {k : Nat} {fs : List (Str × V)} {ds : List (Nat × D)} (h : G a = some (.ins (w.cls k) dx fs)) (r : IsF w G fs ds) : Is w G (.ref a) (.obj k ds)
  | er0 {a : Addr} {k : Nat} (n : w.att k = none) (h : G a = some (ErO (.ref (w.cls k)) none a)) : Is w G (.ref a) (.err k [])
  | er1 {a d : Addr} {k j : Nat} {v : V} {e : D} (n : w.att k = some j) (h : G a = some (ErO (.ref (w.cls k)) (some d) a)) (hd : G d = some (.xd [(w.fld j, v)])) (r : Is w G v e) : Is w G (.ref a) (.err k [e])
inductive IsL (w : Wd) (G : Hp) : List V → List D → Prop
  | nil : IsL w G [] []
  | cons {v : V} {vs : List V} {d : D} {ds : List D} (h : Is w G v d) (r : IsL w G vs ds) : IsL w G (v :: vs) (d :: ds)
inductive IsK (w : Wd) (G : Hp) : List (Key × V) → List (D × D) → Prop
  | nil : IsK w G [] []
  | cons {k : Key} {v : V} {vs : List (Key × V)} {q d : D} {ds : List (D × D)} (hk : keyD q = some (.inr k)) (h : Is w G v d) (r : IsK w G vs ds) : IsK w G ((k, v) :: vs) ((q, d) :: ds)
inductive IsT (w : Wd) (G : Hp) : List (List Key × V) → List (D × D) → Prop
  | nil : IsT w G [] []
  | cons {k : List Key} {v : V} {vs : List (List Key × V)} {q d : D} {ds : List (D × D)} (hk : keyD q = some (.inl k)) (h : Is w G v d) (r : IsT w G vs ds) : IsT w G ((k, v) :: vs) ((q, d) :: ds)
inductive IsF (w : Wd) (G : Hp) : List (Str × V) → List (Nat × D) → Prop
  | nil : IsF w G [] []
  | cons {j : Nat} {v : V} {vs : List (Str × V)} {d : D} {ds : List (Nat × D)} (h : Is w G v d) (r : IsF w G vs ds) : IsF w G ((w.fld j, v) :: vs) ((j, d) :: ds)
end

/-- all that G tells G' tells -/
def Le (G G' : Hp) : Prop := ∀ a o, G a = some o → G' a = some o
theorem Le.refl (G : Hp) : Le G G := fun _ _ h => h
theorem Le.trans {A B C : Hp} (a : Le A B) (b : Le B C) : Le A C := fun x o h => b x o (a x o h)
theorem Le.rd {G G' : Hp} (l : Le G G') {a : Addr} {u : HO} (r : Rd G a u) : Rd G' a u := r.elim (fun h => .inl (l _ _ h)) (fun ⟨o, h⟩ => .inr ⟨o, l _ _ h⟩)
theorem Le.upd {G G' : Hp} {p : Addr} {o : HO} (l : Le G G') (h : G' p = none) : Le G (upd G' p o) := fun a u e => by
  rw [upd_ne (ne_of_none (l _ _ e) h)]; exact l _ _ e

mutual
theorem Is.mono {w : Wd} {G G' : Hp} (l : Le G G') : ∀ {v : V} {d : D}, Is w G v d → Is w G' v d
  | _, _, .non => .non
  | _, _, .bl b => .bl b
  | _, _, .int i => .int i
  | _, _, .str x => .str x
  | _, _, .drw h => .drw h
  | _, _, .tup h r => .tup (l _ _ h) (IsL.mono l r)
  | _, _, .lst h r => .lst (l.rd h) (IsL.mono l r)
  | _, _, .dK h r => .dK (l _ _ h) (IsK.mono l r)
  | _, _, .dT h r => .dT (l _ _ h) (IsT.mono l r)
  | _, _, .obj h r => .obj (l _ _ h) (IsF.mono l r)
  | _, _, .er0 n h => .er0 n (l _ _ h)
  | _, _, .er1 n h hd r => .er1 n (l _ _ h) (l _ _ hd) (Is.mono l r)
theorem IsL.mono {w : Wd} {G G' : Hp} (l : Le G G') : ∀ {v : List V} {d : List D}, IsL w G v d → IsL w G' v d
  | _, _, .nil => .nil
  | _, _, .cons h r => .cons (Is.mono l h) (IsL.mono l r)
theorem IsK.mono {w : Wd} {G G' : Hp} (l : Le G G') : ∀ {v : List (Key × V)} {d : List (D × D)}, IsK w G v d → IsK w G' v d
  | _, _, .nil => .nil
  | _, _, .cons k h r => .cons k (Is.mono l h) (IsK.mono l r)
theorem IsT.mono {w : Wd} {G G' : Hp} (l : Le G G') : ∀ {v : List (List Key × V)} {d : List (D × D)}, IsT w G v d → IsT w G' v d
  | _, _, .nil => .nil
  | _, _, .cons k h r => .cons k (Is.mono l h) (IsT.mono l r)
theorem IsF.mono {w : Wd} {G G' : Hp} (l : Le G G') : ∀ {v : List (Str × V)} {d : List (Nat × D)}, IsF w G v d → IsF w G' v d
  | _, _, .nil => .nil
  | _, _, .cons h r => .cons (Is.mono l h) (IsF.mono l r)
end
theorem IsL.length {w : Wd} {G : Hp} : ∀ {vs : List V} {ds : List D}, IsL w G vs ds → vs.length = ds.length
  | _, _, .nil => rfl
  | _, _, .cons _ r => congrArg (· + 1) (IsL.length r)
theorem IsL.get {w : Wd} {G : Hp} : ∀ {vs : List V} {ds : List D} {i : Nat} {d : D}, IsL w G vs ds → ds[i]? = some d → ∃ v, vs[i]? = some v ∧ Is w G v d
  | _, _, i, _, .nil, e => by simp at e
  | _, _, 0, d, .cons h _, e => by
    have e1 : _ = d := Option.some.inj e
    subst e1
    exact ⟨_, rfl, h⟩
  | _, _, i + 1, d, .cons _ r, e => by
    obtain ⟨v, h1, h2⟩ := IsL.get (i := i) (d := d) r (by simpa using e)
    exact ⟨v, by simpa using h1, h2⟩
theorem IsL.append {w : Wd} {G : Hp} : ∀ {vs us : List V} {ds es : List D}, IsL w G vs ds → IsL w G us es → IsL w G (vs ++ us) (ds ++ es)
  | _, _, _, _, .nil, r => r
  | _, _, _, _, .cons h t, r => .cons h (IsL.append t r)
theorem IsL.take {w : Wd} {G : Hp} : ∀ {vs : List V} {ds : List D} (n : Nat), IsL w G vs ds → IsL w G (vs.take n) (ds.take n)
  | _, _, 0, _ => by simp; exact .nil
  | _, _, n + 1, .nil => by simp; exact .nil
  | _, _, n + 1, .cons h r => .cons h (IsL.take n r)
theorem IsL.drop {w : Wd} {G : Hp} : ∀ {vs : List V} {ds : List D} (n : Nat), IsL w G vs ds → IsL w G (vs.drop n) (ds.drop n)
  | _, _, 0, r => r
  | _, _, n + 1, .nil => .nil
  | _, _, n + 1, .cons _ r => IsL.drop n r
theorem IsL.set {w : Wd} {G : Hp} {v : V} {d : D} (h : Is w G v d) : ∀ {vs : List V} {ds : List D} (i : Nat), IsL w G vs ds → IsL w G (vs.set i v) (ds.set i d)
  | _, _, _, .nil => .nil
  | _, _, 0, .cons _ r => .cons h r
  | _, _, i + 1, .cons q r => .cons q (IsL.set h i r)
theorem IsL.eraseIdx {w : Wd} {G : Hp} : ∀ {vs : List V} {ds : List D} (i : Nat), IsL w G vs ds → IsL w G (vs.eraseIdx i) (ds.eraseIdx i)
  | _, _, _, .nil => .nil
  | _, _, 0, .cons _ r => r
  | _, _, i + 1, .cons q r => .cons q (IsL.eraseIdx i r)
theorem IsL.ints {w : Wd} {G : Hp} : ∀ ns : List Int, IsL w G (ns.map V.int) (ns.map D.int)
  | [] => .nil
  | n :: r => .cons (.int n) (IsL.ints r)

/-- G as H holds it; a dict of G may be locked -/
def LeR (r : Dr) (G H : Hp) : Prop := ∀ a o, G a = some o → ¬ r.has a ∧ (H a = some o ∨ (((∃ p kvs, o = .dK (p :: kvs)) ∨ ∃ p kvs, o = .dT (p :: kvs)) ∧ ∃ ob, H a = some (.frz ob o)))
theorem LeR.rd {r : Dr} {G H : Hp} (l : LeR r G H) {a : Addr} {u : HO} (h : Rd G a u) : Rd H a u := by
  rcases h with h | ⟨o, h⟩
  · rcases (l _ _ h).2 with q | ⟨_, ob, q⟩
    · exact .inl q
    · exact .inr ⟨ob, q⟩
  · rcases (l _ _ h).2 with q | ⟨(⟨_, _, z⟩ | ⟨_, _, z⟩), _⟩
    · exact .inr ⟨o, q⟩
    · cases z
    · cases z
theorem LeR.tup {r : Dr} {G H : Hp} (l : LeR r G H) {a : Addr} {vs : List V} (h : G a = some (.tup vs)) : H a = some (.tup vs) := by
  rcases (l _ _ h).2 with q | ⟨(⟨_, _, z⟩ | ⟨_, _, z⟩), _⟩
  · exact q
  · cases z
  · cases z
theorem LeR.ins {r : Dr} {G H : Hp} (l : LeR r G H) {a C dx : Addr} {fs : List (Str × V)} (h : G a = some (.ins C dx fs)) : H a = some (.ins C dx fs) := by
  rcases (l _ _ h).2 with q | ⟨(⟨_, _, z⟩ | ⟨_, _, z⟩), _⟩
  · exact q
  · cases z
  · cases z

mutual
theorem Is.dp {w : Wd} {r : Dr} {G H : Hp} {K : PySem.W.Frag} (l : LeR r G H) : ∀ {v : V} {d : D} {p : PyData}, Is w G v d → d.py = some p → p.canLay0 = true → Dp K H v p
  | _, _, p, .non, e, _ => by
    have z : PyData.none = p := Option.some.inj (by simpa [D.py] using e)
    subst z; exact .non
  | _, _, p, .bl b, e, _ => by
    have z : PyData.bool b = p := Option.some.inj (by simpa [D.py] using e)
    subst z; exact .bl b
  | _, _, p, .int i, e, _ => by
    have z : PyData.int i = p := Option.some.inj (by simpa [D.py] using e)
    subst z; exact .int i
  | _, _, p, .str x, e, _ => by
    have z : PyData.str x = p := Option.some.inj (by simpa [D.py] using e)
    subst z; exact .str x
  | _, _, p, .drw h, e, _ => by simp [D.py] at e
  | _, _, p, .tup (ds := ds) h q, e, c => by
    unfold D.py at e
    split at e
    · rename_i ps hp
      cases e
      exact .tup (.inl (.inl (l.tup h))) (IsL.dp l q hp (by simpa [PyData.canLay0] using c))
    · cases e
  | _, _, p, .lst (ds := ds) h q, e, c => by
    unfold D.py at e
    split at e
    · rename_i ps hp
      cases e
      exact .lst (.inl (l.rd h)) (IsL.dp l q hp (by simpa [PyData.canLay0] using c))
    · cases e
  | _, _, p, .dK h q, e, c => by
    unfold D.py at e
    split at e
    · cases e; simp [PyData.canLay0] at c
    · cases e
  | _, _, p, .dT h q, e, c => by
    unfold D.py at e
    split at e
    · cases e; simp [PyData.canLay0] at c
    · cases e
  | _, _, p, .obj h q, e, _ => by simp [D.py] at e
  | _, _, p, .er0 n h, e, _ => by simp [D.py] at e
  | _, _, p, .er1 n h hd q, e, _ => by simp [D.py] at e
theorem IsL.dp {w : Wd} {r : Dr} {G H : Hp} {K : PySem.W.Frag} (l : LeR r G H) : ∀ {vs : List V} {ds : List D} {ps : List PyData}, IsL w G vs ds → D.pys ds = some ps → PyData.canLayAll0 ps = true → DpAll K H vs ps
  | _, _, ps, .nil, e, _ => by
    have z : [] = ps := Option.some.inj (by simpa [D.pys] using e)
    subst z; exact .nil
  | _, _, ps, .cons (d := d) (ds := ds) h q, e, c => by
    unfold D.pys at e
    split at e
    · rename_i a b ha hb
      cases e
      rw [PyData.canLayAll0, Bool.and_eq_true] at c
      exact .cons (Is.dp l h ha c.1) (IsL.dp l q hb c.2)
    · cases e
end
end Rc
end Z_Rc1
section Z_Rc2
set_option Elab.async false
set_option linter.all false
set_option maxRecDepth 100000
set_option autoImplicit false
namespace Rc
open PySem PySem.Spec PyProof.Rows L2

def kLarge : Key := .inr "large"
def kRest : Key := .inr "rest"
def kCells : Key := .inr "cells"
def kTurn : Key := .inr "turn"
/-- the draws lie at r -/
structure RepD (H : Hp) (r : Dr) (s : S) : Prop where
  d : H r.d = some (.dK [(kLarge, .ref r.l), (kRest, .int s.rest), (kCells, .ref r.c), (kTurn, .int s.turn)])
  l : H r.l = some (.lst (s.large.map .int))
  c : H r.c = some (.lst (s.cells.map .int))
  ne : r.l ≠ r.c
  cs : s.cells = r.cs
def RepS (H : Hp) (r : Dr) (s : S) : Prop := r.on = true → RepD H r s

/-- what a place of the frame's own owns -/
def SlotOk (w : Wd) (G H : Hp) (o : Option V) (ow : List Addr) : Slot → Prop
  | .none => ow = []
  | .fz d => ow = [] ∧ ∃ v, o = some v ∧ Is w G v d
  | .ol l => ∃ p vs, o = some (.ref p) ∧ ow = [p] ∧ H p = some (.lst vs) ∧ IsL w G vs l
  | .od l => ∃ p, o = some (.ref p) ∧ ow = [p] ∧ ((∃ kvs, H p = some (.dK kvs) ∧ IsK w G kvs l) ∨ ∃ kvs, H p = some (.dT kvs) ∧ IsT w G kvs l)
  | _ => False

/-- the frame's state: G what stands from now on, ow what the places own; H0, G0 at the entry -/
structure Rp (w : Wd) (H0 G0 : Hp) (σ : L2.St) (H G : Hp) (ow : Nat → List Addr) (c : Cfg) : Prop where
  g0 : Le G0 G
  new : ∀ a, G a ≠ none → G0 a ≠ none ∨ H0 a = none
  gh : LeR w.dr G H
  ext : ∀ a o, H0 a = some o → ¬ w.dr.has a → H a = some o
  dr : RepS H w.dr c.s
  len : σ.length = c.env.length
  slot : ∀ i s, c.env[i]? = some s → SlotOk w G H (σ[i]?.join) (ow i) s
  own : ∀ i a, a ∈ ow i → G a = none ∧ H0 a = none ∧ ¬ w.dr.has a ∧ H a ≠ none
  dis : ∀ i j a, a ∈ ow i → a ∈ ow j → i = j

/-- p is nobody's yet -/
structure Fresh (w : Wd) (H0 G H : Hp) (ow : Nat → List Addr) (p : Addr) : Prop where
  g : G p = none
  h0 : H0 p = none
  dr : ¬ w.dr.has p
  own : ∀ i, p ∉ ow i

def OutOk (w : Wd) (H0 G H : Hp) (ow : Nat → List Addr) (v : V) : Out → Prop
  | .v d => Is w G v d
  | .l ds => ∃ p vs, v = .ref p ∧ H p = some (.lst vs) ∧ IsL w G vs ds ∧ Fresh w H0 G H ow p
  | .d ds => ∃ p, v = .ref p ∧ ((∃ kvs, H p = some (.dK kvs) ∧ IsK w G kvs ds) ∨ ∃ kvs, H p = some (.dT kvs) ∧ IsT w G kvs ds) ∧ Fresh w H0 G H ow p
  | .n _ => False

/-- H' tells all that H tells but the draws -/
def Kp (w : Wd) (H H' : Hp) : Prop := ∀ a o, H a = some o → ¬ w.dr.has a → H' a = some o
theorem Kp.refl (w : Wd) (H : Hp) : Kp w H H := fun _ _ h _ => h
theorem Kp.trans {w : Wd} {A B C : Hp} (a : Kp w A B) (b : Kp w B C) : Kp w A C := fun x o h n => b x o (a x o h n) n
theorem Kp.new {w : Wd} {H : Hp} {p : Addr} {o : HO} (h : H p = none) : Kp w H (upd H p o) := fun a u e _ => by rw [upd_ne (ne_of_none e h)]; exact e

section
variable {w : Wd} {H0 G0 : Hp} {σ : L2.St} {H G : Hp} {ow : Nat → List Addr} {c : Cfg}
theorem RepD.upd {r : Dr} {s : S} (x : RepD H r s) {p : Addr} {o : HO} (h : H p = none) : RepD (upd H p o) r s :=
  ⟨by rw [upd_ne (ne_of_none x.d h)]; exact x.d, by rw [upd_ne (ne_of_none x.l h)]; exact x.l, by rw [upd_ne (ne_of_none x.c h)]; exact x.c, x.ne, x.cs⟩
theorem RepS.upd {r : Dr} {s : S} (x : RepS H r s) {p : Addr} {o : HO} (h : H p = none) : RepS (L2.upd H p o) r s := fun on => (x on).upd h
theorem RepS.has {r : Dr} {s : S} (x : RepS H r s) {p : Addr} (h : H p = none) : ¬ r.has p := fun ⟨on, z⟩ => by
  replace x := x on
  rcases z with z | z | z
  · rw [z, x.d] at h; cases h
  · rw [z, x.l] at h; cases h
  · rw [z, x.c] at h; cases h
theorem LeR.upd {r : Dr} (l : LeR r G H) {p : Addr} {o : HO} (h : H p = none) : LeR r G (upd H p o) := fun a u e => by
  obtain ⟨h1, h2⟩ := l a u e
  refine ⟨h1, ?_⟩
  rcases h2 with q | ⟨d, ob, q⟩
  · exact .inl (by rw [upd_ne (ne_of_none q h)]; exact q)
  · exact .inr ⟨d, ob, by rw [upd_ne (ne_of_none q h)]; exact q⟩
theorem LeR.none {r : Dr} (l : LeR r G H) {p : Addr} (h : H p = none) : G p = none := by
  cases e : G p with
  | none => rfl
  | some u =>
    rcases (l p u e).2 with q | ⟨_, ob, q⟩
    · rw [h] at q; cases q
    · rw [h] at q; cases q
theorem SlotOk.upd {o : Option V} {l : List Addr} {s : Slot} (x : SlotOk w G H o l s) {p : Addr} {u : HO} (h : H p = none) : SlotOk w G (upd H p u) o l s := by
  cases s with
  | none => exact x
  | fz d => exact x
  | ol l =>
    obtain ⟨q, vs, a, b, e, r⟩ := x
    exact ⟨q, vs, a, b, by rw [upd_ne (ne_of_none e h)]; exact e, r⟩
  | od l =>
    obtain ⟨q, a, b, e⟩ := x
    refine ⟨q, a, b, ?_⟩
    rcases e with ⟨kvs, e, r⟩ | ⟨kvs, e, r⟩
    · exact .inl ⟨kvs, by rw [upd_ne (ne_of_none e h)]; exact e, r⟩
    · exact .inr ⟨kvs, by rw [upd_ne (ne_of_none e h)]; exact e, r⟩
  | oll l => exact x
  | onn l => exact x
  | ali i j => exact x
theorem SlotOk.mono {G' : Hp} {o : Option V} {l : List Addr} {s : Slot} (x : SlotOk w G H o l s) (g : Le G G') : SlotOk w G' H o l s := by
  cases s with
  | none => exact x
  | fz d => exact ⟨x.1, let ⟨v, a, b⟩ := x.2; ⟨v, a, b.mono g⟩⟩
  | ol l =>
    obtain ⟨q, vs, a, b, e, r⟩ := x
    exact ⟨q, vs, a, b, e, r.mono g⟩
  | od l =>
    obtain ⟨q, a, b, e⟩ := x
    refine ⟨q, a, b, ?_⟩
    rcases e with ⟨kvs, e, r⟩ | ⟨kvs, e, r⟩
    · exact .inl ⟨kvs, e, r.mono g⟩
    · exact .inr ⟨kvs, e, r.mono g⟩
  | oll l => exact x
  | onn l => exact x
  | ali i j => exact x
/-- a new object, nobody's yet -/
theorem Rp.upd (x : Rp w H0 G0 σ H G ow c) {p : Addr} {o : HO} (h : H p = none) : Rp w H0 G0 σ (upd H p o) G ow c where
  g0 := x.g0
  new := x.new
  gh := x.gh.upd h
  ext := fun a u e n => by
    have q := x.ext a u e n
    rw [upd_ne (ne_of_none q h)]; exact q
  dr := x.dr.upd h
  len := x.len
  slot := fun i s e => (x.slot i s e).upd h
  own := fun i a m => by
    obtain ⟨h1, h2, h3, h4⟩ := x.own i a m
    refine ⟨h1, h2, h3, ?_⟩
    rw [upd_ne (show a ≠ p from fun z => h4 (by rw [z]; exact h))]; exact h4
  dis := x.dis
theorem Rp.fresh (x : Rp w H0 G0 σ H G ow c) {p : Addr} (h : H p = none) (o : HO) : Fresh w H0 G (L2.upd H p o) ow p where
  g := x.gh.none h
  h0 := by
    cases e : H0 p with
    | none => rfl
    | some u =>
      have q := x.ext p u e (x.dr.has h)
      rw [h] at q; cases q
  dr := x.dr.has h
  own := fun i m => (x.own i p m).2.2.2 h
/-- what is nobody's stands from now on -/
theorem Rp.keep (x : Rp w H0 G0 σ H G ow c) {p : Addr} {o : HO} (f : Fresh w H0 G H ow p) (e : H p = some o) : Rp w H0 G0 σ H (L2.upd G p o) ow c where
  g0 := x.g0.upd f.g
  new := fun a h => by
    by_cases z : a = p
    · exact .inr (by rw [z]; exact f.h0)
    · rw [upd_ne z] at h; exact x.new a h
  gh := fun a u h => by
    by_cases z : a = p
    · subst z
      rw [upd_same] at h; cases h
      exact ⟨f.dr, .inl e⟩
    · rw [upd_ne z] at h; exact x.gh a u h
  ext := x.ext
  dr := x.dr
  len := x.len
  slot := fun i s h => (x.slot i s h).mono ((Le.refl G).upd f.g)
  own := fun i a m => by
    obtain ⟨h1, h2, h3, h4⟩ := x.own i a m
    refine ⟨?_, h2, h3, h4⟩
    rw [upd_ne (show a ≠ p from fun z => f.own i (by rw [← z]; exact m))]; exact h1
  dis := x.dis
/-- a result read for good -/
theorem Rp.val (x : Rp w H0 G0 σ H G ow c) {v : V} {o : Out} (h : OutOk w H0 G H ow v o) : ∃ G', Rp w H0 G0 σ H G' ow c ∧ Le G G' ∧ Is w G' v o.val := by
  cases o with
  | v d => exact ⟨G, x, Le.refl G, h⟩
  | l ds =>
    obtain ⟨p, vs, rfl, e, r, f⟩ := h
    exact ⟨_, x.keep f e, (Le.refl G).upd f.g, .lst (.inl upd_same) (r.mono ((Le.refl G).upd f.g))⟩
  | d ds =>
    obtain ⟨p, rfl, q, f⟩ := h
    rcases q with ⟨kvs, e, r⟩ | ⟨kvs, e, r⟩
    · exact ⟨_, x.keep f e, (Le.refl G).upd f.g, .dK upd_same (r.mono ((Le.refl G).upd f.g))⟩
    · exact ⟨_, x.keep f e, (Le.refl G).upd f.g, .dT upd_same (r.mono ((Le.refl G).upd f.g))⟩
  | n _ => exact h.elim
/-- behind an exception -/
structure ErrSt (w : Wd) (H0 G0 H G : Hp) (s : S) : Prop where
  g0 : Le G0 G
  new : ∀ a, G a ≠ none → G0 a ≠ none ∨ H0 a = none
  gh : LeR w.dr G H
  ext : ∀ a o, H0 a = some o → ¬ w.dr.has a → H a = some o
  dr : RepS H w.dr s
theorem Rp.err (x : Rp w H0 G0 σ H G ow c) : ErrSt w H0 G0 H G c.s := ⟨x.g0, x.new, x.gh, x.ext, x.dr⟩
/-- the exception in the air: its class, its dict -/
def ErrIs (w : Wd) (an : Nat → Option Nat) (G H : Hp) (cls : Value) (dd : Option Addr) (k : Nat) (a : List D) : Prop :=
  cls = .ref (w.cls k) ∧ ((an k = none ∧ a = [] ∧ dd = none) ∨ ∃ j d v e, an k = some j ∧ a = [e] ∧ dd = some d ∧ H d = some (.xd [(w.fld j, v)]) ∧ G d = none ∧ Is w G v e)
/-- the store of a place: a result goes there -/
theorem Rp.store (x : Rp w H0 G0 σ H G ow c) {i : Nat} {v : V} {o : Out} (hi : i < c.env.length) (h : OutOk w H0 G H ow v o) :
    ∃ ow', (∀ j a, a ∈ ow' j → a ∈ ow j ∨ (v = .ref a ∧ ∀ d, o ≠ .v d)) ∧ Rp w H0 G0 (σ.set i (some v)) H G ow' ⟨c.env.set i o.slot, c.s⟩ := by
  have hs : ∀ {l : List Addr}, SlotOk w G H (some v) l o.slot → (∀ a ∈ l, G a = none ∧ H0 a = none ∧ ¬ w.dr.has a ∧ H a ≠ none) → (∀ a ∈ l, ∀ j, a ∉ ow j) → (∀ a ∈ l, v = .ref a ∧ ∀ d, o ≠ .v d) → ∃ ow', (∀ j a, a ∈ ow' j → a ∈ ow j ∨ (v = .ref a ∧ ∀ d, o ≠ .v d)) ∧ Rp w H0 G0 (σ.set i (some v)) H G ow' ⟨c.env.set i o.slot, c.s⟩ := fun {l} s1 s2 s3 s4 => by
    refine ⟨fun j => if j = i then l else ow j, fun j a m => ?_, ?_⟩
    · by_cases hj : j = i
      · simp only [hj, if_pos] at m; exact .inr (s4 a m)
      · simp only [if_neg hj] at m; exact .inl m
    refine ⟨x.g0, x.new, x.gh, x.ext, x.dr, by simpa using x.len, fun j s e => ?_, fun j a m => ?_, fun j k a m1 m2 => ?_⟩
    · by_cases hj : j = i
      · subst hj
        rw [List.getElem?_set_self hi] at e
        cases e
        rw [List.getElem?_set_self (by rw [x.len]; exact hi), if_pos rfl]
        exact s1
      · rw [List.getElem?_set_ne (Ne.symm hj)] at e
        rw [List.getElem?_set_ne (Ne.symm hj), if_neg hj]
        exact x.slot j s e
    · by_cases hj : j = i
      · simp only [hj, if_pos] at m; exact s2 a m
      · simp only [if_neg hj] at m; exact x.own j a m
    · by_cases hj : j = i
      · by_cases hk : k = i
        · rw [hj, hk]
        · simp only [hj, if_pos] at m1
          simp only [if_neg hk] at m2
          exact absurd m2 (s3 a m1 k)
      · by_cases hk : k = i
        · simp only [hk, if_pos] at m2
          simp only [if_neg hj] at m1
          exact absurd m1 (s3 a m2 j)
        · simp only [if_neg hj] at m1
          simp only [if_neg hk] at m2
          exact x.dis j k a m1 m2
  cases o with
  | v d => exact hs (l := []) ⟨rfl, v, rfl, h⟩ (fun _ m => nomatch m) (fun _ m => nomatch m) (fun _ m => nomatch m)
  | l ds =>
    obtain ⟨p, vs, rfl, e, r, f⟩ := h
    refine hs (l := [p]) ⟨p, vs, rfl, rfl, e, r⟩ (fun a m => ?_) (fun a m => ?_) (fun a m => ⟨by rw [show a = p by simpa using m], fun d z => by cases z⟩)
    · have z : a = p := by simpa using m
      subst z
      exact ⟨f.g, f.h0, f.dr, by rw [e]; simp⟩
    · have z : a = p := by simpa using m
      subst z
      exact f.own
  | d ds =>
    obtain ⟨p, rfl, q, f⟩ := h
    refine hs (l := [p]) ⟨p, rfl, rfl, q⟩ (fun a m => ?_) (fun a m => ?_) (fun a m => ⟨by rw [show a = p by simpa using m], fun d z => by cases z⟩)
    · have z : a = p := by simpa using m
      subst z
      refine ⟨f.g, f.h0, f.dr, ?_⟩
      rcases q with ⟨kvs, e, r⟩ | ⟨kvs, e, r⟩
      · rw [e]; simp
      · rw [e]; simp
    · have z : a = p := by simpa using m
      subst z
      exact f.own
  | n _ => exact h.elim
/-- a place forgotten -/
theorem Rp.drop (x : Rp w H0 G0 σ H G ow c) (i : Nat) (o : Option V) : ∃ ow', Rp w H0 G0 (σ.set i o) H G ow' ⟨c.env.set i .none, c.s⟩ := by
  refine ⟨fun j => if j = i then [] else ow j, x.g0, x.new, x.gh, x.ext, x.dr, by simpa using x.len, fun j s e => ?_, fun j a m => ?_, fun j k a m1 m2 => ?_⟩
  · by_cases hj : j = i
    · subst hj
      by_cases hi : j < c.env.length
      · rw [List.getElem?_set_self hi] at e
        cases e
        rw [if_pos rfl]; exact rfl
      · rw [List.getElem?_eq_none (by simpa using Nat.le_of_not_lt hi)] at e; cases e
    · rw [List.getElem?_set_ne (Ne.symm hj)] at e
      rw [List.getElem?_set_ne (Ne.symm hj), if_neg hj]
      exact x.slot j s e
  · by_cases hj : j = i
    · simp [hj] at m
    · simp only [if_neg hj] at m; exact x.own j a m
  · by_cases hj : j = i
    · simp [hj] at m1
    · by_cases hk : k = i
      · simp [hk] at m2
      · simp only [if_neg hj] at m1
        simp only [if_neg hk] at m2
        exact x.dis j k a m1 m2
end
end Rc
end Z_Rc2
section Z_Rc3
set_option Elab.async false
set_option linter.all false
set_option maxRecDepth 100000
set_option autoImplicit false
namespace Rc
open PySem PySem.Spec PyProof.Rows L2

/-- the names of a program: its defs, its own classes, the fields, the whole numbers of its top, the built-in names that it uses as such -/
structure Ti where
  fnm : List Str
  cnm : List Str
  fld : List Str
  con : List (Str × Int)
  blt : List Str
def Ti.fl (T : Ti) (j : Nat) : Str := T.fld.getD j ""

/-- all that a proof is over -/
structure Gx where
  T : Ti
  P : Pr
  cls : Nat → Addr
abbrev Gx.wd (g : Gx) (r : Dr) : Wd := ⟨g.cls, g.T.fl, g.P.attr, r⟩

/-- the promise of a def: it hands back what F tells -/
def spF (g : Gx) (n : Nat) (F : List D → S → CRes) : Sp := fun vs H Q E => vs.length = n ∧ ∃ (r : Dr) (s : S) (G : Hp) (ds : List D), RepS H r s ∧ LeR r G H ∧ IsL (g.wd r) G vs ds ∧
  match F ds s with
  | .ok d s' => ∀ v H' G', ErrSt (g.wd r) H G H' G' s' → Is (g.wd r) G' v d → Q v H'
  | .exc k a s' => ∀ cl dd H' G', ErrSt (g.wd r) H G H' G' s' → ErrIs (g.wd r) g.P.attr G' H' cl dd k a → E cl dd H'
  | .bad => False

/-- a def's promise, kept where no repr of a list or the like runs around the call -/
structure FnG (P : Program) (w : World) (K : PySem.W.Frag) (mg : Str → Option Value) (base : Heap) (CX : CXT) (k : Nat) (f : Addr) (fd : FuncData) (ps : List Str) (sp : Sp) : Prop where
  len : ∀ vs H Q E, sp vs H Q E → vs.length = ps.length
  run : ∀ (A : Around) (outer : List Env) (s : Shared) (H : Hp) (args : Args) (us : List Value) (vs : List V) (Q : VK) (E : XK), A.guards = some [] → Room k A →
    Env0 P w K mg base A outer s H → BindsTo s fd args (ps.zip us) → Vals vs us → sp vs H Q E → codeAny (model P w) A (.call (.ref f) args) (CR CX outer P w H s Q E) s
theorem FnG.of {P : Program} {w : World} {K : PySem.W.Frag} {mg : Str → Option Value} {base : Heap} {CX : CXT} {k : Nat} {f : Addr} {fd : FuncData} {ps : List Str} {sp : Sp}
    (F : FnOk P w K mg base CX k f fd ps sp) : FnG P w K mg base CX k f fd ps sp := ⟨F.len, fun A outer s H args us vs Q E _ => F.run A outer s H args us vs Q E⟩
theorem FnG.mono {P : Program} {w : World} {K : PySem.W.Frag} {mg : Str → Option Value} {base : Heap} {CX : CXT} {j k : Nat} {f : Addr} {fd : FuncData} {ps : List Str} {sp : Sp}
    (F : FnG P w K mg base CX j f fd ps sp) (h : j ≤ k) : FnG P w K mg base CX k f fd ps sp := ⟨F.len, fun A outer s H args us vs Q E hg hr => F.run A outer s H args us vs Q E hg (hr.mono h)⟩
section
variable {X : Cx} {CX : CXT} {k : Nat} {f : Addr} {fd : FuncData} {ps : List Str} {sp : Sp} {x : Str} {p pos : Pos} {e : Expr} {es : List Expr} {t : TA}
theorem runG {E : XK} {pins : List (Addr × Obj)} {σ : L2.St} {H : Hp} {s : Shared} {Q : VK} {us : List Value} {vs : List V} (F : FnG X.prog X.w X.K X.mg X.base CX k f fd ps sp) (gd : X.A.guards = some []) (rm : Room k X.A) (bi : Binds X.K fd ps [])
    (px : PassesAt CX X σ E) (I : Inv X pins σ H s) (rv : Vals vs us) (h : sp vs H Q E) : wpAny (model X.prog X.w) X.A (call (.ref f) us) (EP X pins σ Q) X.xe s := by
  have n : us.length = ps.length := rv.length.symm.trans (F.len vs H Q E h)
  have bt : BindsTo s fd ⟨us, []⟩ (ps.zip us) := by
    have z := bi s us I.kIn (by simpa using n)
    simpa using z
  refine wpAny_call (codeAny_mono (F.run X.A X.stack s H ⟨us, []⟩ us vs Q E gd rm I.env0 bt rv h) fun out s2 ho => ?_)
  match out, ho with
  | .error u, ho => exact px pins H s u s2 I ho
  | .ok (.ret u), ho => exact I.after ho
  | .ok .next, ho => exact (ho : False).elim
  | .ok .brk, ho => exact (ho : False).elim
  | .ok .cont, ho => exact (ho : False).elim
/-- a call by its name -/
theorem pe_callG {W : WX} (F : FnG X.prog X.w X.K X.mg X.base (L2.CX X.prog X.w) k f fd ps sp) (gd : X.A.guards = some []) (rm : Room k X.A) (gx : Gl X x) (mx : X.mg x = some (.ref f)) (kx : PySem.W.keepIn X.K (.ref f) = true) (bi : Binds X.K fd ps [])
    (tk : Takes X W) (pa : PA X (e :: es) t) (dx : (x == ("__debug__" : Str)) = false) (sx : starEach (e :: es) X.env = (false, eval e X.env) :: starEach es X.env) (bx : (backTo pos (starEach es X.env)).any (·.1) = false) :
    PE X (.Call (.Name x p) (e :: es) [] pos) (tCallS sp (WE W) t) := by
  constructor
  intro pins s σ H Q I h
  refine wpAny_Call_Name_kw (ld_glob I gx mx ?_ dx)
  refine PySem.W.callWith_K (h₀ := X.base) I.ok.mod.kin kx ?_ sx bx
  exact thn (pa.run pos pins s σ H _ I h) fun us s1 ⟨vs, H1, I1, r1, q1⟩ => ⟨I1.kIn, runG F gd rm bi (passAt tk σ) I1 r1 q1⟩
end

structure FnAt (g : Gx) (X : Cx) (n : Nat) (x : Str) (F : List D → S → CRes) : Prop where
  ex : ∃ f fd ps, (∀ xs s, F xs s ≠ .bad → xs.length = ps.length) ∧ X.mg x = some (.ref f) ∧ PySem.W.keepIn X.K (.ref f) = true ∧ Binds X.K fd ps [] ∧ FnG X.prog X.w X.K X.mg X.base (L2.CX X.prog X.w) n f fd ps (spF g ps.length F)

/-- a context that the rules here work in; q: the room beyond the calls' -/
structure CxA (g : Gx) (sem : Nat → List D → S → CRes) (n q : Nat) (X : Cx) : Prop where
  nd : X.N.Nodup
  calm : X.calm = true
  gu : X.A.guards = some []
  room : Room (3 * n + q) X.A
  blt : ∀ x ∈ g.T.blt, X.mg x = none ∧ x ≠ ("__name__" : Str)
  con : ∀ p ∈ g.T.con, ∃ t, X.mg p.1 = some (.int p.2 t)
  fns : ∀ (j : Nat) (x : Str), g.T.fnm[j]? = some x → FnAt g X (3 * n) x (sem j)

section
variable {w : Wd} {an : Nat → Option Nat} {H0 G0 : Hp} {σ : L2.St} {W : WX}
/-- what is wanted of a result -/
def Run (w : Wd) (an : Nat → Option Nat) (H0 G0 : Hp) (σ : L2.St) (W : WX) {α : Type} (R : Res α) (k : α → Cfg → Prop) : Prop := match R with
  | .ok a c => k a c
  | .exc kk a s => ∀ cl dd H' G', ErrSt w H0 G0 H' G' s → ErrIs w an G' H' cl dd kk a → W cl dd σ H'
  | .bad => False
theorem Run.bind {α β : Type} {R : Res α} {f : α → Cfg → Res β} {k : β → Cfg → Prop} : Run w an H0 G0 σ W (R.bind f) k ↔ Run w an H0 G0 σ W R fun a c => Run w an H0 G0 σ W (f a c) k := by
  cases R <;> exact Iff.rfl
theorem Run.mono {α : Type} {R : Res α} {k k' : α → Cfg → Prop} (h : Run w an H0 G0 σ W R k) (m : ∀ a c, k a c → k' a c) : Run w an H0 G0 σ W R k' := by
  cases R with
  | ok a c => exact m a c h
  | exc kk a s => exact h
  | bad => exact h
theorem Run.opt {α : Type} {o : Option α} {c : Cfg} {k : α → Cfg → Prop} (h : Run w an H0 G0 σ W (optR o c) k) : ∃ a, o = some a ∧ k a c := by
  cases o with
  | none => exact h.elim
  | some a => exact ⟨a, rfl, h⟩
end

/-- what an expression's result must lead to -/
def Lands (w : Wd) (H0 G0 : Hp) (σ : L2.St) (H G : Hp) (nm : Bool) (o : Out) (c : Cfg) (Q : VK) : Prop :=
  ∀ v H' G' ow', Rp w H0 G0 σ H' G' ow' c → Le G G' → OutOk w H0 G' H' ow' v o → (nm = true → Kp w H H') → Q v H'
section
variable (g : Gx) (sem : Nat → List D → S → CRes)
/-- the reading of an expression -/
def rd (e : E) (W : WX) : TE := fun σ H Q => ∃ r H0 G0 G ow c, Rp (g.wd r) H0 G0 σ H G ow c ∧ Run (g.wd r) g.P.attr H0 G0 σ W (ev g.P sem e c) fun o c' => Lands (g.wd r) H0 G0 σ H G (nomut e) o c' Q
/-- what is looked at: what stands, or a place's own -/
def Bor (w : Wd) (G H : Hp) (v : V) (d : D) : Prop :=
  Is w G v d ∨ (∃ p vs ds, v = .ref p ∧ d = .lst ds ∧ H p = some (.lst vs) ∧ IsL w G vs ds ∧ G p = none ∧ ¬ w.dr.has p) ∨
    (∃ p kvs ds, v = .ref p ∧ d = .dct ds ∧ H p = some (.dK kvs) ∧ IsK w G kvs ds ∧ G p = none ∧ ¬ w.dr.has p) ∨
    (∃ p kvs ds, v = .ref p ∧ d = .dct ds ∧ H p = some (.dT kvs) ∧ IsT w G kvs ds ∧ G p = none ∧ ¬ w.dr.has p)
/-- .. of one that is looked at -/
def LandsB (w : Wd) (H0 G0 : Hp) (σ : L2.St) (H G : Hp) (nm : Bool) (d : D) (c : Cfg) (Q : VK) : Prop :=
  ∀ v H' G' ow', Rp w H0 G0 σ H' G' ow' c → Le G G' → Bor w G' H' v d → (nm = true → Kp w H H') → Q v H'
def rdB (e : E) (W : WX) : TE := fun σ H Q => ∃ r H0 G0 G ow c, Rp (g.wd r) H0 G0 σ H G ow c ∧ Run (g.wd r) g.P.attr H0 G0 σ W (bor e (ev g.P sem e) c) fun d c' => LandsB (g.wd r) H0 G0 σ H G (nomut e) d c' Q
/-- .. of arguments -/
def LandsL (w : Wd) (H0 G0 : Hp) (σ : L2.St) (H G : Hp) (nm : Bool) (ds : List D) (c : Cfg) (Q : List V → Hp → Prop) : Prop :=
  ∀ vs H' G' ow', Rp w H0 G0 σ H' G' ow' c → Le G G' → IsL w G' vs ds → (nm = true → Kp w H H') → Q vs H'
def rds (es : Es) (W : WX) : TA := fun σ H Q => ∃ r H0 G0 G ow c, Rp (g.wd r) H0 G0 σ H G ow c ∧ Run (g.wd r) g.P.attr H0 G0 σ W (evs g.P sem es c) fun ds c' => LandsL (g.wd r) H0 G0 σ H G (nomuts es) ds c' Q
/-- .. of a test -/
def rdT (e : E) (W : WX) : TT := fun σ H Q => ∃ r H0 G0 G ow c, Rp (g.wd r) H0 G0 σ H G ow c ∧ Run (g.wd r) g.P.attr H0 G0 σ W ((ev g.P sem e c).bind fun o c => truth o c) fun b c' =>
  ∀ H' G' ow', Rp (g.wd r) H0 G0 σ H' G' ow' c' → Le G G' → (nomut e = true → Kp (g.wd r) H H') → Q b H'
end

theorem LeR.ext {r : Dr} {G H : Hp} (l : LeR r G H) {p : Addr} {o : HO} (hd : ¬ r.has p) (h : H p = some o) : LeR r (L2.upd G p o) H := fun a u e => by
  by_cases z : a = p
  · subst z
    rw [upd_same] at e; cases e
    exact ⟨hd, .inl h⟩
  · rw [upd_ne z] at e; exact l a u e
theorem Bor.to {w : Wd} {G H : Hp} {v : V} {d : D} (b : Bor w G H v d) (l : LeR w.dr G H) : ∃ B, Le G B ∧ LeR w.dr B H ∧ Is w B v d := by
  rcases b with b | ⟨p, vs, ds, rfl, rfl, h, i, n, hd⟩ | ⟨p, vs, ds, rfl, rfl, h, i, n, hd⟩ | ⟨p, vs, ds, rfl, rfl, h, i, n, hd⟩
  · exact ⟨G, Le.refl G, l, b⟩
  · have l1 := (Le.refl G).upd (o := .lst vs) n
    exact ⟨_, l1, l.ext hd h, .lst (.inl upd_same) (i.mono l1)⟩
  · have l1 := (Le.refl G).upd (o := .dK vs) n
    exact ⟨_, l1, l.ext hd h, .dK upd_same (i.mono l1)⟩
  · have l1 := (Le.refl G).upd (o := .dT vs) n
    exact ⟨_, l1, l.ext hd h, .dT upd_same (i.mono l1)⟩
theorem LeR.at {r : Dr} {G H : Hp} (l : LeR r G H) {p : Addr} {o u : HO} (h : G p = some o) (q : H p = some u) (n : ∀ ob x, u ≠ .frz ob x) : o = u := by
  rcases (l p o h).2 with z | ⟨_, ob, z⟩
  · rw [z] at q; exact Option.some.inj q
  · rw [z] at q
    exact absurd (Option.some.inj q).symm (n _ _)
theorem Bor.later {w : Wd} {G G' H H' : Hp} {v : V} {d : D} (b : Bor w G H v d) (l : Le G G') (k : Kp w H H') (lr : LeR w.dr G' H') : Bor w G' H' v d := by
  rcases b with b | ⟨p, vs, ds, rfl, rfl, h, i, n, hd⟩ | ⟨p, vs, ds, rfl, rfl, h, i, n, hd⟩ | ⟨p, vs, ds, rfl, rfl, h, i, n, hd⟩
  · exact .inl (b.mono l)
  · have h' := k p _ h hd
    cases e : G' p with
    | none => exact .inr (.inl ⟨p, vs, ds, rfl, rfl, h', i.mono l, e, hd⟩)
    | some o =>
      have z := lr.at e h' (fun _ _ z => by cases z)
      subst z
      exact .inl (.lst (.inl e) (i.mono l))
  · have h' := k p _ h hd
    cases e : G' p with
    | none => exact .inr (.inr (.inl ⟨p, vs, ds, rfl, rfl, h', i.mono l, e, hd⟩))
    | some o =>
      have z := lr.at e h' (fun _ _ z => by cases z)
      subst z
      exact .inl (.dK e (i.mono l))
  · have h' := k p _ h hd
    cases e : G' p with
    | none => exact .inr (.inr (.inr ⟨p, vs, ds, rfl, rfl, h', i.mono l, e, hd⟩))
    | some o =>
      have z := lr.at e h' (fun _ _ z => by cases z)
      subst z
      exact .inl (.dT e (i.mono l))

/-- a weaker reading -/
theorem PE.wk {X : Cx} {e : Expr} {t t' : TE} (h : PE X e t) (m : ∀ σ H Q, t' σ H Q → t σ H Q) : PE X e t' := ⟨fun pins s σ H Q I q => h.run pins s σ H Q I (m _ _ _ q)⟩
theorem PT.wk {X : Cx} {e : Expr} {t t' : TT} (h : PT X e t) (m : ∀ σ H Q, t' σ H Q → t σ H Q) : PT X e t' := ⟨fun pins s σ H Q I q => h.run pins s σ H Q I (m _ _ _ q)⟩
theorem PA.wk {X : Cx} {e : List Expr} {t t' : TA} (h : PA X e t) (m : ∀ σ H Q, t' σ H Q → t σ H Q) : PA X e t' := ⟨fun pos pins s σ H Q I q => h.run pos pins s σ H Q I (m _ _ _ q)⟩
theorem PS.wk {X : Cx} {e : Stmt} {t t' : TS} (h : PS X e t) (m : ∀ D σ H, t' D σ H → t D σ H) : PS X e t' := ⟨fun pins s σ H D I q => h.run pins s σ H D I (m _ _ _ q)⟩
theorem PSs.wk {X : Cx} {e : List Stmt} {t t' : TS} (h : PSs X e t) (m : ∀ D σ H, t' D σ H → t D σ H) : PSs X e t' := ⟨fun pins s σ H D I q => h.run pins s σ H D I (m _ _ _ q)⟩

section
variable {w : Wd} {H0 G0 : Hp} {σ : L2.St} {H G : Hp} {ow : Nat → List Addr} {c : Cfg}
/-- an object of a place's own stands from now on -/
theorem Rp.freeze (x : Rp w H0 G0 σ H G ow c) {i : Nat} {p : Addr} {o : HO} {d : D} (hp : p ∈ ow i) (hi : i < c.env.length) (e : H p = some o) (hv : σ[i]?.join = some (.ref p)) (hd : Is w (L2.upd G p o) (.ref p) d) :
    ∃ ow', Rp w H0 G0 σ H (L2.upd G p o) ow' ⟨c.env.set i (.fz d), c.s⟩ := by
  obtain ⟨f1, f2, f3, f4⟩ := x.own i p hp
  have l : Le G (L2.upd G p o) := (Le.refl G).upd f1
  refine ⟨fun j => if j = i then [] else ow j, x.g0.trans l, fun a h => ?_, fun a u h => ?_, x.ext, x.dr, by simpa using x.len, fun j s h => ?_, fun j a m => ?_, fun j k a m1 m2 => ?_⟩
  · by_cases z : a = p
    · exact .inr (by rw [z]; exact f2)
    · rw [upd_ne z] at h; exact x.new a h
  · by_cases z : a = p
    · subst z
      rw [upd_same] at h; cases h
      exact ⟨f3, .inl e⟩
    · rw [upd_ne z] at h; exact x.gh a u h
  · by_cases hj : j = i
    · subst hj
      rw [List.getElem?_set_self hi] at h
      cases h
      rw [if_pos rfl]
      exact ⟨rfl, _, hv, hd⟩
    · rw [List.getElem?_set_ne (Ne.symm hj)] at h
      rw [if_neg hj]
      exact (x.slot j s h).mono l
  · by_cases hj : j = i
    · simp [hj] at m
    · simp only [if_neg hj] at m
      obtain ⟨h1, h2, h3, h4⟩ := x.own j a m
      refine ⟨?_, h2, h3, h4⟩
      rw [upd_ne (show a ≠ p from fun z => hj (x.dis j i a m (by rw [z]; exact hp)))]; exact h1
  · by_cases hj : j = i
    · simp [hj] at m1
    · by_cases hk : k = i
      · simp [hk] at m2
      · simp only [if_neg hj] at m1
        simp only [if_neg hk] at m2
        exact x.dis j k a m1 m2
theorem Rp.at (x : Rp w H0 G0 σ H G ow c) {i : Nat} {v : V} (h : σ[i]?.join = some v) : σ[i]? = some (some v) := by
  cases e : σ[i]? with
  | none => rw [e] at h; cases h
  | some o =>
    rw [e] at h
    cases o with
    | none => cases h
    | some u => cases h; rfl
/-- behind a call -/
theorem Rp.called (x : Rp w H0 G0 σ H G ow c) {H' G' : Hp} {s : S} (e : ErrSt w H G H' G' s) : Rp w H0 G0 σ H' G' ow ⟨c.env, s⟩ where
  g0 := x.g0.trans e.g0
  new := fun a h => by
    rcases e.new a h with q | q
    · exact x.new a q
    · refine .inr ?_
      cases z : H0 a with
      | none => rfl
      | some o =>
        have hd : ¬ w.dr.has a := x.dr.has q
        rw [x.ext a o z hd] at q; cases q
  gh := e.gh
  ext := fun a o h n => e.ext a o (x.ext a o h n) n
  dr := e.dr
  len := x.len
  slot := fun i s' h => by
    have hk : ∀ a o, a ∈ ow i → H a = some o → H' a = some o := fun a o m q => e.ext a o q (x.own i a m).2.2.1
    have q := (x.slot i s' h).mono e.g0
    cases s' with
    | none => exact q
    | fz d => exact q
    | ol l =>
      obtain ⟨p, vs, a, b, u, r⟩ := q
      exact ⟨p, vs, a, b, hk p _ (by rw [b]; simp) u, r⟩
    | od l =>
      obtain ⟨p, a, b, u⟩ := q
      refine ⟨p, a, b, ?_⟩
      rcases u with ⟨kvs, u, r⟩ | ⟨kvs, u, r⟩
      · exact .inl ⟨kvs, hk p _ (by rw [b]; simp) u, r⟩
      · exact .inr ⟨kvs, hk p _ (by rw [b]; simp) u, r⟩
    | oll l => exact q
    | onn l => exact q
    | ali i j => exact q
  own := fun i a m => by
    obtain ⟨h1, h2, h3, h4⟩ := x.own i a m
    refine ⟨?_, h2, h3, ?_⟩
    · cases z : G' a with
      | none => rfl
      | some o =>
        rcases e.new a (by rw [z]; simp) with q | q
        · exact absurd h1 q
        · exact absurd q h4
    · cases z : H a with
      | none => exact absurd z h4
      | some o => rw [e.ext a o z h3]; simp
  dis := x.dis
/-- .. and behind an exception out of it -/
theorem Rp.thrown (x : Rp w H0 G0 σ H G ow c) {H' G' : Hp} {s : S} (e : ErrSt w H G H' G' s) : ErrSt w H0 G0 H' G' s := (x.called e).err
end
end Rc
end Z_Rc3
section Z_Rc4
set_option Elab.async false
set_option linter.all false
set_option maxRecDepth 100000
set_option autoImplicit false
namespace Rc
open PySem PySem.Spec PyProof.Rows L2

theorem lstR {X : Cx} {pins : List (Addr × Obj)} {σ : L2.St} {H : Hp} {s : Shared} {l : Addr} {xs : List V} (I : Inv X pins σ H s) (h : Rd H l (.lst xs)) :
    xs.length ≤ sizeLine ∧ ∃ (its : List Value) (n : Nat), Vals xs its ∧ xs.length = its.length ∧ s.heap.get? l = some { cls := .type "list", data := .seq its.toArray n } := by
  obtain ⟨z, its, n, r, e⟩ := h.ok I.hok
  exact ⟨z, its, n, r, r.length, e⟩
theorem most_line {n : Nat} (h : n ≤ most) : n ≤ sizeLine := Nat.le_trans h (by decide)
theorem most_lt {n : Nat} (h : n ≤ most) : n < sizeLine := Nat.lt_of_le_of_lt h (by decide)
/-- two lists put together -/
def rCatR : R2 := fun x y H Q => ∃ l b xs zs, x = .ref l ∧ y = .ref b ∧ Rd H l (.lst xs) ∧ Rd H b (.lst zs) ∧ xs.length + zs.length ≤ sizeLine ∧ ∀ p, H p = none → Q (.ref p) (upd H p (.lst (xs ++ zs)))
theorem op_catR {X : Cx} : OpR X (binaryOp .Add) rCatR := by
  intro pins s σ H x y v u Q I rx ry h
  obtain ⟨l, b, xs, zs, rfl, rfl, hH, hB, hz, q⟩ := h
  cases rx
  cases ry
  obtain ⟨z, its, n, r, hl, e⟩ := lstR I hH
  obtain ⟨z2, its2, n2, r2, hl2, e2⟩ := lstR I hB
  refine PySem.P.add_list e e2 ?_ (by rw [List.size_toArray, List.size_toArray]; omega)
  have ea : its.toArray ++ its2.toArray = (its ++ its2).toArray := by simp
  rw [ea]
  exact ⟨.ref _, _, I.lnew (t' := s.toks) (r.append r2) (by rw [List.length_append]; omega), rfl, q _ I.fresh⟩

section
variable {g : Gx} {sem : Nat → List D → S → CRes} {n q : Nat} {X : Cx} {W : WX}

theorem s_loc {i : Nat} {x : Str} {pos : Pos} (hN : X.N[i]? = some x) (hv : Vis X.env.scope x) (hd : (x == ("__debug__" : Str)) = false) (hcd : (x == ("__classdict__" : Str)) = false) : PE X (.Name x pos) (rd g sem (.loc i) W) := by
  refine PE.wk (pe_var hN hv hd hcd) fun σ H Q h => ?_
  obtain ⟨r, H0, G0, G, ow, c, R, h⟩ := h
  simp only [ev, load] at h
  split at h
  · rename_i d e
    obtain ⟨_, v, hv, hi⟩ := R.slot i _ e
    exact ⟨v, R.at hv, h v H G ow R (Le.refl G) hi fun _ => Kp.refl _ _⟩
  · rename_i l e
    obtain ⟨p, vs, hv, ho, hp, hi⟩ := R.slot i _ e
    have hm : p ∈ ow i := by rw [ho]; simp
    have l1 := (Le.refl G).upd (o := .lst vs) (R.own i p hm).1
    have hd : Is (g.wd r) (upd G p (.lst vs)) (.ref p) (.lst l) := .lst (.inl upd_same) (hi.mono l1)
    obtain ⟨ow', R'⟩ := R.freeze hm (List.getElem?_eq_some_iff.mp e).1 hp hv hd
    exact ⟨_, R.at hv, h _ H _ ow' R' l1 hd fun _ => Kp.refl _ _⟩
  · rename_i l e
    obtain ⟨p, hv, ho, hp⟩ := R.slot i _ e
    have hm : p ∈ ow i := by rw [ho]; simp
    rcases hp with ⟨kvs, hp, hi⟩ | ⟨kvs, hp, hi⟩
    · have l1 := (Le.refl G).upd (o := .dK kvs) (R.own i p hm).1
      have hd : Is (g.wd r) (upd G p (.dK kvs)) (.ref p) (.dct l) := .dK upd_same (hi.mono l1)
      obtain ⟨ow', R'⟩ := R.freeze hm (List.getElem?_eq_some_iff.mp e).1 hp hv hd
      exact ⟨_, R.at hv, h _ H _ ow' R' l1 hd fun _ => Kp.refl _ _⟩
    · have l1 := (Le.refl G).upd (o := .dT kvs) (R.own i p hm).1
      have hd : Is (g.wd r) (upd G p (.dT kvs)) (.ref p) (.dct l) := .dT upd_same (hi.mono l1)
      obtain ⟨ow', R'⟩ := R.freeze hm (List.getElem?_eq_some_iff.mp e).1 hp hv hd
      exact ⟨_, R.at hv, h _ H _ ow' R' l1 hd fun _ => Kp.refl _ _⟩
  · rename_i l e
    exact (R.slot i _ e).elim
  · exact h.elim
/-- a name that is looked at -/
theorem s_peek {i : Nat} {x : Str} {pos : Pos} (hN : X.N[i]? = some x) (hv : Vis X.env.scope x) (hd : (x == ("__debug__" : Str)) = false) (hcd : (x == ("__classdict__" : Str)) = false) : PE X (.Name x pos) (rdB g sem (.loc i) W) := by
  refine PE.wk (pe_var hN hv hd hcd) fun σ H Q h => ?_
  obtain ⟨r, H0, G0, G, ow, c, R, h⟩ := h
  simp only [bor, peek] at h
  split at h
  · rename_i d e
    obtain ⟨_, v, hv, hi⟩ := R.slot i _ e
    exact ⟨v, R.at hv, h v H G ow R (Le.refl G) (.inl hi) fun _ => Kp.refl _ _⟩
  · rename_i l e
    obtain ⟨p, vs, hv, ho, hp, hi⟩ := R.slot i _ e
    obtain ⟨f1, f2, f3, f4⟩ := R.own i p (by rw [ho]; simp)
    exact ⟨_, R.at hv, h _ H _ ow R (Le.refl G) (.inr (.inl ⟨p, vs, l, rfl, rfl, hp, hi, f1, f3⟩)) fun _ => Kp.refl _ _⟩
  · rename_i l e
    obtain ⟨p, hv, ho, hp⟩ := R.slot i _ e
    obtain ⟨f1, f2, f3, f4⟩ := R.own i p (by rw [ho]; simp)
    rcases hp with ⟨kvs, hp, hi⟩ | ⟨kvs, hp, hi⟩
    · exact ⟨_, R.at hv, h _ H _ ow R (Le.refl G) (.inr (.inr (.inl ⟨p, kvs, l, rfl, rfl, hp, hi, f1, f3⟩))) fun _ => Kp.refl _ _⟩
    · exact ⟨_, R.at hv, h _ H _ ow R (Le.refl G) (.inr (.inr (.inr ⟨p, kvs, l, rfl, rfl, hp, hi, f1, f3⟩))) fun _ => Kp.refl _ _⟩
  · rename_i l e
    exact (R.slot i _ e).elim
  · exact h.elim
theorem s_bor {e : E} {x : Expr} (hl : isLoc e = false) (h : PE X x (rd g sem e W)) : PE X x (rdB g sem e W) := by
  refine PE.wk h fun σ H Q h => ?_
  obtain ⟨r, H0, G0, G, ow, c, R, h⟩ := h
  refine ⟨r, H0, G0, G, ow, c, R, ?_⟩
  have eb : bor e (ev g.P sem e) c = (ev g.P sem e c).bind fun o c => .ok o.val c := by cases e <;> first | rfl | (exact absurd hl (by simp [isLoc]))
  rw [eb, Run.bind] at h
  refine h.mono fun o c' k v H' G' ow' R' l O K => ?_
  obtain ⟨G2, R2, l2, i2⟩ := R'.val O
  exact k v H' G2 ow' R2 (l.trans l2) (.inl i2) K
theorem s_cst {x : Expr} {d : D} {v : V} (h : PE X x (tC v)) (hd : ∀ w G, Is w G v d) : PE X x (rd g sem (.cst d) W) := by
  refine PE.wk h fun σ H Q h => ?_
  obtain ⟨r, H0, G0, G, ow, c, R, h⟩ := h
  exact h v H G ow R (Le.refl G) (hd _ _) fun _ => Kp.refl _ _

/-- a, then b, both for good: what both lead to -/
theorem two {ea eb : E} {σ : L2.St} {H : Hp} {r : Dr} {H0 G0 G : Hp} {ow : Nat → List Addr} {c : Cfg} {α : Type} {f : Out → Out → Cfg → Res α} {k : α → Cfg → Prop} (R : Rp (g.wd r) H0 G0 σ H G ow c)
    (h : Run (g.wd r) g.P.attr H0 G0 σ W ((ev g.P sem ea c).bind fun x c => (ev g.P sem eb c).bind fun y c => f x y c) k) {Q : V → V → Hp → Prop}
    (m : ∀ x y c', Run (g.wd r) g.P.attr H0 G0 σ W (f x y c') k → ∀ v u H' G' ow', Rp (g.wd r) H0 G0 σ H' G' ow' c' → Le G G' → Is (g.wd r) G' v x.val → Is (g.wd r) G' u y.val → ((nomut ea && nomut eb) = true → Kp (g.wd r) H H') → Q v u H') :
    rd g sem ea W σ H fun v H1 => rd g sem eb W σ H1 fun u H2 => Q v u H2 := by
  rw [Run.bind] at h
  refine ⟨r, H0, G0, G, ow, c, R, h.mono fun x c1 h1 v H1 G1 ow1 R1 l1 O1 K1 => ?_⟩
  obtain ⟨G1', R1', l1', i1⟩ := R1.val O1
  rw [Run.bind] at h1
  refine ⟨r, H0, G0, G1', ow1, c1, R1', h1.mono fun y c2 h2 u H2 G2 ow2 R2 l2 O2 K2 => ?_⟩
  obtain ⟨G2', R2', l2', i2⟩ := R2.val O2
  refine m x y c2 h2 v u H2 G2' ow2 R2' (l1.trans (l1'.trans (l2.trans l2'))) (i1.mono (l2.trans l2')) i2 fun z => ?_
  rw [Bool.and_eq_true] at z
  exact (K1 z.1).trans (K2 z.2)
/-- a, then b, a being looked at, b changing nothing -/
theorem twoB {ea eb : E} {σ : L2.St} {H : Hp} {r : Dr} {H0 G0 G : Hp} {ow : Nat → List Addr} {c : Cfg} {α : Type} {f : D → D → Cfg → Res α} {k : α → Cfg → Prop} (R : Rp (g.wd r) H0 G0 σ H G ow c) (hb : nomut eb = true)
    (h : Run (g.wd r) g.P.attr H0 G0 σ W ((bor ea (ev g.P sem ea) c).bind fun x c => (bor eb (ev g.P sem eb) c).bind fun y c => f x y c) k) {Q : V → V → Hp → Prop}
    (m : ∀ x y c', Run (g.wd r) g.P.attr H0 G0 σ W (f x y c') k → ∀ v u H' G' ow', Rp (g.wd r) H0 G0 σ H' G' ow' c' → Le G G' → Bor (g.wd r) G' H' v x → Bor (g.wd r) G' H' u y → (nomut ea = true → Kp (g.wd r) H H') → Q v u H') :
    rdB g sem ea W σ H fun v H1 => rdB g sem eb W σ H1 fun u H2 => Q v u H2 := by
  rw [Run.bind] at h
  refine ⟨r, H0, G0, G, ow, c, R, h.mono fun x c1 h1 v H1 G1 ow1 R1 l1 O1 K1 => ?_⟩
  rw [Run.bind] at h1
  refine ⟨r, H0, G0, G1, ow1, c1, R1, h1.mono fun y c2 h2 u H2 G2 ow2 R2 l2 O2 K2 => ?_⟩
  exact m x y c2 h2 v u H2 G2 ow2 R2 (l1.trans l2) (O1.later l2 (K2 hb) R2.gh) O2 fun z => (K1 z).trans (K2 hb)
/-- .. b for good -/
theorem twoM {ea eb : E} {σ : L2.St} {H : Hp} {r : Dr} {H0 G0 G : Hp} {ow : Nat → List Addr} {c : Cfg} {α : Type} {f : D → Out → Cfg → Res α} {k : α → Cfg → Prop} (R : Rp (g.wd r) H0 G0 σ H G ow c) (hb : nomut eb = true)
    (h : Run (g.wd r) g.P.attr H0 G0 σ W ((bor ea (ev g.P sem ea) c).bind fun x c => (ev g.P sem eb c).bind fun y c => f x y c) k) {Q : V → V → Hp → Prop}
    (m : ∀ x y c', Run (g.wd r) g.P.attr H0 G0 σ W (f x y c') k → ∀ v u H' G' ow', Rp (g.wd r) H0 G0 σ H' G' ow' c' → Le G G' → Bor (g.wd r) G' H' v x → Is (g.wd r) G' u y.val → (nomut ea = true → Kp (g.wd r) H H') → Q v u H') :
    rdB g sem ea W σ H fun v H1 => rd g sem eb W σ H1 fun u H2 => Q v u H2 := by
  rw [Run.bind] at h
  refine ⟨r, H0, G0, G, ow, c, R, h.mono fun x c1 h1 v H1 G1 ow1 R1 l1 O1 K1 => ?_⟩
  rw [Run.bind] at h1
  refine ⟨r, H0, G0, G1, ow1, c1, R1, h1.mono fun y c2 h2 u H2 G2 ow2 R2 l2 O2 K2 => ?_⟩
  obtain ⟨G2', R2', l2', i2⟩ := R2.val O2
  exact m x y c2 h2 v u H2 G2' ow2 R2' (l1.trans (l2.trans l2')) (O1.later (l2.trans l2') (K2 hb) R2'.gh) i2 fun z => (K1 z).trans (K2 hb)

/-- a new list, a new tuple -/
theorem Rp.newL {w : Wd} {H0 G0 : Hp} {σ : L2.St} {H G : Hp} {ow : Nat → List Addr} {c : Cfg} (R : Rp w H0 G0 σ H G ow c) {p : Addr} {vs : List V} {ds : List D} (hp : H p = none) (i : IsL w G vs ds) {nm : Bool} {Q : VK} (h : Lands w H0 G0 σ H G nm (.l ds) c Q) : Q (.ref p) (L2.upd H p (.lst vs)) :=
  h _ _ G ow (R.upd hp) (Le.refl G) ⟨p, vs, rfl, upd_same, i, R.fresh hp _⟩ fun _ => Kp.new hp
theorem Rp.newT {w : Wd} {H0 G0 : Hp} {σ : L2.St} {H G : Hp} {ow : Nat → List Addr} {c : Cfg} (R : Rp w H0 G0 σ H G ow c) {p : Addr} {vs : List V} {ds : List D} (hp : H p = none) (i : IsL w G vs ds) {nm : Bool} {Q : VK} (h : Lands w H0 G0 σ H G nm (.v (.tup ds)) c Q) : Q (.ref p) (L2.upd H p (.tup vs)) := by
  have f := R.fresh hp (.tup vs)
  have R1 := (R.upd (o := .tup vs) hp).keep f upd_same
  have l := (Le.refl G).upd (o := .tup vs) f.g
  exact h _ _ _ ow R1 l (.tup upd_same (i.mono l)) fun _ => Kp.new hp
/-- nothing happens -/
theorem Lands.here {w : Wd} {H0 G0 : Hp} {σ : L2.St} {H G : Hp} {ow : Nat → List Addr} {c : Cfg} {nm : Bool} {d : D} {v : V} {Q : VK} (h : Lands w H0 G0 σ H G nm (.v d) c Q) (R : Rp w H0 G0 σ H G ow c) (i : Is w G v d) : Q v H :=
  h v H G ow R (Le.refl G) i fun _ => Kp.refl _ _
/-- what is left to be shown behind some steps -/
theorem Lands.from {w : Wd} {H0 G0 : Hp} {σ : L2.St} {H H1 G G1 : Hp} {c : Cfg} {nm : Bool} {o : Out} {Q : VK} (h : Lands w H0 G0 σ H G nm o c Q) (l : Le G G1) (k : nm = true → Kp w H H1) : Lands w H0 G0 σ H1 G1 true o c Q :=
  fun v H' G' ow' R l' O K => h v H' G' ow' R (l.trans l') O fun z => (k z).trans (K rfl)

theorem Is.int_inv {w : Wd} {G : Hp} {v : V} {i : Int} (h : Is w G v (.int i)) : v = .int i := by cases h; rfl
theorem Is.bl_inv {w : Wd} {G : Hp} {v : V} {b : Bool} (h : Is w G v (.bl b)) : v = .bl b := by cases h; rfl
theorem Is.lst_inv {w : Wd} {G : Hp} {v : V} {l : List D} (h : Is w G v (.lst l)) : ∃ a vs, v = .ref a ∧ Rd G a (.lst vs) ∧ IsL w G vs l := by cases h with | lst h r => exact ⟨_, _, rfl, h, r⟩
theorem Is.tup_inv {w : Wd} {G : Hp} {v : V} {l : List D} (h : Is w G v (.tup l)) : ∃ a vs, v = .ref a ∧ G a = some (.tup vs) ∧ IsL w G vs l := by cases h with | tup h r => exact ⟨_, _, rfl, h, r⟩

def opOf : Op → Operator
  | .add => .Add
  | .sub => .Sub
  | .mul => .Mult
  | .fdiv => .FloorDiv
  | .mod => .Mod
  | .pow => .Pow
def rOp (K : PySem.W.Frag) : Op → R2
  | .add => fun x y H Q => (∃ i j, x = .int i ∧ y = .int j ∧ Q (.int (i + j)) H) ∨ rCatR x y H Q ∨ rCatA K x y H Q
  | .sub => rI0 fun i j => .int (i - j)
  | .mul => rI CMul fun i j => .int (i * j)
  | .fdiv => rI CDiv fun i j => .int (i / j)
  | .mod => rI (fun _ j => 0 < j) fun i j => .int (i % j)
  | .pow => rI CPow fun i j => .int (i ^ j.toNat)
theorem r_op (o : Op) : OpR X (binaryOp (opOf o)) (rOp X.K o) := by
  cases o with
  | add => exact op_add.or (op_catR.or op_catA)
  | sub => exact op_sub
  | mul => exact op_mul
  | fdiv => exact op_fdiv
  | mod => exact op_mod
  | pow => exact op_pow
theorem Rd.seqL {K : PySem.W.Frag} {H : Hp} {a : Addr} {vs : List V} (h : Rd H a (.lst vs)) : SqL K H a vs := .inl h
theorem s_op {o : Op} {ea eb : E} {a b : Expr} {pos : Pos} (ha : PE X a (rd g sem ea W)) (hb : PE X b (rd g sem eb W)) : PE X (.BinOp a (opOf o) b pos) (rd g sem (.op o ea eb) W) := by
  refine PE.wk (pe_op (r_op o) ha hb) fun σ H Q h => ?_
  obtain ⟨r, H0, G0, G, ow, c, R, h⟩ := h
  rw [ev] at h
  refine two R h fun x y c' h v u H' G' ow' R' l iv iu K => ?_
  obtain ⟨out, e, h⟩ := Run.opt h
  replace h := h.from l (fun z => K (by simpa [nomut] using z))
  generalize x.val = dx at e iv
  generalize y.val = dy at e iu
  cases o with
  | add =>
    simp only [dOp] at e
    unfold dAdd at e
    split at e
    · rename_i i j
      cases e
      exact .inl ⟨i, j, iv.int_inv, iu.int_inv, h.here R' (.int _)⟩
    · split at e
      · rename_i hz
        cases e
        obtain ⟨p, vs, rfl, h1, r1⟩ := iv.lst_inv
        obtain ⟨q, us, rfl, h2, r2⟩ := iu.lst_inv
        refine .inr (.inl ⟨p, q, vs, us, rfl, rfl, R'.gh.rd h1, R'.gh.rd h2, ?_, fun z hz => R'.newL hz (r1.append r2) h⟩)
        rw [r1.length, r2.length]; exact most_line hz
      · cases e
    · split at e
      · rename_i a1 b1 hz
        cases e
        obtain ⟨p, vs, rfl, h1, r1⟩ := iv.tup_inv
        obtain ⟨q, us, rfl, h2, r2⟩ := iu.tup_inv
        have h1' := R'.gh.tup h1
        have h2' := R'.gh.tup h2
        refine .inr (.inr ⟨p, q, vs, us, rfl, rfl, .of h1', .of h2', ?_, fun z => ?_, fun _ z => ?_, fun _ _ z hz => R'.newT hz (r1.append r2) h⟩)
        · rw [r1.length, r2.length]; exact most_line hz
        · subst z
          cases r1
          exact h.here R' (.tup h2 r2)
        · subst z
          cases r2
          rw [List.append_nil] at h
          exact h.here R' (.tup h1 r1)
      · cases e
    · cases e
  | sub =>
    simp only [dOp] at e
    unfold dSub at e
    split at e
    · cases e
      exact ⟨_, _, iv.int_inv, iu.int_inv, h.here R' (.int _)⟩
    · cases e
  | mul =>
    simp only [dOp] at e
    unfold dMul at e
    split at e
    · split at e
      · rename_i hz
        cases e
        exact ⟨_, _, iv.int_inv, iu.int_inv, hz, h.here R' (.int _)⟩
      · cases e
    · cases e
  | fdiv =>
    simp only [dOp] at e
    unfold dFdiv at e
    split at e
    · split at e
      · rename_i hz
        cases e
        exact ⟨_, _, iv.int_inv, iu.int_inv, hz, h.here R' (.int _)⟩
      · cases e
    · cases e
  | mod =>
    simp only [dOp] at e
    unfold dMod at e
    split at e
    · split at e
      · rename_i hz
        cases e
        exact ⟨_, _, iv.int_inv, iu.int_inv, hz, h.here R' (.int _)⟩
      · cases e
    · cases e
  | pow =>
    simp only [dOp] at e
    unfold dPow at e
    split at e
    · split at e
      · rename_i hz
        cases e
        exact ⟨_, _, iv.int_inv, iu.int_inv, ⟨hz.1, by omega, hz.2.2⟩, h.here R' (.int _)⟩
      · cases e
    · cases e
end
end Rc
end Z_Rc4
section Z_Rc5
set_option Elab.async false
set_option linter.all false
set_option maxRecDepth 100000
set_option autoImplicit false
namespace Rc
open PySem PySem.Spec PyProof.Rows L2

section
variable {X : Cx}
def rEqN (b : Bool) : R2 := fun x y H Q => ∃ l m xs ys, x = .ref l ∧ y = .ref m ∧ Rd H l (.lst xs) ∧ Rd H m (.lst ys) ∧ xs.length ≠ ys.length ∧ Q (.bl b) H
theorem op_eqN (hu : X.A.units < cLine) : OpR X (compareOp .Eq) (rEqN false) := by
  intro pins s σ H x y v u Q I rx ry h
  obtain ⟨l, m, xs, ys, rfl, rfl, h1, h2, hn, q⟩ := h
  cases rx; cases ry
  obtain ⟨z, its, n, r, hl, e⟩ := lstR I h1
  obtain ⟨z2, its2, n2, r2, hl2, e2⟩ := lstR I h2
  exact SeqAt.eq_list_lengthsAt (items := its.toArray) (items2 := its2.toArray) ⟨_, e, rfl, n, rfl⟩ ⟨_, e2, rfl, n2, rfl⟩ (by simp; omega) hu ⟨.bl false, H, I, rfl, q⟩
theorem op_neN (hu : X.A.units < cLine) : OpR X (compareOp .NotEq) (rEqN true) := by
  intro pins s σ H x y v u Q I rx ry h
  obtain ⟨l, m, xs, ys, rfl, rfl, h1, h2, hn, q⟩ := h
  cases rx; cases ry
  obtain ⟨z, its, n, r, hl, e⟩ := lstR I h1
  obtain ⟨z2, its2, n2, r2, hl2, e2⟩ := lstR I h2
  exact SeqAt.RcNeAt.lists_lengths (items := its.toArray) (items2 := its2.toArray) ⟨_, e, rfl, n, rfl⟩ ⟨_, e2, rfl, n2, rfl⟩ (by simp; omega) hu X.prog X.w X.xe _ ⟨.bl true, H, I, rfl, q⟩
def rInT (K : PySem.W.Frag) (neg : Bool) : R2 := fun x y H Q => ∃ d ds, Dp K H x d ∧ (Dp K H y (.list ds) ∨ Dp K H y (.tuple ds)) ∧ SeqAt.shaped d = true ∧ PyData.canLayAll0 ds = true ∧ Q (.bl (if neg then !ds.any fun z => PyData.eqv z d else ds.any fun z => PyData.eqv z d)) H
theorem roomI {A : Around} {d : PyData} {ds : List PyData} (h : SeqAt.shaped d = true) (hu : A.units + 65 < cLine) : A.units + 1 + min (PyData.depthAll ds) d.depth < cLine := by
  have h1 := SeqAt.depth_of_shaped h
  have h2 : min (PyData.depthAll ds) d.depth ≤ d.depth := Nat.min_le_right _ _
  omega
theorem op_inT (hu : X.A.units + 65 < cLine) : OpR X (compareOp .In) (rInT X.K false) := by
  intro pins s σ H x y v u Q I rx ry h
  obtain ⟨d, ds, hd, he, sd, se, q⟩ := h
  obtain ⟨as, r1⟩ := Dp.reads I d x v hd rx
  rcases he with he | he
  · obtain ⟨bs, r2⟩ := Dp.reads I (.list ds) y u he ry
    exact SeqAt.in_list_reads r2 r1 se (SeqAt.canLay_of_shaped sd) (roomI sd hu) ⟨.bl _, H, I, rfl, q⟩
  · obtain ⟨bs, r2⟩ := Dp.reads I (.tuple ds) y u he ry
    exact SeqAt.in_tuple_reads r2 r1 se (SeqAt.canLay_of_shaped sd) (roomI sd hu) ⟨.bl _, H, I, rfl, q⟩
theorem op_notInT (hu : X.A.units + 65 < cLine) : OpR X (compareOp .NotIn) (rInT X.K true) := by
  intro pins s σ H x y v u Q I rx ry h
  obtain ⟨d, ds, hd, he, sd, se, q⟩ := h
  obtain ⟨as, r1⟩ := Dp.reads I d x v hd rx
  rcases he with he | he
  · obtain ⟨bs, r2⟩ := Dp.reads I (.list ds) y u he ry
    exact SeqAt.notIn_list_reads r2 r1 se (SeqAt.canLay_of_shaped sd) (roomI sd hu) ⟨.bl _, H, I, rfl, q⟩
  · obtain ⟨bs, r2⟩ := Dp.reads I (.tuple ds) y u he ry
    exact SeqAt.notIn_tuple_reads r2 r1 se (SeqAt.canLay_of_shaped sd) (roomI sd hu) ⟨.bl _, H, I, rfl, q⟩
theorem retag {pins : List (Addr × Obj)} {σ : L2.St} {H : Hp} {s : Shared} {a : Addr} (I : Inv X pins σ H s) (h : H a = some (.dK [])) : Inv X pins σ (upd H a (.dT [])) s := by
  obtain ⟨z, hs, vs, kv, o, es, ep, e, ex, ed, hk, hp, hn⟩ := I.hok a _ h
  cases kv
  have e0 : es.toList = [] := by
    cases hl : es.toList with
    | nil => rfl
    | cons x r => rw [hl] at hp; cases hp
  exact I.write (e := a) (t' := s.toks) (by rw [h]; trivial) (.inl rfl) (fun _ _ _ q => q) ⟨o, e⟩ ⟨Nat.zero_le _, hs, [], .nil, o, es, ep, e, ex, ed, e0, List.nodup_nil⟩
theorem retagK {pins : List (Addr × Obj)} {σ : L2.St} {H : Hp} {s : Shared} {a : Addr} (I : Inv X pins σ H s) (h : H a = some (.dT [])) : Inv X pins σ (upd H a (.dK [])) s := by
  obtain ⟨z, hs, xs, pr, o, es, ep, e, ex, ed, hl, hn⟩ := I.hok a _ h
  cases pr
  have hes : es = #[] := by
    have e1 : es.toList = [] := hl
    simpa using congrArg List.toArray e1
  subst hes
  exact I.write (e := a) (t' := s.toks) (by rw [h]; trivial) (.inl rfl) (fun _ _ _ q => q) ⟨o, e⟩ ⟨Nat.zero_le _, hs, [], .nil, o, #[], ep, e, ex, ed, fun i hi => by simp at hi, .nil, List.nodup_nil⟩
theorem untag {H : Hp} {a : Addr} {u : HO} (h : H a = some u) (v : HO) : upd (upd H a v) a u = H := by
  rw [upd_upd]
  funext b
  by_cases z : b = a
  · rw [z, upd_same, h]
  · rw [upd_ne z]
/-- d[y] as it is told, whatever an empty dict is taken for -/
def DG (H : Hp) (a : Addr) (y : V) (r : Option V) : Prop :=
  DGet H a y r ∨ (r = none ∧ ((H a = some (.dK []) ∧ ∃ (b : Addr) (k : List Key), y = .ref b ∧ H b = some (.tup (k.map kV))) ∨ (H a = some (.dT []) ∧ ∃ k : Key, y = kV k)))
theorem dg_as {pins : List (Addr × Obj)} {σ : L2.St} {H : Hp} {s : Shared} {a : Addr} {y : V} {r : Option V} (I : Inv X pins σ H s) (g : DG H a y r) :
    ∃ H', Inv X pins σ H' s ∧ DGet H' a y r ∧ ∀ s', Inv X pins σ H' s' → Inv X pins σ H s' := by
  rcases g with g | ⟨rfl, ⟨h, b, k, rfl, hb⟩ | ⟨h, k, rfl⟩⟩
  · exact ⟨H, I, g, fun _ x => x⟩
  · have nb : b ≠ a := ne_of hb h (by intro z; cases z)
    exact ⟨_, retag I h, .inr ⟨[], k, b, .inl upd_same, rfl, by rw [upd_ne nb]; exact hb, rfl⟩, fun s' J => by
      have q := retagK J upd_same
      rwa [untag h] at q⟩
  · exact ⟨_, retagK I h, .inl ⟨[], k, .inl upd_same, rfl, rfl⟩, fun s' J => by
      have q := retag J upd_same
      rwa [untag h] at q⟩
def rInK (neg : Bool) : R2 := fun x y H Q => ∃ a o, y = .ref a ∧ DG H a x o ∧ Q (.bl (if neg then !o.isSome else o.isSome)) H
theorem op_inK (hu : X.A.units + 1 < cLine) : OpR X (compareOp .In) (rInK false) := by
  intro pins s σ H x y v u Q I rx ry h
  obtain ⟨a, o, rfl, g, q⟩ := h
  obtain rfl : u = Value.ref a := ry
  obtain ⟨H', I', g', b⟩ := dg_as I g
  exact d_in hu I' g' rx fun s3 I3 => ⟨.bl o.isSome, H, b _ I3, rfl, q⟩
theorem op_notInK (hu : X.A.units + 1 < cLine) : OpR X (compareOp .NotIn) (rInK true) := by
  intro pins s σ H x y v u Q I rx ry h
  obtain ⟨a, o, rfl, g, q⟩ := h
  obtain rfl : u = Value.ref a := ry
  obtain ⟨H', I', g', b⟩ := dg_as I g
  exact d_notIn hu I' g' rx fun s3 I3 => ⟨.bl (!o.isSome), H, b _ I3, rfl, q⟩
def cmOf : Cm → CmpOp
  | .eq => .Eq
  | .ne => .NotEq
  | .lt => .Lt
  | .le => .LtE
  | .gt => .Gt
  | .ge => .GtE
  | .isin => .In
  | .notin => .NotIn
def rCm (K : PySem.W.Frag) : Cm → R2
  | .eq => fun x y H Q => rEqD K x y H Q ∨ rEqN false x y H Q
  | .ne => fun x y H Q => rNeD K x y H Q ∨ rEqN true x y H Q
  | .lt => rI0 fun i j => .bl (decide (i < j))
  | .le => rI0 fun i j => .bl (decide (i ≤ j))
  | .gt => rI0 fun i j => .bl (decide (j < i))
  | .ge => rI0 fun i j => .bl (decide (j ≤ i))
  | .isin => fun x y H Q => rInT K false x y H Q ∨ rInK false x y H Q
  | .notin => fun x y H Q => rInT K true x y H Q ∨ rInK true x y H Q
theorem r_cm {n : Nat} (hr : Room n X.A) (o : Cm) : OpR X (compareOp (cmOf o)) (rCm X.K o) := by
  have h := hr.un
  cases o with
  | eq => exact (op_eqD hr.units).or (op_eqN hr.units0)
  | ne => exact (op_neD hr.units).or (op_neN hr.units0)
  | lt => exact op_lt
  | le => exact op_le
  | gt => exact op_gt
  | ge => exact op_ge
  | isin => exact (op_inT (by omega)).or (op_inK (by omega))
  | notin => exact (op_notInT (by omega)).or (op_notInK (by omega))

theorem keyD_flat {w : Wd} {G : Hp} {v : V} {d : D} {k : Key} (h : Is w G v d) (e : keyD d = some (.inr k)) : v = kV k := by
  cases h with
  | int i => simp [keyD] at e; subst e; rfl
  | str x => simp [keyD] at e; subst e; rfl
  | tup h r =>
    simp only [keyD] at e
    split at e <;> simp at e
  | _ => simp [keyD] at e
theorem keys_flat {w : Wd} {G : Hp} : ∀ {vs : List V} {ds : List D} {k : List Key}, IsL w G vs ds → keyD.keys ds = some k → vs = k.map kV
  | _, _, k, .nil, e => by
    simp [keyD.keys] at e; subst e; rfl
  | _, _, k, .cons (d := d) (ds := ds) h r, e => by
    cases d with
    | int i =>
      unfold keyD.keys at e
      split at e
      · rename_i q hq
        cases e
        rw [keys_flat r hq, h.int_inv]; rfl
      · cases e
    | str x =>
      unfold keyD.keys at e
      split at e
      · rename_i q hq
        cases e
        rw [keys_flat r hq]
        cases h; rfl
      · cases e
    | _ => simp [keyD.keys] at e
theorem keyD_tup {w : Wd} {G : Hp} {v : V} {d : D} {k : List Key} (h : Is w G v d) (e : keyD d = some (.inl k)) : ∃ b, v = .ref b ∧ G b = some (.tup (k.map kV)) := by
  cases h with
  | tup h r =>
    simp only [keyD] at e
    split at e
    · rename_i q hq
      simp at e
      subst e
      rw [keys_flat r hq] at h
      exact ⟨_, rfl, h⟩
    · cases e
  | int i => simp [keyD] at e
  | str x => simp [keyD] at e
  | _ => simp [keyD] at e

theorem isK_find {w : Wd} {G : Hp} {k : Key} {q : D} (hq : keyD q = some (.inr k)) : ∀ {kvs : List (Key × V)} {ds : List (D × D)}, IsK w G kvs ds →
    (∃ v d, dFind q ds = some (some d) ∧ valV kvs k = some v ∧ Is w G v d) ∨ (dFind q ds = some none ∧ valV kvs k = none)
  | _, _, .nil => .inr ⟨by simp [dFind, hq], rfl⟩
  | _, _, .cons (k := k1) (v := v) (q := q1) (d := d) (ds := dr) hk h r => by
    have e : keyEq q1 q = some (decide (k1 = k)) := by simp only [keyEq, hk, hq]
    by_cases z : k1 = k
    · refine .inl ⟨v, d, ?_, valV_pos z, h⟩
      simp only [dFind, e, decide_eq_true z]
    · have z2 : dFind q ((q1, d) :: dr) = dFind q dr := by simp only [dFind, e, decide_eq_false z]
      rw [z2, valV_neg z]
      exact isK_find hq r
theorem isT_find {w : Wd} {G : Hp} {k : List Key} {q : D} (hq : keyD q = some (.inl k)) : ∀ {kvs : List (List Key × V)} {ds : List (D × D)}, IsT w G kvs ds →
    (∃ v d, dFind q ds = some (some d) ∧ valV kvs k = some v ∧ Is w G v d) ∨ (dFind q ds = some none ∧ valV kvs k = none)
  | _, _, .nil => .inr ⟨by simp [dFind, hq], rfl⟩
  | _, _, .cons (k := k1) (v := v) (q := q1) (d := d) (ds := dr) hk h r => by
    have e : keyEq q1 q = some (decide (k1 = k)) := by simp only [keyEq, hk, hq]
    by_cases z : k1 = k
    · refine .inl ⟨v, d, ?_, valV_pos z, h⟩
      simp only [dFind, e, decide_eq_true z]
    · have z2 : dFind q ((q1, d) :: dr) = dFind q dr := by simp only [dFind, e, decide_eq_false z]
      rw [z2, valV_neg z]
      exact isT_find hq r
theorem find_kind {α : Type} {q : D} {ds : List (D × α)} {r : Option α} (h : dFind q ds = some r) : ∃ k, keyD q = some k := by
  cases ds with
  | nil =>
    simp only [dFind] at h
    split at h
    · rename_i k hk; exact ⟨k, hk⟩
    · cases h
  | cons p t =>
    obtain ⟨q1, v⟩ := p
    simp only [dFind, keyEq] at h
    cases e : keyD q with
    | some k => exact ⟨k, rfl⟩
    | none =>
      rw [e] at h
      split at h
      · rename_i h1; split at h1 <;> simp_all
      · rename_i h1; split at h1 <;> simp_all
      · cases h
/-- a look-up in what stands -/
theorem find_dg {w : Wd} {r : Dr} {G B H : Hp} {v y : V} {ds : List (D × D)} {q : D} {o : Option D} (hd : Is w B v (.dct ds)) (lb : LeR r B H) (hy : Is w G y q) (lg : LeR r G H) (h : dFind q ds = some o) :
    ∃ a u, v = .ref a ∧ DG H a y u ∧ ((∃ x d, u = some x ∧ o = some d ∧ Is w B x d) ∨ (u = none ∧ o = none)) := by
  obtain ⟨k, hk⟩ := find_kind h
  cases hd with
  | dK hd r =>
    rename_i a _
    refine ⟨a, ?_⟩
    cases k with
    | inr k =>
      have e := keyD_flat hy hk
      rcases isK_find hk r with ⟨x, d, h1, h2, h3⟩ | ⟨h1, h2⟩
      · rw [h1] at h; cases h
        exact ⟨some x, rfl, .inl (.inl ⟨_, k, lb.rd (.inl hd), e, h2.symm⟩), .inl ⟨x, d, rfl, rfl, h3⟩⟩
      · rw [h1] at h; cases h
        exact ⟨none, rfl, .inl (.inl ⟨_, k, lb.rd (.inl hd), e, h2.symm⟩), .inr ⟨rfl, rfl⟩⟩
    | inl k =>
      obtain ⟨b, e, hb⟩ := keyD_tup hy hk
      cases r with
      | nil =>
        simp only [dFind, hk] at h
        cases h
        rcases (lb _ _ hd).2 with z | ⟨(⟨_, _, z⟩ | ⟨_, _, z⟩), ob, _⟩
        · exact ⟨none, rfl, .inr ⟨rfl, .inl ⟨z, b, k, e, lg.tup hb⟩⟩, .inr ⟨rfl, rfl⟩⟩
        · cases z
        · cases z
      | cons hk1 h1 r1 => simp only [dFind, keyEq, hk1, hk] at h; cases h
  | dT hd r =>
    rename_i a _
    refine ⟨a, ?_⟩
    cases k with
    | inl k =>
      obtain ⟨b, e, hb⟩ := keyD_tup hy hk
      rcases isT_find hk r with ⟨x, d, h1, h2, h3⟩ | ⟨h1, h2⟩
      · rw [h1] at h; cases h
        exact ⟨some x, rfl, .inl (.inr ⟨_, k, b, lb.rd (.inl hd), e, lg.tup hb, h2.symm⟩), .inl ⟨x, d, rfl, rfl, h3⟩⟩
      · rw [h1] at h; cases h
        exact ⟨none, rfl, .inl (.inr ⟨_, k, b, lb.rd (.inl hd), e, lg.tup hb, h2.symm⟩), .inr ⟨rfl, rfl⟩⟩
    | inr k =>
      have e := keyD_flat hy hk
      cases r with
      | nil =>
        simp only [dFind, hk] at h
        cases h
        rcases (lb _ _ hd).2 with z | ⟨(⟨_, _, z⟩ | ⟨_, _, z⟩), ob, _⟩
        · exact ⟨none, rfl, .inr ⟨rfl, .inr ⟨z, k, e⟩⟩, .inr ⟨rfl, rfl⟩⟩
        · cases z
        · cases z
      | cons hk1 h1 r1 => simp only [dFind, keyEq, hk1, hk] at h; cases h

variable {g : Gx} {sem : Nat → List D → S → CRes} {n : Nat} {X : Cx} {W : WX}
theorem dpOf {w : Wd} {r : Dr} {B H : Hp} {K : PySem.W.Frag} {v : V} {d : D} {p : PyData} (i : Is w B v d) (l : LeR r B H) (h : d.py = some p) (s : PySem.SeqAt.shaped p = true) : Dp K H v p := i.dp l h (PySem.SeqAt.canLay_of_shaped s)
theorem eqP_inv {x y : D} {b : Bool} (h : dEqP x y = some b) : ∃ p q, x.py = some p ∧ y.py = some q ∧ PySem.SeqAt.shaped p = true ∧ PySem.SeqAt.shaped q = true ∧ b = PyData.eqv p q := by
  unfold dEqP at h
  split at h
  · rename_i p q h1 h2
    split at h
    · rename_i hs
      rw [Bool.and_eq_true] at hs
      cases h
      exact ⟨p, q, h1, h2, hs.1, hs.2, rfl⟩
    · cases h
  · cases h
theorem lenL_inv {x : D} {m : Nat} (h : lenL x = some m) : ∃ l, x = .lst l ∧ l.length = m := by
  cases x <;> simp [lenL] at h
  exact ⟨_, rfl, h⟩
/-- what a comparison tells is what the machine tells -/
theorem cm_ok {o : Cm} {w : Wd} {r : Dr} {B1 B2 H : Hp} {K : PySem.W.Frag} {v u : V} {x y : D} {b : Bool} {Q : VK} (ix : Is w B1 v x) (l1 : LeR r B1 H) (iy : Is w B2 u y) (l2 : LeR r B2 H) (h : dCm o x y = some b) (hq : Q (.bl b) H) : rCm K o v u H Q := by
  have eqs : ∀ {b : Bool}, dEq x y = some b → (∃ p q, Dp K H v p ∧ Dp K H u q ∧ PySem.SeqAt.shaped p = true ∧ PySem.SeqAt.shaped q = true ∧ b = PyData.eqv p q) ∨ (b = false ∧ ∃ l m xs ys, v = .ref l ∧ u = .ref m ∧ Rd H l (.lst xs) ∧ Rd H m (.lst ys) ∧ xs.length ≠ ys.length) := fun {b} h => by
    have gen : dEqP x y = some b → (∃ p q, Dp K H v p ∧ Dp K H u q ∧ PySem.SeqAt.shaped p = true ∧ PySem.SeqAt.shaped q = true ∧ b = PyData.eqv p q) := fun h => by
      obtain ⟨p, q, h1, h2, s1, s2, e⟩ := eqP_inv h
      exact ⟨p, q, dpOf ix l1 h1 s1, dpOf iy l2 h2 s2, s1, s2, e⟩
    unfold dEq at h
    split at h
    · rename_i m n h1 h2
      split at h
      · exact .inl (gen h)
      · rename_i hne
        cases h
        obtain ⟨l, rfl, e1⟩ := lenL_inv h1
        obtain ⟨l', rfl, e2⟩ := lenL_inv h2
        obtain ⟨a, vs, rfl, ha, ra⟩ := ix.lst_inv
        obtain ⟨a', us, rfl, ha', ra'⟩ := iy.lst_inv
        exact .inr ⟨rfl, a, a', vs, us, rfl, rfl, l1.rd ha, l2.rd ha', by rw [ra.length, ra'.length, e1, e2]; exact hne⟩
    · exact .inl (gen h)
  have isin : ∀ {b : Bool}, dIsin x y = some b → (∃ d ds, Dp K H v d ∧ (Dp K H u (.list ds) ∨ Dp K H u (.tuple ds)) ∧ PySem.SeqAt.shaped d = true ∧ PyData.canLayAll0 ds = true ∧ b = ds.any fun z => PyData.eqv z d) ∨ (∃ a o, u = .ref a ∧ DG H a v o ∧ b = o.isSome) := fun {b} h => by
    have gen : ∀ {l : List D}, dIn x l = some b → ∃ p ps, x.py = some p ∧ D.pys l = some ps ∧ PySem.SeqAt.shaped p = true ∧ PyData.canLayAll0 ps = true ∧ b = ps.any fun z => PyData.eqv z p := fun {l} h => by
      unfold dIn at h
      split at h
      · rename_i p ps h1 h2
        split at h
        · rename_i hs
          rw [Bool.and_eq_true] at hs
          cases h
          exact ⟨p, ps, h1, h2, hs.1, hs.2, rfl⟩
        · cases h
      · cases h
    unfold dIsin at h
    split at h
    · obtain ⟨p, ps, h1, h2, s1, s2, e⟩ := gen h
      obtain ⟨a, vs, rfl, ha, ra⟩ := iy.lst_inv
      exact .inl ⟨p, ps, dpOf ix l1 h1 s1, .inl (.lst (.inl (l2.rd ha)) (ra.dp l2 h2 s2)), s1, s2, e⟩
    · obtain ⟨p, ps, h1, h2, s1, s2, e⟩ := gen h
      obtain ⟨a, vs, rfl, ha, ra⟩ := iy.tup_inv
      exact .inl ⟨p, ps, dpOf ix l1 h1 s1, .inr (.tup (.inl (.inl (l2.tup ha))) (ra.dp l2 h2 s2)), s1, s2, e⟩
    · split at h
      · rename_i o ho
        cases h
        obtain ⟨a, z, rfl, dg, q⟩ := find_dg iy l2 ix l1 ho
        refine .inr ⟨a, z, rfl, dg, ?_⟩
        rcases q with ⟨_, _, rfl, rfl, _⟩ | ⟨rfl, rfl⟩ <;> rfl
      · cases h
    · cases iy
    · cases h
  have cmis : ∀ {f : Int → Int → Bool}, cmI f x y = some b → rI0 (fun i j => .bl (f i j)) v u H Q := fun {f} h => by
    unfold cmI at h
    split at h
    · cases h
      exact ⟨_, _, ix.int_inv, iy.int_inv, hq⟩
    · cases h
  cases o with
  | eq =>
    rcases eqs h with ⟨p, q, h1, h2, h3, h4, rfl⟩ | ⟨rfl, l, m, xs, ys, h1, h2, h3, h4, h5⟩
    · exact .inl ⟨p, q, h1, h2, h3, h4, hq⟩
    · exact .inr ⟨l, m, xs, ys, h1, h2, h3, h4, h5, hq⟩
  | ne =>
    simp only [dCm, optNot] at h
    split at h
    · rename_i b' hb
      cases h
      rcases eqs hb with ⟨p, q, h1, h2, h3, h4, rfl⟩ | ⟨rfl, l, m, xs, ys, h1, h2, h3, h4, h5⟩
      · exact .inl ⟨p, q, h1, h2, h3, h4, hq⟩
      · exact .inr ⟨l, m, xs, ys, h1, h2, h3, h4, h5, hq⟩
    · cases h
  | lt => exact cmis h
  | le => exact cmis h
  | gt => exact cmis h
  | ge => exact cmis h
  | isin =>
    rcases isin h with ⟨d, ds, h1, h2, h3, h4, rfl⟩ | ⟨a, o, h1, h2, rfl⟩
    · exact .inl ⟨d, ds, h1, h2, h3, h4, hq⟩
    · exact .inr ⟨a, o, h1, h2, hq⟩
  | notin =>
    simp only [dCm, optNot] at h
    split at h
    · rename_i b' hb
      cases h
      rcases isin hb with ⟨d, ds, h1, h2, h3, h4, rfl⟩ | ⟨a, o, h1, h2, rfl⟩
      · exact .inl ⟨d, ds, h1, h2, h3, h4, hq⟩
      · exact .inr ⟨a, o, h1, h2, hq⟩
    · cases h
theorem s_cm {o : Cm} {ea eb : E} {a b : Expr} {pos : Pos} (hr : Room n X.A) (ha : PE X a (rdB g sem ea W)) (hb : PE X b (rdB g sem eb W)) (hm : behindInMarks (cmOf o) b = false) : PE X (.Compare a [cmOf o] [b] pos) (rd g sem (.cm o ea eb) W) := by
  refine PE.wk (pe_cmpR (r_cm hr o) ha hb hm) fun σ H Q h => ?_
  obtain ⟨r, H0, G0, G, ow, c, R, h⟩ := h
  rw [ev] at h
  split at h
  · rename_i hn
    refine twoB R hn h fun x y c' h v u H' G' ow' R' l b1 b2 K => ?_
    obtain ⟨B1, _, lb1, i1⟩ := b1.to R'.gh
    obtain ⟨B2, _, lb2, i2⟩ := b2.to R'.gh
    rw [Run.bind] at h
    obtain ⟨b, e, h⟩ := Run.opt h
    replace h : Lands _ _ _ _ _ _ _ (.v (.bl b)) c' Q := h
    exact cm_ok i1 lb1 i2 lb2 e ((h.from l fun z => K (by rw [nomut, Bool.and_eq_true] at z; exact z.1)).here R' (.bl b))
  · exact h.elim
end
end Rc
end Z_Rc5
section Z_Rc6
set_option Elab.async false
set_option linter.all false
set_option maxRecDepth 100000
set_option autoImplicit false
namespace Rc
open PySem PySem.Spec PyProof.Rows L2
section
variable {g : Gx} {sem : Nat → List D → S → CRes} {n : Nat} {X : Cx} {W : WX}

theorem truth_inv {w : Wd} {an : Nat → Option Nat} {H0 G0 : Hp} {σ : L2.St} {o : Out} {c : Cfg} {k : Bool → Cfg → Prop} (h : Run w an H0 G0 σ W (truth o c) k) : ∃ b, o = .v (.bl b) ∧ k b c := by
  unfold truth at h
  split at h
  · exact ⟨_, rfl, h⟩
  · exact h.elim
/-- one part, for good -/
theorem one {ea : E} {σ : L2.St} {H : Hp} {r : Dr} {H0 G0 G : Hp} {ow : Nat → List Addr} {c : Cfg} {α : Type} {f : Out → Cfg → Res α} {k : α → Cfg → Prop} (R : Rp (g.wd r) H0 G0 σ H G ow c)
    (h : Run (g.wd r) g.P.attr H0 G0 σ W ((ev g.P sem ea c).bind f) k) {Q : VK}
    (m : ∀ x c', Run (g.wd r) g.P.attr H0 G0 σ W (f x c') k → ∀ v H' G' ow', Rp (g.wd r) H0 G0 σ H' G' ow' c' → Le G G' → Is (g.wd r) G' v x.val → (nomut ea = true → Kp (g.wd r) H H') → Q v H') : rd g sem ea W σ H Q := by
  rw [Run.bind] at h
  refine ⟨r, H0, G0, G, ow, c, R, h.mono fun x c1 h1 v H1 G1 ow1 R1 l1 O1 K1 => ?_⟩
  obtain ⟨G1', R1', l1', i1⟩ := R1.val O1
  exact m x c1 h1 v H1 G1' ow1 R1' (l1.trans l1') i1 K1
/-- one part, looked at -/
theorem oneB {ea : E} {σ : L2.St} {H : Hp} {r : Dr} {H0 G0 G : Hp} {ow : Nat → List Addr} {c : Cfg} {α : Type} {f : D → Cfg → Res α} {k : α → Cfg → Prop} (R : Rp (g.wd r) H0 G0 σ H G ow c)
    (h : Run (g.wd r) g.P.attr H0 G0 σ W ((bor ea (ev g.P sem ea) c).bind f) k) {Q : VK}
    (m : ∀ x c', Run (g.wd r) g.P.attr H0 G0 σ W (f x c') k → ∀ v H' G' ow', Rp (g.wd r) H0 G0 σ H' G' ow' c' → Le G G' → Bor (g.wd r) G' H' v x → (nomut ea = true → Kp (g.wd r) H H') → Q v H') : rdB g sem ea W σ H Q := by
  rw [Run.bind] at h
  exact ⟨r, H0, G0, G, ow, c, R, h.mono fun x c1 h1 v H1 G1 ow1 R1 l1 O1 K1 => m x c1 h1 v H1 G1 ow1 R1 l1 O1 K1⟩
/-- a test -/
theorem oneT {ea : E} {σ : L2.St} {H : Hp} {r : Dr} {H0 G0 G : Hp} {ow : Nat → List Addr} {c : Cfg} {α : Type} {f : Bool → Cfg → Res α} {k : α → Cfg → Prop} (R : Rp (g.wd r) H0 G0 σ H G ow c)
    (h : Run (g.wd r) g.P.attr H0 G0 σ W ((ev g.P sem ea c).bind fun x c => (truth x c).bind f) k) {Q : Bool → Hp → Prop}
    (m : ∀ b c', Run (g.wd r) g.P.attr H0 G0 σ W (f b c') k → ∀ H' G' ow', Rp (g.wd r) H0 G0 σ H' G' ow' c' → Le G G' → (nomut ea = true → Kp (g.wd r) H H') → Q b H') : rdT g sem ea W σ H Q := by
  refine ⟨r, H0, G0, G, ow, c, R, ?_⟩
  rw [Run.bind] at h ⊢
  refine h.mono fun x c1 h1 => ?_
  rw [Run.bind] at h1
  exact h1.mono fun b c2 h2 H' G' ow' R' l K => m b c2 h2 H' G' ow' R' l K
theorem t_val {e : E} {x : Expr} (h : PE X x (rd g sem e W)) (he : ∀ whole, isTrue x X.env whole = (do let v ← whole; standAt x.pos; holding [v] (truthy v))) : PT X x (rdT g sem e W) := by
  refine PT.wk (pt_val h he) fun σ H Q h => ?_
  obtain ⟨r, H0, G0, G, ow, c, R, h⟩ := h
  rw [Run.bind] at h
  refine ⟨r, H0, G0, G, ow, c, R, h.mono fun o c1 h1 v H' G' ow' R' l O K => ?_⟩
  obtain ⟨b, rfl, h1⟩ := truth_inv h1
  have O : Is (g.wd r) G' v (.bl b) := O
  exact ⟨b, O.bl_inv, h1 H' G' ow' R' l K⟩
theorem t_cm {o : Cm} {ea eb : E} {a b : Expr} {pos : Pos} (hr : Room n X.A) (ha : PE X a (rdB g sem ea W)) (hb : PE X b (rdB g sem eb W)) (hm : behindInMarks (cmOf o) b = false) : PT X (.Compare a [cmOf o] [b] pos) (rdT g sem (.cm o ea eb) W) := by
  refine PT.wk (pt_cmpR (r_cm hr o) ha hb hm) fun σ H Q h => ?_
  obtain ⟨r, H0, G0, G, ow, c, R, h⟩ := h
  rw [ev] at h
  split at h
  · rename_i hn
    rw [Run.bind] at h
    refine twoB R hn h fun x y c' h v u H' G' ow' R' l b1 b2 K => ?_
    obtain ⟨B1, _, lb1, i1⟩ := b1.to R'.gh
    obtain ⟨B2, _, lb2, i2⟩ := b2.to R'.gh
    rw [Run.bind] at h
    obtain ⟨b, e, h⟩ := Run.opt h
    refine cm_ok i1 lb1 i2 lb2 e ⟨b, rfl, h H' G' ow' R' l fun z => K ?_⟩
    rw [nomut, Bool.and_eq_true] at z; exact z.1
  · exact h.elim
/-- what follows when nothing more is asked -/
theorem Lands.of {w : Wd} {H0 G0 : Hp} {σ : L2.St} {H G H' G' : Hp} {ow' : Nat → List Addr} {c : Cfg} {nm : Bool} {d : D} {v : V} {Q : VK} (h : Lands w H0 G0 σ H G nm (.v d) c Q) (R : Rp w H0 G0 σ H' G' ow' c) (l : Le G G') (i : Is w G' v d) (K : nm = true → Kp w H H') : Q v H' := h v H' G' ow' R l i K

theorem s_and {ea eb : E} {a b : Expr} {rest : List Expr} {pos : Pos} (ha : PE X a (rd g sem ea W)) (hb : PE X (.BoolOp .And (b :: rest) pos) (rd g sem eb W)) : PE X (.BoolOp .And (a :: b :: rest) pos) (rd g sem (.and ea eb) W) := by
  refine PE.wk (pe_and ha hb) fun σ H Q h => ?_
  obtain ⟨r, H0, G0, G, ow, c, R, h⟩ := h
  rw [ev] at h
  refine one R h fun x c' h v H' G' ow' R' l i K => ?_
  rw [Run.bind] at h
  replace h := truth_inv h
  obtain ⟨t, rfl, h⟩ := h
  refine ⟨t, i.bl_inv, ?_⟩
  cases t with
  | true =>
    simp only [if_pos] at h ⊢
    rw [Run.bind] at h
    refine ⟨r, H0, G0, G', ow', c', R', h.mono fun y c2 h2 u H2 G2 ow2 R2 l2 O2 K2 => ?_⟩
    rw [Run.bind] at h2
    obtain ⟨t2, rfl, h2⟩ := truth_inv h2
    exact h2 u H2 G2 ow2 R2 (l.trans l2) O2 fun z => by
      rw [nomut, Bool.and_eq_true] at z
      exact (K z.1).trans (K2 z.2)
  | false =>
    simp only [Bool.false_eq_true, if_false] at h ⊢
    exact h.of R' l (.bl false) fun z => by
      rw [nomut, Bool.and_eq_true] at z
      exact K z.1
theorem s_or {ea eb : E} {a b : Expr} {rest : List Expr} {pos : Pos} (ha : PE X a (rd g sem ea W)) (hb : PE X (.BoolOp .Or (b :: rest) pos) (rd g sem eb W)) : PE X (.BoolOp .Or (a :: b :: rest) pos) (rd g sem (.or ea eb) W) := by
  refine PE.wk (pe_or ha hb) fun σ H Q h => ?_
  obtain ⟨r, H0, G0, G, ow, c, R, h⟩ := h
  rw [ev] at h
  refine one R h fun x c' h v H' G' ow' R' l i K => ?_
  rw [Run.bind] at h
  replace h := truth_inv h
  obtain ⟨t, rfl, h⟩ := h
  refine ⟨t, i.bl_inv, ?_⟩
  cases t with
  | false =>
    simp only [Bool.false_eq_true, if_false] at h ⊢
    rw [Run.bind] at h
    refine ⟨r, H0, G0, G', ow', c', R', h.mono fun y c2 h2 u H2 G2 ow2 R2 l2 O2 K2 => ?_⟩
    rw [Run.bind] at h2
    obtain ⟨t2, rfl, h2⟩ := truth_inv h2
    exact h2 u H2 G2 ow2 R2 (l.trans l2) O2 fun z => by
      rw [nomut, Bool.and_eq_true] at z
      exact (K z.1).trans (K2 z.2)
  | true =>
    simp only [if_pos] at h ⊢
    exact h.of R' l (.bl true) fun z => by
      rw [nomut, Bool.and_eq_true] at z
      exact K z.1
theorem t_and {ea eb : E} {a b : Expr} {rest : List Expr} {pos : Pos} (ha : PT X a (rdT g sem ea W)) (hb : PW X (.BoolOp .And (b :: rest) pos) (rdT g sem eb W)) : PW X (.BoolOp .And (a :: b :: rest) pos) (rdT g sem (.and ea eb) W) := by
  have h0 := pw_and ha hb
  refine ⟨fun wh pins s σ H Q I h => h0.run wh pins s σ H Q I ?_⟩
  obtain ⟨r, H0, G0, G, ow, c, R, h⟩ := h
  rw [ev, Run.bind, Run.bind] at h
  refine ⟨r, H0, G0, G, ow, c, R, ?_⟩
  rw [Run.bind]
  refine h.mono fun x c1 h1 => ?_
  rw [Run.bind] at h1
  refine h1.mono fun t c2 h2 H' G' ow' R' l K => ?_
  cases t with
  | true =>
    simp only [if_pos] at h2 ⊢
    rw [Run.bind] at h2
    refine ⟨r, H0, G0, G', ow', c2, R', ?_⟩
    rw [Run.bind]
    refine h2.mono fun y c3 h3 => ?_
    rw [Run.bind] at h3
    refine h3.mono fun t2 c4 h4 H2 G2 ow2 R2 l2 K2 => ?_
    exact h4 H2 G2 ow2 R2 (l.trans l2) fun z => by
      rw [nomut, Bool.and_eq_true] at z
      exact (K z.1).trans (K2 z.2)
  | false =>
    simp only [Bool.false_eq_true, if_false] at h2 ⊢
    exact h2 H' G' ow' R' l fun z => by
      rw [nomut, Bool.and_eq_true] at z
      exact K z.1
theorem t_or {ea eb : E} {a b : Expr} {rest : List Expr} {pos : Pos} (ha : PT X a (rdT g sem ea W)) (hb : PW X (.BoolOp .Or (b :: rest) pos) (rdT g sem eb W)) : PW X (.BoolOp .Or (a :: b :: rest) pos) (rdT g sem (.or ea eb) W) := by
  have h0 := pw_or ha hb
  refine ⟨fun wh pins s σ H Q I h => h0.run wh pins s σ H Q I ?_⟩
  obtain ⟨r, H0, G0, G, ow, c, R, h⟩ := h
  rw [ev, Run.bind, Run.bind] at h
  refine ⟨r, H0, G0, G, ow, c, R, ?_⟩
  rw [Run.bind]
  refine h.mono fun x c1 h1 => ?_
  rw [Run.bind] at h1
  refine h1.mono fun t c2 h2 H' G' ow' R' l K => ?_
  cases t with
  | false =>
    simp only [Bool.false_eq_true, if_false] at h2 ⊢
    rw [Run.bind] at h2
    refine ⟨r, H0, G0, G', ow', c2, R', ?_⟩
    rw [Run.bind]
    refine h2.mono fun y c3 h3 => ?_
    rw [Run.bind] at h3
    refine h3.mono fun t2 c4 h4 H2 G2 ow2 R2 l2 K2 => ?_
    exact h4 H2 G2 ow2 R2 (l.trans l2) fun z => by
      rw [nomut, Bool.and_eq_true] at z
      exact (K z.1).trans (K2 z.2)
  | true =>
    simp only [if_pos] at h2 ⊢
    exact h2 H' G' ow' R' l fun z => by
      rw [nomut, Bool.and_eq_true] at z
      exact K z.1
theorem s_not {ea : E} {a : Expr} {pos : Pos} (ha : PE X a (rd g sem ea W)) : PE X (.UnaryOp .Not a pos) (rd g sem (.not ea) W) := by
  refine PE.wk (pe_not ha) fun σ H Q h => ?_
  obtain ⟨r, H0, G0, G, ow, c, R, h⟩ := h
  rw [ev] at h
  refine one R h fun x c' h v H' G' ow' R' l i K => ?_
  rw [Run.bind] at h
  replace h := truth_inv h
  obtain ⟨t, rfl, h⟩ := h
  exact ⟨t, i.bl_inv, h.of R' l (.bl _) fun z => K (by rw [nomut] at z; exact z)⟩
theorem t_not {ea : E} {a : Expr} {pos : Pos} (ha : PT X a (rdT g sem ea W)) : PT X (.UnaryOp .Not a pos) (rdT g sem (.not ea) W) := by
  refine PT.wk (pt_not ha) fun σ H Q h => ?_
  obtain ⟨r, H0, G0, G, ow, c, R, h⟩ := h
  rw [ev, Run.bind, Run.bind] at h
  refine ⟨r, H0, G0, G, ow, c, R, ?_⟩
  rw [Run.bind]
  refine h.mono fun x c1 h1 => ?_
  rw [Run.bind] at h1
  exact h1.mono fun t c2 h2 H' G' ow' R' l K => h2 H' G' ow' R' l fun z => K (by rw [nomut] at z; exact z)
theorem isNon_eq {w : Wd} {B : Hp} {v : V} {x : D} (i : Is w B v x) : x.isNon = decide (v = .non) := by cases i <;> simp [D.isNon]
theorem s_isN {ea : E} {a : Expr} {pos pos' : Pos} {j : Nat} (ha : PE X a (rdB g sem ea W)) : PE X (.Compare a [.Is] [.Constant .none j pos'] pos) (rd g sem (.isN ea) W) := by
  refine PE.wk (pe_cmpR op_isN ha pe_non (nomark _)) fun σ H Q h => ?_
  obtain ⟨r, H0, G0, G, ow, c, R, h⟩ := h
  rw [ev] at h
  refine oneB R h fun x c' h v H' G' ow' R' l b K => ⟨rfl, ?_⟩
  obtain ⟨B, _, _, i⟩ := b.to R'.gh
  replace h : Lands _ _ _ _ _ _ _ (.v (.bl x.isNon)) _ Q := h
  rw [isNon_eq i] at h
  exact h.of R' l (.bl _) fun z => K (by rw [nomut] at z; exact z)
theorem s_notN {ea : E} {a : Expr} {pos pos' : Pos} {j : Nat} (ha : PE X a (rdB g sem ea W)) : PE X (.Compare a [.IsNot] [.Constant .none j pos'] pos) (rd g sem (.notN ea) W) := by
  refine PE.wk (pe_cmpR op_notN ha pe_non (nomark _)) fun σ H Q h => ?_
  obtain ⟨r, H0, G0, G, ow, c, R, h⟩ := h
  rw [ev] at h
  refine oneB R h fun x c' h v H' G' ow' R' l b K => ⟨rfl, ?_⟩
  obtain ⟨B, _, _, i⟩ := b.to R'.gh
  replace h : Lands _ _ _ _ _ _ _ (.v (.bl (!x.isNon))) _ Q := h
  rw [isNon_eq i] at h
  exact h.of R' l (.bl _) fun z => K (by rw [nomut] at z; exact z)
theorem t_isN {ea : E} {a : Expr} {pos pos' : Pos} {j : Nat} (ha : PE X a (rdB g sem ea W)) : PT X (.Compare a [.Is] [.Constant .none j pos'] pos) (rdT g sem (.isN ea) W) := by
  refine PT.wk (pt_cmpR op_isN ha pe_non (nomark _)) fun σ H Q h => ?_
  obtain ⟨r, H0, G0, G, ow, c, R, h⟩ := h
  rw [ev, Run.bind] at h
  refine oneB R h fun x c' h v H' G' ow' R' l b K => ⟨rfl, ?_⟩
  obtain ⟨B, _, _, i⟩ := b.to R'.gh
  refine ⟨_, rfl, ?_⟩
  rw [← isNon_eq i]
  exact h H' G' ow' R' l fun z => K (by rw [nomut] at z; exact z)
theorem t_notN {ea : E} {a : Expr} {pos pos' : Pos} {j : Nat} (ha : PE X a (rdB g sem ea W)) : PT X (.Compare a [.IsNot] [.Constant .none j pos'] pos) (rdT g sem (.notN ea) W) := by
  refine PT.wk (pt_cmpR op_notN ha pe_non (nomark _)) fun σ H Q h => ?_
  obtain ⟨r, H0, G0, G, ow, c, R, h⟩ := h
  rw [ev, Run.bind] at h
  refine oneB R h fun x c' h v H' G' ow' R' l b K => ⟨rfl, ?_⟩
  obtain ⟨B, _, _, i⟩ := b.to R'.gh
  refine ⟨_, rfl, ?_⟩
  rw [← isNon_eq i]
  exact h H' G' ow' R' l fun z => K (by rw [nomut] at z; exact z)
theorem s_ite {et ea eb : E} {t a b : Expr} {pos : Pos} (ht : PT X t (rdT g sem et W)) (ha : PE X a (rd g sem ea W)) (hb : PE X b (rd g sem eb W)) : PE X (.IfExp t a b pos) (rd g sem (.ite et ea eb) W) := by
  refine PE.wk (pe_ifExp ht ha hb) fun σ H Q h => ?_
  obtain ⟨r, H0, G0, G, ow, c, R, h⟩ := h
  rw [ev] at h
  refine oneT R h fun b c' h H' G' ow' R' l K => ?_
  cases b with
  | true =>
    simp only [if_pos] at h ⊢
    exact ⟨r, H0, G0, G', ow', c', R', h.mono fun o c2 h2 v H2 G2 ow2 R2 l2 O2 K2 => h2 v H2 G2 ow2 R2 (l.trans l2) O2 fun z => by
      rw [nomut, Bool.and_eq_true, Bool.and_eq_true] at z
      exact (K z.1.1).trans (K2 z.1.2)⟩
  | false =>
    simp only [Bool.false_eq_true, if_false] at h ⊢
    exact ⟨r, H0, G0, G', ow', c', R', h.mono fun o c2 h2 v H2 G2 ow2 R2 l2 O2 K2 => h2 v H2 G2 ow2 R2 (l.trans l2) O2 fun z => by
      rw [nomut, Bool.and_eq_true, Bool.and_eq_true] at z
      exact (K z.1.1).trans (K2 z.2)⟩

theorem a_nil : PA X [] (rds g sem .nil W) := by
  refine PA.wk pa_nil fun σ H Q h => ?_
  obtain ⟨r, H0, G0, G, ow, c, R, h⟩ := h
  exact h [] H G ow R (Le.refl G) .nil fun _ => Kp.refl _ _
theorem a_cons {ea : E} {a : Expr} {es : Es} {rest : List Expr} (ha : PE X a (rd g sem ea W)) (hr : PA X rest (rds g sem es W)) (hs : starEach (a :: rest) X.env = (false, eval a X.env) :: starEach rest X.env) : PA X (a :: rest) (rds g sem (.cons ea es) W) := by
  refine PA.wk (pa_cons ha hr hs) fun σ H Q h => ?_
  obtain ⟨r, H0, G0, G, ow, c, R, h⟩ := h
  rw [evs] at h
  refine one R h fun x c' h v H' G' ow' R' l i K => ?_
  rw [Run.bind] at h
  refine ⟨r, H0, G0, G', ow', c', R', h.mono fun ds c2 h2 vs H2 G2 ow2 R2 l2 O2 K2 => h2 (v :: vs) H2 G2 ow2 R2 (l.trans l2) (.cons (i.mono l2) O2) fun z => ?_⟩
  rw [nomuts, Bool.and_eq_true] at z
  exact (K z.1).trans (K2 z.2)
theorem s_lst {es : Es} {l : List Expr} {pos : Pos} (h : PA X l (rds g sem es W)) : PE X (.List l pos) (rd g sem (.lst es) W) := by
  refine PE.wk (pe_lst h) fun σ H Q h => ?_
  obtain ⟨r, H0, G0, G, ow, c, R, h⟩ := h
  rw [ev, Run.bind] at h
  refine ⟨r, H0, G0, G, ow, c, R, h.mono fun ds c2 h2 vs H2 G2 ow2 R2 l2 O2 K2 => ?_⟩
  split at h2
  · rename_i hz
    refine ⟨by rw [O2.length]; exact most_line hz, fun p hp => ?_⟩
    have h2 : Lands _ _ _ _ _ _ _ (.l ds) c2 Q := h2
    exact R2.newL hp O2 (h2.from l2 fun z => K2 (by rw [nomut] at z; exact z))
  · exact h2.elim
theorem s_tup {es : Es} {l : List Expr} {k : Nat} {pos : Pos} (h : PA X l (rds g sem es W)) : PE X (.Tuple l k pos) (rd g sem (.tup es) W) := by
  refine PE.wk (pe_tup h) fun σ H Q h => ?_
  obtain ⟨r, H0, G0, G, ow, c, R, h⟩ := h
  rw [ev, Run.bind] at h
  refine ⟨r, H0, G0, G, ow, c, R, h.mono fun ds c2 h2 vs H2 G2 ow2 R2 l2 O2 K2 => ?_⟩
  split at h2
  · rename_i hz
    refine ⟨by rw [O2.length]; exact most_line hz, fun p hp => ?_⟩
    have h2 : Lands _ _ _ _ _ _ _ (.v (.tup ds)) c2 Q := h2
    exact R2.newT hp O2 (h2.from l2 fun z => K2 (by rw [nomut] at z; exact z))
  · exact h2.elim
end
end Rc
end Z_Rc6
section Z_Rc7
set_option Elab.async false
set_option linter.all false
set_option maxRecDepth 100000
set_option autoImplicit false
namespace Rc
open PySem PySem.Spec PyProof.Rows L2
section
variable {X : Cx}
def rIxK : R2 := fun x y H Q => ∃ a v, x = .ref a ∧ DGet H a y (some v) ∧ Q v H
theorem ix_dictK (hu : X.A.units + 1 < cLine) : IxR X rIxK := by
  intro value slice pins s σ H x y v u Q I rx ry h hs
  obtain ⟨a, z, rfl, g, q⟩ := h
  obtain rfl : v = Value.ref a := rx
  have hT := dict_typeIs I g
  have got : wpAny (model X.prog X.w) X.A (getItem (.ref a) u) (EP X pins σ Q) X.xe s := d_getItem hu I g ry fun w' s3 I3 rw' => ⟨z, H, I3, rw', q⟩
  have fin : wpAny (model X.prog X.w) X.A (subscripted slice false (.ref a) u) (fun r t => wpAny (model X.prog X.w) X.A (letTemporaryGo value (.ref a) r >>= fun _ => pure r) (EP X pins σ Q) X.xe t) X.xe s := by
    rw [hs]
    exact wpAny_operating (wpAny_mono got (fun r t hr => wpAny_bind (wpAny_letTemporaryGo (wpAny_pure hr))) fun _ _ k => k)
  unfold subscriptTail
  refine wpAny_bind ?_
  rw [getitemInPython_of_ne hT.not_modules]
  refine wpAny_bind (wpAny_specialOf hT PySem.F.slot_dict_getitem.lookup ?_)
  first
    | exact wpAny_pure (wpAny_bind fin)
    | exact wpAny_bind (wpAny_pure (wpAny_bind fin))
    | exact wpAny_bind fin
def rIxA (K : PySem.W.Frag) : R2 := fun x y H Q => rIxL K x y H Q ∨ rIxT K x y H Q ∨ rIxK x y H Q
theorem ix_all (hu : X.A.units + 1 < cLine) : IxR X (rIxA X.K) := ix_list.or (ix_tup.or (ix_dictK hu))
theorem plainIx_of {b : Expr} (h : ∀ l u st p, b ≠ .Slice l u st p) : PlainIx b := fun o i => by
  cases b <;> first | rfl | exact absurd rfl (h _ _ _ _)
theorem DG.some {H : Hp} {a : Addr} {y v : V} (h : DG H a y (some v)) : DGet H a y (some v) := by
  rcases h with h | ⟨z, _⟩
  · exact h
  · cases z
end

section
variable {g : Gx} {sem : Nat → List D → S → CRes} {n : Nat} {X : Cx} {W : WX}
theorem Run.optL {w : Wd} {an : Nat → Option Nat} {H0 G0 : Hp} {σ : L2.St} {α β : Type} {o : Option α} {c : Cfg} {f : α → Cfg → Res β} {k : β → Cfg → Prop} (h : Run w an H0 G0 σ W ((optR o c).bind f) k) : ∃ a, o = some a ∧ Run w an H0 G0 σ W (f a c) k := by
  rw [Run.bind] at h
  exact Run.opt h
theorem s_ix {ea eb : E} {a b : Expr} {pos : Pos} (hr : Room n X.A) (ha : PE X a (rdB g sem ea W)) (hb : PE X b (rd g sem eb W)) (hp : PlainIx b) : PE X (.Subscript a b pos) (rd g sem (.ix ea eb) W) := by
  have hu := hr.un
  refine PE.wk (pe_ix (ix_all (by omega)) ha hb hp) fun σ H Q h => ?_
  obtain ⟨r, H0, G0, G, ow, c, R, h⟩ := h
  rw [ev] at h
  split at h
  · rename_i hn
    refine twoM R hn h fun x y c' h v u H' G' ow' R' l bx iy K => ?_
    obtain ⟨d, e, h⟩ := Run.optL h
    have fin : ∀ {z : V}, Is (g.wd r) G' z d → Q z H' := fun {z} i => Lands.of h R' l i fun z => K (by rw [nomut, Bool.and_eq_true] at z; exact z.1)
    have lists : ∀ {vs : List V} {ds : List D} {i : Int}, IsL (g.wd r) G' vs ds → Is (g.wd r) G' u (.int i) → (match place i ds.length with | some j => ds[j]? | none => none) = some d → ∃ z, u = .int i ∧ atI vs i = some z ∧ Is (g.wd r) G' z d := fun {vs ds i} q iu e2 => by
      split at e2
      · rename_i j hj
        obtain ⟨z, h1, h2⟩ := q.get e2
        refine ⟨z, iu.int_inv, ?_, h2⟩
        unfold atI
        rw [q.length, show ixN ds.length i = some j from hj]
        exact h1
      · cases e2
    generalize y.val = k at e iy
    unfold dIx at e
    split at e
    · rename_i ds i
      rcases bx with bx | ⟨p, vs, ds', rfl, hd, hp, hi, _, _⟩ | ⟨_, _, _, _, hd, _⟩ | ⟨_, _, _, _, hd, _⟩
      · obtain ⟨p, vs, rfl, hp, hi⟩ := bx.lst_inv
        obtain ⟨z, h1, h2, h3⟩ := lists hi iy e
        exact .inl ⟨p, vs, i, z, rfl, h1, .inl (R'.gh.rd hp), h2, fin h3⟩
      · cases hd
        obtain ⟨z, h1, h2, h3⟩ := lists hi iy e
        exact .inl ⟨p, vs, i, z, rfl, h1, .inl (.inl hp), h2, fin h3⟩
      · cases hd
      · cases hd
    · rename_i ds i
      rcases bx with bx | ⟨_, _, _, _, hd, _⟩ | ⟨_, _, _, _, hd, _⟩ | ⟨_, _, _, _, hd, _⟩
      · obtain ⟨p, vs, rfl, hp, hi⟩ := bx.tup_inv
        obtain ⟨z, h1, h2, h3⟩ := lists hi iy e
        exact .inr (.inl ⟨p, vs, i, z, rfl, h1, .inl (.inl (R'.gh.tup hp)), h2, fin h3⟩)
      · cases hd
      · cases hd
      · cases hd
    · rename_i ds k
      split at e
      · rename_i z hz
        cases e
        refine .inr (.inr ?_)
        rcases bx with bx | ⟨_, _, _, _, hd, _⟩ | ⟨p, kvs, ds', rfl, hd, hp, hi, hn, hr'⟩ | ⟨p, kvs, ds', rfl, hd, hp, hi, hn, hr'⟩
        · obtain ⟨a, z', rfl, dg, q⟩ := find_dg bx R'.gh iy R'.gh hz
          rcases q with ⟨x1, d1, rfl, q2, q3⟩ | ⟨_, q2⟩
          · cases q2
            exact ⟨a, x1, rfl, dg.some, fin q3⟩
          · cases q2
        · cases hd
        · cases hd
          obtain ⟨kk, hk⟩ := find_kind hz
          cases kk with
          | inr kk =>
            rcases isK_find hk hi with ⟨x1, d1, h1, h2, h3⟩ | ⟨h1, _⟩
            · rw [h1] at hz; cases hz
              exact ⟨p, x1, rfl, .inl ⟨_, kk, .inl hp, keyD_flat iy hk, h2.symm⟩, fin h3⟩
            · rw [h1] at hz; cases hz
          | inl kk =>
            cases hi with
            | nil => simp only [dFind, hk] at hz; cases hz
            | cons hk1 h1 r1 => simp only [dFind, keyEq, hk1, hk] at hz; cases hz
        · cases hd
          obtain ⟨kk, hk⟩ := find_kind hz
          cases kk with
          | inl kk =>
            rcases isT_find hk hi with ⟨x1, d1, h1, h2, h3⟩ | ⟨h1, _⟩
            · rw [h1] at hz; cases hz
              obtain ⟨b', e1, hb'⟩ := keyD_tup iy hk
              exact ⟨p, x1, rfl, .inr ⟨_, kk, b', .inl hp, e1, R'.gh.tup hb', h2.symm⟩, fin h3⟩
            · rw [h1] at hz; cases hz
          | inr kk =>
            cases hi with
            | nil => simp only [dFind, hk] at hz; cases hz
            | cons hk1 h1 r1 => simp only [dFind, keyEq, hk1, hk] at hz; cases hz
      · cases e
    · cases e
  · exact h.elim
end
end Rc
end Z_Rc7
section Z_Rc7b
set_option Elab.async false
set_option linter.all false
set_option maxRecDepth 100000
set_option autoImplicit false
namespace Rc
open PySem PySem.Spec PyProof.Rows L2
section
variable {g : Gx} {sem : Nat → List D → S → CRes} {n q : Nat} {X : Cx} {W : WX}
theorem s_neg {ea : E} {a : Expr} {pos : Pos} (ha : PE X a (rd g sem ea W)) : PE X (.UnaryOp .USub a pos) (rd g sem (.neg ea) W) := by
  refine PE.wk (pe_un un_neg ha) fun σ H Q h => ?_
  obtain ⟨r, H0, G0, G, ow, c, R, h⟩ := h
  rw [ev] at h
  refine one R h fun x c' h v H' G' ow' R' l i K => ?_
  split at h
  · replace i := i.int_inv
    exact ⟨_, i, h.of R' l (.int _) fun z => K (by rw [nomut] at z; exact z)⟩
  · exact h.elim
theorem s_cm2 {o p : Cm} {ea eb ed : E} {a b d : Expr} {pos : Pos} (hr : Room n X.A) (ha : PE X a (rdB g sem ea W)) (hb : PE X b (rdB g sem eb W)) (hd : PE X d (rdB g sem ed W)) (hm : lastMarks [cmOf o, cmOf p] [b, d] = false) :
    PE X (.Compare a [cmOf o, cmOf p] [b, d] pos) (rd g sem (.cm2 o p ea eb ed) W) := by
  refine PE.wk (pe_chain (r_cm hr o) (r_cm hr p) ha hb hd hm) fun σ H Q h => ?_
  obtain ⟨r, H0, G0, G, ow, c, R, h⟩ := h
  rw [ev] at h
  split at h
  · rename_i hn
    rw [Bool.and_eq_true] at hn
    refine twoB R hn.1 h fun x y c' h v u H' G' ow' R' l b1 b2 K => ?_
    obtain ⟨B1, _, lb1, i1⟩ := b1.to R'.gh
    obtain ⟨B2, _, lb2, i2⟩ := b2.to R'.gh
    obtain ⟨t, e, h⟩ := Run.optL h
    refine cm_ok i1 lb1 i2 lb2 e ⟨t, rfl, ?_⟩
    cases t with
    | true =>
      simp only [if_pos] at h ⊢
      refine oneB R' h fun z c2 h2 w' H2 G2 ow2 R2 l2 b3 K2 => ?_
      obtain ⟨B3, _, lb3, i3⟩ := b3.to R2.gh
      obtain ⟨B4, _, lb4, i4⟩ := (b2.later l2 (K2 hn.2) R2.gh).to R2.gh
      obtain ⟨t2, e2, h2⟩ := Run.optL h2
      exact cm_ok i4 lb4 i3 lb3 e2 (Lands.of h2 R2 (l.trans l2) (.bl _) fun z => by
        rw [nomut, Bool.and_eq_true, Bool.and_eq_true] at z
        exact (K z.1.1).trans (K2 hn.2))
    | false =>
      simp only [Bool.false_eq_true, if_false] at h ⊢
      exact Lands.of h R' l (.bl _) fun z => by
        rw [nomut, Bool.and_eq_true, Bool.and_eq_true] at z
        exact K z.1.1
  · exact h.elim
theorem t_cm2 {o p : Cm} {ea eb ed : E} {a b d : Expr} {pos : Pos} (hr : Room n X.A) (ha : PE X a (rdB g sem ea W)) (hb : PE X b (rdB g sem eb W)) (hd : PE X d (rdB g sem ed W)) (hm : lastMarks [cmOf o, cmOf p] [b, d] = false) :
    PT X (.Compare a [cmOf o, cmOf p] [b, d] pos) (rdT g sem (.cm2 o p ea eb ed) W) := by
  refine PT.wk (pt_chain (r_cm hr o) (r_cm hr p) ha hb hd hm) fun σ H Q h => ?_
  obtain ⟨r, H0, G0, G, ow, c, R, h⟩ := h
  rw [ev] at h
  split at h
  · rename_i hn
    rw [Bool.and_eq_true] at hn
    rw [Run.bind] at h
    refine twoB R hn.1 h fun x y c' h v u H' G' ow' R' l b1 b2 K => ?_
    obtain ⟨B1, _, lb1, i1⟩ := b1.to R'.gh
    obtain ⟨B2, _, lb2, i2⟩ := b2.to R'.gh
    obtain ⟨t, e, h⟩ := Run.optL h
    refine cm_ok i1 lb1 i2 lb2 e ⟨t, rfl, ?_⟩
    cases t with
    | true =>
      simp only [if_pos] at h ⊢
      refine oneB R' h fun z c2 h2 w' H2 G2 ow2 R2 l2 b3 K2 => ?_
      obtain ⟨B3, _, lb3, i3⟩ := b3.to R2.gh
      obtain ⟨B4, _, lb4, i4⟩ := (b2.later l2 (K2 hn.2) R2.gh).to R2.gh
      obtain ⟨t2, e2, h2⟩ := Run.optL h2
      exact cm_ok i4 lb4 i3 lb3 e2 ⟨t2, rfl, h2 H2 G2 ow2 R2 (l.trans l2) fun z => by
        rw [nomut, Bool.and_eq_true, Bool.and_eq_true] at z
        exact (K z.1.1).trans (K2 hn.2)⟩
    | false =>
      simp only [Bool.false_eq_true, if_false] at h ⊢
      exact ⟨false, rfl, h H' G' ow' R' l fun z => by
        rw [nomut, Bool.and_eq_true, Bool.and_eq_true] at z
        exact K z.1.1⟩
  · exact h.elim

def rdO (g : Gx) (sem : Nat → List D → S → CRes) (e : Eo) (W : WX) : TO := fun σ H Q => ∃ r H0 G0 G ow c, Rp (g.wd r) H0 G0 σ H G ow c ∧ Run (g.wd r) g.P.attr H0 G0 σ W (evo g.P sem e c) fun o c' => ∀ H' G' ow', Rp (g.wd r) H0 G0 σ H' G' ow' c' → Le G G' → Q o H'
theorem PO.wk {e : Option Expr} {t t' : TO} (h : PO X e t) (m : ∀ σ H Q, t' σ H Q → t σ H Q) : PO X e t' := ⟨fun pins s σ H Q I q => h.run pins s σ H Q I (m _ _ _ q)⟩
theorem o_no : PO X none (rdO g sem .no W) := by
  refine PO.wk po_none fun σ H Q h => ?_
  obtain ⟨r, H0, G0, G, ow, c, R, h⟩ := h
  exact h H G ow R (Le.refl G)
theorem o_yes {e : E} {x : Expr} (h : PE X x (rd g sem e W)) : PO X (some x) (rdO g sem (.yes e) W) := by
  refine PO.wk (po_some h) fun σ H Q h => ?_
  obtain ⟨r, H0, G0, G, ow, c, R, h⟩ := h
  rw [evo] at h
  refine one R h fun x c' h v H' G' ow' R' l i K => ?_
  unfold numb at h
  split at h
  · exact ⟨_, i.int_inv, h H' G' ow' R' l⟩
  · exact h.elim
theorem cut_is {w : Wd} {G : Hp} {vs : List V} {ds : List D} (h : IsL w G vs ds) (i j : Option Int) : IsL w G (cutV vs i j) (cut ds i j) := by
  unfold cutV cut
  rw [h.length]
  exact (h.drop _).take _
theorem cut_whole {ds : List D} {i j : Option Int} (h : HT.sIx ds.length 0 i = 0 ∧ HT.sIx ds.length ds.length j = ds.length) : cut ds i j = ds := by
  unfold cut
  rw [h.1, h.2]
  simp
theorem s_sl {ea : E} {lo hi : Eo} {a : Expr} {l u : Option Expr} {p2 pos : Pos} (ha : PE X a (rd g sem ea W)) (hl : PO X l (rdO g sem lo W)) (hu : PO X u (rdO g sem hi W)) : PE X (.Subscript a (.Slice l u none p2) pos) (rd g sem (.sl ea lo hi) W) := by
  refine PE.wk (pe_slice ((sl_list (X := X)).or sl_tupA) ha hl hu) fun σ H Q h => ?_
  obtain ⟨r, H0, G0, G, ow, c, R, h⟩ := h
  rw [ev] at h
  refine one R h fun x c' h v H' G' ow' R' l i K => ?_
  rw [Run.bind] at h
  refine ⟨r, H0, G0, G', ow', c', R', h.mono fun i1 c2 h2 H2 G2 ow2 R2 l2 => ?_⟩
  rw [Run.bind] at h2
  refine ⟨r, H0, G0, G2, ow2, c2, R2, h2.mono fun j1 c3 h3 H3 G3 ow3 R3 l3 => ?_⟩
  obtain ⟨out, e, h3⟩ := Run.opt h3
  have i3 := i.mono (l2.trans l3)
  have l4 := l.trans (l2.trans l3)
  generalize x.val = d at e i3
  unfold dSl at e
  split at e
  · cases e
    obtain ⟨p, vs, rfl, hp, hv⟩ := i3.lst_inv
    refine .inl ⟨p, vs, rfl, .inl (R3.gh.rd hp), fun z hz => ?_⟩
    exact R3.newL hz (cut_is hv i1 j1) (Lands.from (nm := nomut (.sl ea lo hi)) h3 l4 fun z => by simp [nomut] at z)
  · cases e
    obtain ⟨p, vs, rfl, hp, hv⟩ := i3.tup_inv
    refine .inr ⟨p, vs, rfl, .inl (.inl (R3.gh.tup hp)), fun z => ?_, fun _ z hz => ?_⟩
    · rw [hv.length] at z
      rw [cut_whole z] at h3
      exact Lands.of h3 R3 l4 i3 fun z => by simp [nomut] at z
    · exact R3.newT hz (cut_is hv i1 j1) (Lands.from (nm := nomut (.sl ea lo hi)) h3 l4 fun z => by simp [nomut] at z)
  · cases e

theorem ErrSt.kp {w : Wd} {H0 G0 H G : Hp} {s : S} (e : ErrSt w H0 G0 H G s) : Kp w H0 H := e.ext
theorem s_call {j : Nat} {es : Es} {x : Str} {a : Expr} {as : List Expr} {p pos : Pos} (A : CxA g sem n q X) (tk : Takes X W) (hx : g.T.fnm[j]? = some x) (hg : Gl X x) (hdb : (x == ("__debug__" : Str)) = false) (ha : PA X (a :: as) (rds g sem es W))
    (he : starEach (a :: as) X.env = (false, eval a X.env) :: starEach as X.env) (hpl : (backTo pos (starEach as X.env)).any (·.1) = false) : PE X (.Call (.Name x p) (a :: as) [] pos) (rd g sem (.call j es) W) := by
  obtain ⟨f, fd, ps, ar, hm, hk, hb, F⟩ := (A.fns j x hx).ex
  refine PE.wk (pe_callG F A.gu (A.room.mono (Nat.le_add_right _ _)) hg hm hk hb tk ha hdb he hpl) fun σ H Q h => ?_
  obtain ⟨r, H0, G0, G, ow, c, R, h⟩ := h
  rw [ev, Run.bind] at h
  refine ⟨r, H0, G0, G, ow, c, R, h.mono fun xs c1 h1 vs H1 G1 ow1 R1 l1 i1 K1 => ?_⟩
  have hnb : sem j xs c1.s ≠ .bad := fun z => by rw [z] at h1; exact h1
  refine ⟨by rw [i1.length]; exact ar xs c1.s hnb, r, c1.s, G1, xs, R1.dr, R1.gh, i1, ?_⟩
  cases e : sem j xs c1.s with
  | ok d s' =>
    rw [e] at h1
    intro v H' G' es' iv
    exact Lands.of h1 (R1.called es') (l1.trans es'.g0) iv fun z => (K1 (by rw [nomut] at z; exact z)).trans es'.kp
  | exc k a s' =>
    rw [e] at h1
    intro cl dd H' G' es' ie
    exact h1 cl dd H' G' (R1.thrown es') ie
  | bad => exact (hnb e).elim

/-- the built-in name x, of what rule, on a value that is looked at -/
theorem s_bi {b : Bi} {ea : E} {x : Str} {id : String} {a : Expr} {p pos : Pos} {r : List V → Hp → VK → Prop} (hc : CallR X (.builtin id) r) (hg : Gl X x) (hm : X.mg x = none ∧ x ≠ ("__name__" : Str)) (hv : bootBuiltins x = some (.builtin id)) (ha : PE X a (rdB g sem ea W))
    (hs : starEach [a] X.env = (false, eval a X.env) :: starEach [] X.env) (hdb : (x == ("__debug__" : Str)) = false)
    (ok : ∀ {σ : L2.St} {w : Wd} {H0 G0 H G : Hp} {ow : Nat → List Addr} {c : Cfg} {d : D} {o : Out} {v : V} {Q : VK}, Rp w H0 G0 σ H G ow c → Bor w G H v d → dBi b d = some o → Lands w H0 G0 σ H G true o c Q → r [v] H Q) : PE X (.Call (.Name x p) [a] [] pos) (rd g sem (.bi b ea) W) := by
  have hA : PA X [a] (tCons (rdB g sem ea W) tNil) := pa_cons ha pa_nil hs
  refine PE.wk (pe_callB hc hg hm.1 hv hA hm.2 hdb hs (by rfl)) fun σ H Q h => ?_
  obtain ⟨r, H0, G0, G, ow, c, R, h⟩ := h
  rw [ev] at h
  refine oneB R h fun d c' h v H' G' ow' R' l i K => ?_
  obtain ⟨o, e, h⟩ := Run.opt h
  exact ok R' i e (Lands.from h l fun z => K (by rw [nomut] at z; exact z))
theorem s_biT {b : Bi} {ea : E} {x : Str} {T : String} {a : Expr} {p pos : Pos} {r : List V → Hp → VK → Prop} (hc : CallR X (.type T) r) (hg : Gl X x) (hm : X.mg x = none ∧ x ≠ ("__name__" : Str)) (hv : bootBuiltins x = some (.type T)) (ha : PE X a (rdB g sem ea W))
    (hs : starEach [a] X.env = (false, eval a X.env) :: starEach [] X.env) (hdb : (x == ("__debug__" : Str)) = false)
    (ok : ∀ {σ : L2.St} {w : Wd} {H0 G0 H G : Hp} {ow : Nat → List Addr} {c : Cfg} {d : D} {o : Out} {v : V} {Q : VK}, Rp w H0 G0 σ H G ow c → Bor w G H v d → dBi b d = some o → Lands w H0 G0 σ H G true o c Q → r [v] H Q) : PE X (.Call (.Name x p) [a] [] pos) (rd g sem (.bi b ea) W) := by
  have hA : PA X [a] (tCons (rdB g sem ea W) tNil) := pa_cons ha pa_nil hs
  refine PE.wk (pe_callTy hc hg hm.1 hv hA hm.2 hdb hs (by rfl)) fun σ H Q h => ?_
  obtain ⟨r, H0, G0, G, ow, c, R, h⟩ := h
  rw [ev] at h
  refine oneB R h fun d c' h v H' G' ow' R' l i K => ?_
  obtain ⟨o, e, h⟩ := Run.opt h
  exact ok R' i e (Lands.from h l fun z => K (by rw [nomut] at z; exact z))

/-- what a sequence is worth -/
theorem Bor.seq {w : Wd} {r : Dr} {G H : Hp} {v : V} {d : D} {l : List D} (K : PySem.W.Frag) (b : Bor w G H v d) (lr : LeR w.dr G H) (hd : d = .lst l ∨ d = .tup l) : ∃ p vs, v = .ref p ∧ (SqL K H p vs ∨ SqT K H p vs) ∧ IsL w G vs l := by
  rcases hd with rfl | rfl
  · rcases b with b | ⟨p, vs, ds, rfl, hd, h, i, _, _⟩ | ⟨_, _, _, _, hd, _⟩ | ⟨_, _, _, _, hd, _⟩
    · obtain ⟨p, vs, rfl, hp, hi⟩ := b.lst_inv
      exact ⟨p, vs, rfl, .inl (.inl (lr.rd hp)), hi⟩
    · cases hd; exact ⟨p, vs, rfl, .inl (.inl (.inl h)), i⟩
    · cases hd
    · cases hd
  · rcases b with b | ⟨_, _, _, _, hd, _⟩ | ⟨_, _, _, _, hd, _⟩ | ⟨_, _, _, _, hd, _⟩
    · obtain ⟨p, vs, rfl, hp, hi⟩ := b.tup_inv
      exact ⟨p, vs, rfl, .inr (.inl (.inl (lr.tup hp))), hi⟩
    · cases hd
    · cases hd
    · cases hd
theorem Bor.plain {w : Wd} {G H : Hp} {v : V} {d : D} (b : Bor w G H v d) (h1 : ∀ l, d ≠ .lst l) (h2 : ∀ l, d ≠ .dct l) : Is w G v d := by
  rcases b with b | ⟨_, _, _, _, hd, _⟩ | ⟨_, _, _, _, hd, _⟩ | ⟨_, _, _, _, hd, _⟩
  · exact b
  · exact absurd hd (h1 _)
  · exact absurd hd (h2 _)
  · exact absurd hd (h2 _)
/-- how a dict lies -/
theorem Bor.dict {w : Wd} {G H : Hp} {v : V} {l : List (D × D)} (b : Bor w G H v (.dct l)) (lr : LeR w.dr G H) : ∃ p, v = .ref p ∧ ((∃ kvs, Rd H p (.dK kvs) ∧ IsK w G kvs l) ∨ ∃ kvs, Rd H p (.dT kvs) ∧ IsT w G kvs l) := by
  rcases b with b | ⟨_, _, _, _, hd, _⟩ | ⟨p, kvs, ds, rfl, hd, h, i, _, _⟩ | ⟨p, kvs, ds, rfl, hd, h, i, _, _⟩
  · cases b with
    | dK h r => exact ⟨_, rfl, .inl ⟨_, lr.rd (.inl h), r⟩⟩
    | dT h r => exact ⟨_, rfl, .inr ⟨_, lr.rd (.inl h), r⟩⟩
  · cases hd
  · cases hd; exact ⟨p, rfl, .inl ⟨kvs, .inl h, i⟩⟩
  · cases hd; exact ⟨p, rfl, .inr ⟨kvs, .inl h, i⟩⟩
theorem IsK.length {w : Wd} {G : Hp} : ∀ {vs : List (Key × V)} {ds : List (D × D)}, IsK w G vs ds → vs.length = ds.length
  | _, _, .nil => rfl
  | _, _, .cons _ _ r => congrArg (· + 1) (IsK.length r)
theorem IsT.length {w : Wd} {G : Hp} : ∀ {vs : List (List Key × V)} {ds : List (D × D)}, IsT w G vs ds → vs.length = ds.length
  | _, _, .nil => rfl
  | _, _, .cons _ _ r => congrArg (· + 1) (IsT.length r)
/-- len of a dict, whatever its keys -/
theorem call_len_d : CallR X (.builtin "len") (fun xs H Q => ∃ (p : Addr) (m : Nat), xs = [.ref p] ∧ ((∃ kvs, Rd H p (.dK kvs) ∧ m = kvs.length) ∨ ∃ kvs, Rd H p (.dT kvs) ∧ m = kvs.length) ∧ Q (.int m) H) := by
  intro pins s σ H xs us Q I r h
  obtain ⟨p, m, rfl, hd, q⟩ := h
  obtain ⟨u, rfl, rx⟩ := vals1 r
  cases rx
  rcases hd with ⟨kvs, e, rfl⟩ | ⟨kvs, e, rfl⟩
  · exact d_len I e fun t s' I' => ⟨.int kvs.length, H, I', ⟨t, rfl⟩, q⟩
  · obtain ⟨z, hs, ys, pr, dd⟩ := dt_rd I.hok e
    have hl : kvs.length = ys.length := Paired.length pr
    refine call_len_dictH hs dd (by rw [sizeLine_eq] at z; omega) ?_
    rw [← hl]
    exact ⟨.int ((kvs.length : Nat) : Int), H, I.tok _, ⟨_, rfl⟩, q⟩
end
end Rc
end Z_Rc7b
section Z_Rc7c
set_option Elab.async false
set_option linter.all false
set_option maxRecDepth 100000
set_option autoImplicit false
namespace Rc
open PySem PySem.Spec PyProof.Rows L2

def ownEnd (e : Bool) : List Value := if e then [.type "ValueError", .type "Exception", .type "BaseException", .type "object"] else [.type "object"]
/-- what the written part says of an own class -/
structure ClK (g : Gx) (K : PySem.W.Frag) (k : Nat) : Prop where
  obj : ∃ dd cd sl, K.lookup (g.cls k) = some ⟨.type "type", dd, .cls cd, sl⟩ ∧ cd.mro = (g.P.mro k).map (fun j => .ref (g.cls j)) ++ ownEnd (g.P.isErr k) ∧ cd.hasDict = true
  cl : PySem.W.findIn K (.ref (g.cls k)) "__class__" = some (some (.builtin "object.__class__"))
  er : g.P.isErr k = true → PySem.W.findIn K (.ref (g.cls k)) "__getattribute__" = some (some (.builtin "BaseException.__getattribute__")) ∧ PySem.W.findIn K (.ref (g.cls k)) "__getattr__" = some none
  ob : g.P.isErr k = false → Cls K (g.cls k)
  nf : ∀ j ∈ g.P.flds k, g.P.isObj k = true → NoAttr K (g.cls k) (g.T.fl j)
  fi : g.P.isObj k = true → ∀ i ∈ g.P.flds k, ∀ j ∈ g.P.flds k, g.T.fl i = g.T.fl j → i = j
  fl : ∀ j, g.P.isErr k = true → g.P.attr k = some j → PySem.W.findIn K (.ref (g.cls k)) (g.T.fl j) = some none
structure ClA (g : Gx) (X : Cx) : Prop where
  k : ∀ k, g.P.isErr k = true ∨ g.P.isObj k = true → ClK g X.K k
  xor : ∀ k, g.P.isObj k = true → g.P.isErr k = false
  mro : ∀ k, g.P.isErr k = true ∨ g.P.isObj k = true → ∀ j ∈ g.P.mro k, g.P.isErr j = true ∨ g.P.isObj j = true
  inj : ∀ i j, g.P.isErr i = true ∨ g.P.isObj i = true → g.P.isErr j = true ∨ g.P.isObj j = true → g.cls i = g.cls j → i = j
  self : ∀ k, g.P.isErr k = true ∨ g.P.isObj k = true → (g.P.mro k).contains k = true
  hn : PySem.W.specialIn X.K (.builtin "object.__class__") "__get__" = some (some (.builtin "getset_descriptor.__get__"))
  ht : PySem.W.takesIn X.K (.builtin "object.__class__") = some true

def tyV (g : Gx) : String ⊕ Nat → Value
  | .inl a => .type a
  | .inr k => .ref (g.cls k)
section
variable {g : Gx} {X : Cx}
theorem ClK.cd {K : PySem.W.Frag} {k : Nat} (c : ClK g K k) : ∃ cd, PySem.W.clsIn K (g.cls k) = some cd ∧ cd.mro = (g.P.mro k).map (fun j => .ref (g.cls j)) ++ ownEnd (g.P.isErr k) ∧ cd.hasDict = true := by
  obtain ⟨dd, cd, sl, h1, h2, h3⟩ := c.obj
  refine ⟨cd, ?_, h2, h3⟩
  unfold PySem.W.clsIn
  rw [h1] <;> rfl
theorem ClK.ty {K : PySem.W.Frag} {k : Nat} (c : ClK g K k) : PySem.W.typeIn K (.ref (g.cls k)) = some (.type "type") := by
  obtain ⟨dd, cd, sl, h1, h2, h3⟩ := c.obj
  show (List.lookup (g.cls k) K).map (fun o : Obj => o.cls) = _
  rw [h1] <;> rfl
theorem ClK.sub {K : PySem.W.Frag} {k : Nat} (c : ClK g K k) (b : Value) : PySem.W.subIn K (.ref (g.cls k)) b = some (((g.P.mro k).map (fun j => Value.ref (g.cls j)) ++ ownEnd (g.P.isErr k)).contains b) := by
  obtain ⟨cd, h1, h2, h3⟩ := c.cd
  show PySem.W.mroIn K (g.cls k) b = _
  unfold PySem.W.mroIn
  have ne : cd.mro.isEmpty = false := by
    rw [h2]
    cases g.P.isErr k <;> cases (g.P.mro k) <;> rfl
  rw [h1, Option.bind_some, if_neg (by rw [ne]; simp), h2]
theorem ClK.hd {K : PySem.W.Frag} {k : Nat} (c : ClK g K k) : PySem.W.hasDictIn K (g.cls k) = true := by
  obtain ⟨cd, h1, h2, h3⟩ := c.cd
  unfold PySem.W.hasDictIn
  rw [h1]
  exact h3
theorem ownEnd_ref (e : Bool) (a : Addr) : (ownEnd e).contains (.ref a) = false := by cases e <;> rfl
theorem refs_type (l : List Nat) (f : Nat → Addr) (s : String) : (l.map fun j => Value.ref (f j)).contains (.type s) = false := by
  induction l with
  | nil => rfl
  | cons a r ih => simpa using ih
theorem ClK.subObj {K : PySem.W.Frag} {k : Nat} (c : ClK g K k) : PySem.W.mroIn K (g.cls k) (.type "object") = some true := by
  have h := c.sub (.type "object")
  rw [show PySem.W.subIn K (.ref (g.cls k)) (.type "object") = PySem.W.mroIn K (g.cls k) (.type "object") from rfl] at h
  rw [h, List.contains_append]
  cases g.P.isErr k <;> simp [ownEnd]
theorem ClK.subExc {K : PySem.W.Frag} {k : Nat} (c : ClK g K k) (h : g.P.isErr k = true) : PySem.W.subIn K (.ref (g.cls k)) (.type "BaseException") = some true := by
  rw [c.sub, List.contains_append, h]
  simp [ownEnd]
theorem mro_contains (A : ClA g X) {k j : Nat} (hk : g.P.isErr k = true ∨ g.P.isObj k = true) (hj : g.P.isErr j = true ∨ g.P.isObj j = true) : ((g.P.mro k).map fun j => Value.ref (g.cls j)).contains (.ref (g.cls j)) = (g.P.mro k).contains j := by
  have h : ∀ l : List Nat, (∀ i ∈ l, g.P.isErr i = true ∨ g.P.isObj i = true) → (l.map fun j => Value.ref (g.cls j)).contains (.ref (g.cls j)) = l.contains j := by
    intro l
    induction l with
    | nil => intro _; rfl
    | cons a r ih =>
      intro ha
      have e := ih fun i hi => ha i (List.mem_cons_of_mem _ hi)
      rw [List.map_cons, List.contains_cons, List.contains_cons, e]
      have q : (Value.ref (g.cls j) == Value.ref (g.cls a)) = (j == a) := by
        rw [Bool.eq_iff_iff, beq_iff_eq, beq_iff_eq]
        exact ⟨fun z => A.inj j a hj (ha a List.mem_cons_self) (Value.ref.inj z), fun z => by rw [z]⟩
      rw [q]
  exact h _ (A.mro k hk)
theorem kit_ref (K : PySem.W.Frag) (t : Value) (C : Addr) : PySem.W.kitCls K t (.ref C) = if ((PySem.W.clsIn K C).isSome && PySem.W.typeIn K (.ref C) == some (.type "type")) = true then PySem.W.subIn K t (.ref C) else none := rfl
theorem kit_ty (K : PySem.W.Frag) (t : Value) (T : String) : PySem.W.kitCls K t (.type T) = if PySem.W.kitMeta T = true then PySem.W.subIn K t (.type T) else none := rfl
/-- what isinstance answers -/
theorem kit_sub (A : ClA g X) {d : D} {t : Ty} {a b : String ⊕ Nat} (ha : tyD g.P d = some a) (hb : tgT g.P t = some b) : PySem.W.kitOne X.K (tyV g a) (tyV g b) = some (subT g.P a b) := by
  have own : ∀ {k : Nat}, tgT g.P (.own k) = some b → b = .inr k ∧ (g.P.isErr k = true ∨ g.P.isObj k = true) := fun {k} h => by
    have h' : (if (g.P.isErr k || g.P.isObj k) = true then some (Sum.inr k) else none) = some b := h
    split at h'
    · rename_i z
      cases h'
      exact ⟨rfl, by simpa using z⟩
    · cases h'
  have plain : ∀ s : String, a = .inl s → (s = "NoneType" ∨ s = "bool" ∨ s = "int" ∨ s = "str" ∨ s = "tuple" ∨ s = "list" ∨ s = "dict") → PySem.W.kitOne X.K (tyV g a) (tyV g b) = some (subT g.P a b) := by
    intro s hs h
    subst hs
    cases t with
    | own k =>
      obtain ⟨rfl, hk⟩ := own hb
      have c := A.k k hk
      obtain ⟨cd, h1, _, _⟩ := c.cd
      have hc : (PySem.W.clsIn X.K (g.cls k)).isSome && PySem.W.typeIn X.K (.ref (g.cls k)) == some (.type "type") := by rw [h1, c.ty]; rfl
      show (if (Value.type s == .ref (g.cls k)) = true then some true else PySem.W.kitCls X.K (.type s) (.ref (g.cls k))) = some false
      rw [if_neg (by simp)]
      rw [kit_ref, if_pos hc]
      show (fastBuiltinMro s).map (·.contains (Value.ref (g.cls k))) = some false
      rcases h with rfl | rfl | rfl | rfl | rfl | rfl | rfl <;> rfl
    | int => cases hb; rcases h with rfl | rfl | rfl | rfl | rfl | rfl | rfl <;> kernel_rfl
    | bool => cases hb; rcases h with rfl | rfl | rfl | rfl | rfl | rfl | rfl <;> kernel_rfl
    | str => cases hb; rcases h with rfl | rfl | rfl | rfl | rfl | rfl | rfl <;> kernel_rfl
    | list => cases hb; rcases h with rfl | rfl | rfl | rfl | rfl | rfl | rfl <;> kernel_rfl
    | tuple => cases hb; rcases h with rfl | rfl | rfl | rfl | rfl | rfl | rfl <;> kernel_rfl
    | dict => cases hb; rcases h with rfl | rfl | rfl | rfl | rfl | rfl | rfl <;> kernel_rfl
    | valueError => cases hb; rcases h with rfl | rfl | rfl | rfl | rfl | rfl | rfl <;> kernel_rfl
  have ownS : ∀ k : Nat, a = .inr k → (g.P.isErr k = true ∨ g.P.isObj k = true) → PySem.W.kitOne X.K (tyV g a) (tyV g b) = some (subT g.P a b) := by
    intro k hs hk
    subst hs
    have c := A.k k hk
    have ty : ∀ s : String, b = .inl s → PySem.W.kitMeta s = true → (ownEnd (g.P.isErr k)).contains (.type s) = (g.P.isErr k && s == "ValueError") → PySem.W.kitOne X.K (tyV g (.inr k)) (tyV g b) = some (subT g.P (.inr k) b) := by
      intro s hs hm he
      subst hs
      show (if (Value.ref (g.cls k) == .type s) = true then some true else PySem.W.kitCls X.K (.ref (g.cls k)) (.type s)) = _
      rw [if_neg (by simp)]
      rw [kit_ty, if_pos hm, c.sub, List.contains_append, refs_type, Bool.false_or, he]
      rfl
    cases t with
    | own j =>
      obtain ⟨rfl, hj⟩ := own hb
      have cj := A.k j hj
      obtain ⟨cd, h1, _, _⟩ := cj.cd
      have hc : (PySem.W.clsIn X.K (g.cls j)).isSome && PySem.W.typeIn X.K (.ref (g.cls j)) == some (.type "type") := by rw [h1, cj.ty]; rfl
      have e2 : PySem.W.kitCls X.K (.ref (g.cls k)) (.ref (g.cls j)) = some ((g.P.mro k).contains j) := by
        rw [kit_ref, if_pos hc, c.sub, List.contains_append, ownEnd_ref, Bool.or_false, mro_contains A hk hj]
      show (if (Value.ref (g.cls k) == .ref (g.cls j)) = true then some true else PySem.W.kitCls X.K (.ref (g.cls k)) (.ref (g.cls j))) = some ((g.P.mro k).contains j)
      split
      · rename_i z
        have e3 : g.cls k = g.cls j := by simpa using z
        rw [← A.inj k j hk hj e3, A.self k hk]
      · exact e2
    | int => cases hb; exact ty _ rfl (by kernel_rfl) (by cases g.P.isErr k <;> rfl)
    | bool => cases hb; exact ty _ rfl (by kernel_rfl) (by cases g.P.isErr k <;> rfl)
    | str => cases hb; exact ty _ rfl (by kernel_rfl) (by cases g.P.isErr k <;> rfl)
    | list => cases hb; exact ty _ rfl (by kernel_rfl) (by cases g.P.isErr k <;> rfl)
    | tuple => cases hb; exact ty _ rfl (by kernel_rfl) (by cases g.P.isErr k <;> rfl)
    | dict => cases hb; exact ty _ rfl (by kernel_rfl) (by cases g.P.isErr k <;> rfl)
    | valueError => cases hb; exact ty _ rfl (by kernel_rfl) (by cases g.P.isErr k <;> rfl)
  cases d with
  | non => cases ha; exact plain _ rfl (by simp)
  | bl _ => cases ha; exact plain _ rfl (by simp)
  | int _ => cases ha; exact plain _ rfl (by simp)
  | str _ => cases ha; exact plain _ rfl (by simp)
  | tup _ => cases ha; exact plain _ rfl (by simp)
  | lst _ => cases ha; exact plain _ rfl (by simp)
  | dct _ => cases ha; exact plain _ rfl (by simp)
  | obj k l =>
    have h' : (if g.P.isObj k = true then some (Sum.inr k) else none) = some a := ha
    split at h'
    · rename_i z
      cases h'
      exact ownS k rfl (.inr z)
    · cases h'
  | err k l =>
    have h' : (if g.P.isErr k = true then some (Sum.inr k) else none) = some a := ha
    split at h'
    · rename_i z
      cases h'
      exact ownS k rfl (.inl z)
    · cases h'
  | set _ => cases ha
  | drw => cases ha
end
end Rc
namespace Rc
open PySem PySem.Spec PyProof.Rows L2
section
variable {g : Gx} {X : Cx}
theorem LeR.ext_ {r : Dr} {G H : Hp} (l : LeR r G H) {a : Addr} {φ : Heap → Prop} (h : G a = some (.ext φ)) : H a = some (.ext φ) := by
  rcases (l _ _ h).2 with q | ⟨(⟨_, _, z⟩ | ⟨_, _, z⟩), _⟩
  · exact q
  · cases z
  · cases z
theorem LeR.xd_ {r : Dr} {G H : Hp} (l : LeR r G H) {a : Addr} {fs : List (Str × V)} (h : G a = some (.xd fs)) : H a = some (.xd fs) := by
  rcases (l _ _ h).2 with q | ⟨(⟨_, _, z⟩ | ⟨_, _, z⟩), _⟩
  · exact q
  · cases z
  · cases z
theorem er_at {pins : List (Addr × Obj)} {σ : L2.St} {H : Hp} {s : Shared} (I : Inv X pins σ H s) {a : Addr} {C : Addr} {dd : Option Addr} (h : H a = some (ErO (.ref C) dd a)) {od : Option Obj}
    (hd : match dd, od with
      | some dx, some o => s.heap.get? dx = some o
      | none, none => True
      | _, _ => False) : ∃ oe : Obj, PySem.W.InstAt s.heap a oe C od := by
  obtain ⟨⟨oe, vs, h1, h2, h3⟩, _⟩ := (show ObjOk X.prog X.w H s.heap a (ErO (.ref C) dd a) from I.hok a _ h)
  refine ⟨oe, h1, h2.1, by unfold PySem.W.notCls; rw [h3] <;> rfl, ?_⟩
  rw [h2.2]
  cases dd <;> cases od <;> exact hd
theorem kit_is (A : ClA g X) {pins : List (Addr × Obj)} {σ : L2.St} {H G : Hp} {s : Shared} (I : Inv X pins σ H s) {r : Dr} (lr : LeR r G H) {v : V} {u : Value} {d : D} (b : Is (g.wd r) G v d) (rv : RelV v u) {a : String ⊕ Nat} (ha : tyD g.P d = some a) :
    ∃ P : Heap → Prop, PySem.W.KitX X.K u (tyV g a) P ∧ P s.heap ∧ u ≠ .builtin "__main__.__loader__#opaque" := by
  cases b with
  | non => cases ha; cases (show u = Value.none from rv); exact ⟨_, PySem.W.kitx_none, True.intro, fun z => nomatch z⟩
  | bl y => cases ha; cases (show u = Value.bool y from rv); exact ⟨_, PySem.W.kitx_bool, True.intro, fun z => nomatch z⟩
  | int i => cases ha; obtain ⟨t, q⟩ := (show ∃ t, u = Value.int i t from rv); cases q; exact ⟨_, PySem.W.kitx_int, True.intro, fun z => nomatch z⟩
  | str y => cases ha; obtain ⟨t, q⟩ := (show ∃ t, u = Value.str y t from rv); cases q; exact ⟨_, PySem.W.kitx_str, True.intro, fun z => nomatch z⟩
  | drw => cases ha
  | @tup p vs ds h q =>
    cases ha
    cases (show u = Value.ref p from rv)
    obtain ⟨_, its, _, o, h1, h2, _⟩ := (show ObjOk X.prog X.w H s.heap p (.tup vs) from I.hok p _ (lr.tup h))
    exact ⟨_, PySem.W.kitx_tuple, ⟨o, h1, h2⟩, fun z => nomatch z⟩
  | @lst p vs ds h q =>
    cases ha
    cases (show u = Value.ref p from rv)
    obtain ⟨_, its, n, _, h1⟩ := (show ObjOk X.prog X.w H s.heap p (.lst vs) from (lr.rd h).ok I.hok)
    exact ⟨_, PySem.W.kitx_list, ⟨_, h1, rfl⟩, fun z => nomatch z⟩
  | @dK p kvs ds h q =>
    cases ha
    cases (show u = Value.ref p from rv)
    obtain ⟨_, _, xs, _, o, es, ep, h1, h2, _⟩ := (show ObjOk X.prog X.w H s.heap p (.dK kvs) from (lr.rd (.inl h)).ok I.hok)
    exact ⟨_, PySem.W.kitx_dict, ⟨o, h1, h2.1⟩, fun z => nomatch z⟩
  | @dT p kvs ds h q =>
    cases ha
    cases (show u = Value.ref p from rv)
    obtain ⟨_, _, xs, _, o, es, ep, h1, h2, _⟩ := (show ObjOk X.prog X.w H s.heap p (.dT kvs) from (lr.rd (.inl h)).ok I.hok)
    exact ⟨_, PySem.W.kitx_dict, ⟨o, h1, h2.1⟩, fun z => nomatch z⟩
  | @obj p dx k fs ds h q =>
    have h' : (if g.P.isObj k = true then some (Sum.inr k) else none) = some a := ha
    split at h'
    · rename_i z
      cases h'
      cases (show u = Value.ref p from rv)
      have c := A.k k (.inr z)
      have cl := c.ob (A.xor k z)
      obtain ⟨mA, O, _⟩ := ins_get I.hok (lr.ins h)
      obtain ⟨od, J, _⟩ := O.look
      exact ⟨_, PySem.W.kitx_own (cl.get _) cl.hd c.cl A.hn A.ht c.subObj, J, fun z => nomatch z⟩
    · cases h'
  | @er0 p k n h =>
    have h' : (if g.P.isErr k = true then some (Sum.inr k) else none) = some a := ha
    split at h'
    · rename_i z
      cases h'
      cases (show u = Value.ref p from rv)
      have c := A.k k (.inl z)
      obtain ⟨oe, J⟩ := er_at (od := none) I (lr.ext_ h) trivial
      obtain ⟨cd, hc, _⟩ := c.cd
      exact ⟨_, PySem.W.kitx_exc (by rw [hc]; rfl) (c.er z).1 (c.er z).2 (c.subExc z) c.cl A.hn A.ht c.subObj, J, fun z => nomatch z⟩
    · cases h'
  | @er1 p dx k j w e n h hd q =>
    have h' : (if g.P.isErr k = true then some (Sum.inr k) else none) = some a := ha
    split at h'
    · rename_i z
      cases h'
      cases (show u = Value.ref p from rv)
      have c := A.k k (.inl z)
      obtain ⟨mA, ⟨o, es, ep, h1, _⟩, _⟩ := (show ObjOk X.prog X.w H s.heap dx (.xd [((g.wd r).fld j, w)]) from I.hok dx _ (lr.xd_ hd))
      obtain ⟨oe, J⟩ := er_at (od := some o) I (lr.ext_ h) h1
      obtain ⟨cd, hc, _⟩ := c.cd
      exact ⟨_, PySem.W.kitx_exc (by rw [hc]; rfl) (c.er z).1 (c.er z).2 (c.subExc z) c.cl A.hn A.ht c.subObj, J, fun z => nomatch z⟩
    · cases h'
/-- isinstance, one class -/
def rIsa (g : Gx) : List V → Hp → VK → Prop := fun xs H Q => ∃ (r : Dr) (G : Hp) (v c : V) (d : D) (t : Ty) (a b : String ⊕ Nat), xs = [v, c] ∧ LeR r G H ∧ Is (g.wd r) G v d ∧ tyD g.P d = some a ∧ tgT g.P t = some b ∧ (∀ u, RelV c u → u = tyV g b) ∧ Q (.bl (subT g.P a b)) H
theorem call_isa (A : ClA g X) : CallR X (.builtin "isinstance") (rIsa g) := by
  intro pins s σ H xs us Q I rr h
  obtain ⟨r, G, v, c, d, t, a, b, rfl, lr, iv, ha, hb, hc, q⟩ := h
  obtain ⟨u1, u2, rfl, r1, r2⟩ := vals2 rr
  have e2 := hc _ r2
  subst e2
  obtain ⟨P, Z, p, hx⟩ := kit_is A I lr iv r1 ha
  exact PySem.W.kia_one Z I.kIn p (kit_sub A ha hb) hx fun tk => ⟨.bl _, H, I.tok tk, rfl, q⟩
/-- a class's name -/
structure ClsN (g : Gx) (X : Cx) (c : Expr) (t : Ty) : Prop where
  ex : ∃ (b : String ⊕ Nat) (cv : V), tgT g.P t = some b ∧ PE X c (tC cv) ∧ ∀ u, RelV cv u → u = tyV g b
variable {sem : Nat → List D → S → CRes} {W : WX}
theorem isTs_one {P : Pr} {d : D} {t : Ty} {b : Bool} (h : isTs P d [t] = some b) : ∃ x y, tyD P d = some x ∧ tgT P t = some y ∧ b = subT P x y := by
  unfold isTs isT at h
  cases hx : tyD P d with
  | none => rw [hx] at h; cases h
  | some x =>
    cases hy : tgT P t with
    | none => rw [hx, hy] at h; cases h
    | some y =>
      rw [hx, hy] at h
      refine ⟨x, y, rfl, rfl, ?_⟩
      cases hb : subT P x y with
      | true => simp only [hb] at h; exact (Option.some.inj h).symm
      | false => simp only [hb, isTs] at h; exact (Option.some.inj h).symm
theorem s_isa {ea : E} {t : Ty} {x : Str} {a c : Expr} {p pos : Pos} (A : ClA g X) (hx : x = "isinstance") (hg : Gl X x) (hm : X.mg x = none ∧ x ≠ ("__name__" : Str)) (ha : PE X a (rdB g sem ea W)) (hc : ClsN g X c t)
    (h1 : starEach [a, c] X.env = (false, eval a X.env) :: starEach [c] X.env) (h2 : starEach [c] X.env = (false, eval c X.env) :: starEach [] X.env) (hp : (backTo pos (starEach [c] X.env)).any (·.1) = false) :
    PE X (.Call (.Name x p) [a, c] [] pos) (rd g sem (.isa ea [t]) W) := by
  subst hx
  obtain ⟨b, cv, hb, hce, hcv⟩ := hc.ex
  have hA : PA X [a, c] (tCons (rdB g sem ea W) (tCons (tC cv) tNil)) := pa_cons ha (pa_cons hce pa_nil h2) h1
  refine PE.wk (pe_callB (call_isa A) hg hm.1 (by decide +kernel) hA hm.2 (by decide) h1 hp) fun σ H Q h => ?_
  obtain ⟨r, H0, G0, G, ow, cc, R, h⟩ := h
  rw [ev] at h
  refine oneB R h fun d c' h v H' G' ow' R' l i K => ?_
  obtain ⟨bb, e, h⟩ := Run.optL h
  obtain ⟨B, lb, lr, ib⟩ := i.to R'.gh
  obtain ⟨y, z, e1, e2, rfl⟩ := isTs_one e
  refine ⟨r, B, v, cv, d, t, y, z, rfl, lr, ib, e1, e2, ?_, ?_⟩
  · rw [hb] at e2
    cases e2
    exact hcv
  · exact Lands.of h R' l (.bl _) fun z => K (by rw [nomut] at z; exact z)
theorem IsF.look {w : Wd} {G : Hp} (inj : Nat → Prop) (hi : ∀ i j, inj i → inj j → w.fld i = w.fld j → i = j) {j : Nat} (hj : inj j) {d : D} : ∀ {fs : List (Str × V)} {ds : List (Nat × D)}, IsF w G fs ds → (∀ p ∈ ds, inj p.1) → ds.lookup j = some d → ∃ v, fs.lookup (w.fld j) = some v ∧ Is w G v d
  | _, _, .nil, _, e => by cases e
  | _, _, .cons (j := i) (v := v) (vs := vs) (d := e) (ds := ds) h r, al, q => by
    rw [List.lookup_cons] at q
    by_cases z : j = i
    · subst z
      simp only [beq_self_eq_true] at q
      cases q
      exact ⟨v, by simp [List.lookup_cons], h⟩
    · have z' : w.fld j ≠ w.fld i := fun y => z (hi j i hj (al _ List.mem_cons_self) y)
      have z1 : (j == i) = false := by simpa using z
      rw [z1] at q
      obtain ⟨u, h1, h2⟩ := IsF.look inj hi hj r (fun p hp => al p (List.mem_cons_of_mem _ hp)) q
      refine ⟨u, ?_, h2⟩
      have z2 : (w.fld j == w.fld i) = false := by simpa using z'
      rw [List.lookup_cons, z2]
      exact h1
def tGetF (g : Gx) (j : Nat) (ta : TE) : TE := fun σ H Q => ta σ H fun x H1 => ∃ (r : Dr) (G : Hp) (d e : D), LeR r G H1 ∧ Is (g.wd r) G x d ∧ dFld g.P d j = some e ∧ ∀ v, Is (g.wd r) G v e → Q v H1
theorem pe_getF (A : ClA g X) {a : Expr} {ta : TE} {j : Nat} {f : Str} {pos : Pos} (hf : g.T.fl j = f) (ha : PE X a ta) (hb : attributeBase a f X.env (eval a X.env) = eval a X.env) : PE X (.Attribute a f pos) (tGetF g j ta) := by
  subst hf
  refine ⟨fun pins s σ H Q I h => ?_⟩
  refine attr_of hb (thn (ha.run pins s σ H _ I h) fun u s1 hh => ?_)
  obtain ⟨x, H1, I1, rx, r, G, d, e, lr, ix, he, q⟩ := hh
  cases ix with
  | @obj p dx k fs ds hG hr =>
    cases (show u = Value.ref p from rx)
    have he' : (if g.P.isObj k = true ∧ (g.P.flds k).contains j = true ∧ (ds.all fun p => (g.P.flds k).contains p.1) = true then ds.lookup j else none) = some e := he
    split at he'
    · rename_i z
      have c := A.k k (.inr z.1)
      have hj : j ∈ g.P.flds k := by simpa using z.2.1
      obtain ⟨v, hv, iv⟩ := IsF.look (w := g.wd r) (fun i => i ∈ g.P.flds k) (fun i j a b e => c.fi z.1 i a j b e) hj hr (fun p hp => by simpa using List.all_eq_true.mp z.2.2 p hp) he'
      exact getattr_ok I1 (lr.ins hG) (c.ob (A.xor k z.1)) (c.nf j hj z.1) hv fun u' s2 I2 ru => ⟨v, H1, I2, ru, q v iv⟩
    · cases he'
  | @er1 p dx k i w e1 n hG hd iq =>
    cases (show u = Value.ref p from rx)
    have he' : (if g.P.isErr k = true ∧ g.P.attr k = some j then some e1 else none) = some e := he
    split at he'
    · rename_i z
      cases he'
      have c := A.k k (.inl z.1)
      have hij : i = j := by
        have n' : g.P.attr k = some i := n
        rw [n'] at z
        exact Option.some.inj z.2
      subst hij
      have hx : ObjOk X.prog X.w H1 s1.heap dx (.xd [((g.wd r).fld i, w)]) := I1.hok dx _ (lr.xd_ hd)
      obtain ⟨mA, hns, hr⟩ := hx
      obtain ⟨od, ho, hl⟩ := lookIn_ns hns
      have e0 : ([((g.wd r).fld i, w)] : List (Str × V)).lookup (g.T.fl i) = some w := by
        show ([(g.T.fl i, w)] : List (Str × V)).lookup (g.T.fl i) = some w
        simp [List.lookup_cons]
      obtain ⟨u1, hu, ru⟩ := RelO.some_of (v := w) (o := mA (g.T.fl i)) (by rw [← e0]; exact hr _)
      obtain ⟨oe, J⟩ := er_at (od := some od) I1 (lr.ext_ hG) ho
      exact HandSPX.exc_get I1.kIn J (c.er z.1).1 (c.er z.1).2 (c.subExc z.1) (PySem.W.findObj_own c.hd (c.fl i z.1 z.2) rfl (by rw [hl, hu])) (handed_of ru) ⟨w, H1, I1.tok _, ru, q w iq⟩
    · cases he'
  | _ => cases he
theorem s_fld {ea : E} {j : Nat} {f : Str} {a : Expr} {pos : Pos} (A : ClA g X) (hf : g.T.fl j = f) (ha : PE X a (rd g sem ea W)) (hb : attributeBase a f X.env (eval a X.env) = eval a X.env) : PE X (.Attribute a f pos) (rd g sem (.fld ea j) W) := by
  refine PE.wk (pe_getF A hf ha hb) fun σ H Q h => ?_
  obtain ⟨r, H0, G0, G, ow, cc, R, h⟩ := h
  rw [ev] at h
  refine one R h fun d c' h v H' G' ow' R' l i K => ?_
  obtain ⟨e, he, h⟩ := Run.optL h
  exact ⟨r, G', d.val, e, R'.gh, i, he, fun v iv => Lands.of h R' l iv fun z => K (by rw [nomut] at z; exact z)⟩
end
end Rc
end Z_Rc7c
section Z_Rc7d
set_option Elab.async false
set_option linter.all false
set_option maxRecDepth 100000
set_option autoImplicit false
namespace Rc
open PySem PySem.Spec PyProof.Rows L2

theorem keys_reads {h : Heap} : ∀ {l : List D} {r : List Key} {ps : List PyData} {us : List Value}, keyD.keys l = some r → D.pys l = some ps → Vals (r.map kV) us → ReadsAll h us ps []
  | [], r, ps, us, e, q, v => by
    cases e
    cases q
    cases v
    exact .nil
  | x :: l, r, ps, us, e, q, v => by
    cases x with
    | int i =>
      unfold keyD.keys at e
      cases hl : keyD.keys l with
      | none => rw [hl] at e; cases e
      | some r' =>
        rw [hl] at e
        cases e
        unfold D.pys at q
        cases hq : D.pys l with
        | none => rw [hq] at q; simp [D.py] at q
        | some ps' =>
          rw [hq] at q
          have q' : PyData.int i :: ps' = ps := by simpa [D.py] using q
          subst q'
          cases v with
          | cons v1 v2 =>
            obtain ⟨t, rfl⟩ := v1
            exact .cons (.int i t) (keys_reads hl hq v2)
    | str z =>
      unfold keyD.keys at e
      cases hl : keyD.keys l with
      | none => rw [hl] at e; cases e
      | some r' =>
        rw [hl] at e
        cases e
        unfold D.pys at q
        cases hq : D.pys l with
        | none => rw [hq] at q; simp [D.py] at q
        | some ps' =>
          rw [hq] at q
          have q' : PyData.str z :: ps' = ps := by simpa [D.py] using q
          subst q'
          cases v with
          | cons v1 v2 =>
            obtain ⟨t, rfl⟩ := v1
            exact .cons (.str z t) (keys_reads hl hq v2)
    | _ => cases e
theorem flat_reads {h : Heap} {q : D} {k : Key} {p : PyData} {u : Value} (e : keyD q = some (.inr k)) (hp : q.py = some p) (hk : keyIs k u = true) : Reads h u p [] := by
  cases q with
  | int i =>
    cases e
    have hp' : PyData.int i = p := by simpa [D.py] using hp
    subst hp'
    rcases keyIs_shape hk with ⟨j, t, h1, rfl⟩ | ⟨y, t, h1, rfl⟩
    · cases h1; exact .int i t
    · cases h1
  | str x =>
    cases e
    have hp' : PyData.str x = p := by simpa [D.py] using hp
    subst hp'
    rcases keyIs_shape hk with ⟨j, t, h1, rfl⟩ | ⟨y, t, h1, rfl⟩
    · cases h1
    · cases h1; exact .str x t
  | tup l =>
    simp only [keyD] at e
    split at e
    · cases e
    · cases e
  | _ => cases e
theorem tup_reads {h : Heap} {q : D} {k : List Key} {p : PyData} {b : Addr} {its : List Value} (e : keyD q = some (.inl k)) (hp : q.py = some p) (ht : IsTup h b its.toArray) (r : Vals (k.map kV) its) : Reads h (.ref b) p [] := by
  cases q with
  | tup l =>
    simp only [keyD] at e
    split at e
    · rename_i r' hl
      cases e
      unfold D.py at hp
      cases hq : D.pys l with
      | none => rw [hq] at hp; cases hp
      | some ps =>
        rw [hq] at hp
        cases hp
        obtain ⟨o, h1, h2, n, h3⟩ := ht
        exact .tuple h1 h2 h3 (by simpa using keys_reads hl hq r)
    · cases e
  | _ => cases e

section
variable {w : Wd} {r : Dr} {G H : Hp} {P : Program} {W : World} {h : Heap}
mutual
theorem Is.reads (ok : HOk P W H h) (lr : LeR r G H) (sm : H sysModules = none) : ∀ {v : V} {d : D} {p : PyData} {u : Value}, Is w G v d → d.py = some p → RelV v u → ∃ as, Reads h u p as ∧ sysModules ∉ as
  | _, _, p, u, .non, e, ru => by
    have z : PyData.none = p := by simpa [D.py] using e
    subst z
    cases (show u = Value.none from ru)
    exact ⟨[], .none, by simp⟩
  | _, _, p, u, .bl b, e, ru => by
    have z : PyData.bool b = p := by simpa [D.py] using e
    subst z
    cases (show u = Value.bool b from ru)
    exact ⟨[], .bool b, by simp⟩
  | _, _, p, u, .int i, e, ru => by
    have z : PyData.int i = p := by simpa [D.py] using e
    subst z
    obtain ⟨t, rfl⟩ := ru
    exact ⟨[], .int i t, by simp⟩
  | _, _, p, u, .str x, e, ru => by
    have z : PyData.str x = p := by simpa [D.py] using e
    subst z
    obtain ⟨t, rfl⟩ := ru
    exact ⟨[], .str x t, by simp⟩
  | _, _, p, u, .drw h, e, ru => by simp [D.py] at e
  | _, _, p, u, .tup (a := a) (vs := vs) (ds := ds) hG q, e, ru => by
    cases (show u = Value.ref a from ru)
    unfold D.py at e
    split at e
    · rename_i ps hp
      cases e
      obtain ⟨_, its, rv, o, h1, h2, n, h3⟩ := (show ObjOk P W H h a (.tup vs) from ok a _ (lr.tup hG))
      obtain ⟨as, ra, na⟩ := IsL.reads ok lr sm q hp rv
      exact ⟨as, .tuple h1 h2 h3 (by simpa using ra), na⟩
    · cases e
  | _, _, p, u, .lst (a := a) (vs := vs) (ds := ds) hG q, e, ru => by
    cases (show u = Value.ref a from ru)
    unfold D.py at e
    split at e
    · rename_i ps hp
      cases e
      have hR := lr.rd hG
      obtain ⟨_, its, n, rv, h1⟩ := (show ObjOk P W H h a (.lst vs) from hR.ok ok)
      obtain ⟨as, ra, na⟩ := IsL.reads ok lr sm q hp rv
      refine ⟨a :: as, .list h1 rfl rfl (by simpa using ra), fun z => ?_⟩
      rcases List.mem_cons.mp z with z | z
      · rw [← z] at hR
        rcases hR with hR | ⟨_, hR⟩
        · rw [sm] at hR; cases hR
        · rw [sm] at hR; cases hR
      · exact na z
    · cases e
  | _, _, p, u, .dK (a := a) (kvs := kvs) hG q, e, ru => by
    cases (show u = Value.ref a from ru)
    unfold D.py at e
    split at e
    · rename_i ps hp
      cases e
      obtain ⟨_, hs, vs, rv, o, es, ep, h1, h2, h3, _, h4, _⟩ := (show ObjOk P W H h a (.dK kvs) from (lr.rd (.inl hG)).ok ok)
      obtain ⟨as, bs, ra, rb, na, nb⟩ := IsK.reads ok lr sm q hp rv h4
      refine ⟨a :: as ++ bs, .dict h1 h2.1 h3 ra rb, fun z => ?_⟩
      rcases List.mem_cons.mp (show sysModules ∈ a :: (as ++ bs) from z) with z | z
      · rw [← z] at hs; simp at hs
      · rcases List.mem_append.mp z with z | z
        · exact na z
        · exact nb z
    · cases e
  | _, _, p, u, .dT (a := a) (kvs := kvs) hG q, e, ru => by
    cases (show u = Value.ref a from ru)
    unfold D.py at e
    split at e
    · rename_i ps hp
      cases e
      obtain ⟨_, hs, xs, rv, o, es, ep, h1, h2, h3, h4, _⟩ := (show ObjOk P W H h a (.dT kvs) from (lr.rd (.inl hG)).ok ok)
      obtain ⟨as, bs, ra, rb, na, nb⟩ := IsT.reads ok lr sm q hp rv
      rw [← h4] at ra rb
      refine ⟨a :: as ++ bs, .dict h1 h2.1 h3 ra rb, fun z => ?_⟩
      rcases List.mem_cons.mp (show sysModules ∈ a :: (as ++ bs) from z) with z | z
      · rw [← z] at hs; simp at hs
      · rcases List.mem_append.mp z with z | z
        · exact na z
        · exact nb z
    · cases e
  | _, _, p, u, .obj hG q, e, ru => by simp [D.py] at e
  | _, _, p, u, .er0 n hG, e, ru => by simp [D.py] at e
  | _, _, p, u, .er1 n hG hd q, e, ru => by simp [D.py] at e
theorem IsL.reads (ok : HOk P W H h) (lr : LeR r G H) (sm : H sysModules = none) : ∀ {vs : List V} {ds : List D} {ps : List PyData} {us : List Value}, IsL w G vs ds → D.pys ds = some ps → Vals vs us → ∃ as, ReadsAll h us ps as ∧ sysModules ∉ as
  | _, _, ps, us, .nil, e, ru => by
    have z : [] = ps := by simpa [D.pys] using e
    subst z
    cases ru
    exact ⟨[], .nil, by simp⟩
  | _, _, ps, us, .cons hG q, e, ru => by
    unfold D.pys at e
    split at e
    · rename_i a b ha hb
      cases e
      cases ru with
      | cons r1 r2 =>
        obtain ⟨as, h1, n1⟩ := Is.reads ok lr sm hG ha r1
        obtain ⟨bs, h2, n2⟩ := IsL.reads ok lr sm q hb r2
        exact ⟨as ++ bs, .cons h1 h2, fun z => (List.mem_append.mp z).elim n1 n2⟩
    · cases e
theorem IsK.reads (ok : HOk P W H h) (lr : LeR r G H) (sm : H sysModules = none) : ∀ {kvs : List (Key × V)} {ds : List (D × D)} {ps : List (PyData × PyData)} {vs : List (Key × Value)} {es : List DictEntry}, IsK w G kvs ds → D.pyk ds = some ps → KV kvs vs → Pairs (mixKind P W) es vs →
    ∃ as bs, ReadsAll h (es.map (·.key)) (ps.map (·.1)) as ∧ ReadsAll h (es.map (·.val)) (ps.map (·.2)) bs ∧ sysModules ∉ as ∧ sysModules ∉ bs
  | _, _, ps, vs, es, .nil, e, ru, pr => by
    have z : [] = ps := by simpa [D.pyk] using e
    subst z
    cases ru
    cases pr
    exact ⟨[], [], .nil, .nil, by simp, by simp⟩
  | _, _, ps, vs, es, .cons hk hG q, e, ru, pr => by
    unfold D.pyk at e
    split at e
    · rename_i a b c ha hb hc
      cases e
      cases ru with
      | cons r1 r2 =>
        cases pr with
        | cons p1 p2 p3 =>
          obtain ⟨as, bs, h1, h2, n1, n2⟩ := IsK.reads ok lr sm q hc r2 p3
          obtain ⟨cs, h3, n3⟩ := Is.reads ok lr sm hG hb r1.2
          have p1' := p1
          rw [← r1.1] at p1'
          rw [← p2] at h3
          refine ⟨[] ++ as, cs ++ bs, .cons (flat_reads hk ha p1') h1, .cons h3 h2, by simpa using n1, fun z => (List.mem_append.mp z).elim n3 n2⟩
    · cases e
theorem IsT.reads (ok : HOk P W H h) (lr : LeR r G H) (sm : H sysModules = none) : ∀ {kvs : List (List Key × V)} {ds : List (D × D)} {ps : List (PyData × PyData)} {xs : List (List Key × Addr × Value)}, IsT w G kvs ds → D.pyk ds = some ps →
    Paired (fun (p : List Key × V) (q : List Key × Addr × Value) => p.1 = q.1 ∧ H q.2.1 = some (.tup (p.1.map kV)) ∧ RelV p.2 q.2.2) kvs xs →
    ∃ as bs, ReadsAll h ((xs.map (entryOfKey (tupleKind (mixKind P W)))).map (·.key)) (ps.map (·.1)) as ∧ ReadsAll h ((xs.map (entryOfKey (tupleKind (mixKind P W)))).map (·.val)) (ps.map (·.2)) bs ∧ sysModules ∉ as ∧ sysModules ∉ bs
  | _, _, ps, xs, .nil, e, ru => by
    have z : [] = ps := by simpa [D.pyk] using e
    subst z
    cases ru
    exact ⟨[], [], .nil, .nil, by simp, by simp⟩
  | _, _, ps, xs, .cons (k := k) hk hG q, e, ru => by
    unfold D.pyk at e
    split at e
    · rename_i a b c ha hb hc
      cases e
      cases ru with
      | cons r1 r2 =>
        obtain ⟨as, bs, h1, h2, n1, n2⟩ := IsT.reads ok lr sm q hc r2
        obtain ⟨cs, h3, n3⟩ := Is.reads ok lr sm hG hb r1.2.2
        obtain ⟨_, its, rv, ht⟩ := (show ObjOk P W H h _ (.tup (k.map kV)) from ok _ _ r1.2.1)
        exact ⟨[] ++ as, cs ++ bs, .cons (tup_reads hk ha ht rv) h1, .cons h3 h2, by simpa using n1, fun z => (List.mem_append.mp z).elim n3 n2⟩
    · cases e
end
end

theorem sm_none {X : Cx} {pins : List (Addr × Obj)} {σ : L2.St} {H : Hp} {s : Shared} (sm : ∃ o, X.K.lookup sysModules = some o) (I : Inv X pins σ H s) : H sysModules = none := by
  obtain ⟨o, e⟩ := sm
  exact (I.bs sysModules o (I.mod.kin _ _ e)).2
def rRepr : List V → Hp → VK → Prop := fun xs H Q => ∃ (w : Wd) (G : Hp) (v : V) (d : D) (p : PyData), xs = [v] ∧ LeR w.dr G H ∧ Is w G v d ∧ d.py = some p ∧ p.showable = true ∧ p.depth ≤ 64 ∧ p.shown.length ≤ 1000000 ∧ Q (.str p.shown) H
theorem repr_wp {prog : Program} {W : World} {A : Around} {E : Value → Shared → Prop} {s : Shared} {u : Value} {p : PyData} {as : List Addr} {Q : Value → Shared → Prop} (r : Reads s.heap u p as) (hs : p.showable = true) (hn : sysModules ∉ as) (hg : A.guards = some []) (hu : A.units + (p.depth + 1) < cLine)
    (hz : p.shown.length ≤ sizeLine) (h : ∀ h' t tk, (∀ b o, s.heap.get? b = some o → h'.get? b = some o) → Q (.str p.shown t) { s with heap := h', toks := tk }) : wpAny (model prog W) A (call (.builtin "repr") [u]) Q E s := by
  have ho : Q (.str p.shown s.toks) { s with toks := s.toks + 1 } := h s.heap s.toks (s.toks + 1) fun _ _ e => e
  have ref : ∀ {a : Addr}, u = .ref a → wpAny (model prog W) A (call (.builtin "repr") [u]) Q E s := fun {a} e => by
    subst e
    exact repr_of_reads' r hs (fun _ => hn) hg hu (fun _ _ e => e) h hz
  cases r with
  | none => exact PySem.P.repr_of_none ho
  | bool b => exact PySem.P.repr_of_bool (by simpa only [PyData.shown] using ho)
  | int i t => exact PySem.P.repr_of_int (by simpa [PyData.showable] using hs) (by simpa only [PyData.shown] using ho)
  | str x t => exact PySem.P.repr_of_str (by simpa only [PyData.shown] using ho) (by simpa only [PyData.shown] using hz)
  | list _ _ _ _ => exact ref rfl
  | tuple _ _ _ _ => exact ref rfl
  | dict _ _ _ _ _ => exact ref rfl
theorem call_repr {X : Cx} (sm : ∃ o, X.K.lookup sysModules = some o) (gu : X.A.guards = some []) (hu : X.A.units + 80 < cLine) : CallR X (.builtin "repr") rRepr := by
  intro pins s σ H xs us Q I rr h
  obtain ⟨r, G, v, d, p, rfl, lr, iv, hp, hs, hd, hz, q⟩ := h
  obtain ⟨u, rfl, ru⟩ := vals1 rr
  obtain ⟨as, ra, na⟩ := Is.reads I.hok lr (sm_none sm I) iv hp ru
  refine repr_wp ra hs na gu (by omega) (by rw [sizeLine_eq]; omega) fun h' t tk k => ?_
  exact ⟨.str p.shown, H, I.kept k, ⟨t, rfl⟩, q⟩
end Rc
end Z_Rc7d
section Z_Rc7e
set_option Elab.async false
set_option linter.all false
set_option maxRecDepth 100000
set_option autoImplicit false
namespace Rc
open PySem PySem.Spec PyProof.Rows L2
section
variable {w : Wd} {H0 G0 : Hp} {σ : L2.St} {H G : Hp} {ow : Nat → List Addr} {c : Cfg} {d : D} {o : Out} {v : V} {Q : VK}

def rLen1 (K : PySem.W.Frag) : List V → Hp → VK → Prop := fun xs H Q => (∃ p ys, xs = [.ref p] ∧ (SqL K H p ys ∨ SqT K H p ys) ∧ Q (.int ys.length) H) ∨
  (∃ (p : Addr) (m : Nat), xs = [.ref p] ∧ ((∃ kvs, Rd H p (.dK kvs) ∧ m = kvs.length) ∨ ∃ kvs, Rd H p (.dT kvs) ∧ m = kvs.length) ∧ Q (.int m) H) ∨ (∃ z, xs = [.str z] ∧ z.length ≤ sizeLine ∧ Q (.int z.length) H)
theorem call_len1 {X : Cx} : CallR X (.builtin "len") (rLen1 X.K) := call_len_seq.or (call_len_d.or call_len_str)
theorem ok_len (K : PySem.W.Frag) (R : Rp w H0 G0 σ H G ow c) (b : Bor w G H v d) (e : dBi .len d = some o) (h : Lands w H0 G0 σ H G true o c Q) : rLen1 K [v] H Q := by
  have e' : (match dLen d with | some n => some (Out.v (.int n)) | none => none) = some o := by
    cases d <;> exact e
  cases hn : dLen d with
  | none => rw [hn] at e'; cases e'
  | some n =>
    rw [hn] at e'
    cases e'
    cases d with
    | lst l =>
      cases hn
      obtain ⟨p, vs, rfl, hs, hi⟩ := b.seq (r := w.dr) K R.gh (.inl rfl)
      refine .inl ⟨p, vs, rfl, hs, ?_⟩
      rw [hi.length]; exact h.here R (.int _)
    | tup l =>
      cases hn
      obtain ⟨p, vs, rfl, hs, hi⟩ := b.seq (r := w.dr) K R.gh (.inr rfl)
      refine .inl ⟨p, vs, rfl, hs, ?_⟩
      rw [hi.length]; exact h.here R (.int _)
    | dct l =>
      cases hn
      obtain ⟨p, rfl, q⟩ := b.dict R.gh
      refine .inr (.inl ⟨p, l.length, rfl, ?_, h.here R (.int _)⟩)
      rcases q with ⟨kvs, h1, h2⟩ | ⟨kvs, h1, h2⟩
      · exact .inl ⟨kvs, h1, h2.length.symm⟩
      · exact .inr ⟨kvs, h1, h2.length.symm⟩
    | str x =>
      have hx : (if x.length ≤ most then some x.length else none) = some n := hn
      split at hx
      · rename_i z
        cases hx
        have i := b.plain (fun _ z => by cases z) (fun _ z => by cases z)
        cases i
        exact .inr (.inr ⟨x, rfl, most_line z, h.here R (.int _)⟩)
      · cases hx
    | set l =>
      have i := b.plain (fun _ z => by cases z) (fun _ z => by cases z)
      cases i
    | _ => cases hn
theorem ok_abs (R : Rp w H0 G0 σ H G ow c) (b : Bor w G H v d) (e : dBi .abs d = some o) (h : Lands w H0 G0 σ H G true o c Q) : (fun (xs : List V) (H : Hp) (Q : VK) => ∃ i, xs = [.int i] ∧ Q (.int (if i < 0 then -i else i)) H) [v] H Q := by
  cases d with
  | int i =>
    cases e
    have q := (b.plain (fun _ z => by cases z) (fun _ z => by cases z)).int_inv
    subst q
    exact ⟨i, rfl, h.here R (.int _)⟩
  | _ => cases e
theorem ok_int (R : Rp w H0 G0 σ H G ow c) (b : Bor w G H v d) (e : dBi .int d = some o) (h : Lands w H0 G0 σ H G true o c Q) : (fun (xs : List V) (H : Hp) (Q : VK) => (∃ i, xs = [.int i] ∧ Q (.int i) H) ∨ ∃ k, xs = [.bl k] ∧ Q (.int (if k then 1 else 0)) H) [v] H Q := by
  cases d with
  | int i =>
    cases e
    have q := (b.plain (fun _ z => by cases z) (fun _ z => by cases z)).int_inv
    subst q
    exact .inl ⟨i, rfl, h.here R (.int _)⟩
  | bl k =>
    cases e
    have q := (b.plain (fun _ z => by cases z) (fun _ z => by cases z)).bl_inv
    subst q
    exact .inr ⟨k, rfl, h.here R (by cases k <;> exact .int _)⟩
  | _ => cases e
theorem ok_repr (R : Rp w H0 G0 σ H G ow c) (b : Bor w G H v d) (e : dBi .repr d = some o) (h : Lands w H0 G0 σ H G true o c Q) : rRepr [v] H Q := by
  have e' : (match d.py with | some p => if (p.showable && decide (p.depth ≤ 64) && decide (p.shown.length ≤ 1000000)) = true then some (Out.v (.str p.shown)) else none | none => none) = some o := by
    cases d <;> exact e
  cases hp : d.py with
  | none => rw [hp] at e'; cases e'
  | some p =>
    rw [hp] at e'
    replace e' : (if (p.showable && decide (p.depth ≤ 64) && decide (p.shown.length ≤ 1000000)) = true then some (Out.v (.str p.shown)) else none) = some o := e'
    split at e'
    · rename_i z
      cases e'
      rw [Bool.and_eq_true, Bool.and_eq_true] at z
      obtain ⟨B, lb, lr, ib⟩ := b.to R.gh
      exact ⟨w, B, v, d, p, rfl, lr, ib, hp, z.1.1, of_decide_eq_true z.1.2, of_decide_eq_true z.2, h.here R (.str _)⟩
    · cases e'

theorem IsK.keys {kvs : List (Key × V)} {l : List (D × D)} (h : IsK w G kvs l) : IsL w G (kvs.map fun kv => kV kv.1) (l.map (·.1)) := by
  induction l generalizing kvs with
  | nil => cases h; exact .nil
  | cons a r ih =>
    cases h with
    | @cons k v vs q d ds hk hv hr =>
      refine .cons ?_ (ih hr)
      cases q with
      | int i => cases hk; exact .int i
      | str x => cases hk; exact .str x
      | tup l =>
        simp only [keyD] at hk
        split at hk <;> cases hk
      | _ => cases hk
theorem IsT.flat {kvs : List (List Key × V)} {l : List (D × D)} (h : IsT w G kvs l) (hf : (l.all fun p => flatK p.1) = true) : l = [] ∧ kvs = [] := by
  cases h with
  | nil => exact ⟨rfl, rfl⟩
  | @cons k v vs q d ds hk hv hr =>
    rw [List.all_cons, Bool.and_eq_true] at hf
    cases q with
    | int i => cases hk
    | str x => cases hk
    | _ => simp [flatK] at hf
/-- what can be walked: a list, a tuple, a dict's keys -/
theorem Bor.items (K : PySem.W.Frag) (b : Bor w G H v d) (lr : LeR w.dr G H) {l : List D} (e : items d = some l) : ∃ p, v = .ref p ∧ ((∃ vs, (SqL K H p vs ∨ SqT K H p vs) ∧ IsL w G vs l ∧ ((∃ l, d = .lst l) ∨ ∃ l, d = .tup l)) ∨ (∃ kvs, Rd H p (.dK kvs) ∧ IsL w G (kvs.map fun kv => kV kv.1) l ∧ ∃ l, d = .dct l) ∨ (Rd H p (.dT []) ∧ l = [] ∧ d = .dct [])) := by
  cases d with
  | lst ds =>
    cases e
    obtain ⟨p, vs, rfl, hs, hi⟩ := b.seq (r := w.dr) K lr (.inl rfl)
    exact ⟨p, rfl, .inl ⟨vs, hs, hi, .inl ⟨_, rfl⟩⟩⟩
  | tup ds =>
    cases e
    obtain ⟨p, vs, rfl, hs, hi⟩ := b.seq (r := w.dr) K lr (.inr rfl)
    exact ⟨p, rfl, .inl ⟨vs, hs, hi, .inr ⟨_, rfl⟩⟩⟩
  | dct ds =>
    have e' : (if (ds.all fun p => flatK p.1) = true then some (ds.map (·.1)) else none) = some l := e
    split at e'
    · rename_i z
      cases e'
      obtain ⟨p, rfl, q⟩ := b.dict lr
      rcases q with ⟨kvs, h1, h2⟩ | ⟨kvs, h1, h2⟩
      · exact ⟨p, rfl, .inr (.inl ⟨kvs, h1, h2.keys, _, rfl⟩)⟩
      · obtain ⟨rfl, rfl⟩ := h2.flat z
        exact ⟨p, rfl, .inr (.inr ⟨h1, rfl, rfl⟩)⟩
    · cases e'
  | _ => cases e
def rList1 (K : PySem.W.Frag) : List V → Hp → VK → Prop := fun xs H Q => (∃ p ys, xs = [.ref p] ∧ (SqL K H p ys ∨ SqT K H p ys) ∧ ∀ l, H l = none → Q (.ref l) (upd H l (.lst ys))) ∨
  (∃ (a : Addr) (kvs : List (Key × V)), xs = [.ref a] ∧ Rd H a (.dK kvs) ∧ ∀ p, H p = none → Q (.ref p) (upd H p (.lst (kvs.map fun kv => kV kv.1)))) ∨
  (∃ d kvs, xs = [V.ref d] ∧ Rd H d (.dT kvs) ∧ ∀ p bs, H p = none → IsKeys H kvs bs → Q (.ref p) (upd H p (.lst (bs.map V.ref))))
theorem call_list1 {X : Cx} (hc : X.calm = true) : CallR X (.type "list") (rList1 X.K) := call_list_of.or ((call_listD hc).or (call_list_dT hc))
theorem ok_list (K : PySem.W.Frag) (R : Rp w H0 G0 σ H G ow c) (b : Bor w G H v d) (e : dBi .list d = some o) (h : Lands w H0 G0 σ H G true o c Q) : rList1 K [v] H Q := by
  have e' : (match items d with | some l => some (Out.l l) | none => none) = some o := by
    cases d <;> exact e
  cases hn : items d with
  | none => rw [hn] at e'; cases e'
  | some l =>
    rw [hn] at e'
    cases e'
    obtain ⟨p, rfl, q⟩ := b.items K R.gh hn
    rcases q with ⟨vs, hs, hi, _⟩ | ⟨kvs, hr, hi, _⟩ | ⟨hr, rfl, _⟩
    · exact .inl ⟨p, vs, rfl, hs, fun z hz => R.newL hz hi h⟩
    · exact .inr (.inl ⟨p, kvs, rfl, hr, fun z hz => R.newL hz hi h⟩)
    · refine .inr (.inr ⟨p, [], rfl, hr, fun z bs hz hk => ?_⟩)
      cases hk
      exact R.newL hz .nil h
theorem ok_tuple (K : PySem.W.Frag) (hd : ∀ l, d ≠ .dct l) (R : Rp w H0 G0 σ H G ow c) (b : Bor w G H v d) (e : dBi .tuple d = some o) (h : Lands w H0 G0 σ H G true o c Q) :
    (fun (xs : List V) (H : Hp) (Q : VK) => ∃ p ys, xs = [.ref p] ∧ ((SqL K H p ys ∧ ∀ l, H l = none → Q (.ref l) (upd H l (.tup ys))) ∨ (SqT K H p ys ∧ Q (.ref p) H))) [v] H Q := by
  cases d with
  | lst l =>
    cases e
    rcases b with b | ⟨p, vs, ds, rfl, hd, hp, i, _, _⟩ | ⟨_, _, _, _, hd, _⟩ | ⟨_, _, _, _, hd, _⟩
    · obtain ⟨p, vs, rfl, hp, hi⟩ := b.lst_inv
      exact ⟨p, vs, rfl, .inl ⟨.inl (R.gh.rd hp), fun z hz => R.newT hz hi h⟩⟩
    · cases hd
      exact ⟨p, vs, rfl, .inl ⟨.inl (.inl hp), fun z hz => R.newT hz i h⟩⟩
    · cases hd
    · cases hd
  | tup l =>
    cases e
    have i := b.plain (fun _ z => by cases z) (fun _ z => by cases z)
    obtain ⟨p, vs, rfl, hp, hi⟩ := i.tup_inv
    exact ⟨p, vs, rfl, .inr ⟨.inl (.inl (R.gh.tup hp)), h.here R (.tup hp hi)⟩⟩
  | dct l => exact absurd rfl (hd l)
  | _ => cases e
theorem IsL.intsD {vs : List V} {ds : List D} {ns : List Int} (h : IsL w G vs ds) (e : intsD ds = some ns) : vs = ns.map V.int := by
  induction ds generalizing vs ns with
  | nil => cases h; cases e; rfl
  | cons x r ih =>
    cases h with
    | cons h1 h2 =>
      cases x with
      | int i =>
        unfold Rc.intsD at e
        split at e
        · rename_i q hq
          cases e
          rw [h1.int_inv, ih h2 hq]; rfl
        · cases e
      | _ => cases e
theorem IsL.boolsD {vs : List V} {ds : List D} {ns : List Bool} (h : IsL w G vs ds) (e : bools ds = some ns) : vs = ns.map V.bl := by
  induction ds generalizing vs ns with
  | nil => cases h; cases e; rfl
  | cons x r ih =>
    cases h with
    | cons h1 h2 =>
      cases x with
      | bl i =>
        unfold Rc.bools at e
        split at e
        · rename_i q hq
          cases e
          rw [h1.bl_inv, ih h2 hq]; rfl
        · cases e
      | _ => cases e
theorem Bor.lst (K : PySem.W.Frag) {l : List D} (b : Bor w G H v (.lst l)) (lr : LeR w.dr G H) : ∃ p vs, v = .ref p ∧ SqL K H p vs ∧ IsL w G vs l := by
  rcases b with b | ⟨p, vs, ds, rfl, hd, hp, i, _, _⟩ | ⟨_, _, _, _, hd, _⟩ | ⟨_, _, _, _, hd, _⟩
  · obtain ⟨p, vs, rfl, hp, hi⟩ := b.lst_inv
    exact ⟨p, vs, rfl, .inl (lr.rd hp), hi⟩
  · cases hd
    exact ⟨p, vs, rfl, .inl (.inl hp), i⟩
  · cases hd
  · cases hd
theorem ok_sum (K : PySem.W.Frag) (R : Rp w H0 G0 σ H G ow c) (b : Bor w G H v d) (e : dBi .sum d = some o) (h : Lands w H0 G0 σ H G true o c Q) : rSum K [v] H Q := by
  cases d with
  | lst l =>
    have e' : (match intsD l with | some ns => some (Out.v (.int ns.sum)) | none => none) = some o := e
    split at e'
    · rename_i ns hn
      cases e'
      obtain ⟨p, vs, rfl, hs, hi⟩ := b.lst K R.gh
      rw [hi.intsD hn] at hs
      exact ⟨p, ns, rfl, hs, h.here R (.int _)⟩
    · cases e'
  | _ => cases e
theorem ok_all (K : PySem.W.Frag) (R : Rp w H0 G0 σ H G ow c) (b : Bor w G H v d) (e : dBi .all d = some o) (h : Lands w H0 G0 σ H G true o c Q) : rAll K [v] H Q := by
  cases d with
  | lst l =>
    have e' : (match bools l with | some bs => some (Out.v (.bl (bs.all id))) | none => none) = some o := e
    split at e'
    · rename_i ns hn
      cases e'
      obtain ⟨p, vs, rfl, hs, hi⟩ := b.lst K R.gh
      rw [hi.boolsD hn] at hs
      exact ⟨p, ns, rfl, hs, h.here R (.bl _)⟩
    · cases e'
  | _ => cases e
theorem ok_any (K : PySem.W.Frag) (R : Rp w H0 G0 σ H G ow c) (b : Bor w G H v d) (e : dBi .any d = some o) (h : Lands w H0 G0 σ H G true o c Q) : rAny K [v] H Q := by
  cases d with
  | lst l =>
    have e' : (match bools l with | some bs => some (Out.v (.bl (bs.any id))) | none => none) = some o := e
    split at e'
    · rename_i ns hn
      cases e'
      obtain ⟨p, vs, rfl, hs, hi⟩ := b.lst K R.gh
      rw [hi.boolsD hn] at hs
      exact ⟨p, ns, rfl, hs, h.here R (.bl _)⟩
    · cases e'
  | _ => cases e
end
end Rc
end Z_Rc7e
section Z_Rc7f
set_option Elab.async false
set_option linter.all false
set_option maxRecDepth 100000
set_option autoImplicit false
namespace Rc
open PySem PySem.Spec PyProof.Rows L2 PySem.W PySem.Calls

/-- the body of such an __init__ -/
def supBody (p0 p1 p2 p3 p4 p5 p6 p7 p8 p9 : Pos) (jj : Nat) (msg me pt fld : Str) : List Stmt :=
  [.Expr (.Call (.Attribute (.Call (.Name "super" p0) [] [] p1) "__init__" p2) [.Constant (.str msg) jj p3] [] p4) p5,
   .Assign [.Attribute (.Name me p6) fld p7] (.Name pt p8) p9]
structure SupEnv (scope : Scope) (me pt : Str) : Prop where
  kind : scope.kind = .function
  co : scope.isCoroutine = false
  gen : scope.isGenerator = false
  nocell : ∀ x ∈ scope.names, x.2 ≠ .cell
  sup : scope.names.lookup ("super" : Str) = some .globalImplicit
  cls : scope.names.lookup ("__class__" : Str) = some .free
  hself : scope.names.lookup me = some .local
  hpart : scope.names.lookup pt = some .local
  ne : me ≠ pt

section
variable {prog : Program} {w : World} {A : Around} {h : Heap} {g : Array GenState} {d : Drawn} {tk : Nat} {os : OsState} {R : Result → Shared → Prop} {K : Frag} {mg mb : Str → Option Value}
variable {name qual me pt fld msg file : Str} {params : Arguments} {scope : Scope} {dV kV doc pm ct oc ccl cl : Value} {an od cdd cld : Option Addr} {osl ccs csl : Array (Option Value)} {f cc cda x C N : Addr} {vs : Array Value} {tf : Tok} {ar : Arg}
variable {nm q : Str} {bs bm : List Value} {sn : List Str} {sub : List Value} {ab : Bool} {col : Option Bool} {dd : Option Addr} {k0 k1 k2 k3 k5 : Option Value} {u : Value} {t0 : Addr}
variable {p0 p1 p2 p3 p4 p5 p6 p7 p8 p9 : Pos} {jj : Nat} {pl : Env → Sem Bool}
theorem hint (env : Env) (hk : env.scope.kind = .function) : interactive env = false := by
  unfold interactive
  rw [hk] <;> rfl
/-- the built-in's call -/
theorem mw_call {Ar : Around} {E : Value → Shared → Prop} {uu e t1 : Addr} {rest : List Value} {Q : Value → Shared → Prop} (hC : h.get? C = some (excClassObj nm q C N bs bm true sn sub ab col dd k0 k1 k2 k3 k5 "ValueError.__new__")) (he : h.get? e = some (HandSPX.excO C t1))
    (hu : h.get? uu = some (kxs_mw "ValueError.__init__" e)) (hz : rest.length ≤ sizeLine)
    (hq : ∀ h' t2, (∀ b o, b ≠ e → h.get? b = some o → h'.get? b = some o) → h'.get? e = some (HandSPX.excO C t2) → Q .none ⟨h', g, d, tk, os⟩) : wpAny (model prog w) Ar (call (.ref uu) rest) Q E ⟨h, g, d, tk, os⟩ := by
  refine wpAny_call (codeAny_of_tree ?_)
  show wpAny _ Ar.in1 (callAny (.ref uu) ⟨rest, []⟩) _ _ _
  simp only [callAny]
  refine wpAny_bind (wpAny_load hu ?_)
  simp only [kxs_mw, show (Value.type "method-wrapper" == Value.type "method" || Value.type "method-wrapper" == Value.type "builtin_function_or_method" || Value.type "method-wrapper" == Value.type "method-wrapper") = true by decide, if_true]
  refine KFB.if_so (by decide) (wpAny_bind (check_bound_init F.excBase_ValueError.toExcCallFacts hC he rfl (wpAny_bind (wpAny_pure (wpAny_pure ⟨plainId_quiet F.excBase_ValueError.init.plain _, codeAny_builtin F.excBase_ValueError.initEntry ?_⟩)))))
  exact exc_init_tree (cls := .ref C) (t0 := t1) (dv := none) (c2 := .none) (c3 := .none) (b4 := .bool false) he hz fun h' k e' _ => hq h' h.objs.size k e'
theorem sup_init (S : SupEnv scope me pt) (X : K.In h) (lim : h.NoLimit) (gm : h.Ns mainGlobals mg) (gs : mg "super" = none) (bm_ : h.Ns builtinsNs mb) (bsup : mb "super" = some (.type "super"))
    (lk : K.lookup f = some ⟨oc, od, .func (ksFn name qual params (supBody p0 p1 p2 p3 p4 p5 p6 p7 p8 p9 jj msg me pt fld) scope dV kV doc pm an (.ref cda) ct cc), osl⟩) (hcd : codeIn K (.ref cda) qual = true)
    {args : Args} (hbind : BindsTo ⟨h, g, d, tk, os⟩ (ksFn name qual params (supBody p0 p1 p2 p3 p4 p5 p6 p7 p8 p9 jj msg me pt fld) scope dV kV doc pm an (.ref cda) ct cc) args [(me, .ref x), (pt, u)])
    (hp : (params.posonlyargs ++ params.args).head? = some ar) (har : ar.arg = me) (hcode : K.lookup cda = some ⟨ccl, cdd, .fields vs, ccs⟩) (hvs : vs[2]? = some (.str file tf)) (hfile : ((prog.main.file : Str) == file) = true)
    (htop : (prog.main.scope.names.lookup ("super" : Str)).isSome = false) (hcell : K.lookup cc = some ⟨cl, cld, .cell (some (.ref C)), csl⟩)
    (hC : K.lookup C = some (excClassObj nm q C N bs bm true sn sub ab col dd k0 k1 k2 k3 k5 "ValueError.__new__")) (hbm : HandSPX.refsVE bm = true) (sa : findIn K (.ref C) "__setattr__" = some (some (.builtin "object.__setattr__")))
    (hal : alongIn K "__init__" bm = some (some (.builtin "ValueError.__init__"))) (hop : nsIn K cStatics "thirdparty.any" = some none) (hno : findIn K (.ref C) fld = some none)
    (hx : h.get? x = some (HandSPX.excO C t0)) (hKx : K.lookup x = none) (room : A.depth < recursionLimit)
    (hd1 : (pt == ("__debug__" : Str)) = false) (hd2 : (me == ("__debug__" : Str)) = false)
    (hsw1 : ∀ env : Env, swapsWith (.Call (.Attribute (.Call (.Name "super" p0) [] [] p1) "__init__" p2) [.Constant (.str msg) jj p3] [] p4) none p5.line env = pure false) (hsw2 : ∀ env : Env, swapsWith (.Name pt p8) (some (.Attribute (.Name me p6) fld p7)) p9.line env = pure false)
    (heval : ∀ env : Env, eval (.Call (.Attribute (.Call (.Name "super" p0) [] [] p1) "__init__" p2) [.Constant (.str msg) jj p3] [] p4) env = (do
      let ov ← attributeBase (.Call (.Name "super" p0) [] [] p1) "__init__" env (eval (.Call (.Name "super" p0) [] [] p1) env)
      standAt p2.atName
      let (f, first) ← holding [ov] (getMethod ov "__init__" (pl env))
      callWith p4 f first (backTo p4 (starEach [.Constant (.str msg) jj p3] env)) []))
    (hq : ∀ h' tk' dx t1, (∀ b o, b ≠ x → h.get? b = some o → h'.get? b = some o) → h.objs.size ≤ dx → dx ≠ x → h'.get? x = some { cls := .ref C, dict := some dx, data := .fields #[.ref t1, .none, .none, .none, .bool false, .none] } →
      h'.Ns1 dx (fun y => if y = fld then some u else none) → R (.ok (.ret .none)) ⟨h', g, d, tk', os⟩) : codeAny (model prog w) A (.call (.ref f) args) R ⟨h, g, d, tk, os⟩ := by
  have hxl : x < h.objs.size := Heap.lt_size hx
  have hxC : x ≠ C := fun z => by
    have e := X _ _ hC
    rw [← z, hx] at e
    cases e
  have hcl : clsIn K C = some { name := nm, bases := bs, mro := .ref C :: bm, ns := N, qualname := q, hasDict := true, slotNames := sn, subclasses := sub, abstract := ab, collection := col, hasDel := false } := by unfold clsIn; rw [hC] <;> rfl
  have mroOk : HandSPX.refsVE (.ref C :: bm) = true := hbm
  have subS : ∀ b : Value, (Value.ref C :: bm).contains b = true → mroIn K C b = some true := fun b hb => by
    unfold mroIn
    rw [hcl, Option.bind_some, if_neg (by simp), hb]
  refine ks_codeAny_call_defAt room (X _ _ lk) rfl lim (codeRec_of X hcd) rfl hbind S.nocell (fun y hy => ?_) (fun h0 ns0 k => ?_) S.co S.gen S.kind
  · rcases List.mem_cons.mp hy with rfl | hy
    · exact S.hself
    · rcases List.mem_cons.mp hy with rfl | hy
      · exact S.hpart
      · cases hy
  have X0 : K.In h0 := X.keeps k
  have C0 := X0 _ _ hC
  have hx0 := k _ _ hx
  have nself : ((fun y => ([(me, Value.ref x), (pt, u)] : List (Str × Value)).reverse.lookup y) : Str → Option Value) me = some (.ref x) := by
    show ([(pt, u), (me, Value.ref x)] : List (Str × Value)).lookup me = _
    have z : (me == pt) = false := by simpa using S.ne
    simp [List.lookup_cons, z]
  have npart : ((fun y => ([(me, Value.ref x), (pt, u)] : List (Str × Value)).reverse.lookup y) : Str → Option Value) pt = some u := by
    show ([(pt, u), (me, Value.ref x)] : List (Str × Value)).lookup pt = _
    simp [List.lookup_cons]
  refine ks_wpAt_execs_cons (ks_wpAt_Expr_any (ks_wpAt_MethodCall (pl := pl (callEnv (ksFn name qual params (supBody p0 p1 p2 p3 p4 p5 p6 p7 p8 p9 jj msg me pt fld) scope dV kV doc pm an (.ref cda) ct cc) h.objs.size f)) (ks_wpAt_super_base S.sup S.cls (by decide) rfl (X0 _ _ lk) rfl hp rfl (X0 _ _ hcode) rfl hvs hfile htop ?_) ?he) ?hi ?hs)
  case he => exact heval _
  case hi => exact hint _ S.kind
  case hs => exact hsw1 _
  refine ks_loadName_global S.kind S.sup (loadGlobal_builtin (gm.keeps k) gs (bm_.keeps k) bsup ⟨rfl, ?_⟩)
  refine wpAny_loadName_free S.kind S.cls rfl ⟨_, X0 _ _ hcell, rfl⟩ ?_
  rw [har]
  refine wpAny_loadName_local S.kind S.hself ns0 nself ?_
  refine ks_wpAny_isType_cls C0 rfl ⟨rfl, ?_⟩
  refine ks_wpAny_call_super C0 rfl hx0 rfl (fun c e => by cases e) (looks_mroIn X0 (subS _ (by simp))) (fun h1 e1 k1 => ?_)
  have X1 : K.In h1 := X0.keeps k1
  have hx1 := k1 _ _ hx0
  have C1 := k1 _ _ C0
  have lk1 := Heap.lt_size e1
  refine kxs_getMethod kxs_ValueError e1 (looks_opaque X1 hop) (l₀ := .ref C :: bm) (fun A Q E s k q => wpAny_bind ((looks_clsIn X1 hcl) A _ E s k (wpAny_pure q))) (l := bm) (by simp [List.dropWhile_cons]) X1 hal ?_ hxC (by decide) ?_
  · exact (InstAt.mk (od := none) hx1 rfl rfl trivial).type.andThen (looks_mroIn X1 (subS _ (by rw [HandSPX.refsVE_contains "ValueError" _ mroOk]; decide +kernel)))
  have e2 : (h1.push (kxs_mw "ValueError.__init__" x)).get? h1.objs.size = some (kxs_mw "ValueError.__init__" x) := Heap.get?_push_at rfl rfl
  have k2 : ∀ b o, h1.get? b = some o → (h1.push (kxs_mw "ValueError.__init__" x)).get? b = some o := fun b o e => Heap.get?_push_of_some _ e
  refine kxs_callWith (i := "ValueError.__init__") (x := x) rfl (evalArgs_plain (Calls.spliced_cons (Calls.Constant_str (x := msg) (k := jj) (pos := p3) (Calls.spliced_nil ⟨e2, ?_⟩))))
  refine mw_call (k2 _ _ C1) (k2 _ _ hx1) e2 (by show 1 ≤ sizeLine; rw [sizeLine_eq]; omega) fun h3 t3 k3 e3 => ?_
  refine ks_wpAt_execs_cons (wpAt_of_wpAny (plainObj_wpAny_Assign_Attribute ?_ (hsw2 _)))
  have kx : ∀ b o, b ≠ x → h.get? b = some o → h3.get? b = some o := fun b o n e => k3 b o n (k2 _ _ (k1 _ _ (k _ _ e)))
  have X3 : K.In h3 := fun b o e => kx b o (fun z => by
    rw [z, hKx] at e
    cases e) (X _ _ e)
  obtain ⟨oL, es, ep, hL, rL⟩ := ns0
  have hLx : h.objs.size ≠ x := Nat.ne_of_gt hxl
  have ns3 : h3.Ns h.objs.size (fun y => ([(me, Value.ref x), (pt, u)] : List (Str × Value)).reverse.lookup y) := ⟨oL, es, ep, k3 _ _ hLx (k2 _ _ (k1 _ _ hL)), rL⟩
  refine wpAny_Name (wpAny_loadName_local S.kind S.hpart ns3 npart ?_) hd1
  refine wpAny_Name (wpAny_loadName_local S.kind S.hself ns3 nself ?_) hd2
  refine set_plain X3 (ox := HandSPX.excO C t3) (od := none) ⟨e3, rfl, rfl, trivial⟩ sa ?_
  refine HandSPX.exc_osa X3 e3 hcl mroOk rfl hno (fun h' tk' dx k4 dn dne hx' hn => ?_)
  refine wpAt_of_wpAny (wpAny_execs_nil (hq h' tk' dx t3 (fun b o n e => k4 b o n (kx b o n e)) ?_ dne hx' hn))
  have l1 : h.objs.size < h3.objs.size := Heap.lt_size (k3 _ _ hLx (k2 _ _ (k1 _ _ hL)))
  exact Nat.le_of_lt (Nat.lt_of_lt_of_le l1 dn)
end

section
variable {X : Cx} {pins : List (Addr × Obj)} {σ : L2.St} {H H' : Hp} {s : Shared}
theorem Inv.grown {h' : Heap} {t' : Nat} (I : Inv X pins σ H s) (k : ∀ b o, s.heap.get? b = some o → h'.get? b = some o) (same : ∀ b, b < s.heap.objs.size → H' b = H b)
    (ok : ∀ b o, H' b = some o → s.heap.objs.size ≤ b → ObjOk X.prog X.w H' h' b o) : Inv X pins σ H' { s with heap := h', toks := t' } := by
  have low : ∀ {b : Addr} {o : HO}, H b = some o → H' b = some o := fun {b o} e => (same b (I.hok.lt e)).trans e
  refine I.un (t' := t') ⟨fun b o e _ _ _ => k b o e, fun b o e _ _ _ => ⟨o.slots, k b o e⟩, fun b o e n _ => (same b (Heap.lt_size e)).trans n, fun b o e _ => ⟨o, k b o e⟩, fun b xs e => low e, fun b o v e => low e, fun b ps e => ⟨#[], by rw [low e]; simp⟩⟩ fun b o e => ?_
  by_cases hb : s.heap.objs.size ≤ b
  · exact ok b o e hb
  · have e' : H b = some o := (same b (Nat.lt_of_not_le hb)).symm.trans e
    exact (I.hok b o e').stay (fun c v _ z => k c v z) (fun c z => low z) fun c xs z => low z
end
theorem erO_ok {P : Program} {w : World} {H : Hp} {h : Heap} {a : Addr} {cls : Value} {dd : Option Addr} {oe : Obj} {vs : Array Value} (e : h.get? a = some oe) (z : Zc cls dd oe) (hd : oe.data = .fields vs) : ObjOk P w H h a (ErO cls dd a) :=
  ⟨⟨oe, vs, e, z, hd⟩, ⟨oe, e⟩, fun _ _ ⟨o, v, q, r⟩ k => ⟨o, v, k o q, r⟩⟩
end Rc
end Z_Rc7f
section Z_Rc7g
set_option Elab.async false
set_option linter.all false
set_option maxRecDepth 100000
set_option autoImplicit false
namespace Rc
open PySem PySem.Spec PyProof.Rows L2 PySem.W PySem.Calls

/-- what the written part says of such a class -/
structure SupK (prog : Program) (K : Frag) (C : Addr) (fld : Str) : Prop where
  cls : OexC K C
  sup : nsIn K mainGlobals "super" = some none
  hop : nsIn K cStatics "thirdparty.any" = some none
  hno : findIn K (.ref C) fld = some none
  htop : (prog.main.scope.names.lookup ("super" : Str)).isSome = false
  al : ∀ cd, clsIn K C = some cd → alongIn K "__init__" cd.mro.tail = some (some (.builtin "ValueError.__init__"))
  ini : ∃ (f : Addr) (name qual me msg file : Str) (params : Arguments) (scope : Scope) (dV kV doc pm ct oc ccl cl : Value) (an od cdd cld : Option Addr) (osl ccs csl : Array (Option Value)) (cc cda : Addr) (vs : Array Value) (tf : Tok) (ar : Arg)
      (p0 p1 p2 p3 p4 p5 p6 p7 p8 p9 : Pos) (jj : Nat) (pl : Env → Sem Bool),
    findIn K (.ref C) "__init__" = some (some (.ref f)) ∧ typeIn K (.ref f) = some (.type "function") ∧ SupEnv scope me fld ∧
    K.lookup f = some ⟨oc, od, .func (ksFn name qual params (supBody p0 p1 p2 p3 p4 p5 p6 p7 p8 p9 jj msg me fld fld) scope dV kV doc pm an (.ref cda) ct cc), osl⟩ ∧ codeIn K (.ref cda) qual = true ∧
    (∀ u1 u2 : Value, bindArgs (ksFn name qual params (supBody p0 p1 p2 p3 p4 p5 p6 p7 p8 p9 jj msg me fld fld) scope dV kV doc pm an (.ref cda) ct cc) ⟨[u1, u2], []⟩ = pure [(me, u1), (fld, u2)]) ∧
    (∀ u1 u2 : Value, bindArgs (ksFn name qual params (supBody p0 p1 p2 p3 p4 p5 p6 p7 p8 p9 jj msg me fld fld) scope dV kV doc pm an (.ref cda) ct cc) ⟨[u1], [(fld, u2)]⟩ = pure [(me, u1), (fld, u2)]) ∧
    (params.posonlyargs ++ params.args).head? = some ar ∧ ar.arg = me ∧ K.lookup cda = some ⟨ccl, cdd, .fields vs, ccs⟩ ∧ vs[2]? = some (.str file tf) ∧ ((prog.main.file : Str) == file) = true ∧
    K.lookup cc = some ⟨cl, cld, .cell (some (.ref C)), csl⟩ ∧ (fld == ("__debug__" : Str)) = false ∧ (me == ("__debug__" : Str)) = false ∧
    (∀ env : Env, swapsWith (.Call (.Attribute (.Call (.Name "super" p0) [] [] p1) "__init__" p2) [.Constant (.str msg) jj p3] [] p4) none p5.line env = pure false) ∧ (∀ env : Env, swapsWith (.Name fld p8) (some (.Attribute (.Name me p6) fld p7)) p9.line env = pure false) ∧
    (∀ env : Env, eval (.Call (.Attribute (.Call (.Name "super" p0) [] [] p1) "__init__" p2) [.Constant (.str msg) jj p3] [] p4) env = (do
      let ov ← attributeBase (.Call (.Name "super" p0) [] [] p1) "__init__" env (eval (.Call (.Name "super" p0) [] [] p1) env)
      standAt p2.atName
      let (f, first) ← holding [ov] (getMethod ov "__init__" (pl env))
      callWith p4 f first (backTo p4 (starEach [.Constant (.str msg) jj p3] env)) []))
section
variable {X : Cx} {pins : List (Addr × Obj)} {σ : L2.St} {H : Hp} {C : Addr} {fld : Str} {u : Value}
/-- C(u) -/
theorem sup_call {hp : Heap} {g : Array GenState} {d : Drawn} {tk : Nat} {os : OsState} {Q : Value → Shared → Prop} (T : SupK X.prog X.K C fld) (I : Inv X pins σ H ⟨hp, g, d, tk, os⟩) (rm : Room 1 X.A)
    (hq : ∀ h2 t2 a dx t1, (∀ b o, hp.get? b = some o → h2.get? b = some o) → hp.objs.size ≤ a → hp.objs.size ≤ dx → dx ≠ a → h2.get? a = some { cls := .ref C, dict := some dx, data := .fields #[.ref t1, .none, .none, .none, .bool false, .none] } →
      h2.Ns1 dx (fun y => if y = fld then some u else none) → Q (.ref a) ⟨h2, g, d, t2, os⟩) : wpAny (model X.prog X.w) X.A (call (.ref C) [u]) Q X.xe ⟨hp, g, d, tk, os⟩ := by
  obtain ⟨nm, q, N, bs, bm, sn, sub, ab, col, dd, k0, k1, k2, k3, k5, hC, hbm⟩ := T.cls.cls
  obtain ⟨f, name, qual, me, msg, file, params, scope, dV, kV, doc, pm, ct, oc, ccl, cl, an, od, cdd, cld, osl, ccs, csl, cc, cda, vs, tf, ar, p0, p1, p2, p3, p4, p5, p6, p7, p8, p9, jj, pl,
    iC, tI, S, lk, hcd, hb, hbk, h1, h2, h3, h4, h5, h6, h7, h8, h9, h10, h11⟩ := T.ini
  have X1 : X.K.In hp := I.kIn
  have kk : ∀ b o, hp.get? b = some o → ((hp.push (kdv_tup [u])).push (HandSPX.excO C hp.objs.size)).get? b = some o := fun b o e => Heap.get?_push_of_some _ (Heap.get?_push_of_some _ e)
  have hget : ((hp.push (kdv_tup [u])).push (HandSPX.excO C hp.objs.size)).get? (hp.objs.size + 1) = some (HandSPX.excO C hp.objs.size) := by heap_get
  have hcl : clsIn X.K C = some { name := nm, bases := bs, mro := .ref C :: bm, ns := N, qualname := q, hasDict := true, slotNames := sn, subclasses := sub, abstract := ab, collection := col, hasDel := false } := by unfold clsIn; rw [hC] <;> rfl
  have hKx : X.K.lookup (hp.objs.size + 1) = none := by
    cases e : X.K.lookup (hp.objs.size + 1) with
    | none => rfl
    | some o => exact absurd (Heap.lt_size (X1 _ _ e)) (Nat.not_lt.mpr (Nat.le_succ _))
  obtain ⟨mb, hmb, hbb⟩ := I.mod.blt
  have hdp : (X.A.under (.builtin "type.__call__" ⟨[.ref C, u], []⟩)).depth < recursionLimit := (rm.make (k := 0) C [u] []).depth
  refine wpAny_call (HandSPX.call_own F.excBase_ValueError (fun Y => HandSPX.refsVE_contains Y bm hbm) (X1 _ _ hC) (looks_findIn X1 iC) (fun me' => bind_fn X1 me' tI) (by show 1 ≤ sizeLine; rw [sizeLine_eq]; omega) ?_)
  refine sup_init S (X1.keeps kk) ((I.nolimit).keeps kk) ((I.mod.glob.keeps I.bk).keeps kk) (mg_none_of X1 (I.mod.glob.keeps I.bk) T.sup) ((hmb.keeps I.bk).keeps kk) ((hbb _ (by decide)).trans (by decide +kernel)) lk hcd (.of_eq (hb _ _)) h1 h2 h3 h4 h5 T.htop h6 hC hbm T.cls.sa (T.al _ hcl) T.hop T.hno hget hKx hdp h7 h8 h9 h10 h11 ?_
  intro h' tk' dx t1 k4 dn dne hx' hn
  have hs2 : hp.objs.size ≤ dx := by
    rw [Heap.size_push, Heap.size_push] at dn
    exact Nat.le_trans (Nat.le_succ _) (Nat.le_trans (Nat.le_succ _) dn)
  exact ⟨rfl, hq h' tk' (hp.objs.size + 1) dx t1 (fun b o e => k4 b o (fun z => by
    have y := Heap.lt_size e
    rw [z] at y
    exact absurd y (Nat.not_lt.mpr (Nat.le_succ _))) (kk b o e)) (Nat.le_succ _) hs2 dne hx' hn⟩
end

section
variable {X : Cx} {x fld : Str} {C : Addr} {e : Expr} {te : TE} {p pos : Pos}
/-- one argument -/
theorem name1 {s : Shared} {pins : List (Addr × Obj)} {σ : L2.St} {H : Hp} {Q : VK} {R : Value → Shared → Prop} (I : Inv X pins σ H s) (gC : X.mg x = some (.ref C)) (kC : keepIn X.K (.ref C) = true) (hg : Gl X x) (hd : (x == ("__debug__" : Str)) = false)
    (he : PE X e te) (hs : starEach [e] X.env = (false, eval e X.env) :: starEach [] X.env) (h : te σ H Q) (k : ∀ u s1 v H1, Inv X pins σ H1 s1 → RelV v u → Q v H1 → wpAny (model X.prog X.w) X.A (call (.ref C) [u]) R X.xe s1) :
    wpAny (model X.prog X.w) X.A (eval (.Call (.Name x p) [e] [] pos) X.env) R X.xe s := by
  refine wpAny_Call_Name_kw (ld_glob I hg gC ?_ hd)
  refine callWith_K (h₀ := X.base) I.ok.mod.kin kC ?_ hs rfl
  rw [hs]
  refine Calls.spliced_cons (x := eval e X.env) (thn (he.run pins s σ H _ I h) fun u s1 ⟨v, H1, I1, r1, q1⟩ => Calls.spliced_nil ⟨I1.kIn, ?_⟩)
  exact k u s1 v H1 I1 r1 q1
/-- C(e), a plain error -/
theorem pe_plain {B newId initId : String} {bmB : List Value} (F : ExcBaseFacts B newId initId bmB) (q : excIn X.K C bmB newId = true) (gC : X.mg x = some (.ref C)) (kC : keepIn X.K (.ref C) = true) (hg : Gl X x) (hd : (x == ("__debug__" : Str)) = false)
    (he : PE X e te) (hs : starEach [e] X.env = (false, eval e X.env) :: starEach [] X.env) :
    PE X (.Call (.Name x p) [e] [] pos) (fun σ H Q => te σ H fun _ H1 => ∀ a, H1 a = none → Q (.ref a) (L2.upd H1 a (ErO (.ref C) none a))) := by
  refine ⟨fun pins s σ H Q I h => name1 I gC kC hg hd he hs h fun u s1 v H1 I1 r1 q1 => ?_⟩
  obtain ⟨bm, N, nm, qn, bs, hdct, sn, sub, ab, col, dd, k0, k1, k2, k3, k5, mN, hC, hN, hni, T⟩ := exc_obj I1.kIn q
  refine wpAny_call_exc_subT F T hC hN hni (fun h' a hm => ?_) (by show 1 ≤ sizeLine; rw [sizeLine_eq]; omega)
  have hn : H1 a = none := I1.hok.gone hm.new
  obtain ⟨t, ht, _, _⟩ := hm.there
  exact ⟨.ref a, L2.upd H1 a (ErO (.ref C) none a), I1.laidN hm.keeps hm.new hn (erO_ok ht ⟨rfl, rfl⟩ rfl), rfl, q1 a hn⟩
/-- C(e), an error that keeps e -/
theorem pe_sup (T : SupK X.prog X.K C fld) (rm : Room 1 X.A) (gC : X.mg x = some (.ref C)) (kC : keepIn X.K (.ref C) = true) (hg : Gl X x) (hd : (x == ("__debug__" : Str)) = false)
    (he : PE X e te) (hs : starEach [e] X.env = (false, eval e X.env) :: starEach [] X.env) :
    PE X (.Call (.Name x p) [e] [] pos) (fun σ H Q => te σ H fun v H1 => ∀ a dx, H1 a = none → H1 dx = none → dx ≠ a → Q (.ref a) (L2.upd (L2.upd H1 dx (.xd [(fld, v)])) a (ErO (.ref C) (some dx) a))) := by
  refine ⟨fun pins s σ H Q I h => name1 I gC kC hg hd he hs h fun u s1 v H1 I1 r1 q1 => ?_⟩
  obtain ⟨hp, g, d, tk, os⟩ := s1
  refine sup_call T I1 rm fun h2 t2 a dx t1 k ha hdx ne hx hn => ?_
  have na : H1 a = none := I1.hok.fresh ha
  have nd : H1 dx = none := I1.hok.fresh hdx
  refine ⟨.ref a, _, Rc.Inv.grown I1 (t' := t2) k (fun b hb => ?_) (fun b o e hb => ?_), rfl, q1 a dx na nd ne⟩
  · rw [upd_ne (fun z => absurd hb (by rw [z]; exact Nat.not_lt.mpr ha)), upd_ne (fun z => absurd hb (by rw [z]; exact Nat.not_lt.mpr hdx))]
  · by_cases z : b = a
    · subst z
      rw [upd_same] at e
      cases e
      exact erO_ok hx ⟨rfl, rfl⟩ rfl
    · rw [upd_ne z] at e
      by_cases z2 : b = dx
      · subst z2
        rw [upd_same] at e
        cases e
        exact ⟨_, hn, relO_put (fs := []) r1 fun _ => True.intro⟩
      · rw [upd_ne z2, I1.hok.fresh hb] at e
        cases e
theorem pmk_sup (T : SupK X.prog X.K C fld) (rm : Room 1 X.A) (gC : X.mg x = some (.ref C)) (kC : keepIn X.K (.ref C) = true) (hg : Gl X x) (hd : (x == ("__debug__" : Str)) = false)
    (he : PE X e te) (hs : starEach [e] X.env = (false, eval e X.env) :: starEach [] X.env) :
    PMk X (.Call (.Name x p) [e] [] pos) (fun σ H Q => te σ H fun v H1 => ∀ dx, H1 dx = none → Q (.ref C) (some dx) (L2.upd H1 dx (.xd [(fld, v)]))) := by
  intro pins s σ H Q I h
  refine name1 I gC kC hg hd he hs h fun u s1 v H1 I1 r1 q1 => ?_
  obtain ⟨hp, g, d, tk, os⟩ := s1
  refine sup_call T I1 rm fun h2 t2 a dx t1 k ha hdx ne hx hn => ?_
  have na : H1 a = none := I1.hok.fresh ha
  have nd : H1 dx = none := I1.hok.fresh hdx
  obtain ⟨G, g1, g2⟩ := restrict h2 fun b => decide (b ≠ a)
  have gk : ∀ b, b ≠ a → G.get? b = h2.get? b := fun b hb => g1 b (decide_eq_true hb)
  have ge : G.get? a = none := g2 a (by simp)
  have lowA : ∀ {b : Addr}, b < hp.objs.size → b ≠ a := fun {b} hb z => absurd hb (by rw [z]; exact Nat.not_lt.mpr ha)
  have J : Inv X pins σ (L2.upd H1 dx (.xd [(fld, v)])) ⟨G, g, d, t2, os⟩ := by
    refine Rc.Inv.grown I1 (t' := t2) (fun b o e => (gk b (lowA (Heap.lt_size e))).trans (k b o e)) (fun b hb => ?_) (fun b o e hb => ?_)
    · rw [upd_ne (fun z => absurd hb (by rw [z]; exact Nat.not_lt.mpr hdx))]
    · by_cases z2 : b = dx
      · subst z2
        rw [upd_same] at e
        cases e
        exact ⟨_, hn.at fun o y => (gk b ne).trans y, relO_put (fs := []) r1 fun _ => True.intro⟩
      · rw [upd_ne z2, I1.hok.fresh hb] at e
        cases e
  refine ⟨a, _, _, ⟨G, g, d, t2, os⟩, _, .ref C, some dx, rfl, J, fun b o z => ?_, ge, hx, ⟨rfl, rfl⟩, rfl, rfl, ?_, rfl, I1.bare, raises_own T.cls.exC T.cls.tyC, q1 dx nd⟩
  · by_cases hb : b = a
    · rw [hb, ge] at z; cases z
    · exact (gk b hb).symm.trans z
  · rw [upd_ne (Ne.symm ne)]; exact na
end
end Rc
end Z_Rc7g
section Z_Rc8
set_option Elab.async false
set_option linter.all false
set_option maxRecDepth 100000
set_option autoImplicit false
namespace Rc
open PySem PySem.Spec PyProof.Rows L2

/-- what is wanted of a statement -/
def RunS (w : Wd) (an : Nat → Option Nat) (H0 G0 G : Hp) (W : WX) (D : Ends) (R : SRes) : Prop := match R with
  | .nx c => ∀ σ' H' G' ow', Rp w H0 G0 σ' H' G' ow' c → Le G G' → D.nx σ' H'
  | .brk c => ∀ σ' H' G' ow', Rp w H0 G0 σ' H' G' ow' c → Le G G' → D.bk σ' H'
  | .cnt c => ∀ σ' H' G' ow', Rp w H0 G0 σ' H' G' ow' c → Le G G' → D.ct σ' H'
  | .ret d s => ∀ v H' G', ErrSt w H0 G0 H' G' s → Is w G' v d → D.rt v H'
  | .exc k a s => ∀ σ' cl dd H' G', ErrSt w H0 G0 H' G' s → ErrIs w an G' H' cl dd k a → W cl dd σ' H'
  | .bad => False
section
variable {w : Wd} {an : Nat → Option Nat} {H0 G0 G G' : Hp} {W : WX} {D D' : Ends} {R : SRes} {σ : L2.St}
theorem RunS.mono (h : RunS w an H0 G0 G W D R) (l : Le G G') : RunS w an H0 G0 G' W D R := by
  cases R with
  | nx c => exact fun σ' H' G2 ow' r q => h σ' H' G2 ow' r (l.trans q)
  | brk c => exact fun σ' H' G2 ow' r q => h σ' H' G2 ow' r (l.trans q)
  | cnt c => exact fun σ' H' G2 ow' r q => h σ' H' G2 ow' r (l.trans q)
  | ret d s => exact h
  | exc k a s => exact h
  | bad => exact h
theorem RunS.to {α : Type} {A : Res α} {f : α → Cfg → SRes} (h : RunS w an H0 G0 G W D (A.to f)) : Run w an H0 G0 σ W A fun a c => RunS w an H0 G0 G W D (f a c) := by
  cases A with
  | ok a c => exact h
  | exc k a s => exact fun cl dd H' G' e i => h σ cl dd H' G' e i
  | bad => exact h
theorem RunS.optS {α : Type} {o : Option α} {f : α → SRes} (h : RunS w an H0 G0 G W D (optS o f)) : ∃ a, o = some a ∧ RunS w an H0 G0 G W D (f a) := by
  cases o with
  | none => exact h.elim
  | some a => exact ⟨a, rfl, h⟩
end

section
variable {w : Wd} {H0 G0 : Hp} {σ : L2.St} {H G : Hp} {ow : Nat → List Addr} {c : Cfg}
theorem set_over {α : Type} {l : List α} {i : Nat} {a : α} (h : ¬ i < l.length) : l.set i a = l := by
  rw [List.set_eq_of_length_le (Nat.le_of_not_lt h)]
theorem Rp.put' (x : Rp w H0 G0 σ H G ow c) (i : Nat) {v : V} {o : Out} (h : OutOk w H0 G H ow v o) : ∃ ow', (∀ j a, a ∈ ow' j → a ∈ ow j ∨ (v = .ref a ∧ ∀ d, o ≠ .v d)) ∧ Rp w H0 G0 (σ.set i (some v)) H G ow' ⟨c.env.set i o.slot, c.s⟩ := by
  by_cases hi : i < c.env.length
  · exact x.store hi h
  · rw [set_over hi, set_over (by rw [x.len]; exact hi)]
    exact ⟨ow, fun _ _ m => .inl m, x⟩
theorem Rp.put (x : Rp w H0 G0 σ H G ow c) (i : Nat) {v : V} {o : Out} (h : OutOk w H0 G H ow v o) : ∃ ow', Rp w H0 G0 (σ.set i (some v)) H G ow' ⟨c.env.set i o.slot, c.s⟩ := by
  obtain ⟨ow', _, h'⟩ := x.put' i h
  exact ⟨ow', h'⟩
theorem Rp.puts : ∀ {l : List Nat} {vs : List V} {ds : List D} {σ : L2.St} {ow : Nat → List Addr} {c : Cfg}, Rp w H0 G0 σ H G ow c → IsL w G vs ds → ds.length = l.length → ∃ σ' ow', Rp w H0 G0 σ' H G ow' ⟨setAll l ds c.env, c.s⟩
  | [], vs, ds, σ, ow, c, R, i, e => by
    cases i with
    | nil => exact ⟨σ, ow, R⟩
    | cons _ _ => cases e
  | j :: l, vs, ds, σ, ow, c, R, i, e => by
    cases i with
    | nil => cases e
    | cons h r =>
      obtain ⟨ow1, R1⟩ := R.put j (o := .v _) h
      exact R1.puts r (Nat.succ.inj e)
end
end Rc
namespace Rc
open PySem PySem.Spec PyProof.Rows L2
section
variable (g : Gx) (sem : Nat → List D → S → CRes) (fuel : Nat)
def rdC (c : C) (W : WX) : TS := fun D σ H => ∃ r H0 G0 G ow cf, Rp (g.wd r) H0 G0 σ H G ow cf ∧ RunS (g.wd r) g.P.attr H0 G0 G W D (exec g.P sem fuel c cf)
def rdCs (c : Cs) (W : WX) : TS := fun D σ H => ∃ r H0 G0 G ow cf, Rp (g.wd r) H0 G0 σ H G ow cf ∧ RunS (g.wd r) g.P.attr H0 G0 G W D (execs g.P sem fuel c cf)
/-- the places of a target -/
def tgIn : Tg → List Nat → Prop
  | .nm i, own => i ∈ own
  | .tp l, own => ∀ i ∈ l, i ∈ own
/-- a target -/
def rdG (g : Gx) (t : Tg) : TG := fun v σ H Q => ∃ r H0 G0 G ow c o env, Rp (g.wd r) H0 G0 σ H G ow c ∧ OutOk (g.wd r) H0 G H ow v o ∧ Rc.store t o c.env = some env ∧ ∀ σ' G' ow', (∀ own, tgIn t own → L2.wipe σ' own = L2.wipe σ own) → Rp (g.wd r) H0 G0 σ' H G' ow' ⟨env, c.s⟩ → Le G G' → Q σ' H
def rdGs (g : Gx) (l : List Nat) : TGs := fun vs σ H Q => ∃ r H0 G0 G ow c ds, Rp (g.wd r) H0 G0 σ H G ow c ∧ IsL (g.wd r) G vs ds ∧ ds.length = l.length ∧ ∀ σ' ow', (∀ own, (∀ i ∈ l, i ∈ own) → L2.wipe σ' own = L2.wipe σ own) → Rp (g.wd r) H0 G0 σ' H G ow' ⟨setAll l ds c.env, c.s⟩ → Q σ' H
end
section
variable {g : Gx} {sem : Nat → List D → S → CRes} {fuel : Nat} {n q : Nat} {X : Cx} {W : WX}
theorem wipe_set {σ : L2.St} {i : Nat} {o : Option V} : ∀ {own : List Nat}, i ∈ own → L2.wipe (σ.set i o) own = L2.wipe σ own
  | [], h => nomatch h
  | j :: r, h => by
    unfold L2.wipe
    by_cases z : i ∈ r
    · rw [wipe_set z]
    · have e : i = j := by
        rcases List.mem_cons.mp h with e | e
        · exact e
        · exact absurd e z
      subst e
      have ne : ∀ {r : List Nat} {σ : L2.St}, i ∉ r → (L2.wipe (σ.set i o) r) = (L2.wipe σ r).set i o := by
        intro r
        induction r with
        | nil => intro σ _; rfl
        | cons k r ih =>
          intro σ hk
          unfold L2.wipe
          rw [ih (fun m => hk (List.mem_cons_of_mem _ m)), List.set_comm _ _ (fun e => hk (by rw [e]; exact List.mem_cons_self))]
      rw [ne z, List.set_set]
theorem PG.wk {e : Expr} {t t' : TG} (h : PG X e t) (m : ∀ v σ H Q, t' v σ H Q → t v σ H Q) : PG X e t' := ⟨fun pins s σ H v u Q I r q => h.run pins s σ H v u Q I r (m _ _ _ _ q)⟩
theorem PGs.wk {e : List Expr} {t t' : TGs} (h : PGs X e t) (m : ∀ v σ H Q, t' v σ H Q → t v σ H Q) : PGs X e t' := ⟨fun pins s σ H v u Q I r q => h.run pins s σ H v u Q I r (m _ _ _ _ q)⟩
theorem PG.or {e : Expr} {t t' : TG} (h : PG X e t) (h' : PG X e t') : PG X e (fun v σ H Q => t v σ H Q ∨ t' v σ H Q) := ⟨fun pins s σ H v u Q I r q => q.elim (h.run pins s σ H v u Q I r) (h'.run pins s σ H v u Q I r)⟩
theorem g_nm {i : Nat} {x : Str} {pos : Pos} (hN : X.N.Nodup) (hi : X.N[i]? = some x) (hx : Loc X.env.scope x) (hf : X.fn x = true ∨ X.env.scope.names.lookup x = some .local) : PG X (.Name x pos) (rdG g (.nm i)) := by
  refine PG.wk (pg_name hN hi hx hf) fun v σ H Q h => ?_
  obtain ⟨r, H0, G0, G, ow, c, o, env, R, O, e, k⟩ := h
  cases e
  obtain ⟨ow', R'⟩ := R.put i O
  exact k _ G ow' (fun own h => wipe_set h) R' (Le.refl G)
theorem gs_nil : PGs X [] (rdGs g []) := by
  refine PGs.wk pgs_nil fun vs σ H Q h => ?_
  obtain ⟨r, H0, G0, G, ow, c, ds, R, i, e, k⟩ := h
  cases i with
  | nil => exact ⟨rfl, k σ ow (fun _ _ => rfl) R⟩
  | cons _ _ => cases e
theorem gs_cons {i : Nat} {l : List Nat} {x : Str} {pos : Pos} {es : List Expr} (hN : X.N.Nodup) (hi : X.N[i]? = some x) (hx : Loc X.env.scope x) (hf : X.fn x = true ∨ X.env.scope.names.lookup x = some .local) (h2 : PGs X es (rdGs g l))
    (hs : (assignEach (.Name x pos :: es) X.env).map (·.2) = assign (.Name x pos) X.env :: (assignEach es X.env).map (·.2)) : PGs X (.Name x pos :: es) (rdGs g (i :: l)) := by
  refine PGs.wk (pgs_cons (pg_name hN hi hx hf) h2 hs) fun vs σ H Q h => ?_
  obtain ⟨r, H0, G0, G, ow, c, ds, R, iv, e, k⟩ := h
  cases iv with
  | nil => cases e
  | cons h1 hr =>
    obtain ⟨ow1, R1⟩ := R.put i (o := .v _) h1
    exact ⟨_, _, rfl, r, H0, G0, G, ow1, _, _, R1, hr, Nat.succ.inj e, fun σ' ow' hw R' => k σ' ow' (fun own h => (hw own fun j hj => h j (List.mem_cons_of_mem _ hj)).trans (wipe_set (h i List.mem_cons_self))) R'⟩
theorem g_tp {l : List Nat} {es : List Expr} {kk : Nat} {pos : Pos} (hc : X.calm = true) (h : PGs X es (rdGs g l)) (hn : (assignEach es X.env).length = l.length) (hst : (assignEach es X.env).findIdx? (·.1) = none) : PG X (.Tuple es kk pos) (rdG g (.tp l)) := by
  refine PG.wk (PG.or (pg_tup hc h hn hst) (pg_lst hc h hn hst)) fun v σ H Q h => ?_
  obtain ⟨r, H0, G0, G, ow, c, o, env, R, O, e, k⟩ := h
  obtain ⟨G1, R1, l1, i1⟩ := R.val O
  unfold Rc.store at e
  simp only at e
  split at e
  · rename_i xs hx
    split at e
    · rename_i hl
      cases e
      rw [hx] at i1
      obtain ⟨p, vs, rfl, hp, hi⟩ := i1.tup_inv
      exact .inl ⟨p, vs, rfl, .of (R1.gh.tup hp), by rw [hi.length]; exact hl, r, H0, G0, G1, ow, c, xs, R1, hi, hl, fun σ' ow' hw R' => k σ' G1 ow' hw R' l1⟩
    · cases e
  · rename_i xs hx
    split at e
    · rename_i hl
      cases e
      rw [hx] at i1
      obtain ⟨p, vs, rfl, hp, hi⟩ := i1.lst_inv
      exact .inr ⟨p, vs, rfl, .inl (R1.gh.rd hp), by rw [hi.length]; exact hl, r, H0, G0, G1, ow, c, xs, R1, hi, hl, fun σ' ow' hw R' => k σ' G1 ow' hw R' l1⟩
    · cases e
  · cases e

theorem cs_nil : PSs X [] (rdCs g sem fuel .nil W) := by
  refine PSs.wk pss_nil fun D σ H h => ?_
  obtain ⟨r, H0, G0, G, ow, c, R, h⟩ := h
  exact h σ H G ow R (Le.refl G)
theorem cs_cons {a : C} {b : Cs} {st : Stmt} {sts : List Stmt} (ha : PS X st (rdC g sem fuel a W)) (hb : PSs X sts (rdCs g sem fuel b W)) : PSs X (st :: sts) (rdCs g sem fuel (.cons a b) W) := by
  refine PSs.wk (pss_cons ha hb) fun D σ H h => ?_
  obtain ⟨r, H0, G0, G, ow, c, R, h⟩ := h
  refine ⟨r, H0, G0, G, ow, c, R, ?_⟩
  rw [execs] at h
  cases e : exec g.P sem fuel a c with
  | nx c' =>
    rw [e] at h
    exact fun σ' H' G' ow' R' l => ⟨r, H0, G0, G', ow', c', R', RunS.mono h l⟩
  | brk c' => rw [e] at h; exact h
  | cnt c' => rw [e] at h; exact h
  | ret d s => rw [e] at h; exact h
  | exc k a s => rw [e] at h; exact h
  | bad => rw [e] at h; exact h
theorem c_pass {pos : Pos} : PS X (.Pass pos) (rdC g sem fuel .pass W) := by
  refine PS.wk ps_pass fun D σ H h => ?_
  obtain ⟨r, H0, G0, G, ow, c, R, h⟩ := h
  exact h σ H G ow R (Le.refl G)
theorem c_doc {x : Str} {j : Nat} {p p' : Pos} : PS X (.Expr (.Constant (.str x) j p) p') (rdC g sem fuel .pass W) := by
  refine PS.wk ps_doc fun D σ H h => ?_
  obtain ⟨r, H0, G0, G, ow, c, R, h⟩ := h
  exact h σ H G ow R (Le.refl G)
theorem c_brk {pos : Pos} : PS X (.Break pos) (rdC g sem fuel .brk W) := by
  refine PS.wk ps_break fun D σ H h => ?_
  obtain ⟨r, H0, G0, G, ow, c, R, h⟩ := h
  exact h σ H G ow R (Le.refl G)
theorem c_cnt {pos : Pos} : PS X (.Continue pos) (rdC g sem fuel .cnt W) := by
  refine PS.wk ps_continue fun D σ H h => ?_
  obtain ⟨r, H0, G0, G, ow, c, R, h⟩ := h
  exact h σ H G ow R (Le.refl G)
theorem c_retN {pos : Pos} : PS X (.Return none pos) (rdC g sem fuel .retN W) := by
  refine PS.wk ps_retN fun D σ H h => ?_
  obtain ⟨r, H0, G0, G, ow, c, R, h⟩ := h
  exact h .non H G R.err .non
theorem c_ret {ea : E} {e : Expr} {pos : Pos} (he : PE X e (rd g sem ea W)) : PS X (.Return (some e) pos) (rdC g sem fuel (.ret ea) W) := by
  refine PS.wk (ps_ret he) fun D σ H h => ?_
  obtain ⟨r, H0, G0, G, ow, c, R, h⟩ := h
  rw [exec] at h
  refine ⟨r, H0, G0, G, ow, c, R, (RunS.to h).mono fun o c' k v H' G' ow' R' l O K => ?_⟩
  obtain ⟨G2, R2, l2, i2⟩ := R'.val O
  exact k v H' G2 R2.err i2
theorem c_ex {ea : E} {e : Expr} {pos : Pos} (he : PE X e (rd g sem ea W)) (hs : swapsWith e none pos.line X.env = pure false) : PS X (.Expr e pos) (rdC g sem fuel (.ex ea) W) := by
  refine PS.wk (ps_expr he hs) fun D σ H h => ?_
  obtain ⟨r, H0, G0, G, ow, c, R, h⟩ := h
  rw [exec] at h
  exact ⟨r, H0, G0, G, ow, c, R, (RunS.to h).mono fun o c' k v H' G' ow' R' l O K => k σ H' G' ow' R' l⟩
theorem c_ifs {ea : E} {a b : Cs} {e : Expr} {sa sb : List Stmt} {pos : Pos} (he : PT X e (rdT g sem ea W)) (ha : PSs X sa (rdCs g sem fuel a W)) (hb : PSs X sb (rdCs g sem fuel b W)) : PS X (.If e sa sb pos) (rdC g sem fuel (.ifs ea a b) W) := by
  refine PS.wk (ps_if he ha hb) fun D σ H h => ?_
  obtain ⟨r, H0, G0, G, ow, c, R, h⟩ := h
  rw [exec] at h
  have h2 : Run (g.wd r) g.P.attr H0 G0 σ W ((ev g.P sem ea c).bind fun o c => truth o c) fun b' c' => RunS (g.wd r) g.P.attr H0 G0 G W D (if b' = true then execs g.P sem fuel a c' else execs g.P sem fuel b c') := by
    rw [Run.bind]
    exact (RunS.to h).mono fun o c' k => RunS.to k
  refine ⟨r, H0, G0, G, ow, c, R, h2.mono fun b' c' k H' G' ow' R' l K => ?_⟩
  cases b' with
  | true => exact ⟨r, H0, G0, G', ow', c', R', RunS.mono k l⟩
  | false => exact ⟨r, H0, G0, G', ow', c', R', RunS.mono k l⟩
theorem c_asg {ea : E} {t : Tg} {e tg : Expr} {pos : Pos} (he : PE X e (rd g sem ea W)) (ht : PG X tg (rdG g t)) (h1 : swapsWithSole [tg] e pos.line X.env = pure false) (h2 : swappedStores [tg] e X.env = pure none) (h3 : (assignEach [tg] X.env).map (·.2) = [assign tg X.env]) :
    PS X (.Assign [tg] e pos) (rdC g sem fuel (.asg t ea) W) := by
  refine PS.wk (ps_asg he ht h1 h2 h3) fun D σ H h => ?_
  obtain ⟨r, H0, G0, G, ow, c, R, h⟩ := h
  rw [exec] at h
  refine ⟨r, H0, G0, G, ow, c, R, (RunS.to h).mono fun o c' k v H' G' ow' R' l O K => ?_⟩
  obtain ⟨env, ee, k⟩ := RunS.optS k
  exact ⟨r, H0, G0, G', ow', c', o, env, R', O, ee, fun σ' G2 ow2 _ R2 l2 => k σ' H' G2 ow2 R2 (l.trans l2)⟩
theorem c_set {ea : E} {i : Nat} {x : Str} {e : Expr} {pos pos' : Pos} (hN : X.N.Nodup) (hi : X.N[i]? = some x) (hx : Loc X.env.scope x) (hf : X.fn x = true ∨ X.env.scope.names.lookup x = some .local) (he : PE X e (rd g sem ea W)) (hs : swapsWith e (some (.Name x pos')) pos.line X.env = pure false) :
    PS X (.Assign [.Name x pos'] e pos) (rdC g sem fuel (.asg (.nm i) ea) W) := by
  refine PS.wk (ps_set hN hi hx he hs hf) fun D σ H h => ?_
  obtain ⟨r, H0, G0, G, ow, c, R, h⟩ := h
  rw [exec] at h
  refine ⟨r, H0, G0, G, ow, c, R, (RunS.to h).mono fun o c' k v H' G' ow' R' l O K => ?_⟩
  obtain ⟨env, ee, k⟩ := RunS.optS k
  cases ee
  obtain ⟨ow2, R2⟩ := R'.put i O
  exact k _ H' G' ow2 R2 l
end
end Rc
end Z_Rc8
section Z_Rc8b
set_option Elab.async false
set_option linter.all false
set_option maxRecDepth 100000
set_option autoImplicit false
namespace Rc
open PySem PySem.Spec PyProof.Rows L2
structure ErA (g : Gx) (X : Cx) : Prop where
  nm : ∀ k x, g.P.isErr k = true → g.T.cnm[k]? = some x → X.mg x = some (.ref (g.cls k)) ∧ PySem.W.keepIn X.K (.ref (g.cls k)) = true ∧ Raises X (.ref (g.cls k))
  pl : ∀ k, g.P.isErr k = true → g.P.attr k = none → PySem.W.excIn X.K (g.cls k) HandSPX.veTail "ValueError.__new__" = true
  su : ∀ k j, g.P.isErr k = true → g.P.attr k = some j → SupK X.prog X.K (g.cls k) (g.T.fl j)
section
variable {g : Gx} {sem : Nat → List D → S → CRes} {fuel : Nat} {n q : Nat} {X : Cx} {W : WX}
theorem s_newErr {k : Nat} {ea : E} {x : Str} {a : Expr} {p pos : Pos} (A : ErA g X) (hk : g.P.isErr k = true) (rm : Room 1 X.A) (hx : g.T.cnm[k]? = some x) (hg : Gl X x) (hd : (x == ("__debug__" : Str)) = false) (ha : PE X a (rd g sem ea W))
    (hs : starEach [a] X.env = (false, eval a X.env) :: starEach [] X.env) : PE X (.Call (.Name x p) [a] [] pos) (rd g sem (.newErr k ea) W) := by
  · obtain ⟨h1, h2, h3⟩ := A.nm k x hk hx
    cases hat : g.P.attr k with
    | none =>
      refine PE.wk (pe_plain F.excBase_ValueError (A.pl k hk hat) h1 h2 hg hd ha hs) fun σ H Q h => ?_
      obtain ⟨r, H0, G0, G, ow, c, R, h⟩ := h
      rw [ev] at h
      refine one R h fun o c' h v H' G' ow' R' l i K p hp => ?_
      rw [if_pos hk] at h
      have f := R'.fresh hp (ErO (.ref (g.cls k)) none p)
      have R1 := (R'.upd (o := ErO (.ref (g.cls k)) none p) hp).keep f upd_same
      have l1 := (Le.refl G').upd (o := ErO (.ref (g.cls k)) none p) f.g
      have e1 : errA g.P k o.val = [] := by unfold errA; rw [hat]
      rw [e1] at h
      exact Lands.of h R1 (l.trans l1) (.er0 (w := g.wd r) hat upd_same) fun z => by simp [nomut] at z
    | some j =>
      refine PE.wk (pe_sup (A.su k j hk hat) rm h1 h2 hg hd ha hs) fun σ H Q h => ?_
      obtain ⟨r, H0, G0, G, ow, c, R, h⟩ := h
      rw [ev] at h
      refine one R h fun o c' h v H' G' ow' R' l i K p dx hp hdx ne => ?_
      rw [if_pos hk] at h
      have f := R'.fresh hdx (.xd [(g.T.fl j, v)])
      have R1 := (R'.upd (o := .xd [(g.T.fl j, v)]) hdx).keep f upd_same
      have l1 := (Le.refl G').upd (o := .xd [(g.T.fl j, v)]) f.g
      have hp1 : L2.upd H' dx (.xd [(g.T.fl j, v)]) p = none := by rw [upd_ne (Ne.symm ne)]; exact hp
      have f2 := R1.fresh hp1 (ErO (.ref (g.cls k)) (some dx) p)
      have R2 := (R1.upd (o := ErO (.ref (g.cls k)) (some dx) p) hp1).keep f2 upd_same
      have l2 := (Le.refl (L2.upd G' dx (.xd [(g.T.fl j, v)]))).upd (o := ErO (.ref (g.cls k)) (some dx) p) f2.g
      have e1 : errA g.P k o.val = [o.val] := by unfold errA; rw [hat]
      rw [e1] at h
      refine Lands.of h R2 (l.trans (l1.trans l2)) (.er1 (w := g.wd r) (j := j) (v := v) hat upd_same ?_ (i.mono (l1.trans l2))) fun z => by simp [nomut] at z
      rw [upd_ne ne]
      exact upd_same
theorem PMk.wk {e : Expr} {t t' : L2.St → Hp → XK → Prop} (h : PMk X e t) (m : ∀ σ H Q, t' σ H Q → t σ H Q) : PMk X e t' := fun pins s σ H Q I q => h pins s σ H Q I (m _ _ _ q)
theorem c_raise {k : Nat} {ea : E} {x : Str} {a : Expr} {p pos pos' : Pos} (A : ErA g X) (hk : g.P.isErr k = true) (hc : X.calm = true) (tk : Takes X W) (rm : Room 1 X.A) (hx : g.T.cnm[k]? = some x) (hg : Gl X x) (hd : (x == ("__debug__" : Str)) = false) (ha : PE X a (rd g sem ea W))
    (hs : starEach [a] X.env = (false, eval a X.env) :: starEach [] X.env) (hpl : (backTo pos (starEach [] X.env)).any (·.1) = false) : PS X (.Raise (some (.Call (.Name x p) [a] [] pos)) none pos') (rdC g sem fuel (.raise k ea) W) := by
  · obtain ⟨h1, h2, h3⟩ := A.nm k x hk hx
    cases hat : g.P.attr k with
    | none =>
      have hA : PA X [a] (tCons (rd g sem ea W) tNil) := pa_cons ha pa_nil hs
      refine PS.wk (ps_raise hc tk (pmk_ownA F.excBase_ValueError (A.pl k hk hat) h1 h2 h3 hg hA hd hs hpl)) fun D σ H h => ?_
      obtain ⟨r, H0, G0, G, ow, c, R, h⟩ := h
      rw [exec] at h
      refine ⟨r, H0, G0, G, ow, c, R, (RunS.to h).mono fun o c' k' v H' G' ow' R' l O K => ?_⟩
      rw [if_pos hk] at k'
      have e1 : errA g.P k o.val = [] := by unfold errA; rw [hat]
      rw [e1] at k'
      refine ⟨by show 1 ≤ sizeLine; rw [sizeLine_eq]; omega, k' σ _ none H' G' R'.err ⟨rfl, .inl ⟨hat, rfl, rfl⟩⟩⟩
    | some j =>
      refine PS.wk (ps_raise hc tk (pmk_sup (A.su k j hk hat) rm h1 h2 hg hd ha hs)) fun D σ H h => ?_
      obtain ⟨r, H0, G0, G, ow, c, R, h⟩ := h
      rw [exec] at h
      refine ⟨r, H0, G0, G, ow, c, R, (RunS.to h).mono fun o c' k' v H' G' ow' R' l O K dx hdx => ?_⟩
      rw [if_pos hk] at k'
      have e1 : errA g.P k o.val = [o.val] := by unfold errA; rw [hat]
      rw [e1] at k'
      obtain ⟨G2, R2, l2, i2⟩ := R'.val O
      have R3 := R2.upd (o := .xd [(g.T.fl j, v)]) hdx
      exact k' σ _ (some dx) _ G2 R3.err ⟨rfl, .inr ⟨j, dx, v, _, hat, rfl, rfl, upd_same, R2.gh.none hdx, i2⟩⟩
end
end Rc
end Z_Rc8b
section Z_Rc8c
set_option Elab.async false
set_option linter.all false
set_option maxRecDepth 100000
set_option autoImplicit false
namespace Rc
open PySem PySem.Spec PyProof.Rows L2
section
variable {w : Wd} {an : Nat → Option Nat} {H0 G0 : Hp} {σ : L2.St} {H G : Hp} {ow : Nat → List Addr} {c : Cfg} {p : Addr} {ob : HO}
/-- what is nobody's stands as if it had been there at the entry -/
theorem Rp.lend (R : Rp w H0 G0 σ H G ow c) (f : Fresh w H0 G H ow p) (e : H p = some ob) : Rp w (L2.upd H0 p ob) G0 σ H G ow c where
  g0 := R.g0
  new := fun a h => by
    by_cases z : a = p
    · rw [z, f.g] at h; exact absurd rfl h
    · rw [upd_ne z]; exact R.new a h
  gh := R.gh
  ext := fun a o h n => by
    by_cases z : a = p
    · rw [z, upd_same] at h; rw [z, e]; exact h
    · rw [upd_ne z] at h; exact R.ext a o h n
  dr := R.dr
  len := R.len
  slot := R.slot
  own := fun i a m => by
    obtain ⟨h1, h2, h3, h4⟩ := R.own i a m
    refine ⟨h1, ?_, h3, h4⟩
    rw [upd_ne (show a ≠ p from fun z => f.own i (by rw [← z]; exact m))]; exact h2
  dis := R.dis
theorem Rp.unlend {σ' : L2.St} {H' G' : Hp} {ow' : Nat → List Addr} {c' : Cfg} (h0 : H0 p = none) (hg : G0 p = none) (hd : ¬ w.dr.has p) (R : Rp w (L2.upd H0 p ob) G0 σ' H' G' ow' c') : Rp w H0 G0 σ' H' G' ow' c' ∧ Fresh w H0 G' H' ow' p ∧ H' p = some ob := by
  have low : ∀ {a : Addr}, L2.upd H0 p ob a = none → H0 a = none := fun {a} h => by
    by_cases z : a = p
    · rw [z]; exact h0
    · rw [upd_ne z] at h; exact h
  refine ⟨⟨R.g0, fun a h => (R.new a h).imp id low, R.gh, fun a o h n => R.ext a o (by rw [upd_ne (ne_of_none h h0)]; exact h) n, R.dr, R.len, R.slot, fun i a m => ?_, R.dis⟩, ⟨?_, h0, hd, fun i m => ?_⟩, R.ext p ob upd_same hd⟩
  · obtain ⟨h1, h2, h3, h4⟩ := R.own i a m
    exact ⟨h1, low h2, h3, h4⟩
  · cases z : G' p with
    | none => rfl
    | some o =>
      rcases R.new p (by rw [z]; simp) with q | q
      · exact absurd hg q
      · rw [upd_same] at q; cases q
  · have q := (R.own i p m).2.1
    rw [upd_same] at q; cases q
theorem ErrSt.unlend {H' G' : Hp} {s : S} (h0 : H0 p = none) (e : ErrSt w (L2.upd H0 p ob) G0 H' G' s) : ErrSt w H0 G0 H' G' s :=
  ⟨e.g0, fun a h => (e.new a h).imp id fun q => by
    by_cases z : a = p
    · rw [z]; exact h0
    · rw [upd_ne z] at q; exact q, e.gh, fun a o h n => e.ext a o (by rw [upd_ne (ne_of_none h h0)]; exact h) n, e.dr⟩
theorem Run.lend {W : WX} {α : Type} {A : Res α} {k k' : α → Cfg → Prop} (h0 : H0 p = none) (h : Run w an H0 G0 σ W A k) (m : ∀ a c, k a c → k' a c) : Run w an (L2.upd H0 p ob) G0 σ W A k' := by
  cases A with
  | ok a c => exact m a c h
  | exc kk a s => exact fun cl dd H' G' e i => h cl dd H' G' (e.unlend h0) i
  | bad => exact h
theorem Rp.g0none (R : Rp w H0 G0 σ H G ow c) {a : Addr} (h : G a = none) : G0 a = none := by
  cases e : G0 a with
  | none => rfl
  | some o => rw [R.g0 a o e] at h; cases h
end
/-- several results, one behind the other -/
inductive OutsOk (w : Wd) (G H : Hp) (ow : Nat → List Addr) : Hp → List V → List Out → Prop
  | nil {H0 : Hp} : OutsOk w G H ow H0 [] []
  | val {H0 : Hp} {v : V} {d : D} {vs : List V} {os : List Out} (h : Is w G v d) (r : OutsOk w G H ow H0 vs os) : OutsOk w G H ow H0 (v :: vs) (.v d :: os)
  | own {H0 : Hp} {p : Addr} {ob : HO} {o : Out} {vs : List V} {os : List Out} (h : OutOk w H0 G H ow (.ref p) o) (e : H p = some ob) (f : Fresh w H0 G H ow p) (n : ∀ d, o ≠ .v d) (r : OutsOk w G H ow (L2.upd H0 p ob) vs os) : OutsOk w G H ow H0 (.ref p :: vs) (o :: os)
section
variable {w : Wd} {H G : Hp} {ow ow' : Nat → List Addr}
theorem OutOk.kept {H0 H1 : Hp} {v : V} {o : Out} (h : OutOk w H0 G H ow v o) (f : ∀ p, Fresh w H0 G H ow p → Fresh w H1 G H ow' p) : OutOk w H1 G H ow' v o := by
  cases o with
  | v d => exact h
  | l ds =>
    obtain ⟨p, vs, rfl, e, r, q⟩ := h
    exact ⟨p, vs, rfl, e, r, f p q⟩
  | d ds =>
    obtain ⟨p, rfl, e, q⟩ := h
    exact ⟨p, rfl, e, f p q⟩
  | n _ => exact h
theorem OutsOk.moved {vs : List V} {os : List Out} {H0 : Hp} (h : OutsOk w G H ow H0 vs os) : ∀ {H1 : Hp}, (∀ a, H0 a = none → H1 a = none) → (∀ p, Fresh w H0 G H ow p → Fresh w H1 G H ow' p) → OutsOk w G H ow' H1 vs os := by
  induction h with
  | nil => intro _ _ _; exact .nil
  | val h r ih => intro _ n f; exact .val h (ih n f)
  | @own H0 p ob o vs os h e f n r ih =>
    intro H1 nn ff
    refine .own (h.kept ff) e (ff p f) n (ih (fun a q => ?_) fun q fq => ?_)
    · by_cases z : a = p
      · rw [z, upd_same] at q; cases q
      · rw [upd_ne z] at q ⊢; exact nn a q
    · have qp : q ≠ p := fun z => by
        have y := fq.h0
        rw [z, upd_same] at y; cases y
      have f0 : Fresh w H0 G H ow q := ⟨fq.g, by have y := fq.h0; rw [upd_ne qp] at y; exact y, fq.dr, fq.own⟩
      have f1 := ff q f0
      exact ⟨f1.g, by rw [upd_ne qp]; exact f1.h0, f1.dr, f1.own⟩
/-- they are stored -/
def setVs : List Nat → List V → L2.St → L2.St
  | i :: l, v :: vs, σ => setVs l vs (σ.set i (some v))
  | _, _, σ => σ
theorem Rp.putOuts {G0 : Hp} {H0 : Hp} {vs : List V} {os : List Out} (h : OutsOk w G H ow H0 vs os) : ∀ {l : List Nat} {σ : L2.St} {c : Cfg} {ow : Nat → List Addr}, os.length = l.length → OutsOk w G H ow H0 vs os → Rp w H0 G0 σ H G ow c → ∃ ow', Rp w H0 G0 (setVs l vs σ) H G ow' ⟨setOuts l os c.env, c.s⟩ := by
  clear h
  intro l
  induction l generalizing H0 vs os with
  | nil =>
    intro σ c ow e h R
    cases h with
    | nil => exact ⟨ow, R⟩
    | val _ _ => cases e
    | own _ _ _ _ _ => cases e
  | cons i l ih =>
    intro σ c ow e h R
    cases h with
    | nil => cases e
    | @val _ v d vs os h r =>
      obtain ⟨ow1, m1, R1⟩ := R.put' i (o := .v d) h
      have r1 : OutsOk w G H ow1 H0 vs os := r.moved (fun _ q => q) fun p f => ⟨f.g, f.h0, f.dr, fun j m => (m1 j p m).elim (f.own j) fun z => z.2 d rfl⟩
      exact ih (Nat.succ.inj e) r1 R1
    | @own _ p ob o vs os h e1 f n r =>
      obtain ⟨ow1, m1, R1⟩ := R.put' i h
      have r1 : OutsOk w G H ow1 H0 vs os := by
        refine r.moved (fun a q => ?_) fun q fq => ⟨fq.g, ?_, fq.dr, fun j m => (m1 j q m).elim (fq.own j) fun z => ?_⟩
        · by_cases z : a = p
          · rw [z]; exact f.h0
          · rw [upd_ne z] at q; exact q
        · have y := fq.h0
          by_cases z : q = p
          · rw [z]; exact f.h0
          · rw [upd_ne z] at y; exact y
        · have y := fq.h0
          have z1 : p = q := V.ref.inj z.1
          rw [← z1, upd_same] at y; cases y
      exact ih (Nat.succ.inj e) r1 R1
end
end Rc
namespace Rc
open PySem PySem.Spec PyProof.Rows L2
section
variable (g : Gx) (sem : Nat → List D → S → CRes)
def rdOs (es : Es) (W : WX) : TA := fun σ H Q => ∃ r H0 G0 G ow c, Rp (g.wd r) H0 G0 σ H G ow c ∧ Run (g.wd r) g.P.attr H0 G0 σ W (evouts g.P sem es c) fun os c' => ∀ vs H' G' ow', Rp (g.wd r) H0 G0 σ H' G' ow' c' → Le G G' → OutsOk (g.wd r) G' H' ow' H0 vs os → Q vs H'
end
section
variable {g : Gx} {sem : Nat → List D → S → CRes} {fuel : Nat} {n q : Nat} {X : Cx} {W : WX}
theorem os_nil : PA X [] (rdOs g sem .nil W) := by
  refine PA.wk pa_nil fun σ H Q h => ?_
  obtain ⟨r, H0, G0, G, ow, c, R, h⟩ := h
  exact h [] H G ow R (Le.refl G) .nil
theorem os_cons {ea : E} {er : Es} {e : Expr} {es : List Expr} (ha : PE X e (rd g sem ea W)) (hr : PA X es (rdOs g sem er W)) (hs : starEach (e :: es) X.env = (false, eval e X.env) :: starEach es X.env) : PA X (e :: es) (rdOs g sem (.cons ea er) W) := by
  refine PA.wk (pa_cons ha hr hs) fun σ H Q h => ?_
  obtain ⟨r, H0, G0, G, ow, c, R, h⟩ := h
  rw [evouts, Run.bind] at h
  refine ⟨r, H0, G0, G, ow, c, R, h.mono fun o c1 h1 v H1 G1 ow1 R1 l1 O1 K1 => ?_⟩
  rw [Run.bind] at h1
  have own : ∀ (p : Addr) (ob : HO), v = .ref p → H1 p = some ob → Fresh (g.wd r) H0 G1 H1 ow1 p → (∀ d, o ≠ .v d) → (rdOs g sem er W) σ H1 fun xs H2 => Q (v :: xs) H2 := fun p ob hv e f no => by
    subst hv
    have g0 := R1.g0none f.g
    refine ⟨r, _, G0, G1, ow1, c1, R1.lend f e, Run.lend f.h0 h1 fun os c2 k vs H2 G2 ow2 R2 l2 OO => ?_⟩
    obtain ⟨R3, f3, e3⟩ := R2.unlend f.h0 g0 f.dr
    refine k (.ref p :: vs) H2 G2 ow2 R3 (l1.trans l2) (.own (ob := ob) ?_ e3 f3 no OO)
    cases o with
    | v d => exact absurd rfl (no d)
    | l ds =>
      obtain ⟨p', vs', hp, e', i', _⟩ := O1
      cases hp
      rw [e] at e'
      cases e'
      exact ⟨p, vs', rfl, e3, i'.mono l2, f3⟩
    | d ds =>
      obtain ⟨p', hp, e', _⟩ := O1
      cases hp
      refine ⟨p, rfl, ?_, f3⟩
      rcases e' with ⟨kvs, e', i'⟩ | ⟨kvs, e', i'⟩
      · rw [e] at e'
        cases e'
        exact .inl ⟨kvs, e3, i'.mono l2⟩
      · rw [e] at e'
        cases e'
        exact .inr ⟨kvs, e3, i'.mono l2⟩
    | n _ => exact O1.elim
  cases o with
  | v d =>
    refine ⟨r, H0, G0, G1, ow1, c1, R1, h1.mono fun os c2 k vs H2 G2 ow2 R2 l2 OO => ?_⟩
    exact k (v :: vs) H2 G2 ow2 R2 (l1.trans l2) (.val (Is.mono l2 (show Is (g.wd r) G1 v d from O1)) OO)
  | l ds =>
    obtain ⟨p, vs', hp, e', i', f⟩ := O1
    exact own p _ hp e' f fun d z => by cases z
  | d ds =>
    obtain ⟨p, hp, e', f⟩ := O1
    rcases e' with ⟨kvs, e', i'⟩ | ⟨kvs, e', i'⟩
    · exact own p _ hp e' f fun d z => by cases z
    · exact own p _ hp e' f fun d z => by cases z
  | n _ => exact O1.elim
theorem OutsOk.length {w : Wd} {G H : Hp} {ow : Nat → List Addr} {H0 : Hp} {vs : List V} {os : List Out} (h : OutsOk w G H ow H0 vs os) : vs.length = os.length := by
  induction h with
  | nil => rfl
  | val _ _ ih => exact congrArg (· + 1) ih
  | own _ _ _ _ _ ih => exact congrArg (· + 1) ih
/-- what a parallel store leads to -/
theorem par_run {es : Es} {ts : List Nat} {D : Ends} {σ : L2.St} {H : Hp} (h : rdC g sem fuel (.par ts es) W D σ H) : rdOs g sem es W σ H fun vs H1 => vs.length = ts.length ∧ D.nx (setVs ts vs σ) H1 := by
  obtain ⟨r, H0, G0, G, ow, c, R, h⟩ := h
  rw [exec] at h
  refine ⟨r, H0, G0, G, ow, c, R, (RunS.to h).mono fun os c' k vs H' G' ow' R' l OO => ?_⟩
  split at k
  · rename_i hl
    obtain ⟨ow2, R2⟩ := Rp.putOuts OO hl OO R'
    exact ⟨by rw [OO.length]; exact hl, k _ H' G' ow2 R2 l⟩
  · exact k.elim
theorem c_par2 {i j : Nat} {x y : Str} {a b : Expr} {px py pt pos : Pos} {kt k2 : Nat} {pt2 : Pos} {es : Es} (hc : X.calm = true) (hN : X.N.Nodup) (hi : X.N[i]? = some x) (hj : X.N[j]? = some y) (hij : i ≠ j) (hx : X.env.scope.names.lookup x = some .local) (hy : X.env.scope.names.lookup y = some .local)
    (ha : PA X [a, b] (rdOs g sem es W)) (hw : swappedStores [.Tuple [.Name x px, .Name y py] kt pt] (.Tuple [a, b] k2 pt2) X.env = pure (some [x, y])) (hs : swapsWithSole [.Tuple [.Name x px, .Name y py] kt pt] (.Tuple [a, b] k2 pt2) pos.line X.env = pure false) :
    PS X (.Assign [.Tuple [.Name x px, .Name y py] kt pt] (.Tuple [a, b] k2 pt2) pos) (rdC g sem fuel (.par [i, j] es) W) := by
  refine PS.wk (ps_par hc hN hi hj hij hx hy ha hw hs) fun D σ H h => ?_
  obtain ⟨r, H0, G0, G, ow, c, R, h⟩ := par_run h
  refine ⟨r, H0, G0, G, ow, c, R, h.mono fun os c' k vs H' G' ow' R' l OO => ?_⟩
  obtain ⟨hl, k2⟩ := k vs H' G' ow' R' l OO
  match vs, hl, k2 with
  | [v, u], _, k2 => exact ⟨v, u, rfl, k2⟩
end
end Rc
end Z_Rc8c
section Z_Rc8d
set_option Elab.async false
set_option linter.all false
set_option maxRecDepth 100000
set_option autoImplicit false
namespace Rc
open PySem PySem.Spec PyProof.Rows L2
section
variable {w : Wd} {H0 G0 : Hp} {σ : L2.St} {H G : Hp} {ow : Nat → List Addr} {c : Cfg} {p : Addr} {ob : HO} {i : Nat}
/-- an object of a place's own is written -/
theorem Rp.wr (R : Rp w H0 G0 σ H G ow c) (hm : p ∈ ow i) (hi : i < c.env.length) {s : Slot} (hs : SlotOk w G (L2.upd H p ob) (σ[i]?.join) (ow i) s) : Rp w H0 G0 σ (L2.upd H p ob) G ow ⟨c.env.set i s, c.s⟩ := by
  obtain ⟨f1, f2, f3, f4⟩ := R.own i p hm
  have nd : ∀ {a : Addr}, w.dr.has a → a ≠ p := fun {a} h z => f3 (by rw [← z]; exact h)
  refine ⟨R.g0, R.new, fun a o e => ?_, fun a o e n => ?_, fun on => ⟨?_, ?_, ?_, (R.dr on).ne, (R.dr on).cs⟩, by simpa using R.len, fun j s' e => ?_, fun j a m => ?_, R.dis⟩
  · have z : a ≠ p := fun z => by rw [z, f1] at e; cases e
    rw [upd_ne z]; exact R.gh a o e
  · have z : a ≠ p := fun z => by rw [z, f2] at e; cases e
    rw [upd_ne z]; exact R.ext a o e n
  · rw [upd_ne (nd ⟨on, .inl rfl⟩)]; exact (R.dr on).d
  · rw [upd_ne (nd ⟨on, .inr (.inl rfl)⟩)]; exact (R.dr on).l
  · rw [upd_ne (nd ⟨on, .inr (.inr rfl)⟩)]; exact (R.dr on).c
  · by_cases hj : j = i
    · subst hj
      rw [List.getElem?_set_self hi] at e
      cases e
      exact hs
    · rw [List.getElem?_set_ne (Ne.symm hj)] at e
      have q := R.slot j s' e
      have ne : ∀ a ∈ ow j, a ≠ p := fun a m z => hj (R.dis j i a m (by rw [z]; exact hm))
      cases s' with
      | none => exact q
      | fz d => exact q
      | ol l =>
        obtain ⟨b, vs, h1, h2, h3, h4⟩ := q
        exact ⟨b, vs, h1, h2, by rw [upd_ne (ne b (by rw [h2]; simp))]; exact h3, h4⟩
      | od l =>
        obtain ⟨b, h1, h2, h3⟩ := q
        have nb := ne b (by rw [h2]; simp)
        refine ⟨b, h1, h2, ?_⟩
        rcases h3 with ⟨kvs, h3, h4⟩ | ⟨kvs, h3, h4⟩
        · exact .inl ⟨kvs, by rw [upd_ne nb]; exact h3, h4⟩
        · exact .inr ⟨kvs, by rw [upd_ne nb]; exact h3, h4⟩
      | oll l => exact q
      | onn l => exact q
      | ali i j => exact q
  · obtain ⟨h1, h2, h3, h4⟩ := R.own j a m
    refine ⟨h1, h2, h3, ?_⟩
    by_cases z : a = p
    · rw [z, upd_same]; simp
    · rw [upd_ne z]; exact h4
end
section
variable {g : Gx} {sem : Nat → List D → S → CRes} {fuel : Nat} {n q : Nat} {X : Cx} {W : WX}
theorem c_app {i : Nat} {x : Str} {ea : E} {e : Expr} {px apos cpos pos : Pos} (hN : X.N[i]? = some x) (hv : Vis X.env.scope x) (hd : (x == ("__debug__" : Str)) = false) (hcd : (x == ("__classdict__" : Str)) = false) (he : PE X e (rd g sem ea W))
    (hbase : attributeBase (.Name x px) "append" X.env (eval (.Name x px) X.env) = eval (.Name x px) X.env)
    (hfew : ((backTo cpos (starEach [e] X.env)).all (fun x => !x.1) && (backToKw cpos (keywordEach [] X.env)).all (fun x => x.1.isSome) && decide ([e].length + ([] : List Keyword).length + (if ([] : List Keyword).isEmpty then 0 else 1) < 30)) = true)
    (hline : (apos.endLine == cpos.line) = true) (hs : starEach [e] X.env = (false, eval e X.env) :: starEach [] X.env) (hpl : (backTo cpos (starEach [] X.env)).any (·.1) = false)
    (hsw : swapsWith (.Call (.Attribute (.Name x px) "append" apos) [e] [] cpos) none pos.line X.env = pure false) :
    PS X (.Expr (.Call (.Attribute (.Name x px) "append" apos) [e] [] cpos) pos) (rdC g sem fuel (.app i ea) W) := by
  have hA : PA X [e] (tCons (rd g sem ea W) tNil) := pa_cons he pa_nil hs
  refine PS.wk (ps_expr (pe_bm PySem.F.plainAttrs_list PySem.F.slot_list_append PySem.F.type_list_append mt_append (pe_var hN hv hd hcd) hA hbase hfew hline hs hpl) hsw) fun D σ H h => ?_
  obtain ⟨r, H0, G0, G, ow, c, R, h⟩ := h
  rw [exec] at h
  split at h
  · rename_i l0 e0
    obtain ⟨p, vs0, hv0, ho0, hp0, hi0⟩ := R.slot i _ e0
    refine ⟨.ref p, R.at hv0, .inl ⟨rfl, vs0, .inl (.inl hp0)⟩, r, H0, G0, G, ow, c, R, (RunS.to h).mono fun o c' k v H' G' ow' R' l O K => ?_⟩
    obtain ⟨G2, R2, l2, i2⟩ := R'.val O
    split at k
    · rename_i l1 e1
      split at k
      · rename_i hz
        obtain ⟨p', vs1, hv1, ho1, hp1, hi1⟩ := R2.slot i _ e1
        rw [hv0] at hv1
        cases hv1
        have hm : p ∈ ow' i := by rw [ho1]; simp
        refine ⟨p, vs1, v, rfl, rfl, hp1, by rw [hi1.length]; exact most_line (Nat.le_of_lt hz) |> fun z => Nat.lt_of_lt_of_le hz (by decide), ?_⟩
        have R3 := R2.wr (ob := .lst (vs1 ++ [v])) hm (List.getElem?_eq_some_iff.mp e1).1 (s := .ol (l1 ++ [o.val])) ⟨p, vs1 ++ [v], hv0, ho1, upd_same, hi1.append (.cons i2 .nil)⟩
        exact k σ _ G2 ow' R3 (l.trans l2)
      · exact k.elim
    · exact k.elim
  · exact h.elim
end
end Rc
end Z_Rc8d
section Z_Rc8e
set_option Elab.async false
set_option linter.all false
set_option maxRecDepth 100000
set_option autoImplicit false
namespace Rc
open PySem PySem.Spec PyProof.Rows L2
/-- the walk yields these -/
def ItOk (w : Wd) (G0 : Hp) (J : It) (G : Hp) (ds : List D) : Prop := ∀ (H0 : Hp) (σ : L2.St) (H G' : Hp) (ow : Nat → List Addr) (c : Cfg) (i : Nat), Rp w H0 G0 σ H G' ow c → Le G G' →
  (ds.length ≤ i → J.stop i H) ∧ ∀ d, ds[i]? = some d → J.go i H ∧ ∀ x H', J.yld i H x H' → ∃ G'', Rp w H0 G0 σ H' G'' ow c ∧ Le G' G'' ∧ Is w G'' x d ∧ Kp w H H'
def rdI (g : Gx) (sem : Nat → List D → S → CRes) (src : Src) (W : WX) : TI := fun σ H R => ∃ r H0 G0 G ow c, Rp (g.wd r) H0 G0 σ H G ow c ∧ Run (g.wd r) g.P.attr H0 G0 σ W (evSrc g.P sem src c) fun ds c' =>
  ∀ J H' G' ow', Rp (g.wd r) H0 G0 σ H' G' ow' c' → Le G G' → (nomutS src = true → Kp (g.wd r) H H') → ItOk (g.wd r) G0 J G' ds → R J H'
theorem PI.wk {X : Cx} {tg e : Expr} {t t' : TI} (h : PI X tg e t) (m : ∀ σ H R, t' σ H R → t σ H R) : PI X tg e t' := ⟨fun pins s σ H R I q => h.run pins s σ H R I (m _ _ _ q)⟩
theorem PI.or {X : Cx} {tg e : Expr} {t t' : TI} (h : PI X tg e t) (h' : PI X tg e t') : PI X tg e (fun σ H R => t σ H R ∨ t' σ H R) := ⟨fun pins s σ H R I q => q.elim (h.run pins s σ H R I) (h'.run pins s σ H R I)⟩
section
variable {w : Wd} {H0 G0 : Hp} {G : Hp} {ds : List D} {K : PySem.W.Frag} {a : Addr} {vs : List V}
theorem at_eq {xs : List V} {i : Nat} {x y : V} (h : xs[i]? = some x) (h' : xs[i]? = some y) : x = y := by
  rw [h] at h'; exact Option.some.inj h'
theorem it_list (h : Rd G a (.lst vs)) (hi : IsL w G vs ds) : ItOk w G0 (Itl K a) G ds := by
  intro H0 σ H G' ow c i R l
  have hs : SqL K H a vs := .inl (R.gh.rd (l.rd h))
  refine ⟨fun z => ⟨vs, hs, by rw [hi.length]; exact z⟩, fun d e => ?_⟩
  obtain ⟨v, e1, i1⟩ := hi.get e
  refine ⟨⟨vs, v, hs, e1⟩, fun x H' y => ?_⟩
  obtain ⟨rfl, q⟩ := y
  rw [at_eq (q vs hs) e1]
  exact ⟨G', R, Le.refl _, i1.mono l, Kp.refl _ _⟩
theorem it_tup (h : G a = some (.tup vs)) (hi : IsL w G vs ds) : ItOk w G0 (Itt K a) G ds := by
  intro H0 σ H G' ow c i R l
  have hs : SqT K H a vs := .of (R.gh.tup (l _ _ h))
  refine ⟨fun z => ⟨vs, hs, by rw [hi.length]; exact z⟩, fun d e => ?_⟩
  obtain ⟨v, e1, i1⟩ := hi.get e
  refine ⟨⟨vs, v, hs, e1⟩, fun x H' y => ?_⟩
  obtain ⟨rfl, q⟩ := y
  rw [at_eq (q vs hs) e1]
  exact ⟨G', R, Le.refl _, i1.mono l, Kp.refl _ _⟩
theorem it_rng (m : Int) (n : Nat) : ItOk w G0 (Itr m n) G ((List.range n).map fun i : Nat => D.int (m + i)) := by
  intro H0 σ H G' ow c i R l
  refine ⟨fun z => by show n ≤ i; simpa using z, fun d e => ?_⟩
  have hl : i < n := by
    have := (List.getElem?_eq_some_iff.mp e).1
    simpa using this
  refine ⟨hl, fun x H' y => ?_⟩
  obtain ⟨rfl, rfl⟩ := y
  have e2 : d = .int (m + i) := by
    rw [List.getElem?_map, List.getElem?_range hl] at e
    exact (Option.some.inj e).symm
  rw [e2]
  exact ⟨G', R, Le.refl _, .int _, Kp.refl _ _⟩
/-- a new tuple that the walk hands out -/
theorem Rp.newPair {σ : L2.St} {H : Hp} {G' : Hp} {ow : Nat → List Addr} {c : Cfg} (R : Rp w H0 G0 σ H G' ow c) {T : Addr} (hT : H T = none) {us : List V} {es : List D} (hi : IsL w G' us es) : ∃ G'', Rp w H0 G0 σ (L2.upd H T (.tup us)) G'' ow c ∧ Le G' G'' ∧ Is w G'' (.ref T) (.tup es) ∧ Kp w H (L2.upd H T (.tup us)) := by
  have f := R.fresh hT (.tup us)
  have l1 := (Le.refl G').upd (o := .tup us) f.g
  exact ⟨_, (R.upd hT).keep f upd_same, l1, .tup upd_same (hi.mono l1), Kp.new hT⟩
theorem it_enum (h : Rd G a (.lst vs)) (hi : IsL w G vs ds) : ItOk w G0 (Ite K a) G (ds.mapIdx fun i d => .tup [.int i, d]) := by
  intro H0 σ H G' ow c i R l
  have hs : SqL K H a vs := .inl (R.gh.rd (l.rd h))
  refine ⟨fun z => ⟨vs, hs, by rw [hi.length]; simpa using z⟩, fun d e => ?_⟩
  rw [List.getElem?_mapIdx] at e
  obtain ⟨d0, e0, rfl⟩ := Option.map_eq_some_iff.mp e
  obtain ⟨v, e1, i1⟩ := hi.get e0
  refine ⟨⟨vs, v, hs, e1⟩, fun x H' y => ?_⟩
  obtain ⟨T, z, rfl, hT, rfl, q⟩ := y
  rw [at_eq (q vs hs) e1]
  exact R.newPair hT (.cons (.int _) (.cons (i1.mono l) .nil))
theorem it_zip {b : Addr} {us : List V} {es : List D} (h : Rd G a (.lst vs)) (hi : IsL w G vs ds) (h2 : Rd G b (.lst us)) (hi2 : IsL w G us es) : ItOk w G0 (Itz K a b) G (List.zipWith (fun p q => D.tup [p, q]) ds es) := by
  intro H0 σ H G' ow c i R l
  have hs : SqL K H a vs := .inl (R.gh.rd (l.rd h))
  have hs2 : SqL K H b us := .inl (R.gh.rd (l.rd h2))
  refine ⟨fun z => ⟨vs, us, hs, hs2, ?_⟩, fun d e => ?_⟩
  · rw [List.length_zipWith] at z
    rw [hi.length, hi2.length]
    omega
  · rw [List.getElem?_zipWith] at e
    cases e1 : ds[i]? with
    | none => rw [e1] at e; cases e
    | some d1 =>
      cases e2 : es[i]? with
      | none => rw [e1, e2] at e; cases e
      | some d2 =>
        rw [e1, e2] at e
        cases e
        obtain ⟨v1, f1, i1⟩ := hi.get e1
        obtain ⟨v2, f2, i2⟩ := hi2.get e2
        refine ⟨⟨vs, us, v1, v2, hs, hs2, f1, f2⟩, fun x H' y => ?_⟩
        obtain ⟨T, z1, z2, rfl, hT, rfl, q1, q2⟩ := y
        rw [at_eq (q1 vs hs) f1, at_eq (q2 us hs2) f2]
        exact R.newPair hT (.cons (i1.mono l) (.cons (i2.mono l) .nil))
theorem it_zipT {b : Addr} {us : List V} {es : List D} (h : G a = some (.tup vs)) (hi : IsL w G vs ds) (h2 : G b = some (.tup us)) (hi2 : IsL w G us es) : ItOk w G0 (RZ.ItzT K a b) G (List.zipWith (fun p q => D.tup [p, q]) ds es) := by
  intro H0 σ H G' ow c i R l
  have hs : SqT K H a vs := .of (R.gh.tup (l _ _ h))
  have hs2 : SqT K H b us := .of (R.gh.tup (l _ _ h2))
  refine ⟨fun z => ⟨vs, us, hs, hs2, ?_⟩, fun d e => ?_⟩
  · rw [List.length_zipWith] at z
    rw [hi.length, hi2.length]
    omega
  · rw [List.getElem?_zipWith] at e
    cases e1 : ds[i]? with
    | none => rw [e1] at e; cases e
    | some d1 =>
      cases e2 : es[i]? with
      | none => rw [e1, e2] at e; cases e
      | some d2 =>
        rw [e1, e2] at e
        cases e
        obtain ⟨v1, f1, i1⟩ := hi.get e1
        obtain ⟨v2, f2, i2⟩ := hi2.get e2
        refine ⟨⟨vs, us, v1, v2, hs, hs2, f1, f2⟩, fun x H' y => ?_⟩
        obtain ⟨T, z1, z2, rfl, hT, rfl, q1, q2⟩ := y
        rw [at_eq (q1 vs hs) f1, at_eq (q2 us hs2) f2]
        exact R.newPair hT (.cons (i1.mono l) (.cons (i2.mono l) .nil))
end
section
variable {g : Gx} {sem : Nat → List D → S → CRes} {fuel : Nat} {n q : Nat} {X : Cx} {W : WX} {tg : Expr}
theorem walk_new {pins : List (Addr × Obj)} {σ : L2.St} {H : Hp} {s : Shared} {R : It → Hp → Prop} {J : It} {st : Nat → Heap → Prop} {ob : Obj} (I : Inv X pins σ H s) (ha : ob.alive = true) (T : Turn X.prog X.w X.K tg J [s.heap.objs.size] s.heap.objs.size st)
    (h0 : st 0 (s.heap.push ob)) (q : R J H) : PIE X pins σ tg R (.ref s.heap.objs.size) { s with heap := s.heap.push ob } := by
  refine ⟨s.heap.objs.size, [s.heap.objs.size], _, J, H, rfl, I.kept (t' := s.toks) fun _ _ e => Heap.get?_push_of_some _ e, T, h0, fun b hb => ?_, q⟩
  rw [List.mem_singleton] at hb
  rw [hb]
  exact I.fpOk (Nat.le_refl _) (I.hok.fresh (Nat.le_refl _))
theorem pi_seq {e : Expr} {te : TE} (he : PE X e te) : PI X tg e (fun σ H R => te σ H fun x H1 => (∃ a, x = .ref a ∧ (∃ xs, SqL X.K H1 a xs) ∧ R (Itl X.K a) H1) ∨ (∃ a, x = .ref a ∧ (∃ xs, SqT X.K H1 a xs) ∧ R (Itt X.K a) H1)) := by
  refine ⟨fun pins s σ H R I h => thn (he.run pins s σ H _ I h) fun u s1 hh => ?_⟩
  obtain ⟨x, H1, I1, r1, ⟨a, rfl, ⟨xs, hs⟩, q⟩ | ⟨a, rfl, ⟨xs, hs⟩, q⟩⟩ := hh
  · cases r1
    obtain ⟨its, rv, pl, _⟩ := I1.list hs
    exact wpAny_pyIter_list pl.isList (walk_new I1 rfl (turn_list a _) ⟨_, Heap.get?_push_size _ rfl, rfl, rfl⟩ q)
  · cases r1
    obtain ⟨its, rv, pl, _⟩ := I1.tuple hs
    exact wpAny_pyIter_tuple (show s1.heap.IsTuple a its.toArray from pl) (walk_new I1 rfl (turn_tuple a _) ⟨_, Heap.get?_push_size _ rfl, rfl, rfl⟩ q)
theorem i_seq {ea : E} {e : Expr} (he : PE X e (rd g sem ea W)) : PI X tg e (rdI g sem (.seq ea) W) := by
  have hor := pi_seq (tg := tg) he
  refine PI.wk hor fun σ H R h => ?_
  obtain ⟨r, H0, G0, G, ow, c, Rr, h⟩ := h
  rw [evSrc] at h
  refine one Rr h fun x c' h v H' G' ow' R' l i K => ?_
  obtain ⟨ds, e1, h⟩ := Run.opt h
  generalize x.val = d at e1 i
  unfold seqD at e1
  split at e1
  · cases e1
    obtain ⟨p, vs, rfl, hp, hi⟩ := i.lst_inv
    exact .inl ⟨p, rfl, ⟨vs, .inl (R'.gh.rd hp)⟩, h _ H' G' ow' R' l (fun z => K (by rw [nomutS] at z; exact z)) (it_list hp hi)⟩
  · cases e1
    obtain ⟨p, vs, rfl, hp, hi⟩ := i.tup_inv
    exact .inr ⟨p, rfl, ⟨vs, .of (R'.gh.tup hp)⟩, h _ H' G' ow' R' l (fun z => K (by rw [nomutS] at z; exact z)) (it_tup hp hi)⟩
  · cases e1
theorem i_rng {ea : E} {a : Expr} {x : Str} {p pos : Pos} (hx : x = "range") (hg : Gl X x) (hm : X.mg x = none) (ha : PE X a (rd g sem ea W)) (hs : starEach [a] X.env = (false, eval a X.env) :: starEach [] X.env) : PI X tg (.Call (.Name x p) [a] [] pos) (rdI g sem (.rng ea) W) := by
  subst hx
  have hA : PA X [a] (tCons (rd g sem ea W) tNil) := pa_cons ha pa_nil hs
  refine PI.wk (pi_range1 hg hm hA hs) fun σ H R h => ?_
  obtain ⟨r, H0, G0, G, ow, c, Rr, h⟩ := h
  rw [evSrc] at h
  refine one Rr h fun o c' h v H' G' ow' R' l i K => ?_
  split at h
  · rename_i nn
    split at h
    · rename_i hz
      have hv := i.int_inv
      have hz' : -(100000 : Int) ≤ nn ∧ nn ≤ 100000 := hz
      refine ⟨nn, by rw [hv], by omega, by omega, ?_⟩
      have e : ((List.range nn.toNat).map fun i : Nat => D.int i) = (List.range nn.toNat).map fun i : Nat => D.int (0 + i) := by simp
      rw [e] at h
      exact h _ H' G' ow' R' l (fun z => K (by rw [nomutS] at z; exact z)) (it_rng 0 nn.toNat)
    · exact h.elim
  · exact h.elim
theorem i_rng2 {ea eb : E} {a b : Expr} {x : Str} {p pos : Pos} (hx : x = "range") (hg : Gl X x) (hm : X.mg x = none) (ha : PE X a (rd g sem ea W)) (hb : PE X b (rd g sem eb W)) (hs : starEach [a, b] X.env = (false, eval a X.env) :: starEach [b] X.env) (hs2 : starEach [b] X.env = (false, eval b X.env) :: starEach [] X.env) :
    PI X tg (.Call (.Name x p) [a, b] [] pos) (rdI g sem (.rng2 ea eb) W) := by
  subst hx
  have hA : PA X [a, b] (tCons (rd g sem ea W) (tCons (rd g sem eb W) tNil)) := pa_cons ha (pa_cons hb pa_nil hs2) hs
  refine PI.wk (pi_range2 hg hm hA (by rw [hs, hs2]; rfl) (by rw [hs2]; rfl)) fun σ H R h => ?_
  obtain ⟨r, H0, G0, G, ow, c, Rr, h⟩ := h
  rw [evSrc] at h
  refine two Rr h fun o o2 c' h v u H' G' ow' R' l i i2 K => ?_
  split at h
  · rename_i m n
    split at h
    · rename_i hz
      have hv := i.int_inv
      have hu := i2.int_inv
      have hz' : (-(100000 : Int) ≤ m ∧ m ≤ 100000) ∧ -(100000 : Int) ≤ n ∧ n ≤ 100000 := hz
      exact ⟨m, n, by rw [hv, hu], ⟨by omega, by omega, by omega, by omega⟩, h _ H' G' ow' R' l (fun z => K (by rw [nomutS] at z; exact z)) (it_rng m (n - m).toNat)⟩
    · exact h.elim
  · exact h.elim
theorem i_enum {ea : E} {a : Expr} {x : Str} {p pos tpos : Pos} {elts : List Expr} {kk : Nat} (hx : x = "enumerate") (hg : Gl X x) (hm : X.mg x = none) (ha : PE X a (rd g sem ea W)) (hs : starEach [a] X.env = (false, eval a X.env) :: starEach [] X.env) :
    PI X (.Tuple elts kk tpos) (.Call (.Name x p) [a] [] pos) (rdI g sem (.enum ea) W) := by
  subst hx
  have hA : PA X [a] (tCons (rd g sem ea W) tNil) := pa_cons ha pa_nil hs
  refine PI.wk (pi_enum hg hm hA hs) fun σ H R h => ?_
  obtain ⟨r, H0, G0, G, ow, c, Rr, h⟩ := h
  rw [evSrc] at h
  refine one Rr h fun o c' h v H' G' ow' R' l i K => ?_
  generalize o.val = d at h i
  split at h
  · rename_i ds
    obtain ⟨a, vs, rfl, hp, hi⟩ := i.lst_inv
    exact ⟨a, vs, rfl, .inl (R'.gh.rd hp), h _ H' G' ow' R' l (fun z => K (by rw [nomutS] at z; exact z)) (it_enum hp hi)⟩
  · exact h.elim
theorem i_zip {ea eb : E} {a b : Expr} {x : Str} {p pos tpos : Pos} {elts : List Expr} {kk : Nat} (hx : x = "zip") (hg : Gl X x) (hm : X.mg x = none) (ha : PE X a (rd g sem ea W)) (hb : PE X b (rd g sem eb W)) (hs : starEach [a, b] X.env = (false, eval a X.env) :: starEach [b] X.env)
    (hs2 : starEach [b] X.env = (false, eval b X.env) :: starEach [] X.env) (hpl : (backTo pos (starEach [b] X.env)).any (·.1) = false) : PI X (.Tuple elts kk tpos) (.Call (.Name x p) [a, b] [] pos) (rdI g sem (.zip ea eb) W) := by
  subst hx
  have hA : PA X [a, b] (tCons (rd g sem ea W) (tCons (rd g sem eb W) tNil)) := pa_cons ha (pa_cons hb pa_nil hs2) hs
  refine PI.wk (RZ.pi_zipA hg hm hA hs hpl) fun σ H R h => ?_
  obtain ⟨r, H0, G0, G, ow, c, Rr, h⟩ := h
  rw [evSrc] at h
  refine two Rr h fun o o2 c' h v u H' G' ow' R' l i i2 K => ?_
  generalize o.val = d at h i
  generalize o2.val = d2 at h i2
  split at h
  · obtain ⟨a, vs, rfl, hp, hi⟩ := i.lst_inv
    obtain ⟨b, us, rfl, hp2, hi2⟩ := i2.lst_inv
    exact ⟨a, b, vs, us, rfl, .inl ⟨.inl (R'.gh.rd hp), .inl (R'.gh.rd hp2), h _ H' G' ow' R' l (fun z => K (by rw [nomutS] at z; exact z)) (it_zip hp hi hp2 hi2)⟩⟩
  · obtain ⟨a, vs, rfl, hp, hi⟩ := i.tup_inv
    obtain ⟨b, us, rfl, hp2, hi2⟩ := i2.tup_inv
    exact ⟨a, b, vs, us, rfl, .inr ⟨.of (R'.gh.tup hp), .of (R'.gh.tup hp2), h _ H' G' ow' R' l (fun z => K (by rw [nomutS] at z; exact z)) (it_zipT hp hi hp2 hi2)⟩⟩
  · exact h.elim

theorem c_for {t : Tg} {src : Src} {a : Cs} {iter : Expr} {body : List Stmt} {pos : Pos} (hp : PassesOwn (model X.prog X.w) X.A X.env X.xe) (hc : X.calm = true) (hi : PI X tg iter (rdI g sem src W)) (ht : PG X tg (rdG g t)) (hb : PSs X body (rdCs g sem fuel a W))
    (hs : ∀ x, foldedSetIterable iter X.env x = pure x) : PS X (.For tg iter body [] pos) (rdC g sem fuel (.for t src a) W) := by
  refine PS.wk (ps_for hp hc hi ht hb hs) fun D σ H h => ?_
  obtain ⟨r, H0, G0, G, ow, c, R, h⟩ := h
  rw [exec] at h
  refine ⟨r, H0, G0, G, ow, c, R, (RunS.to h).mono fun ds c1 k J H1 G1 ow1 R1 l1 _ T => ?_⟩
  refine ⟨fun i m σ H => m = ds.length - i ∧ i ≤ ds.length ∧ ∃ G2 ow2 c2, Rp (g.wd r) H0 G0 σ H G2 ow2 c2 ∧ Le G1 G2 ∧ RunS (g.wd r) g.P.attr H0 G0 G2 W D (loopF (fun x c => optS (Rc.store t (.v x) c.env) fun env => execs g.P sem fuel a ⟨env, c.s⟩) (ds.drop i) c2),
    ⟨_, rfl, Nat.zero_le _, G1, ow1, c1, R1, Le.refl _, RunS.mono k l1⟩, ?_⟩
  rintro i m σ2 H2 ⟨rfl, hle, G2, ow2, c2, R2, l2, k2⟩
  obtain ⟨stop, go⟩ := T H0 σ2 H2 G2 ow2 c2 i R2 l2
  by_cases hi : i = ds.length
  · refine .inl ⟨stop (by omega), ?_⟩
    rw [List.drop_eq_nil_of_le (by omega)] at k2
    exact k2 σ2 H2 G2 ow2 R2 (Le.refl _)
  · have hlt : i < ds.length := by omega
    obtain ⟨g1, y1⟩ := go ds[i] (List.getElem?_eq_getElem hlt)
    refine .inr ⟨g1, fun σ' H' => (ds.length - (i + 1) = ds.length - (i + 1) ∧ i + 1 ≤ ds.length ∧ ∃ G2 ow2 c2, Rp (g.wd r) H0 G0 σ' H' G2 ow2 c2 ∧ Le G1 G2 ∧ RunS (g.wd r) g.P.attr H0 G0 G2 W D (loopF (fun x c => optS (Rc.store t (.v x) c.env) fun env => execs g.P sem fuel a ⟨env, c.s⟩) (ds.drop (i + 1)) c2)), fun σ' H' N => ⟨ds.length - (i + 1), by omega, N⟩, fun x H' y => ?_⟩
    obtain ⟨G3, R3, l3, i3, _⟩ := y1 x H' y
    rw [List.drop_eq_getElem_cons hlt] at k2
    rw [loopF] at k2
    cases e : Rc.store t (.v ds[i]) c2.env with
    | none => rw [e] at k2; exact k2.elim
    | some env =>
      rw [e] at k2
      refine ⟨r, H0, G0, G3, ow2, c2, .v ds[i], env, R3, i3, e, fun σ4 G4 ow4 _ R4 l4 => ⟨r, H0, G0, G4, ow4, _, R4, ?_⟩⟩
      have l24 := l3.trans l4
      have k3 : RunS (g.wd r) g.P.attr H0 G0 G2 W D (match execs g.P sem fuel a ⟨env, c2.s⟩ with
        | .nx c => loopF (fun x c => optS (Rc.store t (.v x) c.env) fun env => execs g.P sem fuel a ⟨env, c.s⟩) (ds.drop (i + 1)) c
        | .cnt c => loopF (fun x c => optS (Rc.store t (.v x) c.env) fun env => execs g.P sem fuel a ⟨env, c.s⟩) (ds.drop (i + 1)) c
        | .brk c => .nx c
        | .ret d s => .ret d s
        | .exc k a s => .exc k a s
        | .bad => .bad) := k2
      cases ee : execs g.P sem fuel a ⟨env, c2.s⟩ with
      | nx c5 =>
        rw [ee] at k3
        exact fun σ' H5 G5 ow5 R5 l5 => ⟨rfl, hlt, G5, ow5, c5, R5, l2.trans (l24.trans l5), RunS.mono k3 (l24.trans l5)⟩
      | cnt c5 =>
        rw [ee] at k3
        exact fun σ' H5 G5 ow5 R5 l5 => ⟨rfl, hlt, G5, ow5, c5, R5, l2.trans (l24.trans l5), RunS.mono k3 (l24.trans l5)⟩
      | brk c5 =>
        rw [ee] at k3
        exact fun σ' H5 G5 ow5 R5 l5 => k3 σ' H5 G5 ow5 R5 (l24.trans l5)
      | ret d s => rw [ee] at k3; exact k3
      | exc k a s => rw [ee] at k3; exact k3
      | bad => rw [ee] at k3; exact k3
theorem c_whl {ea : E} {a : Cs} {e : Expr} {body : List Stmt} {pos : Pos} (hp : PassesOwn (model X.prog X.w) X.A X.env X.xe) (he : PT X e (rdT g sem ea W)) (hb : PSs X body (rdCs g sem fuel a W)) : PS X (.While e body [] pos) (rdC g sem fuel (.whl ea a) W) := by
  refine PS.wk (ps_while hp he hb) fun D σ H h => ?_
  obtain ⟨r, H0, G0, G, ow, c, R, h⟩ := h
  rw [exec] at h
  refine ⟨fun m σ H => ∃ G2 ow2 c2, Rp (g.wd r) H0 G0 σ H G2 ow2 c2 ∧ Le G G2 ∧ RunS (g.wd r) g.P.attr H0 G0 G2 W D (loopW (fun c => (ev g.P sem ea c).bind fun x c => truth x c) (fun c => execs g.P sem fuel a c) m c2), ⟨fuel, G, ow, c, R, Le.refl _, h⟩, ?_⟩
  rintro m σ2 H2 ⟨G2, ow2, c2, R2, l2, k2⟩
  cases m with
  | zero => exact k2.elim
  | succ m =>
    rw [loopW] at k2
    refine ⟨r, H0, G0, G2, ow2, c2, R2, (RunS.to k2).mono fun b c3 k3 H3 G3 ow3 R3 l3 K3 => ?_⟩
    cases b with
    | false => exact k3 σ2 H3 G3 ow3 R3 l3
    | true =>
      have k4 : RunS (g.wd r) g.P.attr H0 G0 G2 W D (match execs g.P sem fuel a c3 with
        | .nx c => loopW (fun c => (ev g.P sem ea c).bind fun x c => truth x c) (fun c => execs g.P sem fuel a c) m c
        | .cnt c => loopW (fun c => (ev g.P sem ea c).bind fun x c => truth x c) (fun c => execs g.P sem fuel a c) m c
        | .brk c => .nx c
        | .ret d s => .ret d s
        | .exc k a s => .exc k a s
        | .bad => .bad) := k3
      refine ⟨fun σ' H' => ∃ G2 ow2 c2, Rp (g.wd r) H0 G0 σ' H' G2 ow2 c2 ∧ Le G G2 ∧ RunS (g.wd r) g.P.attr H0 G0 G2 W D (loopW (fun c => (ev g.P sem ea c).bind fun x c => truth x c) (fun c => execs g.P sem fuel a c) m c2), fun σ' H' N => ⟨m, Nat.lt_succ_self m, N⟩, r, H0, G0, G3, ow3, c3, R3, ?_⟩
      cases ee : execs g.P sem fuel a c3 with
      | nx c5 =>
        rw [ee] at k4
        exact fun σ' H5 G5 ow5 R5 l5 => ⟨G5, ow5, c5, R5, l2.trans (l3.trans l5), RunS.mono k4 (l3.trans l5)⟩
      | cnt c5 =>
        rw [ee] at k4
        exact fun σ' H5 G5 ow5 R5 l5 => ⟨G5, ow5, c5, R5, l2.trans (l3.trans l5), RunS.mono k4 (l3.trans l5)⟩
      | brk c5 =>
        rw [ee] at k4
        exact fun σ' H5 G5 ow5 R5 l5 => k4 σ' H5 G5 ow5 R5 (l3.trans l5)
      | ret d s => rw [ee] at k4; exact k4
      | exc k a s => rw [ee] at k4; exact k4
      | bad => rw [ee] at k4; exact k4
end
end Rc
end Z_Rc8e
section Z_Rc8f
set_option Elab.async false
set_option linter.all false
set_option maxRecDepth 100000
set_option autoImplicit false
namespace Rc
open PySem PySem.Spec PyProof.Rows L2
section
theorem wipeE_length (env : List Slot) : ∀ own : List Nat, (Rc.wipe own env).length = env.length
  | [] => rfl
  | i :: r => by unfold Rc.wipe; rw [List.length_set, wipeE_length env r]
theorem wipeE_in {env : List Slot} : ∀ {own : List Nat} {i : Nat} {s : Slot}, i ∈ own → (Rc.wipe own env)[i]? = some s → s = .none
  | [], _, _, h, _ => nomatch h
  | j :: r, i, s, h, e => by
    unfold Rc.wipe at e
    by_cases z : i = j
    · subst z
      by_cases hl : i < (Rc.wipe r env).length
      · rw [List.getElem?_set_self hl] at e
        exact (Option.some.inj e).symm
      · rw [set_over hl, List.getElem?_eq_none (Nat.le_of_not_lt hl)] at e; cases e
    · rw [List.getElem?_set_ne (Ne.symm z)] at e
      rcases List.mem_cons.mp h with q | q
      · exact absurd q z
      · exact wipeE_in q e
theorem wipeE_ne {env : List Slot} : ∀ {own : List Nat} {i : Nat}, i ∉ own → (Rc.wipe own env)[i]? = env[i]?
  | [], _, _ => rfl
  | j :: r, i, h => by
    unfold Rc.wipe
    rw [List.getElem?_set_ne (fun z => h (by rw [← z]; exact List.mem_cons_self)), wipeE_ne fun m => h (List.mem_cons_of_mem _ m)]
theorem wipeS_ne {σ : L2.St} : ∀ {own : List Nat} {i : Nat}, i ∉ own → (L2.wipe σ own)[i]? = σ[i]?
  | [], _, _ => rfl
  | j :: r, i, h => by
    unfold L2.wipe
    rw [List.getElem?_set_ne (fun z => h (by rw [← z]; exact List.mem_cons_self)), wipeS_ne fun m => h (List.mem_cons_of_mem _ m)]
theorem wipeS_in {σ : L2.St} : ∀ {own : List Nat} {i : Nat}, i ∈ own → i < σ.length → (L2.wipe σ own)[i]? = some none
  | [], _, h, _ => nomatch h
  | j :: r, i, h, hl => by
    unfold L2.wipe
    by_cases z : i = j
    · subst z
      rw [List.getElem?_set_self (by rw [L2.wipe_length]; exact hl)]
    · rw [List.getElem?_set_ne (Ne.symm z)]
      rcases List.mem_cons.mp h with q | q
      · exact absurd q z
      · exact wipeS_in q hl
theorem wipe_wipe (σ : L2.St) (own : List Nat) : L2.wipe (L2.wipe σ own) own = L2.wipe σ own := by
  apply List.ext_getElem?
  intro i
  by_cases z : i ∈ own
  · by_cases hl : i < σ.length
    · rw [wipeS_in z hl, wipeS_in z (by rw [L2.wipe_length]; exact hl)]
    · rw [List.getElem?_eq_none (by rw [L2.wipe_length, L2.wipe_length]; omega), List.getElem?_eq_none (by rw [L2.wipe_length]; omega)]
  · rw [wipeS_ne z]
variable {w : Wd} {H0 G0 : Hp} {σ σ2 : L2.St} {H G : Hp} {ow : Nat → List Addr} {c : Cfg} {p : Addr} {ob : HO}
/-- the own places forgotten -/
theorem Rp.reslot (R : Rp w H0 G0 σ H G ow c) (own : List Nat) (hl : σ2.length = σ.length) (h : ∀ i, i ∉ own → σ2[i]? = σ[i]?) : Rp w H0 G0 σ2 H G (fun i => if i ∈ own then [] else ow i) ⟨Rc.wipe own c.env, c.s⟩ where
  g0 := R.g0
  new := R.new
  gh := R.gh
  ext := R.ext
  dr := R.dr
  len := by rw [hl, R.len]; exact (wipeE_length _ _).symm
  slot := fun i s e => by
    by_cases z : i ∈ own
    · have e2 := wipeE_in z e
      subst e2
      rw [if_pos z]; exact rfl
    · rw [wipeE_ne z] at e
      rw [if_neg z, h i z]
      exact R.slot i s e
  own := fun i a m => by
    by_cases z : i ∈ own
    · rw [if_pos z] at m; exact nomatch m
    · rw [if_neg z] at m; exact R.own i a m
  dis := fun i j a m1 m2 => by
    by_cases z : i ∈ own
    · rw [if_pos z] at m1; exact nomatch m1
    · by_cases z2 : j ∈ own
      · rw [if_pos z2] at m2; exact nomatch m2
      · rw [if_neg z] at m1; rw [if_neg z2] at m2; exact R.dis i j a m1 m2
theorem Rp.unwipe {own : List Nat} {env : List Slot} {s : S} (R : Rp w H0 G0 (L2.wipe σ own) H G ow ⟨Rc.wipe own env, s⟩) : Rp w H0 G0 σ H G ow ⟨Rc.wipe own env, s⟩ where
  g0 := R.g0
  new := R.new
  gh := R.gh
  ext := R.ext
  dr := R.dr
  len := by rw [← L2.wipe_length σ own]; exact R.len
  slot := fun i s e => by
    have q := R.slot i s e
    by_cases z : i ∈ own
    · have e2 := wipeE_in z e
      subst e2
      exact q
    · rw [wipeS_ne z] at q
      exact q
  own := R.own
  dis := R.dis
theorem Fresh.reslot (f : Fresh w H0 G H ow p) (own : List Nat) : Fresh w H0 G H (fun i => if i ∈ own then [] else ow i) p := ⟨f.g, f.h0, f.dr, fun i m => by
  by_cases z : i ∈ own
  · rw [if_pos z] at m; exact nomatch m
  · rw [if_neg z] at m; exact f.own i m⟩
/-- what is nobody's is written -/
theorem Rp.touch (R : Rp w H0 G0 σ H G ow c) (f : Fresh w H0 G H ow p) : Rp w H0 G0 σ (L2.upd H p ob) G ow c := by
  have nd : ∀ {a : Addr}, w.dr.has a → a ≠ p := fun {a} h z => f.dr (by rw [← z]; exact h)
  refine ⟨R.g0, R.new, fun a o e => ?_, fun a o e n => ?_, fun on => ⟨?_, ?_, ?_, (R.dr on).ne, (R.dr on).cs⟩, R.len, fun j s' e => ?_, fun j a m => ?_, R.dis⟩
  · rw [upd_ne (ne_of_none e f.g)]; exact R.gh a o e
  · rw [upd_ne (ne_of_none e f.h0)]; exact R.ext a o e n
  · rw [upd_ne (nd ⟨on, .inl rfl⟩)]; exact (R.dr on).d
  · rw [upd_ne (nd ⟨on, .inr (.inl rfl)⟩)]; exact (R.dr on).l
  · rw [upd_ne (nd ⟨on, .inr (.inr rfl)⟩)]; exact (R.dr on).c
  · have q := R.slot j s' e
    have ne : ∀ a ∈ ow j, a ≠ p := fun a m z => f.own j (by rw [← z]; exact m)
    cases s' with
    | none => exact q
    | fz d => exact q
    | ol l =>
      obtain ⟨b, vs, h1, h2, h3, h4⟩ := q
      exact ⟨b, vs, h1, h2, by rw [upd_ne (ne b (by rw [h2]; simp))]; exact h3, h4⟩
    | od l =>
      obtain ⟨b, h1, h2, h3⟩ := q
      have nb := ne b (by rw [h2]; simp)
      refine ⟨b, h1, h2, ?_⟩
      rcases h3 with ⟨kvs, h3, h4⟩ | ⟨kvs, h3, h4⟩
      · exact .inl ⟨kvs, by rw [upd_ne nb]; exact h3, h4⟩
      · exact .inr ⟨kvs, by rw [upd_ne nb]; exact h3, h4⟩
    | oll l => exact q
    | onn l => exact q
    | ali i j => exact q
  · obtain ⟨h1, h2, h3, h4⟩ := R.own j a m
    refine ⟨h1, h2, h3, ?_⟩
    rw [upd_ne (fun z => f.own j (by rw [← z]; exact m))]; exact h4
theorem Fresh.upd' (f : Fresh w H0 G H ow p) (o : HO) : Fresh w H0 G (L2.upd H p o) ow p := ⟨f.g, f.h0, f.dr, f.own⟩
end
/-- nothing may be raised -/
def W0 : WX := fun _ _ _ _ => False
theorem takes0 (X : Cx) : Takes X W0 := fun _ _ ⟨_, _, _, _, _, _, _, _, _, _, _, _, _, _, _, _, z⟩ => z.elim
def rdTs (g : Gx) (sem : Nat → List D → S → CRes) (k : Eo) (W : WX) : TT := fun σ H Q => ∃ r H0 G0 G ow c, Rp (g.wd r) H0 G0 σ H G ow c ∧ Run (g.wd r) g.P.attr H0 G0 σ W (evc g.P sem k c) fun b c' => ∀ H' G' ow', Rp (g.wd r) H0 G0 σ H' G' ow' c' → Le G G' → (nomutO k = true → Kp (g.wd r) H H') → Q b H'
section
variable {g : Gx} {sem : Nat → List D → S → CRes} {fuel : Nat} {n q : Nat} {X : Cx} {W : WX} {tg : Expr}
theorem PTs.wk {e : List Expr} {t t' : TT} (h : PTs X e t) (m : ∀ σ H Q, t' σ H Q → t σ H Q) : PTs X e t' := ⟨fun pins s σ H Q I q => h.run pins s σ H Q I (m _ _ _ q)⟩
theorem ts_no : PTs X [] (rdTs g sem .no W) := by
  refine PTs.wk pts_nil fun σ H Q h => ?_
  obtain ⟨r, H0, G0, G, ow, c, R, h⟩ := h
  exact h H G ow R (Le.refl G) fun _ => Kp.refl _ _
theorem ts_yes {ea : E} {e : Expr} (h : PT X e (rdT g sem ea W)) : PTs X [e] (rdTs g sem (.yes ea) W) := by
  refine PTs.wk (pts_one h) fun σ H Q h => ?_
  obtain ⟨r, H0, G0, G, ow, c, R, h⟩ := h
  rw [evc] at h
  exact ⟨r, H0, G0, G, ow, c, R, h.mono fun b c' k H' G' ow' R' l K => k H' G' ow' R' l fun z => K (by rw [nomutO] at z; exact z)⟩
theorem res_of {α : Type} {A : Res α} {a : α} {c : Cfg} (w : Wd) (an : Nat → Option Nat) (H0 G0 : Hp) (σ : L2.St) {k : α → Cfg → Prop} (e : A = .ok a c) (h : k a c) : Run w an H0 G0 σ W A k := by rw [e]; exact h
theorem bind_ok_inv {α β : Type} {A : Res α} {f : α → Cfg → Res β} {b : β} {c : Cfg} (h : A.bind f = .ok b c) : ∃ a c1, A = .ok a c1 ∧ f a c1 = .ok b c := by
  cases A with
  | ok a c1 => exact ⟨a, c1, rfl, h⟩
  | exc k a s => cases h
  | bad => cases h
theorem run_noexc {α β : Type} {w : Wd} {an : Nat → Option Nat} {H0 G0 : Hp} {σ : L2.St} {A : Res α} {f : α → Cfg → Res β} {k : β → Cfg → Prop} (h : Run w an H0 G0 σ W ((noexc A).bind f) k) : ∃ a c, A = .ok a c ∧ Run w an H0 G0 σ W (f a c) k := by
  cases A with
  | ok a c => exact ⟨a, c, rfl, h⟩
  | exc k a s => exact h.elim
  | bad => exact h.elim
/-- a comprehension -/
theorem lc_ok {ea : E} {t : Tg} {src : Src} {k : Eo} {own : List Nat} (ho : tgIn t own) {σ : L2.St} {H : Hp} {Q : VK} (K : PySem.W.Frag) (h : rd g sem (.comp ea t src k own) W σ H Q) : tLc (rdI g sem src W) (rdG g t) (rdTs g sem k W0) (rd g sem ea W0) own σ H Q := by
  obtain ⟨r, H0, G0, G, ow, c, R, h⟩ := h
  rw [ev, Run.bind] at h
  refine ⟨r, H0, G0, G, ow, c, R, h.mono fun ds c1 h1 J H1 G1 ow1 R1 l1 KS T D hD => ?_⟩
  obtain ⟨out, c3, e3, h2⟩ := run_noexc h1
  split at h2
  · rename_i hz
    generalize hf : (fun (x : Rc.D) (c : Cfg) => match Rc.store t (.v x) (Rc.wipe own c.env) with
      | some env => (evc g.P sem k ⟨env, c.s⟩).bind fun r c => if r = true then (ev g.P sem ea c).bind fun o c => .ok (some o.val) c else .ok none c
      | none => .bad) = f at e3
    have fD := R1.fresh hD (.lst [])
    have R1' := (R1.upd (o := .lst []) hD).reslot (σ2 := L2.wipe σ own) own (L2.wipe_length σ own) (fun i hi => wipeS_ne hi)
    refine ⟨fun i m H => m = ds.length - i ∧ i ≤ ds.length ∧ ∃ G2 ow2 c2 acc dacc rest, Rp (g.wd r) H0 G0 (L2.wipe σ own) H G2 ow2 ⟨Rc.wipe own c2.env, c2.s⟩ ∧ Le G1 G2 ∧ H D = some (.lst acc) ∧ IsL (g.wd r) G2 acc dacc ∧ Fresh (g.wd r) H0 G2 H ow2 D ∧
      mapR f (ds.drop i) c2 = .ok rest c3 ∧ dacc ++ rest = out ∧ ((nomutO k && nomut ea) = true → Kp (g.wd r) H1 H), ⟨_, rfl, Nat.zero_le _, G1, _, c1, [], [], out, R1', Le.refl _, upd_same, .nil, fD.reslot own, e3, rfl, fun _ => Kp.new hD⟩, ?_⟩
    rintro i m H2 ⟨rfl, hle, G2, ow2, c2, acc, dacc, rest, R2, l2, eD, iD, f2, e2, eo, KH⟩
    have RL := R2.lend f2 eD
    obtain ⟨stop, go⟩ := T _ _ H2 G2 ow2 _ i RL l2
    by_cases hi : i = ds.length
    · refine .inl ⟨stop (by omega), ?_⟩
      rw [List.drop_eq_nil_of_le (by omega)] at e2
      have e4 : c2 = c3 ∧ rest = [] := by
        cases e2
        exact ⟨rfl, rfl⟩
      obtain ⟨rfl, rfl⟩ := e4
      rw [List.append_nil] at eo
      subst eo
      exact h2 _ H2 G2 ow2 R2.unwipe (l1.trans l2) ⟨D, acc, rfl, eD, iD, f2⟩ fun z => by
        rw [nomut, Bool.and_eq_true, Bool.and_eq_true] at z
        exact (KS z.1.1).trans (KH (by rw [z.1.2, z.2]; rfl))
    · have hlt : i < ds.length := by omega
      obtain ⟨g1, y1⟩ := go ds[i] (List.getElem?_eq_getElem hlt)
      refine .inr ⟨g1, fun H' => ds.length - (i + 1) = ds.length - (i + 1) ∧ i + 1 ≤ ds.length ∧ ∃ G2 ow2 c2 acc dacc rest, Rp (g.wd r) H0 G0 (L2.wipe σ own) H' G2 ow2 ⟨Rc.wipe own c2.env, c2.s⟩ ∧ Le G1 G2 ∧ H' D = some (.lst acc) ∧ IsL (g.wd r) G2 acc dacc ∧ Fresh (g.wd r) H0 G2 H' ow2 D ∧
        mapR f (ds.drop (i + 1)) c2 = .ok rest c3 ∧ dacc ++ rest = out ∧ ((nomutO k && nomut ea) = true → Kp (g.wd r) H1 H'), fun H' N => ⟨ds.length - (i + 1), by omega, N⟩, fun x H' y => ?_⟩
      obtain ⟨G3, R3, l3, i3, KY⟩ := y1 x H' y
      rw [List.drop_eq_getElem_cons hlt, mapR] at e2
      obtain ⟨o, c4, e4, e5⟩ := bind_ok_inv e2
      obtain ⟨rest2, c5, e6, e7⟩ := bind_ok_inv e5
      cases e7
      rw [← hf] at e4
      dsimp only at e4
      cases es : Rc.store t (.v ds[i]) (Rc.wipe own c2.env) with
      | none => rw [es] at e4; cases e4
      | some env =>
        rw [es] at e4
        obtain ⟨b, c6, e8, e9⟩ := bind_ok_inv e4
        refine ⟨r, _, G0, G3, ow2, _, .v ds[i], env, R3, i3, es, fun σ4 G4 ow4 hw R4 l4 => ⟨(hw own ho).trans (wipe_wipe σ own), r, _, G0, G4, ow4, _, R4, res_of _ _ _ _ _ e8 fun H5 G5 ow5 R5 l5 KT => ?_⟩⟩
        have hw' := hw own ho
        have lens : (L2.wipe σ own).length = σ4.length := by
          have q := congrArg List.length hw'
          rw [L2.wipe_length, L2.wipe_length] at q
          exact q.symm
        have same : ∀ i, i ∉ own → (L2.wipe σ own)[i]? = σ4[i]? := fun i hi => by
          have q := congrArg (fun l : L2.St => l[i]?) hw'
          simp only [wipeS_ne hi] at q
          rw [wipeS_ne hi]
          exact q.symm
        have g0 := R2.g0none f2.g
        have l45 := l3.trans (l4.trans l5)
        cases b with
        | false =>
          have e10 : (none : Option Rc.D) = o ∧ c6 = c4 := by
            cases e9
            exact ⟨rfl, rfl⟩
          obtain ⟨rfl, rfl⟩ := e10
          obtain ⟨R6, f6, e6'⟩ := R5.unlend f2.h0 g0 f2.dr
          exact ⟨rfl, hlt, G5, _, c6, acc, dacc, rest2, R6.reslot own lens same, l2.trans l45, e6', iD.mono l45, f6.reslot own, e6, eo, fun z => by
            rw [Bool.and_eq_true] at z
            exact (KH (by rw [z.1, z.2]; rfl)).trans (KY.trans (KT z.1))⟩
        | true =>
          obtain ⟨o2, c7, e10, e11⟩ := bind_ok_inv (show (ev g.P sem ea c6).bind (fun o c => .ok (some o.val) c) = .ok o c4 from e9)
          have e12 : some o2.val = o ∧ c7 = c4 := by
            cases e11
            exact ⟨rfl, rfl⟩
          obtain ⟨rfl, rfl⟩ := e12
          refine ⟨r, _, G0, G5, ow5, _, R5, res_of _ _ _ _ _ e10 fun v H6 G6 ow6 R6 l6 O6 K6 => ?_⟩
          obtain ⟨G7, R7, l7, i7⟩ := R6.val O6
          obtain ⟨R8, f8, e8'⟩ := R7.unlend f2.h0 g0 f2.dr
          have l57 := l45.trans (l6.trans l7)
          have hlen : dacc.length + (rest2.length + 1) = out.length := by
            rw [← eo, List.length_append]
            rfl
          refine ⟨acc, e8', ?_, ?_⟩
          · rw [iD.length]
            have hz' : out.length ≤ most := hz
            exact Nat.lt_of_lt_of_le (show dacc.length < most by omega) (by decide)
          · exact ⟨rfl, hlt, G7, _, c7, acc ++ [v], dacc ++ [o2.val], rest2, (R8.touch f8).reslot own lens same, l2.trans l57, upd_same, (iD.mono l57).append (.cons i7 .nil), (f8.upd' _).reslot own, e6, by rw [List.append_assoc]; exact eo, fun z => by
            rw [Bool.and_eq_true] at z
            have ch := (KH (by rw [z.1, z.2]; rfl)).trans (KY.trans ((KT z.1).trans (K6 z.2)))
            exact fun a o e n => by rw [upd_ne (ne_of_none e hD)]; exact ch a o e n⟩
  · exact h2.elim
theorem s_comp {ea : E} {t : Tg} {src : Src} {k : Eo} {own : List (Str × Nat)} {elt iter : Expr} {ifs : List Expr} {scope : Scope} {pos : Pos} (hc : X.calm = true) (hN : X.N.Nodup) (ho : tgIn t (own.map (·.2))) (hi : PI X tg iter (rdI g sem src W)) (ok : blkC X.N X.env.scope scope own = true)
    (hg : ∀ (s : Shared) (H : Hp) (C : Addr) (cl : List (Str × Addr)) (fp : List Addr), PG (X.blk s H scope (compEnvC scope cl C X.env) fp) tg (rdG g t)) (ht : ∀ (s : Shared) (H : Hp) (C : Addr) (cl : List (Str × Addr)) (fp : List Addr), PTs (X.blk s H scope (compEnvC scope cl C X.env) fp) ifs (rdTs g sem k W0))
    (he : ∀ (s : Shared) (H : Hp) (C : Addr) (cl : List (Str × Addr)) (fp : List Addr), PE (X.blk s H scope (compEnvC scope cl C X.env) fp) elt (rd g sem ea W0)) (hs : ∀ x, foldedSetIterable iter X.env x = pure x) :
    PE X (.ListComp elt [⟨tg, iter, ifs, 0⟩] scope pos) (rd g sem (.comp ea t src k (own.map (·.2))) W) :=
  PE.wk (pe_lc hc hN hi (blkOk_by ok) hg ht he hs) fun _ _ _ h => lc_ok ho X.K h
theorem c_setLc {i : Nat} {y : Str} {py : Pos} {ea : E} {t : Tg} {src : Src} {k : Eo} {own : List (Str × Nat)} {elt iter : Expr} {ifs : List Expr} {scope : Scope} {pos spos : Pos} (hc : X.calm = true) (hN : X.N.Nodup) (hy : X.N[i]? = some y) (hyl : X.env.scope.names.lookup y = some .local)
    (hsw : swapsWith (.ListComp elt [⟨tg, iter, ifs, 0⟩] scope pos) (some (.Name y py)) spos.line X.env = pure true) (ho : tgIn t (own.map (·.2))) (hi : PI X tg iter (rdI g sem src W)) (ok : blkC X.N X.env.scope scope own = true)
    (hg : ∀ (s : Shared) (H : Hp) (C : Addr) (cl : List (Str × Addr)) (fp : List Addr), PG (X.blk s H scope (compEnvC scope cl C X.env) fp) tg (rdG g t)) (ht : ∀ (s : Shared) (H : Hp) (C : Addr) (cl : List (Str × Addr)) (fp : List Addr), PTs (X.blk s H scope (compEnvC scope cl C X.env) fp) ifs (rdTs g sem k W0))
    (he : ∀ (s : Shared) (H : Hp) (C : Addr) (cl : List (Str × Addr)) (fp : List Addr), PE (X.blk s H scope (compEnvC scope cl C X.env) fp) elt (rd g sem ea W0)) (hs : ∀ x, foldedSetIterable iter X.env x = pure x) :
    PS X (.Assign [.Name y py] (.ListComp elt [⟨tg, iter, ifs, 0⟩] scope pos) spos) (rdC g sem fuel (.asg (.nm i) (.comp ea t src k (own.map (·.2)))) W) := by
  refine PS.wk (ps_setLc hc hN hy hyl hsw hi (blkOk_by ok) hg ht he hs) fun D σ H h => ?_
  refine lc_ok ho X.K ?_
  obtain ⟨r, H0, G0, G, ow, c, R, h⟩ := h
  rw [exec] at h
  refine ⟨r, H0, G0, G, ow, c, R, (RunS.to h).mono fun o c' k v H' G' ow' R' l O K => ?_⟩
  obtain ⟨env, ee, k⟩ := RunS.optS k
  cases ee
  obtain ⟨ow2, R2⟩ := R'.put i O
  exact k _ H' G' ow2 R2 l
theorem CxA.blk (A : CxA g sem n q X) {s : Shared} {H : Hp} {scope : Scope} {cenv : Env} {fp : List Addr} : CxA g sem n q (X.blk s H scope cenv fp) :=
  ⟨A.nd, A.calm, A.gu, A.room, A.blt, A.con, fun j x h => ⟨(A.fns j x h).ex⟩⟩
theorem ClA.blk (A : ClA g X) {s : Shared} {H : Hp} {scope : Scope} {cenv : Env} {fp : List Addr} : ClA g (X.blk s H scope cenv fp) := ⟨A.k, A.xor, A.mro, A.inj, A.self, A.hn, A.ht⟩
theorem ErA.blk (A : ErA g X) {s : Shared} {H : Hp} {scope : Scope} {cenv : Env} {fp : List Addr} : ErA g (X.blk s H scope cenv fp) := ⟨A.nm, A.pl, A.su⟩
end
end Rc
end Z_Rc8f
section Z_Rc8g
set_option Elab.async false
set_option linter.all false
set_option maxRecDepth 100000
set_option autoImplicit false
namespace Rc
open PySem PySem.Spec PyProof.Rows L2
def drwK (r : Dr) (s : S) : List (Key × V) := [(kLarge, .ref r.l), (kRest, .int s.rest), (kCells, .ref r.c), (kTurn, .int s.turn)]
theorem key_str {a b : Str} (h : a ≠ b) : ¬ (Sum.inr a : Key) = Sum.inr b := fun z => h (Sum.inr.inj z)
section
variable {r : Dr} {s : S}
theorem drw_large : valV (drwK r s) kLarge = some (.ref r.l) := valV_pos rfl
theorem drw_rest : valV (drwK r s) kRest = some (.int s.rest) := by
  unfold drwK
  rw [valV_neg (key_str (by decide)), valV_pos rfl]
theorem drw_cells : valV (drwK r s) kCells = some (.ref r.c) := by
  unfold drwK
  rw [valV_neg (key_str (by decide)), valV_neg (key_str (by decide)), valV_pos rfl]
theorem drw_turn : valV (drwK r s) kTurn = some (.int s.turn) := by
  unfold drwK
  rw [valV_neg (key_str (by decide)), valV_neg (key_str (by decide)), valV_neg (key_str (by decide)), valV_pos rfl]
theorem drw_putR (n : Int) : putK (drwK r s) kRest (.int n) = drwK r { s with rest := n } := by
  have h : ((drwK r s).any fun kv => decide (kv.1 = kRest)) = true := by rw [valV_any, drw_rest]; rfl
  unfold putK
  rw [if_pos h]
  simp only [drwK, List.map_cons, List.map_nil]
  rw [if_neg (show ¬ kLarge = kRest from key_str (by decide)), if_pos True.intro, if_neg (show ¬ kCells = kRest from key_str (by decide)), if_neg (show ¬ kTurn = kRest from key_str (by decide))]
theorem drw_putT (n : Int) : putK (drwK r s) kTurn (.int n) = drwK r { s with turn := n } := by
  have h : ((drwK r s).any fun kv => decide (kv.1 = kTurn)) = true := by rw [valV_any, drw_turn]; rfl
  unfold putK
  rw [if_pos h]
  simp only [drwK, List.map_cons, List.map_nil]
  rw [if_neg (show ¬ kLarge = kTurn from key_str (by decide)), if_neg (show ¬ kRest = kTurn from key_str (by decide)), if_neg (show ¬ kCells = kTurn from key_str (by decide)), if_pos True.intro]
end
section
variable {w : Wd} {H0 G0 : Hp} {σ : L2.St} {H G : Hp} {ow : Nat → List Addr} {c : Cfg}
/-- the draws change -/
theorem Rp.onDr (R : Rp w H0 G0 σ H G ow c) {H' : Hp} {s' : S} (same : ∀ a, ¬ w.dr.has a → H' a = H a) (d : RepS H' w.dr s') : Rp w H0 G0 σ H' G ow ⟨c.env, s'⟩ where
  g0 := R.g0
  new := R.new
  gh := fun a o e => by
    obtain ⟨h1, h2⟩ := R.gh a o e
    refine ⟨h1, ?_⟩
    rw [same a h1]; exact h2
  ext := fun a o e n => by rw [same a n]; exact R.ext a o e n
  dr := d
  len := R.len
  slot := fun i s e => by
    have q := R.slot i s e
    have k : ∀ a ∈ ow i, H' a = H a := fun a m => same a (R.own i a m).2.2.1
    cases s with
    | none => exact q
    | fz d => exact q
    | ol l =>
      obtain ⟨b, vs, h1, h2, h3, h4⟩ := q
      exact ⟨b, vs, h1, h2, by rw [k b (by rw [h2]; simp)]; exact h3, h4⟩
    | od l =>
      obtain ⟨b, h1, h2, h3⟩ := q
      refine ⟨b, h1, h2, ?_⟩
      rw [k b (by rw [h2]; simp)]; exact h3
    | oll l => exact q
    | onn l => exact q
    | ali i j => exact q
  own := fun i a m => by
    obtain ⟨h1, h2, h3, h4⟩ := R.own i a m
    exact ⟨h1, h2, h3, by rw [same a h3]; exact h4⟩
  dis := R.dis
theorem RepD.setD {r : Dr} {s s' : S} (d : RepD H r s) (h1 : s'.large = s.large) (h2 : s'.cells = s.cells) (nl : r.d ≠ r.l) (nc : r.d ≠ r.c) : RepD (L2.upd H r.d (.dK (drwK r s'))) r s' :=
  ⟨upd_same, by rw [upd_ne (Ne.symm nl), h1]; exact d.l, by rw [upd_ne (Ne.symm nc), h2]; exact d.c, d.ne, by rw [h2]; exact d.cs⟩
theorem RepD.nl {r : Dr} {s : S} (d : RepD H r s) : r.d ≠ r.l := fun z => by
  have e := d.d
  rw [z, d.l] at e; cases e
theorem RepD.nc {r : Dr} {s : S} (d : RepD H r s) : r.d ≠ r.c := fun z => by
  have e := d.d
  rw [z, d.c] at e; cases e
end
section
variable {g : Gx} {sem : Nat → List D → S → CRes} {fuel : Nat} {n q : Nat} {X : Cx} {W : WX} {tg : Expr}
def tDrw (g : Gx) (i : Nat) (k : Str) : TE := fun σ H Q => ∃ r H0 G0 G ow c v, Rp (g.wd r) H0 G0 σ H G ow c ∧ c.env[i]? = some (.fz .drw) ∧ valV (drwK r c.s) (.inr k) = some v ∧ Q v H
theorem pe_drw {i : Nat} {x k : Str} {j : Nat} {p p2 pos : Pos} (hr : Room n X.A) (hN : X.N[i]? = some x) (hv : Vis X.env.scope x) (hd : (x == ("__debug__" : Str)) = false) (hcd : (x == ("__classdict__" : Str)) = false) (hs : NoSl (.Constant (.str k) j p2)) :
    PE X (.Subscript (.Name x p) (.Constant (.str k) j p2) pos) (tDrw g i k) := by
  have hu := hr.un
  refine PE.wk (pe_dget (by omega) (pe_var hN hv hd hcd) pe_str hs) fun σ H Q h => ?_
  obtain ⟨r, H0, G0, G, ow, c, v, R, e, hval, q⟩ := h
  obtain ⟨_, v0, hv0, i0⟩ := R.slot i _ e
  cases i0 with | drw on =>
  refine ⟨_, R.at hv0, r.d, v, rfl, ?_, q⟩
  have z := DGet.k (k := .inr k) (show H r.d = some (.dK (drwK r c.s)) from (R.dr on).d)
  rw [hval] at z
  exact z
theorem s_dget {i : Nat} {x k : Str} {j : Nat} {p p2 pos : Pos} {f : Df} (hk : k = (match f with | .rest => "rest" | .turn => "turn")) (hr : Room n X.A) (hN : X.N[i]? = some x) (hv : Vis X.env.scope x) (hd : (x == ("__debug__" : Str)) = false) (hcd : (x == ("__classdict__" : Str)) = false) (hs : NoSl (.Constant (.str k) j p2)) :
    PE X (.Subscript (.Name x p) (.Constant (.str k) j p2) pos) (rd g sem (.dget i f) W) := by
  refine PE.wk (pe_drw (g := g) hr hN hv hd hcd hs) fun σ H Q h => ?_
  obtain ⟨r, H0, G0, G, ow, c, R, h⟩ := h
  rw [Rc.ev.eq_def] at h
  simp only at h
  split at h
  · rename_i e
    cases f with
    | rest =>
      cases hk
      exact ⟨r, H0, G0, G, ow, c, _, R, e, drw_rest, Lands.of h R (Le.refl _) (.int _) fun _ => Kp.refl _ _⟩
    | turn =>
      cases hk
      exact ⟨r, H0, G0, G, ow, c, _, R, e, drw_turn, Lands.of h R (Le.refl _) (.int _) fun _ => Kp.refl _ _⟩
  · exact h.elim
theorem Rp.on {w : Wd} {H0 G0 : Hp} {σ : L2.St} {H G : Hp} {ow : Nat → List Addr} {c : Cfg} (R : Rp w H0 G0 σ H G ow c) {i : Nat} (e : c.env[i]? = some (.fz .drw)) : w.dr.on = true := by
  obtain ⟨_, v0, _, i0⟩ := R.slot i _ e
  cases i0 with
  | drw on => exact on
theorem i_cells {i : Nat} {x k : Str} {j : Nat} {p p2 pos : Pos} (hk : k = "cells") (hr : Room n X.A) (hN : X.N[i]? = some x) (hv : Vis X.env.scope x) (hd : (x == ("__debug__" : Str)) = false) (hcd : (x == ("__classdict__" : Str)) = false) (hs : NoSl (.Constant (.str k) j p2)) :
    PI X tg (.Subscript (.Name x p) (.Constant (.str k) j p2) pos) (rdI g sem (.cells i) W) := by
  subst hk
  refine PI.wk (pi_list (pe_drw (g := g) hr hN hv hd hcd hs)) fun σ H Q h => ?_
  obtain ⟨r, H0, G0, G, ow, c, R, h⟩ := h
  rw [evSrc] at h
  split at h
  · rename_i e
    have on : r.on = true := R.on e
    refine ⟨r, H0, G0, G, ow, c, _, R, e, drw_cells, r.c, rfl, ⟨_, .inl (.inl (R.dr on).c)⟩, h _ H G ow R (Le.refl _) (fun _ => Kp.refl _ _) ?_⟩
    intro H0 σ2 H2 G2 ow2 c2 i2 R2 l2
    have ec : c.s.cells = c2.s.cells := (R.dr on).cs.trans (R2.dr on).cs.symm
    have hs2 : SqL X.K H2 r.c (c2.s.cells.map V.int) := .inl (.inl (R2.dr on).c)
    rw [ec]
    refine ⟨fun z => ⟨_, hs2, by simpa using z⟩, fun d e => ?_⟩
    rw [List.getElem?_map] at e
    obtain ⟨m, e0, rfl⟩ := Option.map_eq_some_iff.mp e
    have e1 : (c2.s.cells.map V.int)[i2]? = some (.int m) := by rw [List.getElem?_map, e0]; rfl
    refine ⟨⟨_, _, hs2, e1⟩, fun y H' yy => ?_⟩
    obtain ⟨rfl, q⟩ := yy
    rw [at_eq (q _ hs2) e1]
    exact ⟨G2, R2, Le.refl _, .int _, Kp.refl _ _⟩
  · exact h.elim
theorem c_dset {i : Nat} {x k : Str} {j : Nat} {p p2 pos pos' : Pos} {f : Df} {ea : E} {e : Expr} (hk : k = (match f with | .rest => "rest" | .turn => "turn")) (hr : Room n X.A) (hN : X.N[i]? = some x) (hv : Vis X.env.scope x) (hd : (x == ("__debug__" : Str)) = false) (hcd : (x == ("__classdict__" : Str)) = false)
    (he : PE X e (rd g sem ea W)) (hs : swapsWith e (some (.Subscript (.Name x p) (.Constant (.str k) j p2) pos')) pos.line X.env = pure false) : PS X (.Assign [.Subscript (.Name x p) (.Constant (.str k) j p2) pos'] e pos) (rdC g sem fuel (.dset i f ea) W) := by
  have hu := hr.un
  refine PS.wk (ps_dput (by omega) (pe_var hN hv hd hcd) pe_str he hs) fun D σ H h => ?_
  obtain ⟨r, H0, G0, G, ow, c, R, h⟩ := h
  rw [exec] at h
  refine ⟨r, H0, G0, G, ow, c, R, (RunS.to h).mono fun o c' k' v H' G' ow' R' l O K => ?_⟩
  split at k'
  · rename_i nn e
    have hv := Is.int_inv (show Is (g.wd r) G' v (.int nn) from O)
    subst hv
    obtain ⟨_, v0, hv0, i0⟩ := R'.slot i _ e
    cases i0 with | drw on =>
    have eD : H' r.d = some (.dK (drwK r c'.s)) := (R'.dr on).d
    have hl : (drwK r c'.s).length < sizeLine := by rw [sizeLine_eq]; show 4 < _; omega
    have sm : ∀ o, ∀ a, ¬ (g.wd r).dr.has a → L2.upd H' r.d o a = H' a := fun o a n => upd_ne fun z => n ⟨on, .inl z⟩
    cases f with
    | rest =>
      cases hk
      refine ⟨_, R'.at hv0, r.d, _, rfl, DPut.k (k := kRest) (v := .int nn) eD hl, ?_⟩
      rw [drw_putR]
      exact k' σ _ G' ow' (R'.onDr (sm _) fun on => ((R'.dr on).setD rfl rfl (R'.dr on).nl (R'.dr on).nc)) l
    | turn =>
      cases hk
      refine ⟨_, R'.at hv0, r.d, _, rfl, DPut.k (k := kTurn) (v := .int nn) eD hl, ?_⟩
      rw [drw_putT]
      exact k' σ _ G' ow' (R'.onDr (sm _) fun on => ((R'.dr on).setD rfl rfl (R'.dr on).nl (R'.dr on).nc)) l
  · exact k'.elim
theorem dp_ints {K : PySem.W.Frag} {H : Hp} : ∀ ns : List Int, DpAll K H (ns.map V.int) (ns.map PyData.int)
  | [] => .nil
  | n :: r => .cons (.int n) (dp_ints r)
/-- are there large numbers left? -/
theorem s_dlarge {i : Nat} {x k : Str} {j : Nat} {p p2 p3 pl pos : Pos} (hk : k = "large") (hr : Room n X.A) (hN : X.N[i]? = some x) (hv : Vis X.env.scope x) (hd : (x == ("__debug__" : Str)) = false) (hcd : (x == ("__classdict__" : Str)) = false) (hs : NoSl (.Constant (.str k) j p2))
    (hm : behindInMarks .NotEq (.List [] pl) = false) : PE X (.Compare (.Subscript (.Name x p) (.Constant (.str k) j p2) p3) [.NotEq] [.List [] pl] pos) (rd g sem (.dlarge i) W) := by
  subst hk
  have hu := hr.un
  refine PE.wk (pe_cmpR ((op_neN (X := X) (by omega)).or (op_neD (by omega))) (pe_drw (g := g) hr hN hv hd hcd hs) (pe_lst pa_nil) hm) fun σ H Q h => ?_
  obtain ⟨r, H0, G0, G, ow, c, R, h⟩ := h
  rw [ev] at h
  split at h
  · rename_i e
    have on : r.on = true := R.on e
    refine ⟨r, H0, G0, G, ow, c, _, R, e, drw_large, Nat.zero_le _, fun q hq => ?_⟩
    have R1 := R.upd (o := .lst []) hq
    have el : L2.upd H q (.lst []) r.l = some (.lst (c.s.large.map .int)) := by rw [upd_ne (ne_of_none (R.dr on).l hq)]; exact (R.dr on).l
    have fin : Q (.bl (!c.s.large.isEmpty)) (L2.upd H q (.lst [])) := h _ _ G ow R1 (Le.refl _) (.bl _) fun _ => Kp.new hq
    cases hl : c.s.large with
    | nil =>
      rw [hl] at el fin
      refine .inr ⟨.list [], .list [], .lst (.inl (.inl el)) .nil, .lst (.inl (.inl upd_same)) .nil, by decide +kernel, by decide +kernel, ?_⟩
      simpa [PyData.eqv, PyData.eqvAll] using fin
    | cons z zs =>
      rw [hl] at el fin
      exact .inl ⟨r.l, q, _, [], rfl, rfl, .inl el, .inl upd_same, by simp, fin⟩
  · exact h.elim
theorem t_dlarge {i : Nat} {x k : Str} {j : Nat} {p p2 p3 pl pos : Pos} (hk : k = "large") (hr : Room n X.A) (hN : X.N[i]? = some x) (hv : Vis X.env.scope x) (hd : (x == ("__debug__" : Str)) = false) (hcd : (x == ("__classdict__" : Str)) = false) (hs : NoSl (.Constant (.str k) j p2))
    (hm : behindInMarks .NotEq (.List [] pl) = false) : PT X (.Compare (.Subscript (.Name x p) (.Constant (.str k) j p2) p3) [.NotEq] [.List [] pl] pos) (rdT g sem (.dlarge i) W) := by
  subst hk
  have hu := hr.un
  refine PT.wk (pt_cmpR ((op_neN (X := X) (by omega)).or (op_neD (by omega))) (pe_drw (g := g) hr hN hv hd hcd hs) (pe_lst pa_nil) hm) fun σ H Q h => ?_
  obtain ⟨r, H0, G0, G, ow, c, R, h⟩ := h
  rw [ev] at h
  split at h
  · rename_i e
    have on : r.on = true := R.on e
    refine ⟨r, H0, G0, G, ow, c, _, R, e, drw_large, Nat.zero_le _, fun q hq => ?_⟩
    have R1 := R.upd (o := .lst []) hq
    have el : L2.upd H q (.lst []) r.l = some (.lst (c.s.large.map .int)) := by rw [upd_ne (ne_of_none (R.dr on).l hq)]; exact (R.dr on).l
    have fin : ∃ k, V.bl (!c.s.large.isEmpty) = .bl k ∧ Q k (L2.upd H q (.lst [])) := ⟨_, rfl, h _ G ow R1 (Le.refl _) fun _ => Kp.new hq⟩
    cases hl : c.s.large with
    | nil =>
      rw [hl] at el fin
      refine .inr ⟨.list [], .list [], .lst (.inl (.inl el)) .nil, .lst (.inl (.inl upd_same)) .nil, by decide +kernel, by decide +kernel, ?_⟩
      simpa [PyData.eqv, PyData.eqvAll] using fin
    | cons z zs =>
      rw [hl] at el fin
      exact .inl ⟨r.l, q, _, [], rfl, rfl, .inl el, .inl upd_same, by simp, fin⟩
  · exact h.elim
theorem s_dpop {i : Nat} {x k : Str} {j j2 : Nat} {p p2 p3 p4 apos cpos : Pos} (hk : k = "large") (hr : Room n X.A) (hN : X.N[i]? = some x) (hv : Vis X.env.scope x) (hd : (x == ("__debug__" : Str)) = false) (hcd : (x == ("__classdict__" : Str)) = false) (hs : NoSl (.Constant (.str k) j p2))
    (hbase : attributeBase (.Subscript (.Name x p) (.Constant (.str k) j p2) p3) "pop" X.env (eval (.Subscript (.Name x p) (.Constant (.str k) j p2) p3) X.env) = eval (.Subscript (.Name x p) (.Constant (.str k) j p2) p3) X.env)
    (hfew : ((backTo cpos (starEach [Expr.Constant (.int 0) j2 p4] X.env)).all (fun x => !x.1) && (backToKw cpos (keywordEach [] X.env)).all (fun x => x.1.isSome) && decide ([Expr.Constant (.int 0) j2 p4].length + ([] : List Keyword).length + (if ([] : List Keyword).isEmpty then 0 else 1) < 30)) = true)
    (hline : (apos.endLine == cpos.line) = true) (hst : starEach [Expr.Constant (.int 0) j2 p4] X.env = (false, eval (.Constant (.int 0) j2 p4) X.env) :: starEach [] X.env) (hpl : (backTo cpos (starEach [] X.env)).any (·.1) = false) :
    PE X (.Call (.Attribute (.Subscript (.Name x p) (.Constant (.str k) j p2) p3) "pop" apos) [.Constant (.int 0) j2 p4] [] cpos) (rd g sem (.dpop i) W) := by
  subst hk
  refine PE.wk (pe_bm PySem.F.plainAttrs_list PySem.F.slot_list_pop PySem.F.type_list_pop mt_popAt (pe_drw (g := g) hr hN hv hd hcd hs) (pa_cons pe_int pa_nil hst) hbase hfew hline hst hpl) fun σ H Q h => ?_
  obtain ⟨r, H0, G0, G, ow, c, R, h⟩ := h
  rw [ev] at h
  split at h
  · rename_i e
    have on : r.on = true := R.on e
    refine ⟨r, H0, G0, G, ow, c, _, R, e, drw_large, .inl ⟨rfl, _, .inl (.inl (R.dr on).l)⟩, ?_⟩
    split at h
    · rename_i z zs hl
      have el := (R.dr on).l
      rw [hl] at el
      refine ⟨r.l, _, 0, 0, .int z, rfl, rfl, el, by omega, by omega, by simp [seqIndex?], rfl, ?_⟩
      have R1 : Rp (g.wd r) H0 G0 σ (L2.upd H r.l (.lst (zs.map .int))) G ow ⟨c.env, { c.s with large := zs }⟩ :=
        R.onDr (fun a n => upd_ne fun y => n ⟨on, .inr (.inl y)⟩) fun _ => ⟨by rw [upd_ne (R.dr on).nl]; exact (R.dr on).d, upd_same, by rw [upd_ne (Ne.symm (R.dr on).ne)]; exact (R.dr on).c, (R.dr on).ne, (R.dr on).cs⟩
      exact h _ _ G ow R1 (Le.refl _) (.int _) fun z => by simp [nomut] at z
    · exact h.elim
  · exact h.elim
end
end Rc
end Z_Rc8g
section Z_Rc9
set_option Elab.async false
set_option linter.all false
set_option maxRecDepth 100000
set_option autoImplicit false
namespace Rc
open PySem PySem.Spec PyProof.Rows L2
section
variable {P : Program} {w : World} {K : PySem.W.Frag} {mg : Str → Option Value} {base : Heap} {x qual : Str} {params : Arguments} {body : List Stmt} {scope : Scope} {dvs : List V} {kws : List (Str × V)} {f : Addr} {fd : FuncData} {N ps : List Str} {k : Nat} {sp : Sp} {CT : CXT}
/-- a def by its body, where no repr runs further out -/
theorem fnG_of (F : FunD K x qual params body scope dvs kws f fd) (S : FnScope N ps scope) (len : ∀ vs H Q E, sp vs H Q E → vs.length = ps.length)
    (hb : ∀ (cdv : Value) (A : Around) (outer : List Env) (s : Shared) (H : Hp) (vs : List V) (Q : VK) (E : XK), A.guards = some [] → Room k (A.deeper (envOfC qual scope s.heap.objs.size f cdv)) → sp vs H Q E →
      ∃ t, PSs (cxOf CT P w K mg base N qual scope f cdv A outer s H E) body t ∧ t { nx := fun _ H' => Q .non H', rt := Q } (L2.start N vs) H) : FnG P w K mg base CT (k + 1) f fd ps sp := by
  obtain ⟨oc, od, dV, kV, doc, pm, an, cdv, ct, osl, rfl, lk, hcd, _, _⟩ := F.ex
  constructor
  · exact len
  intro A outer s H args us vs Q E gu rm e0 bt rv hsp
  have nn := len vs H Q E hsp
  have toS : ∀ b o, base.get? b = some o → s.heap.get? b = some o := fun b o e => (e0.bs b o e).1
  have KS : K.In s.heap := e0.mod.kin.keeps toS
  have lim : s.heap.NoLimit := e0.mod.nolimit.keeps toS
  refine codeAny_call_function rm.depth (KS _ _ lk) rfl S.co S.gen rfl (PySem.W.codeRec_of KS hcd) (bt _ _ _ _ ?_)
  refine wpAny_newFunctionEnv_cells S.kind (fun y hy => ?_) fun env he s1 inC => ?_
  · obtain ⟨m, v⟩ := y
    rcases S.par m (List.of_mem_zip hy).1 with z | z
    · exact .inl z
    · exact .inr ⟨z, PySem.W.cellsFrom_some _ _ _ (.inl z)⟩
  subst he
  refine ⟨lim.keeps inC.toInCall.keep, codeAny_func ?_⟩
  obtain ⟨t, ht, hq⟩ := hb cdv A outer s H vs Q E gu (rm.deeper _) hsp
  have I0 : Inv (cxOf CT P w K mg base N qual scope f cdv A outer s H E) [] (L2.start N vs) H s1 := inv_start S rm.hd e0 nn rv inC
  refine wpAny_mono (ht.run [] s1 _ H _ I0 hq) (fun fl s2 h2 => ?_) fun _ _ z => z
  match fl, h2 with
  | .ret u, ⟨v, σ', H', J, ru, q⟩ => exact ⟨v, H', J.os, J.bare, J.base, J.hok, ru, q⟩
  | .next, ⟨σ', H', J, q⟩ => exact ⟨.non, H', J.os, J.bare, J.base, J.hok, rfl, q⟩
  | .brk, ⟨_, _, _, q⟩ => exact q.elim
  | .cont, ⟨_, _, _, q⟩ => exact q.elim
end

/-- a def's promise, by the world's parts -/
def FnB (g : Gx) (P : Program) (w : World) (K : PySem.W.Frag) (mg : Str → Option Value) (base : Heap) (n : Nat) (x : Str) (F : List D → S → CRes) : Prop :=
  ∃ f fd ps, (∀ xs s, F xs s ≠ .bad → xs.length = ps.length) ∧ mg x = some (.ref f) ∧ PySem.W.keepIn K (.ref f) = true ∧ Binds K fd ps [] ∧ FnG P w K mg base (L2.CX P w) n f fd ps (spF g ps.length F)
/-- what stands at the top -/
structure Top (g : Gx) (P : Program) (K : PySem.W.Frag) (mg : Str → Option Value) : Prop where
  blt : ∀ x ∈ g.T.blt, mg x = none ∧ x ≠ ("__name__" : Str)
  con : ∀ p ∈ g.T.con, ∃ t, mg p.1 = some (.int p.2 t)
  cl : ∀ X : Cx, X.K = K → ClA g X
  er : ∀ X : Cx, X.prog = P → X.K = K → X.mg = mg → ErA g X
  sm : ∃ o, K.lookup sysModules = some o
/-- a context for a def's body -/
structure CtxA (g : Gx) (sem : Nat → List D → S → CRes) (n : Nat) (X : Cx) : Prop where
  a : CxA g sem n 2 X
  cl : ClA g X
  er : ErA g X
  sm : ∃ o, X.K.lookup sysModules = some o
theorem start_at {N : List Str} {vs : List V} {i : Nat} {v : V} (h : vs[i]? = some v) : (L2.start N vs)[i]? = some (some v) := by
  have hl := (List.getElem?_eq_some_iff.mp h).1
  unfold L2.start
  rw [List.getElem?_append_left (by simpa using hl), List.getElem?_map, h]; rfl
section
variable {g : Gx} {P : Program} {w : World} {K : PySem.W.Frag} {mg : Str → Option Value} {base : Heap} {x qual : Str} {params : Arguments} {body : List Stmt} {scope : Scope} {f : Addr} {fd : FuncData} {N ps : List Str} {sem : Nat → List D → S → CRes} {n fuel : Nat} {df : Df0}
/-- a frame's state at the entry -/
theorem Rp.enter {r : Dr} {s : S} {H G : Hp} {vs : List V} {ds : List D} (d : RepS H r s) (l : LeR r G H) (i : IsL (g.wd r) G vs ds) (hs : df.size = N.length) (hp : ds.length ≤ N.length) : Rp (g.wd r) H G (L2.start N vs) H G (fun _ => []) ⟨frame df.size ds, s⟩ where
  g0 := Le.refl G
  new := fun a h => .inl h
  gh := l
  ext := fun _ _ h _ => h
  dr := d
  len := by
    show (L2.start N vs).length = (frame df.size ds).length
    unfold L2.start frame
    rw [List.length_append, List.length_append, List.length_map, List.length_map, List.length_replicate, List.length_replicate, i.length, hs]
  slot := fun j s' e => by
    have e' : (ds.map Slot.fz ++ List.replicate (df.size - ds.length) Slot.none)[j]? = some s' := e
    by_cases hj : j < ds.length
    · rw [List.getElem?_append_left (by simpa using hj), List.getElem?_map, List.getElem?_eq_getElem hj] at e'
      have e2 : Slot.fz ds[j] = s' := Option.some.inj e'
      subst e2
      obtain ⟨v, h1, h2⟩ := i.get (List.getElem?_eq_getElem hj)
      exact ⟨rfl, v, by rw [start_at h1]; rfl, h2⟩
    · rw [List.getElem?_append_right (by simpa using hj)] at e'
      rw [List.getElem?_replicate] at e'
      split at e'
      · cases e'; exact rfl
      · cases e'
  own := fun j a m => nomatch m
  dis := fun i j a m _ => nomatch m
theorem def_ok (F : FunD K x qual params body scope [] [] f fd) (Sc : FnScope N ps scope) (hp : df.par = ps.length) (hs : df.size = N.length) (T : Top g P K mg) (fns : ∀ (j : Nat) (y : Str), g.T.fnm[j]? = some y → FnB g P w K mg base (3 * n) y (sem j))
    (hb : ∀ (cdv : Value) (A : Around) (outer : List Env) (s : Shared) (H : Hp) (E : XK), CtxA g sem n (cxOf (L2.CX P w) P w K mg base N qual scope f cdv A outer s H E) →
      PSs (cxOf (L2.CX P w) P w K mg base N qual scope f cdv A outer s H E) body (rdCs g sem fuel df.body (fun cl dd _ H => E cl dd H))) :
    FnG P w K mg base (L2.CX P w) (3 * (n + 1)) f fd ps (spF g ps.length (runD g.P sem fuel df)) := by
  refine fnG_of (k := 3 * n + 2) F Sc (fun vs H Q E h => h.1) fun cdv A outer s H vs Q E gu rm hsp => ?_
  have C : CtxA g sem n (cxOf (L2.CX P w) P w K mg base N qual scope f cdv A outer s H E) :=
    ⟨⟨Sc.nd, rfl, gu, rm, T.blt, T.con, fun j y h => ⟨fns j y h⟩⟩, T.cl _ rfl, T.er _ rfl rfl rfl, T.sm⟩
  refine ⟨_, hb cdv A outer s H E C, ?_⟩
  obtain ⟨hl, r, st, G, ds, d, l, i, h⟩ := hsp
  have hpn : ps.length ≤ N.length := by
    have z := congrArg List.length Sc.pre
    rw [List.length_take] at z
    omega
  have hdl : ds.length = ps.length := by rw [← i.length]; exact hl
  refine ⟨r, H, G, G, _, _, Rp.enter d l i hs (by rw [hdl]; exact hpn), ?_⟩
  unfold runD at h
  rw [if_pos (by rw [hdl]; exact hp.symm)] at h
  show RunS (g.wd r) g.P.attr H G G _ _ (execs g.P sem fuel df.body ⟨frame df.size ds, st⟩)
  cases e : execs g.P sem fuel df.body ⟨frame df.size ds, st⟩ with
  | nx c =>
    rw [e] at h
    exact fun σ' H' G' ow' R' _ => h .non H' G' R'.err .non
  | ret v s' =>
    rw [e] at h
    exact fun v H' G' er iv => h v H' G' er iv
  | exc k a s' =>
    rw [e] at h
    exact fun σ' cl dd H' G' er ie => h cl dd H' G' er ie
  | brk c => rw [e] at h; exact h.elim
  | cnt c => rw [e] at h; exact h.elim
  | bad => rw [e] at h; exact h.elim
/-- one def of the text -/
structure DefI (g : Gx) (fuel : Nat) (fs : Nat → Option Df0) (P : Program) (w : World) (K : PySem.W.Frag) (mg : Str → Option Value) (base : Heap) (j : Nat) (y : Str) : Prop where
  ex : ∃ (df : Df0) (x qual : Str) (params : Arguments) (body : List Stmt) (scope : Scope) (f : Addr) (fd : FuncData) (N ps : List Str), fs j = some df ∧ FunD K x qual params body scope [] [] f fd ∧ FnScope N ps scope ∧ df.par = ps.length ∧ df.size = N.length ∧ mg y = some (.ref f) ∧ Binds K fd ps [] ∧
    ∀ (sem : Nat → List D → S → CRes) (n : Nat) (cdv : Value) (A : Around) (outer : List Env) (s : Shared) (H : Hp) (E : XK), CtxA g sem n (cxOf (L2.CX P w) P w K mg base N qual scope f cdv A outer s H E) →
      PSs (cxOf (L2.CX P w) P w K mg base N qual scope f cdv A outer s H E) body (rdCs g sem fuel df.body (fun cl dd _ H => E cl dd H))
theorem all_ok {fs : Nat → Option Df0} (T : Top g P K mg) (ds : ∀ (j : Nat) (y : Str), g.T.fnm[j]? = some y → DefI g fuel fs P w K mg base j y) : ∀ (n j : Nat) (y : Str), g.T.fnm[j]? = some y → FnB g P w K mg base (3 * n) y (run g.P fuel fs n j)
  | 0, j, y, h => by
    obtain ⟨df, x, qual, params, body, scope, f, fd, N, ps, h1, F, Sc, h2, h3, h4, h5, h6⟩ := (ds j y h).ex
    refine ⟨f, fd, ps, fun xs s z => absurd rfl z, h4, F.kp, h5, ⟨fun vs H Q E h => h.1, fun A outer s H args us vs Q E _ _ _ _ _ hsp => ?_⟩⟩
    obtain ⟨_, r, st, G, dd, _, _, _, hh⟩ := hsp
    exact hh.elim
  | n + 1, j, y, h => by
    obtain ⟨df, x, qual, params, body, scope, f, fd, N, ps, h1, F, Sc, h2, h3, h4, h5, h6⟩ := (ds j y h).ex
    have e : run g.P fuel fs (n + 1) j = runD g.P (run g.P fuel fs n) fuel df := by
      funext xs s
      rw [run, h1]
    refine ⟨f, fd, ps, fun xs s z => ?_, h4, F.kp, h5, ?_⟩
    · rw [e] at z
      unfold runD at z
      split at z
      · rename_i hl
        rw [hl]; exact h2
      · exact absurd rfl z
    · rw [e]
      exact def_ok F Sc h2 h3 T (fun j y h => all_ok T ds n j y h) fun cdv A outer s H E C => h6 _ n cdv A outer s H E C
end
/-- what a def's body may let out is taken -/
theorem takes_cx {P : Program} {w : World} {K : PySem.W.Frag} {mg : Str → Option Value} {base : Heap} {N : List Str} {qual : Str} {scope : Scope} {f : Addr} {cdv : Value} {A : Around} {outer : List Env} {s : Shared} {H : Hp} {E : XK} :
    Takes (cxOf (L2.CX P w) P w K mg base N qual scope f cdv A outer s H E) (fun cl dd _ H => E cl dd H) := takes_of rfl rfl rfl rfl
theorem passes_cx {P : Program} {w : World} {K : PySem.W.Frag} {mg : Str → Option Value} {base : Heap} {N : List Str} {qual : Str} {scope : Scope} {f : Addr} {cdv : Value} {A : Around} {outer : List Env} {s : Shared} {H : Hp} {E : XK} :
    PassesOwn (model (cxOf (L2.CX P w) P w K mg base N qual scope f cdv A outer s H E).prog (cxOf (L2.CX P w) P w K mg base N qual scope f cdv A outer s H E).w) (cxOf (L2.CX P w) P w K mg base N qual scope f cdv A outer s H E).A (cxOf (L2.CX P w) P w K mg base N qual scope f cdv A outer s H E).env (cxOf (L2.CX P w) P w K mg base N qual scope f cdv A outer s H E).xe := passes_of rfl
end Rc
end Z_Rc9
section Z_Rc9b
set_option Elab.async false
set_option linter.all false
set_option maxRecDepth 100000
set_option autoImplicit false
namespace Rc
open PySem PySem.Spec PyProof.Rows L2
section
variable {κ : Type} [DecidableEq κ]
theorem putK_hit {r : List (κ × V)} {k : κ} {v v0 : V} (h : k ∉ r.map (·.1)) : putK ((k, v0) :: r) k v = (k, v) :: r := by
  unfold putK
  rw [if_pos (by simp), List.map_cons, if_pos rfl]
  congr 1
  have e : ∀ p ∈ r, (if p.1 = k then (p.1, v) else p) = p := fun p hp => if_neg fun z => h (by rw [← z]; exact List.mem_map_of_mem hp)
  rw [List.map_congr_left e, List.map_id']
theorem putK_miss {r : List (κ × V)} {k0 k : κ} {v v0 : V} (h : k0 ≠ k) : putK ((k0, v0) :: r) k v = (k0, v0) :: putK r k v := by
  unfold putK
  have e : (((k0, v0) :: r).any fun kv => decide (kv.1 = k)) = r.any fun kv => decide (kv.1 = k) := by simp [h]
  rw [e]
  split
  · rw [List.map_cons, if_neg h]
  · rfl
theorem putK_keys {r : List (κ × V)} {k : κ} {v : V} (h : (r.map (·.1)).Nodup) : ((putK r k v).map (·.1)).Nodup ∧ ∀ j, j ∈ (putK r k v).map (·.1) → j ∈ r.map (·.1) ∨ j = k := by
  induction r with
  | nil => simp [putK]
  | cons p r ih =>
    obtain ⟨k0, v0⟩ := p
    rw [List.map_cons, List.nodup_cons] at h
    obtain ⟨ih1, ih2⟩ := ih h.2
    by_cases z : k0 = k
    · subst z
      rw [putK_hit h.1]
      exact ⟨by rw [List.map_cons, List.nodup_cons]; exact h, fun j hj => .inl hj⟩
    · rw [putK_miss z]
      refine ⟨?_, fun j hj => ?_⟩
      · rw [List.map_cons, List.nodup_cons]
        refine ⟨fun m => ?_, ih1⟩
        rcases ih2 _ m with q | q
        · exact h.1 q
        · exact z q
      · rw [List.map_cons, List.mem_cons] at hj ⊢
        rcases hj with hj | hj
        · exact .inl (.inl hj)
        · rcases ih2 _ hj with q | q
          · exact .inl (.inr q)
          · exact .inr q
end
theorem keyEq_flat {a b : D} {i j : Key} (ha : keyD a = some (.inr i)) (hb : keyD b = some (.inr j)) : keyEq a b = some (decide (i = j)) := by
  unfold keyEq
  rw [ha, hb]
theorem isK_put {w : Wd} {G : Hp} {q d : D} {k : Key} {v : V} (hk : keyD q = some (.inr k)) (hv : Is w G v d) : ∀ {kvs : List (Key × V)} {ds ds' : List (D × D)}, IsK w G kvs ds → (kvs.map (·.1)).Nodup → dPut q d ds = some ds' → IsK w G (putK kvs k v) ds'
  | _, _, _, .nil, _, e => by
    unfold dPut at e
    rw [hk] at e
    cases e
    exact .cons hk hv .nil
  | _, _, ds', .cons (k := k0) (v := v0) (vs := vs) (q := q0) (d := d0) (ds := ds) h1 h2 h3, hn, e => by
    unfold dPut at e
    rw [keyEq_flat h1 hk] at e
    rw [List.map_cons, List.nodup_cons] at hn
    by_cases z : k0 = k
    · subst z
      rw [decide_eq_true rfl] at e
      cases e
      rw [putK_hit hn.1]
      exact .cons h1 hv h3
    · rw [decide_eq_false z] at e
      dsimp only at e
      split at e
      · rename_i t ht
        cases e
        rw [putK_miss z]
        exact .cons h1 h2 (isK_put hk hv h3 hn.2 ht)
      · cases e
section
variable {g : Gx} {sem : Nat → List D → S → CRes} {fuel : Nat} {n q : Nat} {X : Cx} {W : WX}
theorem s_dct0 {pos : Pos} : PE X (.Dict [] [] pos) (rd g sem (.dct .nil) W) := by
  refine PE.wk pe_dnewK fun σ H Q h p hp => ?_
  obtain ⟨r, H0, G0, G, ow, c, R, h⟩ := h
  exact h _ _ G ow (R.upd hp) (Le.refl _) ⟨p, rfl, .inl ⟨[], upd_same, .nil⟩, R.fresh hp _⟩ fun z => by simp [nomut] at z
def trsOf (g : Gx) (sem : Nat → List D → S → CRes) (W : WX) : Kv → List (TE × TE)
  | .nil => []
  | .cons k v r => (rd g sem k W, rd g sem v W) :: trsOf g sem W r
def lenKv : Kv → Nat
  | .nil => 0
  | .cons _ _ r => lenKv r + 1
theorem kv_nil {pos : Pos} : PPs X pos [] [] (trsOf g sem W .nil) := pps_nil
theorem kv_cons {pos : Pos} {k v : Expr} {ks : List (Option Expr)} {vs : List Expr} {ek ew : E} {r : Kv} (hk : PE X k (rd g sem ek W)) (hv : PE X v (rd g sem ew W)) (hr : PPs X pos ks vs (trsOf g sem W r)) : PPs X pos (some k :: ks) (v :: vs) (trsOf g sem W (.cons ek ew r)) := pps_cons hk hv hr
/-- pairs, one after another; keys that are flat -/
theorem kv_ok {r : Dr} {H0 G0 : Hp} {σ : L2.St} {K : List (Rc.D × Rc.D) → Cfg → Prop} : ∀ (kv : Kv) {H G : Hp} {ow : Nat → List Addr} {c : Cfg} {acc : List (Key × V)} {dacc : List (Rc.D × Rc.D)}, Rp (g.wd r) H0 G0 σ H G ow c → IsK (g.wd r) G acc dacc → (acc.map (·.1)).Nodup →
    Run (g.wd r) g.P.attr H0 G0 σ W (evk g.P sem kv dacc c) K → ∀ {Q : List (V × V) → Hp → Prop},
    (∀ more dout c' H' G' ow', K dout c' → more.length = lenKv kv → Rp (g.wd r) H0 G0 σ H' G' ow' c' → Le G G' → IsK (g.wd r) G' (mergeK acc more) dout → Q (more.map fun p => (kV p.1, p.2)) H') → tPairs (trsOf g sem W kv) σ H Q
  | .nil, H, G, ow, c, acc, dacc, R, i, nd, h, Q, m => m [] dacc c H G ow h rfl R (Le.refl _) i
  | .cons k v kr, H, G, ow, c, acc, dacc, R, i, nd, h, Q, m => by
    rw [evk, Run.bind] at h
    refine ⟨r, H0, G0, G, ow, c, R, h.mono fun x c1 h1 vk H1 G1 ow1 R1 l1 O1 K1 => ?_⟩
    obtain ⟨G1', R1', l1', i1⟩ := R1.val O1
    rw [Run.bind] at h1
    refine ⟨r, H0, G0, G1', ow1, c1, R1', h1.mono fun y c2 h2 vv H2 G2 ow2 R2 l2 O2 K2 => ?_⟩
    obtain ⟨G2', R2', l2', i2⟩ := R2.val O2
    have lg : Le G G2' := l1.trans (l1'.trans (l2.trans l2'))
    split at h2
    · rename_i hfl
      split at h2
      · rename_i a ha
        obtain ⟨kf, hk⟩ : ∃ kf, keyD x.val = some (.inr kf) := by
          cases hx : x.val with
          | int i => exact ⟨_, rfl⟩
          | str z => exact ⟨_, rfl⟩
          | _ => rw [hx] at hfl; cases hfl
        have hv := keyD_flat i1 hk
        subst hv
        refine kv_ok kr R2' (isK_put hk i2 (i.mono lg) nd ha) (putK_keys nd).1 h2 fun more dout c' H' G' ow' hK hl R' l' i' => ?_
        exact m ((kf, vv) :: more) dout c' H' G' ow' hK (by rw [List.length_cons, hl]; rfl) R' (lg.trans l') i'
      · exact h2.elim
    · exact h2.elim
theorem s_dct {kv : Kv} {keys : List (Option Expr)} {values : List Expr} {pos : Pos} (h : PPs X pos keys values (trsOf g sem W kv)) (hall : keys.all (·.isSome) = true) (hl : keys.length = values.length) (h0 : keys ≠ []) (h15 : keys.length ≤ 15) (hlen : lenKv kv ≤ 15) :
    PE X (.Dict keys values pos) (rd g sem (.dct kv) W) := by
  refine PE.wk (pe_disp h hall hl h0 h15) fun σ H Q hh p hp => ?_
  obtain ⟨r, H0, G0, G, ow, c, R, hh⟩ := hh
  rw [ev, Run.bind] at hh
  have f := R.fresh hp (.dK [])
  have RL := (R.upd (o := .dK []) hp).lend f upd_same
  refine kv_ok kv RL .nil List.nodup_nil (Run.lend f.h0 hh fun a c k => k) fun more dout c' H' G' ow' hK hm R' l i => ?_
  obtain ⟨R2, f2, e2⟩ := R'.unlend f.h0 (R.g0none f.g) f.dr
  refine ⟨e2, more, rfl, by omega, ?_⟩
  exact hK _ _ G' ow' (R2.touch f2) l ⟨p, rfl, .inl ⟨_, upd_same, i⟩, f2.upd' _⟩ fun z => by simp [nomut] at z
end
end Rc
end Z_Rc9b
section Z_Rc9c
set_option Elab.async false
set_option linter.all false
set_option maxRecDepth 100000
set_option maxHeartbeats 4000000
set_option autoImplicit false
namespace PySem
namespace RcKw
open PySem.W PySem.Calls PyProof.Rows PySem.HandSPX
section
variable {M : Model} {Ar : Around} {E : Value → Shared → Prop} {h : Heap} {g : Array GenState} {d : Drawn} {t : Nat} {os : OsState}
variable {nm q : Str} {C N : Addr} {bs tl bmX : List Value} {hdd : Bool} {sn : List Str} {sbs : List Value} {ab : Bool} {cl0 : Option Bool} {dd : Option Addr} {k0 k1 k2 k3 k5 : Option Value} {B ni ii : String}
theorem kw_check_new (FB : ExcBaseFacts B ni ii bmX) (eT : ∀ X : String, tl.contains (.type X) = bmX.contains (.type X)) {ar : List Value} {kw : List (Str × Value)} {Q : Unit → Shared → Prop}
    (eC : h.get? C = some (excClassObj nm q C N bs tl hdd sn sbs ab cl0 dd k0 k1 k2 k3 k5 ni)) (fin : Q () ⟨h, g, d, t, os⟩) : wpAny M Ar (checkBuiltinCall ni ⟨.ref C :: ar, kw⟩) Q E ⟨h, g, d, t, os⟩ := by
  have z1 : (Value.ref C :: tl).contains (.type B) = true := by rw [List.contains_cons, eT, FB.hasB, Bool.or_true]
  have z2 := FB.noStar
  simp only [checkBuiltinCall, FB.newKind, FB.newSplit, FB.newRow]
  repeat (first | refine wpAny_loadPart_at eC ?_ | (refine wpAny_isSubtype_exc eC ?_; rw [z1]) | refine wpAny_staticBase_exc eC ?_ | refine wpAny_madeBy_exc eC ?_ | simp only [bne_self_eq_false, Bool.false_eq_true, if_false] | wp_step)
  exact fin
end
section
variable {pg : Program} {w : World} {Ar : Around} {E : Value → Shared → Prop} {R : Result → Shared → Prop}
variable {h : Heap} {g : Array GenState} {d : Drawn} {t : Nat} {os : OsState}
variable {nm q : Str} {C N : Addr} {bs tl bmX : List Value} {hdd : Bool} {sn : List Str} {sbs : List Value} {ab : Bool} {cl0 : Option Bool} {dd : Option Addr} {k0 k1 k2 k3 k5 : Option Value} {B ni ii : String}

theorem kw_new_own (FB : ExcBaseFacts B ni ii bmX) (eT : ∀ X : String, tl.contains (.type X) = bmX.contains (.type X)) {ar : List Value} {kw : List (Str × Value)}
    (eC : h.get? C = some (excClassObj nm q C N bs tl hdd sn sbs ab cl0 dd k0 k1 k2 k3 k5 ni))
    (fin : R (.ok (.ret (.ref (h.objs.size + 1)))) ⟨(h.push { cls := .type "tuple", data := .seq ar.toArray }).push
      { cls := .ref C, data := .fields #[.ref h.objs.size, .none, .none, .none, .bool false, .none] }, g, d, t, os⟩) (lim : ar.length ≤ sizeLine) :
    codeAny (model pg w) Ar (.builtin ni ⟨.ref C :: ar, kw⟩) R ⟨h, g, d, t, os⟩ := by
  have z3 := FB.ends
  have zB : (Value.ref C :: tl).contains (.type B) = true := by rw [List.contains_cons, eT, FB.hasB, Bool.or_true]
  have zA : (Value.ref C :: tl).contains (.type "AttributeError") = false := by rw [List.contains_cons, eT, FB.noAttr]; rfl
  have zN : (Value.ref C :: tl).contains (.type "NameError") = false := by rw [List.contains_cons, eT, FB.noName]; rfl
  refine codeAny_builtinAt FB.entry ?_
  unfold Builtin.«BaseException.__new__»; refine wpAt_bind ?_
  show wpAt (model pg w) _ _ (stack >>= _) _ _ _
  refine wpAt_bind (wpAt_stack fun pp lower => wpAt_of_wpAny ?_)
  wp_walk
  refine wpAt_of_wpAny ?_
  rw [FB.owner]
  repeat (first | with_reducible refine wpAny_madeHere_exc FB.canon eC ?_ | with_reducible refine wpAny_loadPart_at eC ?_ | (with_reducible refine wpAny_isSubtype_exc eC ?_; first | rw [zB] | rw [zA] | rw [zN]) | wp_step)
  show R _ _
  rw [Heap.size_push]
  exact fin

theorem kw_type_call (FB : ExcBaseFacts B ni ii bmX) (eT : ∀ X : String, tl.contains (.type X) = bmX.contains (.type X)) {ar : List Value} {kw : List (Str × Value)} {fa : Addr} {Q : Fin → Shared → Prop}
    (eC : h.get? C = some (excClassObj nm q C N bs tl hdd sn sbs ab cl0 dd k0 k1 k2 k3 k5 ni))
    (look : W.Looks (model pg w) h (typeLookup (.ref C) "__init__") (some (.ref fa))) (bnd : ∀ self, W.Looks (model pg w) h (bindSpecial (.ref fa) self) (.ref fa, [self])) (lim : ar.length ≤ sizeLine)
    (fin : codeAny (model pg w) Ar (.call (.ref fa) ⟨.ref (h.objs.size + 1) :: ar, kw⟩)
      (fun r s' => match r with | .ok (.ret v) => v = .none ∧ Q (.done (.ret (.ref (h.objs.size + 1)))) s' | .ok _ => False | .error e => E e s')
      ⟨(h.push (W.kdv_tup ar)).push (excO C h.objs.size), g, d, t, os⟩) :
    wpAny (model pg w) Ar (Builtin.«type.__call__» ⟨.ref C :: ar, kw⟩) Q E ⟨h, g, d, t, os⟩ := by
  repeat (first | with_reducible refine wpAny_loadPart_at eC ?_ | with_reducible refine wpAny_madeBy_exc eC ?_ | wp_step)
  refine codeAny_call_builtin_code (Code.quiet_builtin _ FB.quiet) (kw_check_new FB eT eC ?_)
  refine kw_new_own FB eT eC ?_ lim
  show wpAny _ _ _ _ _ _
  have k : ∀ b o, h.get? b = some o → ((h.push (W.kdv_tup ar)).push (excO C h.objs.size)).get? b = some o := fun b o e => Heap.get?_push_of_some _ (Heap.get?_push_of_some _ e)
  have eC1 := k _ _ eC
  have zG : ((h.push (W.kdv_tup ar)).push (excO C h.objs.size)).get? (h.objs.size + 1) = some (excO C h.objs.size) := by heap_get
  have zC : (Value.ref C :: tl).contains (.ref C) = true := by simp
  have y1 := look.keeps k
  have y2 := (bnd (.ref (h.objs.size + 1))).keeps k
  unfold isInstance
  repeat (first | with_reducible refine wpAny_loadPart_at zG ?_ | (with_reducible refine wpAny_isSubtype_exc eC1 ?_; rw [zC]) | wp_step)
  show wpAny (model pg w) _ (typeLookup (.ref C) _) _ _ _
  refine y1.at ?_
  refine wpAny_holding (wpAny_bind (y2.at ?_))
  refine wpAny_bind (wpAny_call (codeAny_mono fin fun r s' z => ?_))
  rcases r with ee | (vv | _ | _ | _) <;> first | exact z | exact z.elim | skip
  obtain ⟨rfl, z⟩ := z
  first
    | exact wpAny_pure (wpAny_pure z)
    | (wp_walk; exact z)

theorem kw_call_own (FB : ExcBaseFacts B ni ii bmX) (eT : ∀ X : String, tl.contains (.type X) = bmX.contains (.type X)) {ar : List Value} {kw : List (Str × Value)} {fa : Addr}
    (eC : h.get? C = some (excClassObj nm q C N bs tl hdd sn sbs ab cl0 dd k0 k1 k2 k3 k5 ni))
    (look : W.Looks (model pg w) h (typeLookup (.ref C) "__init__") (some (.ref fa))) (bnd : ∀ self, W.Looks (model pg w) h (bindSpecial (.ref fa) self) (.ref fa, [self])) (lim : ar.length ≤ sizeLine)
    (fin : codeAny (model pg w) (Ar.under (.builtin "type.__call__" ⟨.ref C :: ar, kw⟩)) (.call (.ref fa) ⟨.ref (h.objs.size + 1) :: ar, kw⟩) (W.InitBack (h.objs.size + 1) R)
      ⟨(h.push (W.kdv_tup ar)).push (excO C h.objs.size), g, d, t, os⟩) :
    codeAny (model pg w) Ar (.call (.ref C) ⟨ar, kw⟩) R ⟨h, g, d, t, os⟩ := by
  have y3 := tc_lookup
  have y4 := tc_bind (.ref C)
  have zT : (⟨h, g, d, t, os⟩ : Shared).TypeIs (.ref C) "type" := ⟨_, eC, rfl⟩
  refine codeAny_of_tree ?_
  show wpAny (model pg w) _ (callAny (.ref C) _) _ _ _
  repeat (any_goals (first | assumption | with_reducible refine wpAny_loadPart_at eC ?_ | wp_step))
  refine ⟨rfl, ?_⟩
  refine codeAny_call_builtin_at (Code.quiet_builtin _ (by decide +kernel)) entry_typeCall (wpAny_check_type_call_sub eC (kw_type_call FB eT eC look bnd lim ?_))
  refine codeAny_mono fin fun r s' z => ?_
  rcases r with ee | (vv | _ | _ | _) <;> exact z
end
end RcKw
end PySem
namespace Rc
open PySem PySem.Spec PyProof.Rows L2 PySem.W PySem.Calls
section
variable {X : Cx} {pins : List (Addr × Obj)} {σ : L2.St} {H : Hp} {C : Addr} {fld x : Str} {u : Value} {e : Expr} {te : TE} {p pos kpos : Pos}
/-- C(fld = u) -/
theorem sup_callK {hp : Heap} {g : Array GenState} {d : Drawn} {tk : Nat} {os : OsState} {Q : Value → Shared → Prop} (T : SupK X.prog X.K C fld) (I : Inv X pins σ H ⟨hp, g, d, tk, os⟩) (rm : Room 1 X.A)
    (hq : ∀ h2 t2 a dx t1, (∀ b o, hp.get? b = some o → h2.get? b = some o) → hp.objs.size ≤ a → hp.objs.size ≤ dx → dx ≠ a → h2.get? a = some { cls := .ref C, dict := some dx, data := .fields #[.ref t1, .none, .none, .none, .bool false, .none] } →
      h2.Ns1 dx (fun y => if y = fld then some u else none) → Q (.ref a) ⟨h2, g, d, t2, os⟩) : wpAny (model X.prog X.w) X.A (call (.ref C) [] [(fld, u)]) Q X.xe ⟨hp, g, d, tk, os⟩ := by
  obtain ⟨nm, q, N, bs, bm, sn, sub, ab, col, dd, k0, k1, k2, k3, k5, hC, hbm⟩ := T.cls.cls
  obtain ⟨f, name, qual, me, msg, file, params, scope, dV, kV, doc, pm, ct, oc, ccl, cl, an, od, cdd, cld, osl, ccs, csl, cc, cda, vs, tf, ar, p0, p1, p2, p3, p4, p5, p6, p7, p8, p9, jj, pl,
    iC, tI, S, lk, hcd, hb, hbk, h1, h2, h3, h4, h5, h6, h7, h8, h9, h10, h11⟩ := T.ini
  have X1 : X.K.In hp := I.kIn
  have kk : ∀ b o, hp.get? b = some o → ((hp.push (kdv_tup [])).push (HandSPX.excO C hp.objs.size)).get? b = some o := fun b o e => Heap.get?_push_of_some _ (Heap.get?_push_of_some _ e)
  have hget : ((hp.push (kdv_tup [])).push (HandSPX.excO C hp.objs.size)).get? (hp.objs.size + 1) = some (HandSPX.excO C hp.objs.size) := by heap_get
  have hcl : clsIn X.K C = some { name := nm, bases := bs, mro := .ref C :: bm, ns := N, qualname := q, hasDict := true, slotNames := sn, subclasses := sub, abstract := ab, collection := col, hasDel := false } := by unfold clsIn; rw [hC] <;> rfl
  have hKx : X.K.lookup (hp.objs.size + 1) = none := by
    cases e : X.K.lookup (hp.objs.size + 1) with
    | none => rfl
    | some o => exact absurd (Heap.lt_size (X1 _ _ e)) (Nat.not_lt.mpr (Nat.le_succ _))
  obtain ⟨mb, hmb, hbb⟩ := I.mod.blt
  have hdp : (X.A.under (.builtin "type.__call__" ⟨[.ref C], [(fld, u)]⟩)).depth < recursionLimit := (rm.make (k := 0) C [] [(fld, u)]).depth
  refine wpAny_call (PySem.RcKw.kw_call_own (ar := []) F.excBase_ValueError (fun Y => HandSPX.refsVE_contains Y bm hbm) (X1 _ _ hC) (looks_findIn X1 iC) (fun me' => bind_fn X1 me' tI) (Nat.zero_le _) ?_)
  refine sup_init S (X1.keeps kk) ((I.nolimit).keeps kk) ((I.mod.glob.keeps I.bk).keeps kk) (mg_none_of X1 (I.mod.glob.keeps I.bk) T.sup) ((hmb.keeps I.bk).keeps kk) ((hbb _ (by decide)).trans (by decide +kernel)) lk hcd (.of_eq (hbk _ _)) h1 h2 h3 h4 h5 T.htop h6 hC hbm T.cls.sa (T.al _ hcl) T.hop T.hno hget hKx hdp h7 h8 h9 h10 h11 ?_
  intro h' tk' dx t1 k4 dn dne hx' hn
  have hs2 : hp.objs.size ≤ dx := by
    rw [Heap.size_push, Heap.size_push] at dn
    exact Nat.le_trans (Nat.le_succ _) (Nat.le_trans (Nat.le_succ _) dn)
  exact ⟨rfl, hq h' tk' (hp.objs.size + 1) dx t1 (fun b o e => k4 b o (fun z => by
    have y := Heap.lt_size e
    rw [z] at y
    exact absurd y (Nat.not_lt.mpr (Nat.le_succ _))) (kk b o e)) (Nat.le_succ _) hs2 dne hx' hn⟩
theorem pe_supK (T : SupK X.prog X.K C fld) (rm : Room 1 X.A) (gC : X.mg x = some (.ref C)) (kC : keepIn X.K (.ref C) = true) (hg : Gl X x) (hd : (x == ("__debug__" : Str)) = false)
    (he : PE X e te) (hall : (backToKw pos (keywordEach [⟨some fld, e, kpos⟩] X.env)).all (·.1.isSome) = true) (hks : (backToKw pos (keywordEach [⟨some fld, e, kpos⟩] X.env)).filterMap (·.1) = [fld])
    (hpl : ((backTo pos (starEach [] X.env)).any (·.1) || (backToKw pos (keywordEach [⟨some fld, e, kpos⟩] X.env)).any (·.1.isNone)) = false) :
    PE X (.Call (.Name x p) [] [⟨some fld, e, kpos⟩] pos) (fun σ H Q => te σ H fun v H1 => ∀ a dx, H1 a = none → H1 dx = none → dx ≠ a → Q (.ref a) (L2.upd (L2.upd H1 dx (.xd [(fld, v)])) a (ErO (.ref C) (some dx) a))) := by
  have hkw : PK X [⟨some fld, e, kpos⟩] (tCons te tNil) := pk_cons he pk_nil
  refine ⟨fun pins s σ H Q I h => ?_⟩
  refine wpAny_Call_Name_kw (ld_glob I hg gC ?_ hd)
  refine callWith_KW0 (h₀ := X.base) I.ok.mod.kin kC hall ?_ hpl
  have hk : tCons te tNil σ H (fun vs H1 => match vs with
    | [v] => ∀ a dx, H1 a = none → H1 dx = none → dx ≠ a → Q (.ref a) (L2.upd (L2.upd H1 dx (.xd [(fld, v)])) a (ErO (.ref C) (some dx) a))
    | _ => False) := h
  refine thn (hkw.run pos pins s σ H _ I hk) fun us s1 hh => ?_
  obtain ⟨vs, H1, I1, rv, q1⟩ := hh
  refine ⟨I1.kIn, ?_⟩
  rw [hks]
  match vs, us, rv, q1 with
  | [v], [u], .cons r1 .nil, q1 =>
    obtain ⟨hp, g, d, tk, os⟩ := s1
    refine sup_callK (u := u) T I1 rm fun h2 t2 a dx t1 k ha hdx ne hx hn => ?_
    have na : H1 a = none := I1.hok.fresh ha
    have nd : H1 dx = none := I1.hok.fresh hdx
    refine ⟨.ref a, _, Rc.Inv.grown I1 (t' := t2) k (fun b hb => ?_) (fun b o e hb => ?_), rfl, q1 a dx na nd ne⟩
    · rw [upd_ne (fun z => absurd hb (by rw [z]; exact Nat.not_lt.mpr ha)), upd_ne (fun z => absurd hb (by rw [z]; exact Nat.not_lt.mpr hdx))]
    · by_cases z : b = a
      · subst z
        rw [upd_same] at e
        cases e
        exact erO_ok hx ⟨rfl, rfl⟩ rfl
      · rw [upd_ne z] at e
        by_cases z2 : b = dx
        · subst z2
          rw [upd_same] at e
          cases e
          exact ⟨_, hn, relO_put (fs := []) r1 fun _ => True.intro⟩
        · rw [upd_ne z2, I1.hok.fresh hb] at e
          cases e
variable {g : Gx} {sem : Nat → List Rc.D → Rc.S → CRes} {W : WX}
theorem s_newErrK {k j : Nat} {ea : Rc.E} (A : ErA g X) (hk : g.P.isErr k = true) (hat : g.P.attr k = some j) (hf : g.T.fl j = fld) (rm : Room 1 X.A) (hx : g.T.cnm[k]? = some x) (hg : Gl X x) (hd : (x == ("__debug__" : Str)) = false) (ha : PE X e (rd g sem ea W))
    (hall : (backToKw pos (keywordEach [⟨some fld, e, kpos⟩] X.env)).all (·.1.isSome) = true) (hks : (backToKw pos (keywordEach [⟨some fld, e, kpos⟩] X.env)).filterMap (·.1) = [fld])
    (hpl : ((backTo pos (starEach [] X.env)).any (·.1) || (backToKw pos (keywordEach [⟨some fld, e, kpos⟩] X.env)).any (·.1.isNone)) = false) : PE X (.Call (.Name x p) [] [⟨some fld, e, kpos⟩] pos) (rd g sem (.newErr k ea) W) := by
  subst hf
  obtain ⟨h1, h2, h3⟩ := A.nm k x hk hx
  refine PE.wk (pe_supK (A.su k j hk hat) rm h1 h2 hg hd ha hall hks hpl) fun σ H Q h => ?_
  obtain ⟨r, H0, G0, G, ow, c, R, h⟩ := h
  rw [ev] at h
  refine one R h fun o c' h v H' G' ow' R' l i K p dx hp hdx ne => ?_
  rw [if_pos hk] at h
  have f := R'.fresh hdx (.xd [(g.T.fl j, v)])
  have R1 := (R'.upd (o := .xd [(g.T.fl j, v)]) hdx).keep f upd_same
  have l1 := (Le.refl G').upd (o := .xd [(g.T.fl j, v)]) f.g
  have hp1 : L2.upd H' dx (.xd [(g.T.fl j, v)]) p = none := by rw [upd_ne (Ne.symm ne)]; exact hp
  have f2 := R1.fresh hp1 (ErO (.ref (g.cls k)) (some dx) p)
  have R2 := (R1.upd (o := ErO (.ref (g.cls k)) (some dx) p) hp1).keep f2 upd_same
  have l2 := (Le.refl (L2.upd G' dx (.xd [(g.T.fl j, v)]))).upd (o := ErO (.ref (g.cls k)) (some dx) p) f2.g
  have e1 : errA g.P k o.val = [o.val] := by unfold errA; rw [hat]
  rw [e1] at h
  refine Lands.of h R2 (l.trans (l1.trans l2)) (.er1 (w := g.wd r) (j := j) (v := v) hat upd_same ?_ (i.mono (l1.trans l2))) fun z => by simp [nomut] at z
  rw [upd_ne ne]
  exact upd_same
end
end Rc
end Z_Rc9c
section Z_Rc9d
set_option Elab.async false
set_option linter.all false
set_option maxRecDepth 100000
set_option maxHeartbeats 2000000
set_option autoImplicit false
namespace Rc
open PySem PySem.Spec PyProof.Rows L2
/-- the law's call, by a promise that holds where no repr runs further out -/
theorem law_callG {P : Program} {w : World} {K : PySem.W.Frag} {mg mb : Str → Option Value} {CT : CXT} {k : Nat} {fa a : Addr} {fd : FuncData} {x : Str} {sp : Sp} {s1 : Shared} {vs : List Value} {ns : List Int}
    (KX : K.In s1.heap) (hm : s1.heap.Ns mainGlobals mg) (hb : s1.heap.Ns builtinsNs mb) (hbb : ∀ x : Str, x ≠ "__name__" → mb x = bootBuiltins x) (lim : s1.heap.NoLimit) (gen : s1.gens = #[])
    (ha : s1.heap.get? a = some { cls := .type "list", data := .seq vs.toArray }) (hi : IntsAre vs ns) (hl : ns.length ≤ sizeLine) (rm : Room k callerA)
    (F : ∀ base : Heap, K.In base → base.Ns mainGlobals mg → FnG P w K mg base CT k fa fd [x] sp) (bnd : ∀ (s : Shared) (u : Value), BindsTo s fd ⟨[u], []⟩ [(x, u)])
    (hsp : ∀ H : Hp, Only H → SqL K H a (ns.map V.int) → sp [.ref a] H (fun v _ => v = .bl true) fun _ _ _ => False) (hCX : ∀ H e s', CT [] H s1 (fun _ _ _ => False) e s' → False) :
    codeAny (model P w) callerA (.call (.ref fa) ⟨[.ref a], []⟩) (fun r s' => r = .ok (.ret (.bool true)) ∧ OldK s1.heap s'.heap ∧ s'.os = s1.os ∧ AllBare s'.gens) s1 := by
  have rv := vals_ints hi
  -- from whatever is tracked of the script
  have go : ∀ H : Hp, Only H → SqL K H a (ns.map V.int) → HOk P w H s1.heap → (∀ b, H b ≠ none → b = a) → (H a ≠ none → K.lookup a = none) →
      codeAny (model P w) callerA (.call (.ref fa) ⟨[.ref a], []⟩) (fun r s' => r = .ok (.ret (.bool true)) ∧ OldK s1.heap s'.heap ∧ s'.os = s1.os ∧ AllBare s'.gens) s1 := by
    intro H only hS hok onlyA noK
    have toH : ∀ {b : Addr} {o : Obj}, s1.heap.get? b = some o → H b = none → (hidT s1.heap H).get? b = some o := fun e n => hidT_get e n
    have apart : ∀ {b : Addr} {o : Obj}, s1.heap.get? b = some o → (∀ z n, o.data ≠ .seq z n) → H b = none := fun {b o} e d => by
      cases q : H b with
      | none => rfl
      | some u =>
        have eb : b = a := onlyA b (by rw [q]; simp)
        rw [eb, ha] at e
        cases e
        exact absurd rfl (d _ _)
    have ns' : ∀ {b : Addr} {m : Str → Option Value}, s1.heap.Ns b m → (hidT s1.heap H).Ns b m := fun {b m} ⟨o, es, ep, e, d, r⟩ => ⟨o, es, ep, toH e (apart e fun z n y => by rw [d] at y; cases y), d, r⟩
    have KB : K.In (hidT s1.heap H) := fun b o e => by
      refine toH (KX b o e) ?_
      cases q : H b with
      | none => rfl
      | some u =>
        have eb : b = a := onlyA b (by rw [q]; simp)
        rw [eb] at e q
        rw [noK (by rw [q]; simp)] at e
        cases e
    obtain ⟨mc, l1, l2⟩ := lim
    have M : L2.Mod K mg (hidT s1.heap H) := ⟨KB, ns' hm, ⟨mb, ns' hb, hbb⟩, ⟨mc, ns' l1, l2⟩⟩
    have E0 : Env0 P w K mg (hidT s1.heap H) callerA [] s1 H := {
      frames := rfl
      mod := M
      bs := fun b o e => of_hidT e
      bsz := Nat.le_of_eq (hidT_size _ _)
      funs := trivial
      frf := fun b z => absurd (show b ∈ ([] : List Addr) from z) (by simp)
      hok := hok
      bare := .of_eq gen }
    refine codeAny_mono ((F _ KB (ns' hm)).run callerA [] s1 H ⟨[.ref a], []⟩ [.ref a] [.ref a] _ _ rfl rm E0 (bnd s1 (.ref a)) (.cons rfl .nil) (hsp H only hS)) fun out s2 ho => ?_
    match out, ho with
    | .error e, ho => exact (hCX H e s2 ho).elim
    | .ok .next, ho => exact (ho : False).elim
    | .ok .brk, ho => exact (ho : False).elim
    | .ok .cont, ho => exact (ho : False).elim
    | .ok (.ret u), ho =>
      obtain ⟨v, H2, hos, bare, un, ok2, ru, qv⟩ := ho
      have qv' : v = .bl true := qv
      rw [qv'] at ru
      have eu : u = Value.bool true := ru
      rw [eu]
      refine ⟨rfl, OldK.of_keep fun b o e => ?_, hos, bare⟩
      rcases only b with q | ⟨ob, xs, q⟩
      · exact un.keep b o e q (fun z => absurd (show b ∈ ([] : List Addr) from z) (by simp)) (by simp)
      · obtain ⟨e1, _⟩ := hok b _ q
        obtain ⟨e2, _⟩ := ok2 b _ (un.frzs b ob _ q)
        rw [e1] at e
        rw [e2, ← e]
  cases hk : K.lookup a with
  | some o =>
    have e := KX a o hk
    rw [ha] at e
    have eo := Option.some.inj e
    subst eo
    refine go (fun _ => none) (fun _ => .inl rfl) (.inr ⟨_, vs.toArray, _, hk, rfl, rfl, rfl, ?_, by simpa using rv⟩) (fun b u z => nomatch (show (none : Option HO) = some u from z)) (fun b z => absurd rfl z) fun z => absurd rfl z
    rw [List.size_toArray, hi.length]; exact hl
  | none =>
    let T : HO := .frz { cls := .type "list", data := .seq vs.toArray } (.lst (ns.map V.int))
    have at1 : (fun b : Addr => if b = a then some T else none) a = some T := if_pos rfl
    have off : ∀ b, b ≠ a → (fun b : Addr => if b = a then some T else none) b = none := fun b z => if_neg z
    refine go (fun b : Addr => if b = a then some T else none) (fun b => ?_) (.inl (.inr ⟨_, at1⟩)) (fun b u z => ?_) (fun b z => ?_) fun _ => hk
    · by_cases eb : b = a
      · rw [eb]; exact .inr ⟨_, _, at1⟩
      · exact .inl (off b eb)
    · by_cases eb : b = a
      · rw [eb, at1] at z
        cases z
        rw [eb]
        exact ⟨ha, by rw [List.length_map]; exact hl, vs, _, rv, ha⟩
      · rw [off b eb] at z
        cases z
    · by_cases eb : b = a
      · exact eb
      · exact absurd (off b eb) z
/-- .. in a walk -/
theorem walk_ofG {l : PySem.W.OpenLaw} {n k : Nat} {q : Program} {loose : List Str} {XP : (Str → Option Value) → Heap → Prop} {YP : World → Heap → Prop} {d : DefRec} {CT : World → CXT} {x : Str}
    (hn : l.most = some n) (hn2 : n ≤ sizeLine) (hdf : d.params.defaults = []) (rm : Room k callerA)
    (F : ∀ (w : World) (mg : Str → Option Value) (fa : Addr) (h : Heap), YP w h → h.Ns mainGlobals mg → mg d.name = some (.ref fa) → ∃ (K : PySem.W.Frag) (fd : FuncData) (sp : Sp), K.In h ∧ (∀ (s : Shared) (u : Value), BindsTo s fd ⟨[u], []⟩ [(x, u)]) ∧
      (∀ (H : Hp) (a : Addr) (ns : List Int), ns.length ≤ n → Only H → SqL K H a (ns.map V.int) → sp [.ref a] H (fun v _ => v = .bl true) fun _ _ _ => False) ∧ ∀ base : Heap, K.In base → base.Ns mainGlobals mg → FnG l.prog w K mg base (CT w) k fa fd [x] sp)
    (hCX : ∀ (w : World) (H : Hp) (s : Shared) (e : Value) (s' : Shared), CT w [] H s (fun _ _ _ => False) e s' → False) : PySem.W.WalkO q loose XP YP l.row.toRowW d [] (fun f vs => PySem.call f vs) := by
  refine Att.attach_call hn hdf fun w s0 s1 mg mb fa o pm cd doc a vs ns G Y ho hd hcd hmg hobj hints hlen hg => ?_
  obtain ⟨K, fd, sp, KX, bnd, hsp, hF⟩ := F w mg fa _ Y G.T.g hmg
  exact law_callG KX G.T.g G.T.b G.T.builtins G.T.nolimit hg hobj hints (Nat.le_trans hlen hn2) rm hF bnd (fun H only hS => hsp H a ns hlen only hS) fun H e s' => hCX w H s1 e s'
/-- nothing leaves the law -/
theorem cx_never (P : Program) (w : World) (H : Hp) (s : Shared) (e : Value) (s' : Shared) (h : L2.CX P w [] H s (fun _ _ _ => False) e s') : False := by
  obtain ⟨a, B, H', cls, d, _, _, _, _, _, _, _, z⟩ := h
  exact z
end Rc
end Z_Rc9d
section Z_Rc9e
set_option Elab.async false
set_option linter.all false
set_option maxRecDepth 100000
set_option maxHeartbeats 2000000
set_option autoImplicit false
namespace Rc
open PySem PySem.Spec PyProof.Rows L2
open He (ga ma eqO eqO_ok ba)
/-- the own classes as lists -/
structure PrL where
  mros : List (List Nat)
  errs : List Bool
  attrs : List (Option Nat)
  fldss : List (List Nat)
def PrL.pr (L : PrL) : Pr where
  mro k := L.mros.getD k []
  isErr k := L.errs.getD k false
  isObj k := decide (k < L.mros.length) && !L.errs.getD k false
  attr k := L.attrs.getD k none
  flds k := L.fldss.getD k []
/-- the lists are sound by themselves -/
def PrL.ok (L : PrL) (T : Ti) : Bool := decide (L.errs.length = L.mros.length) && decide (T.cnm.length = L.mros.length) && decide (T.cnm.Nodup) && (List.range L.mros.length).all fun k => (L.mros.getD k []).contains k && ((L.mros.getD k []).all fun j => decide (j < L.mros.length)) &&
  (L.fldss.getD k []).all fun i => (L.fldss.getD k []).all fun j => !decide (T.fl i = T.fl j) || decide (i = j)
def cnm (T : Ti) (k : Nat) : Str := T.cnm.getD k ""
def gx (T : Ti) (L : PrL) (K : PySem.W.Frag) : Gx := ⟨T, L.pr, fun k => ga K (cnm T k)⟩
/-- what is asked of the k-th class -/
def clB (T : Ti) (L : PrL) (K : PySem.W.Frag) (k : Nat) : Bool := (match K.lookup (ga K (cnm T k)) with
    | some ⟨.type t, _, .cls cd, _⟩ => decide (t = "type") && (decide (cd.mro = (L.mros.getD k []).map (fun j => Value.ref (ga K (cnm T j))) ++ ownEnd (L.errs.getD k false)) && cd.hasDict)
    | _ => false) && (eqO (PySem.W.findIn K (.ref (ga K (cnm T k))) "__class__") (some (some (.builtin "object.__class__"))) &&
  (match L.errs.getD k false with
    | true => eqO (PySem.W.findIn K (.ref (ga K (cnm T k))) "__getattribute__") (some (some (.builtin "BaseException.__getattribute__"))) && (eqO (PySem.W.findIn K (.ref (ga K (cnm T k))) "__getattr__") (some none) && (match L.attrs.getD k none with
      | some j => eqO (PySem.W.findIn K (.ref (ga K (cnm T k))) (T.fl j)) (some none)
      | none => true))
    | false => (He.Fa.cls (cnm T k)).ok K && (L.fldss.getD k []).all fun j => eqO (PySem.W.findIn K (.ref (ga K (cnm T k))) (T.fl j)) (some none)))
def clsB (T : Ti) (L : PrL) (K : PySem.W.Frag) : Bool := ((List.range L.mros.length).all fun k => clB T L K k) && (decide (((List.range L.mros.length).map fun k => ga K (cnm T k)).Nodup) &&
  (eqO (PySem.W.specialIn K (.builtin "object.__class__") "__get__") (some (some (.builtin "getset_descriptor.__get__"))) && decide (PySem.W.takesIn K (.builtin "object.__class__") = some true)))
section
variable {T : Ti} {L : PrL} {K : PySem.W.Frag}
theorem PrL.known (ho : L.ok T = true) {k : Nat} (h : L.pr.isErr k = true ∨ L.pr.isObj k = true) : k < L.mros.length := by
  unfold PrL.ok at ho
  simp only [Bool.and_eq_true, decide_eq_true_eq] at ho
  rcases h with h | h
  · have h' : L.errs.getD k false = true := h
    by_cases z : k < L.errs.length
    · rw [ho.1.1.1] at z; exact z
    · rw [List.getD_eq_getElem?_getD, List.getElem?_eq_none (Nat.le_of_not_lt z)] at h'; cases h'
  · have h' : (decide (k < L.mros.length) && !L.errs.getD k false) = true := h
    rw [Bool.and_eq_true] at h'
    exact of_decide_eq_true h'.1
theorem cl_of {k : Nat} (h : clB T L K k = true) (hf : ∀ i ∈ L.pr.flds k, ∀ j ∈ L.pr.flds k, T.fl i = T.fl j → i = j) : ClK (gx T L K) K k := by
  unfold clB at h
  obtain ⟨h1, h2⟩ := ba h
  obtain ⟨h3, h4⟩ := ba h2
  have er : L.errs.getD k false = true → eqO (PySem.W.findIn K (.ref (ga K (cnm T k))) "__getattribute__") (some (some (.builtin "BaseException.__getattribute__"))) = true ∧ eqO (PySem.W.findIn K (.ref (ga K (cnm T k))) "__getattr__") (some none) = true ∧ (match L.attrs.getD k none with
      | some j => eqO (PySem.W.findIn K (.ref (ga K (cnm T k))) (T.fl j)) (some none)
      | none => true) = true := fun e => by
    rw [e] at h4
    obtain ⟨a, b⟩ := ba h4
    obtain ⟨b, c⟩ := ba b
    exact ⟨a, b, c⟩
  have ob : L.errs.getD k false = false → (He.Fa.cls (cnm T k)).ok K = true ∧ ((L.fldss.getD k []).all fun j => eqO (PySem.W.findIn K (.ref (ga K (cnm T k))) (T.fl j)) (some none)) = true := fun e => by
    rw [e] at h4
    exact ba h4
  refine ⟨?_, eqO_ok h3, fun e => ⟨eqO_ok (er e).1, eqO_ok (er e).2.1⟩, fun e => He.cls_ok (ob e).1, fun j hj ho => ?_, fun _ => hf, fun j e hj => ?_⟩
  · cases q : K.lookup (ga K (cnm T k)) with
    | none => rw [q] at h1; cases h1
    | some o =>
      obtain ⟨oc, od, dt, osl⟩ := o
      rw [q] at h1
      cases oc with
      | type t =>
        cases dt with
        | cls cd =>
          obtain ⟨a, b⟩ := ba (show (decide (t = "type") && (decide (cd.mro = (L.mros.getD k []).map (fun j => Value.ref (ga K (cnm T j))) ++ ownEnd (L.errs.getD k false)) && cd.hasDict)) = true from h1)
          obtain ⟨b, c⟩ := ba b
          have et := of_decide_eq_true a
          subst et
          exact ⟨od, cd, osl, q, of_decide_eq_true b, c⟩
        | _ => cases h1
      | _ => cases dt <;> cases h1
  · have ho' : (decide (k < L.mros.length) && !L.errs.getD k false) = true := ho
    rw [Bool.and_eq_true] at ho'
    have e : L.errs.getD k false = false := by simpa using ho'.2
    exact eqO_ok (List.all_eq_true.mp (ob e).2 j hj)
  · have z := (er e).2.2
    have hj' : L.attrs.getD k none = some j := hj
    rw [hj'] at z
    exact eqO_ok z
theorem cla_of (ho : L.ok T = true) (h : clsB T L K = true) {X : Cx} (hX : X.K = K) : ClA (gx T L K) X := by
  subst hX
  have ho2 := ho
  unfold PrL.ok at ho2
  simp only [Bool.and_eq_true, decide_eq_true_eq, List.all_eq_true, List.mem_range] at ho2
  obtain ⟨⟨⟨o1, o2⟩, o3⟩, o4⟩ := ho2
  unfold clsB at h
  obtain ⟨h1, h2⟩ := ba h
  obtain ⟨h2, h3⟩ := ba h2
  obtain ⟨h3, h4⟩ := ba h3
  have kn : ∀ k, L.pr.isErr k = true ∨ L.pr.isObj k = true → k < L.mros.length := fun k hk => PrL.known ho hk
  have nk : ∀ k, k < L.mros.length → L.pr.isErr k = true ∨ L.pr.isObj k = true := fun k hk => by
    cases e : L.errs.getD k false with
    | true => exact .inl e
    | false =>
      refine .inr ?_
      show (decide (k < L.mros.length) && !L.errs.getD k false) = true
      rw [e, decide_eq_true hk]; rfl
  refine ⟨fun k hk => cl_of (List.all_eq_true.mp h1 k (List.mem_range.mpr (kn k hk))) fun i hi j hj e => ?_, fun k hk => ?_, fun k hk j hj => ?_, fun i j hi hj e => ?_, fun k hk => ?_, eqO_ok h3, of_decide_eq_true h4⟩
  · have z := (o4 k (kn k hk)).2 i hi j hj
    simp only [Bool.or_eq_true, Bool.not_eq_true', decide_eq_false_iff_not, decide_eq_true_eq] at z
    rcases z with z | z
    · exact absurd e z
    · exact z
  · have hk' : (decide (k < L.mros.length) && !L.errs.getD k false) = true := hk
    rw [Bool.and_eq_true] at hk'
    show L.errs.getD k false = false
    simpa using hk'.2
  · exact nk j (by
      have z := (o4 k (kn k hk)).1.2 j hj
      exact z)
  · have nd := of_decide_eq_true h2
    have li := kn i hi
    have lj := kn j hj
    have e' : ga X.K (cnm T i) = ga X.K (cnm T j) := e
    have a1 : ((List.range L.mros.length).map fun k => ga X.K (cnm T k))[i]? = some (ga X.K (cnm T i)) := by rw [List.getElem?_map, List.getElem?_range li]; rfl
    have a2 : ((List.range L.mros.length).map fun k => ga X.K (cnm T k))[j]? = some (ga X.K (cnm T i)) := by rw [List.getElem?_map, List.getElem?_range lj, e']; rfl
    exact (List.getElem?_inj (by simpa using li) nd).mp (a1.trans a2.symm)
  · exact (o4 k (kn k hk)).1.1
end
end Rc
end Z_Rc9e
section Z_Rc9f
set_option Elab.async false
set_option linter.all false
set_option maxRecDepth 100000
set_option maxHeartbeats 2000000
set_option autoImplicit false
namespace Rc
open PySem PySem.Spec PyProof.Rows L2
open He (ga ma eqO eqO_ok ba)
structure SupD where
  name : Str
  qual : Str
  me : Str
  fld : Str
  msg : Str
  params : Arguments
  scope : Scope
  arg : Arg
  p0 : Pos
  p1 : Pos
  p2 : Pos
  p3 : Pos
  p4 : Pos
  p5 : Pos
  p6 : Pos
  p7 : Pos
  p8 : Pos
  p9 : Pos
  jj : Nat
def SupD.bd (d : SupD) : List Stmt := supBody d.p0 d.p1 d.p2 d.p3 d.p4 d.p5 d.p6 d.p7 d.p8 d.p9 d.jj d.msg d.me d.fld d.fld
structure SupD.Ok (d : SupD) : Prop where
  env : SupEnv d.scope d.me d.fld
  b1 : ∀ (kV doc pm ct : Value) (an : Option Addr) (cda cc : Addr) (u1 u2 : Value), bindArgs (PySem.W.ksFn d.name d.qual d.params d.bd d.scope .none kV doc pm an (.ref cda) ct cc) ⟨[u1, u2], []⟩ = pure [(d.me, u1), (d.fld, u2)]
  b2 : ∀ (kV doc pm ct : Value) (an : Option Addr) (cda cc : Addr) (u1 u2 : Value), bindArgs (PySem.W.ksFn d.name d.qual d.params d.bd d.scope .none kV doc pm an (.ref cda) ct cc) ⟨[u1], [(d.fld, u2)]⟩ = pure [(d.me, u1), (d.fld, u2)]
  hd : (d.params.posonlyargs ++ d.params.args).head? = some d.arg
  ha : d.arg.arg = d.me
  fdb : (d.fld == ("__debug__" : Str)) = false
  mdb : (d.me == ("__debug__" : Str)) = false
  sw1 : ∀ env : Env, swapsWith (.Call (.Attribute (.Call (.Name "super" d.p0) [] [] d.p1) "__init__" d.p2) [.Constant (.str d.msg) d.jj d.p3] [] d.p4) none d.p5.line env = pure false
  sw2 : ∀ env : Env, swapsWith (.Name d.fld d.p8) (some (.Attribute (.Name d.me d.p6) d.fld d.p7)) d.p9.line env = pure false
  ev : ∃ pl : Env → Sem Bool, ∀ env : Env, eval (.Call (.Attribute (.Call (.Name "super" d.p0) [] [] d.p1) "__init__" d.p2) [.Constant (.str d.msg) d.jj d.p3] [] d.p4) env = (do
      let ov ← attributeBase (.Call (.Name "super" d.p0) [] [] d.p1) "__init__" env (eval (.Call (.Name "super" d.p0) [] [] d.p1) env)
      standAt d.p2.atName
      let (f, first) ← holding [ov] (getMethod ov "__init__" (pl env))
      callWith d.p4 f first (backTo d.p4 (starEach [.Constant (.str d.msg) d.jj d.p3] env)) [])
abbrev SupV : Type := Option (Str × Str × Arguments × FuncBody × Scope × Addr × List Str × Addr)
def supW (K : PySem.W.Frag) (C : Addr) : SupV := match K.lookup (ma K C "__init__") with
  | some ⟨_, _, .func fd, _⟩ => some (fd.name, fd.qualname, fd.params, fd.body, fd.scope, fd.globals, fd.closure.map (·.1), fd.builtins)
  | _ => none
def SupD.val (d : SupD) : SupV := some (d.name, d.qual, d.params, .stmts d.bd, d.scope, mainGlobals, ["__class__"], builtinsNs)
/-- the class is one of ours over ValueError -/
def oexB (K : PySem.W.Frag) (C : Addr) : Bool := (match K.lookup C with
    | some ⟨.type t, _, .cls cd, sl⟩ => decide (t = "type") && (match cd.mro, sl.toList with
      | .ref C' :: bm, [_, _, _, _, some (.builtin n), _] => decide (C' = C) && (decide (n = "ValueError.__new__") && (!cd.hasDel && (cd.hasDict && PySem.HandSPX.refsVE bm)))
      | _, _ => false)
    | _ => false) && (eqO (PySem.W.findIn K (.ref C) "__setattr__") (some (some (.builtin "object.__setattr__"))) && (decide (PySem.W.subIn K (.ref C) (.type "BaseException") = some true) && (decide (PySem.W.typeIn K (.ref C) = some (.type "type")) && PySem.W.keepIn K (.ref C))))
theorem oex_of {K : PySem.W.Frag} {C : Addr} (h : oexB K C = true) : OexC K C := by
  unfold oexB at h
  obtain ⟨h1, h⟩ := ba h
  obtain ⟨h2, h⟩ := ba h
  obtain ⟨h3, h⟩ := ba h
  obtain ⟨h4, h5⟩ := ba h
  refine ⟨?_, eqO_ok h2, of_decide_eq_true h3, of_decide_eq_true h4, h5⟩
  split at h1
  · rename_i t dd cd sl ho
    obtain ⟨a, b⟩ := ba h1
    have et := of_decide_eq_true a
    subst et
    split at b
    · rename_i C' bm k0 k1 k2 k3 n k5 hm hs
      obtain ⟨b1, b⟩ := ba b
      obtain ⟨b2, b⟩ := ba b
      obtain ⟨b3, b⟩ := ba b
      obtain ⟨b4, b5⟩ := ba b
      have e1 := of_decide_eq_true b1
      have e2 := of_decide_eq_true b2
      subst e1 e2
      obtain ⟨nm, bs, mro, ns, qn, hdc, sn, sub, ab, col, del⟩ := cd
      dsimp only at hm b3 b4
      subst hm b4
      have e3 : del = false := by simpa using b3
      subst e3
      have hsl : sl = #[k0, k1, k2, k3, some (.builtin "ValueError.__new__"), k5] := by
        obtain ⟨l⟩ := sl
        simp only at hs
        rw [hs]
      subst hsl
      exact ⟨nm, qn, ns, bs, bm, sn, sub, ab, col, dd, k0, k1, k2, k3, k5, ho, b5⟩
    · cases b
  · cases h1
def nonV : Value → Bool
  | .none => true
  | _ => false
theorem nonV_ok {v : Value} (h : nonV v = true) : v = .none := by
  cases v with
  | none => rfl
  | _ => cases h
def cdaB (K : PySem.W.Frag) (file : Str) : Value → Bool
  | .ref cda => (match K.lookup cda with
    | some ⟨_, _, .fields vs, _⟩ => (match (vs[2]? : Option Value) with
      | some (.str f _) => file == f
      | _ => false)
    | _ => false)
  | _ => false
theorem cda_of {K : PySem.W.Frag} {file : Str} {v : Value} (h : cdaB K file v = true) : ∃ (cda : Addr) (ccl : Value) (cdd : Option Addr) (vs : Array Value) (ccs : Array (Option Value)) (f : Str) (tf : Tok), v = .ref cda ∧ K.lookup cda = some ⟨ccl, cdd, .fields vs, ccs⟩ ∧ vs[2]? = some (.str f tf) ∧ (file == f) = true := by
  cases v with
  | ref cda =>
    unfold cdaB at h
    dsimp only at h
    split at h
    · rename_i ccl cdd vs ccs lc
      split at h
      · rename_i f tf ef
        exact ⟨_, _, _, _, _, _, _, rfl, lc, ef, h⟩
      · cases h
    · cases h
  | _ => cases h
def cellB (K : PySem.W.Frag) (C : Addr) : List (Str × Addr) → Bool
  | [(_, cc)] => (match K.lookup cc with
    | some ⟨_, _, .cell (some (.ref D)), _⟩ => decide (D = C)
    | _ => false)
  | _ => false
theorem cell_of {K : PySem.W.Frag} {C : Addr} {cl : List (Str × Addr)} (h : cellB K C cl = true) : ∃ (nn : Str) (cc : Addr) (a : Value) (b : Option Addr) (sl : Array (Option Value)), cl = [(nn, cc)] ∧ K.lookup cc = some ⟨a, b, .cell (some (.ref C)), sl⟩ := by
  unfold cellB at h
  split at h
  · rename_i nn cc
    split at h
    · rename_i cl cld D csl lcc
      have eD := of_decide_eq_true h
      subst eD
      exact ⟨_, _, _, _, _, rfl, lcc⟩
    · cases h
  · cases h
def supB (K : PySem.W.Frag) (C : Addr) (fld qual file : Str) : Bool := oexB K C && (eqO (PySem.W.nsIn K mainGlobals "super") (some none) && (eqO (PySem.W.nsIn K cStatics "thirdparty.any") (some none) && (eqO (PySem.W.findIn K (.ref C) fld) (some none) &&
  ((match PySem.W.clsIn K C with
    | some cd => eqO (PySem.W.alongIn K "__init__" cd.mro.tail) (some (some (.builtin "ValueError.__init__")))
    | none => true) && (eqO (PySem.W.findIn K (.ref C) "__init__") (some (some (.ref (ma K C "__init__")))) && (decide (PySem.W.typeIn K (.ref (ma K C "__init__")) = some (.type "function")) &&
  (match K.lookup (ma K C "__init__") with
    | some ⟨_, _, .func fd, _⟩ => PySem.W.codeIn K fd.code qual && (cdaB K file fd.code && (cellB K C fd.closure && nonV fd.defaults))
    | _ => false)))))))
theorem sup_of {prog : Program} {K : PySem.W.Frag} {C : Addr} {d : SupD} (o : d.Ok) (ht : (prog.main.scope.names.lookup ("super" : Str)).isSome = false) (hv : supW K C = d.val) (h : supB K C d.fld d.qual prog.main.file = true) : SupK prog K C d.fld := by
  unfold supB at h
  obtain ⟨h1, h⟩ := ba h
  obtain ⟨h2, h⟩ := ba h
  obtain ⟨h3, h⟩ := ba h
  obtain ⟨h4, h⟩ := ba h
  obtain ⟨h5, h⟩ := ba h
  obtain ⟨h6, h⟩ := ba h
  obtain ⟨h7, h⟩ := ba h
  have h8 := of_decide_eq_true h7
  refine ⟨oex_of h1, eqO_ok h2, eqO_ok h3, eqO_ok h4, ht, fun cd e => ?_, ?_⟩
  · rw [e] at h5
    exact eqO_ok h5
  · obtain ⟨pl, hev⟩ := o.ev
    unfold supW at hv
    split at h
    · rename_i oc od fd osl lk
      rw [lk] at hv
      obtain ⟨a, b0⟩ := ba h
      obtain ⟨b, c0⟩ := ba b0
      obtain ⟨c, dn⟩ := ba c0
      have dn := nonV_ok dn
      obtain ⟨cda, ccl, cdd, vs, ccs, f, tf, v1, v2, v3, v4⟩ := cda_of b
      obtain ⟨nn, cc, cl, cld, csl, w1, w2⟩ := cell_of c
      clear b c b0 c0 h h7
      obtain ⟨n1, n2, n3, n4, n5, n6, n7, n8, n9, n10, n11, n12, n13, n14, n15⟩ := fd
      have v1 : n13 = .ref cda := v1
      have w1 : n7 = [(nn, cc)] := w1
      have dn : n8 = .none := dn
      subst v1 w1 dn
      have e2 : (some (n1, n2, n3, n4, n5, n6, [nn], n15) : SupV) = some (d.name, d.qual, d.params, FuncBody.stmts d.bd, d.scope, mainGlobals, [("__class__" : Str)], builtinsNs) := hv
      clear hv
      simp only [Option.some.injEq, Prod.mk.injEq, List.cons.injEq] at e2
      obtain ⟨g1, g2, g3, g4, g5, g6, ⟨g7, _⟩, g8⟩ := e2
      subst g1 g2 g3 g4 g5 g6 g7 g8
      exact ⟨_, _, _, d.me, d.msg, f, _, _, .none, n9, n10, n11, n14, oc, ccl, cl, n12, od, cdd, cld, osl, ccs, csl, cc, cda, vs, tf, d.arg, d.p0, d.p1, d.p2, d.p3, d.p4, d.p5, d.p6, d.p7, d.p8, d.p9, d.jj, pl,
        eqO_ok h6, h8, o.env, lk, a, o.b1 _ _ _ _ _ _ _, o.b2 _ _ _ _ _ _ _, o.hd, o.ha, v2, v3, v4, w2, o.fdb, o.mdb, o.sw1, o.sw2, hev⟩
    · cases h
/-- all the errors -/
def erB (T : Ti) (L : PrL) (K : PySem.W.Frag) (file : Str) (ds : List (Nat × SupD)) : Bool := ((List.range L.mros.length).all fun k => match L.errs.getD k false with
    | true => eqO (PySem.W.nsIn K mainGlobals (cnm T k)) (some (some (.ref (ga K (cnm T k))))) && (PySem.W.keepIn K (.ref (ga K (cnm T k))) && (decide (PySem.W.subIn K (.ref (ga K (cnm T k))) (.type "BaseException") = some true) && (decide (PySem.W.typeIn K (.ref (ga K (cnm T k))) = some (.type "type")) &&
      match L.attrs.getD k none with
      | none => PySem.W.excIn K (ga K (cnm T k)) HandSPX.veTail "ValueError.__new__"
      | some j => (match ds.find? fun d => d.1 == k with
        | some d => decide (d.2.fld = T.fl j)
        | none => false))))
    | false => eqO (PySem.W.nsIn K mainGlobals (cnm T k)) (some (some (.ref (ga K (cnm T k)))))) && ds.all fun d => supB K (ga K (cnm T d.1)) d.2.fld d.2.qual file
theorem era_of {T : Ti} {L : PrL} {K : PySem.W.Frag} {ds : List (Nat × SupD)} {prog : Program} {h : Heap} {mg : Str → Option Value} (ho : L.ok T = true) (X : K.In h) (G : h.Ns mainGlobals mg) (ok : ∀ d ∈ ds, d.2.Ok) (ht : (prog.main.scope.names.lookup ("super" : Str)).isSome = false)
    (hv : ds.map (fun d => supW K (ga K (cnm T d.1))) = ds.map fun d => d.2.val) (hb : erB T L K prog.main.file ds = true) {Y : Cx} (e1 : Y.prog = prog) (e2 : Y.K = K) (e3 : Y.mg = mg) : ErA (gx T L K) Y := by
  subst e1 e2 e3
  unfold erB at hb
  obtain ⟨b1, b2⟩ := ba hb
  have at_ : ∀ k, (gx T L Y.K).P.isErr k = true → _ := fun k hk => by
    have z := List.all_eq_true.mp b1 k (List.mem_range.mpr (PrL.known ho (.inl hk)))
    have hk' : L.errs.getD k false = true := hk
    rw [hk'] at z
    exact z
  refine ⟨fun k x hk hx => ?_, fun k hk ha => ?_, fun k j hk ha => ?_⟩
  · have ex : cnm T k = x := by
      unfold cnm
      rw [List.getD_eq_getElem?_getD]
      have hx' : T.cnm[k]? = some x := hx
      rw [hx']; rfl
    obtain ⟨a, b⟩ := ba (at_ k hk)
    obtain ⟨b, c⟩ := ba b
    obtain ⟨c, d⟩ := ba c
    obtain ⟨d, e⟩ := ba d
    refine ⟨?_, b, raises_own (of_decide_eq_true c) (of_decide_eq_true d)⟩
    have m := PySem.W.mg_of X G (eqO_ok a)
    rw [ex] at m
    show Y.mg x = some (.ref (ga Y.K (cnm T k)))
    rw [ex]
    exact m
  · obtain ⟨a, b⟩ := ba (at_ k hk)
    obtain ⟨b, c⟩ := ba b
    obtain ⟨c, d⟩ := ba c
    obtain ⟨d, e⟩ := ba d
    have ha' : L.attrs.getD k none = none := ha
    rw [ha'] at e
    exact e
  · obtain ⟨a, b⟩ := ba (at_ k hk)
    obtain ⟨b, c⟩ := ba b
    obtain ⟨c, d⟩ := ba c
    obtain ⟨d, e⟩ := ba d
    have ha' : L.attrs.getD k none = some j := ha
    rw [ha'] at e
    dsimp only at e
    split at e
    · rename_i dd fe
      have m := List.mem_of_find?_eq_some fe
      have q := List.find?_some fe
      have ek : dd.1 = k := by simpa using q
      have ef := of_decide_eq_true e
      have z := List.all_eq_true.mp b2 dd m
      obtain ⟨i, hi, ei⟩ := List.getElem_of_mem m
      have hv1 : supW Y.K (ga Y.K (cnm T dd.1)) = dd.2.val := by
        have y : (ds.map (fun d => supW Y.K (ga Y.K (cnm T d.1))))[i]? = (ds.map fun d => d.2.val)[i]? := by rw [hv]
        rw [List.getElem?_map, List.getElem?_map, List.getElem?_eq_getElem hi, ei] at y
        exact Option.some.inj y
      have r := sup_of (prog := Y.prog) (ok dd m) ht hv1 z
      rw [ef, ek] at r
      exact r
    · cases e
end Rc
end Z_Rc9f
section Z_Rc9g
set_option Elab.async false
set_option linter.all false
set_option maxRecDepth 100000
set_option maxHeartbeats 2000000
set_option autoImplicit false
namespace Rc
open PySem PySem.Spec PyProof.Rows L2
open He (ga ma eqO eqO_ok ba)
structure HkD where
  n : Nat
  fa : List He.Fa
  fn : List He.DefD
  T : Ti
  L : PrL
  file : Str
  sup : List (Nat × SupD)
abbrev AlR : Type := He.AlD × Bool × List SupV
/-- no lists among what is pinned (the script is none of it) -/
def noL (K : PySem.W.Frag) : Bool := K.all fun p => match p.2.cls with
  | .type t => !(t == "list")
  | _ => true
def nlA (g : Addr → Option Obj) (a : Addr) : Bool := match g a with
  | some o => (match o.cls with
    | .type t => !(t == "list")
    | _ => true)
  | none => true
def HkD.obs (d : HkD) (K : PySem.W.Frag) : AlR := (He.obsD d.fa d.fn K, noL K && (clsB d.T d.L K && (erB d.T d.L K d.file d.sup && (K.lookup sysModules).isSome)), d.sup.map fun s => supW K (ga K (cnm d.T s.1)))
def HkD.val (d : HkD) : AlR := (He.valD d.fn, true, d.sup.map fun s => s.2.val)
def asR (g : Addr → Option Obj) (n : Nat) : List Addr := (sysModules :: cStatics :: He.asD g n).filter (nlA g)
def HkD.obsG (d : HkD) (g : Addr → Option Obj) : AlR := d.obs (He.frG g (asR g d.n))
def HkD.Says (d : HkD) (K : PySem.W.Frag) : Prop := d.obs K = d.val
def HkD.hook (d : HkD) : PySem.W.Hook where
  α := AlR
  obs := fun s => d.obsG s.heap.get?
  val := fun _ => d.val
  says := fun _ h => ∃ K : PySem.W.Frag, K.In h ∧ d.Says K
  of := fun _ _ e => ⟨_, He.frG_in, e⟩
  keeps := fun _ _ _ ⟨K, hK, c⟩ k => ⟨K, PySem.W.Frag.In.keeps hK k, c⟩
theorem obsG_eq {d : HkD} {g : Addr → Option Obj} {s : Shared} (h : ∀ a, g a = s.heap.get? a) : d.obsG g = d.hook.obs s := by
  have e : g = s.heap.get? := funext h
  rw [e] <;> rfl
def HkD.ob (d : HkD) (s : PySem.W.SharedT) : AlR := d.obsG (HandSHeadRun.getT s)
theorem ob_eq (d : HkD) (s : PySem.W.SharedT) : d.ob s = d.hook.obs s.abs := obsG_eq (HandSHeadRun.getT_eq s)
section
variable {d : HkD} {K : PySem.W.Frag} {prog : Program} {h : Heap} {mg : Str → Option Value}
theorem HkD.Says.sd (c : d.Says K) : He.SaysD d.fa d.fn K := congrArg (fun z : AlR => z.1) c
theorem HkD.Says.bs0 (c : d.Says K) : noL K = true ∧ (clsB d.T d.L K && (erB d.T d.L K d.file d.sup && (K.lookup sysModules).isSome)) = true := by
  have z : (noL K && (clsB d.T d.L K && (erB d.T d.L K d.file d.sup && (K.lookup sysModules).isSome))) = true := congrArg (fun z : AlR => z.2.1) c
  exact ba z
theorem look_mem : ∀ {K : PySem.W.Frag} {a : Addr} {o : Obj}, K.lookup a = some o → (a, o) ∈ K
  | [], a, o, e => nomatch (show (none : Option Obj) = some o from e)
  | (b, u) :: r, a, o, e => by
    rw [show ((b, u) :: r : PySem.W.Frag).lookup a = (match a == b with | true => some u | false => r.lookup a) from rfl] at e
    cases hb : a == b with
    | true =>
      rw [hb] at e
      cases e
      rw [eq_of_beq hb]
      exact List.mem_cons_self
    | false =>
      rw [hb] at e
      exact List.mem_cons_of_mem _ (look_mem (K := r) e)
theorem no_list {a : Addr} {vs : List Value} (n : noL K = true) (X : K.In h) (ha : h.get? a = some { cls := .type "list", data := .seq vs.toArray }) : K.lookup a = none := by
  cases e : K.lookup a with
  | none => rfl
  | some o =>
    have z := X a o e
    rw [ha] at z
    cases z
    have y := List.all_eq_true.mp n _ (look_mem e)
    simp at y
theorem HkD.Says.bs (c : d.Says K) : clsB d.T d.L K = true ∧ erB d.T d.L K d.file d.sup = true ∧ (K.lookup sysModules).isSome = true := by
  have z := c.bs0.2
  obtain ⟨a, b⟩ := ba z
  obtain ⟨b, c⟩ := ba b
  exact ⟨a, b, c⟩
/-- the free names, the numbers, one list each -/
theorem top_of (c : d.Says K) (X : K.In h) (G : h.Ns mainGlobals mg) (lo : d.L.ok d.T = true) (ok : ∀ s ∈ d.sup, s.2.Ok) (hf : prog.main.file = d.file) (ht : (prog.main.scope.names.lookup ("super" : Str)).isSome = false)
    (hb : (d.T.blt.all fun x => d.fa.any (fun f => match f with
      | .free y => decide (y = x)
      | _ => false) && decide (x ≠ ("__name__" : Str))) = true) (hc : (d.T.con.all fun p => d.fa.any (fun f => match f with
      | .int y i => decide (y = p.1) && decide (i = p.2)
      | _ => false)) = true) : Top (gx d.T d.L K) prog K mg := by
  obtain ⟨c1, c2, c3⟩ := c.bs
  have fk : ∀ f ∈ d.fa, f.ok K = true := fun f hm => by
    obtain ⟨i, hi, ei⟩ := List.getElem_of_mem hm
    exact c.sd.fact i (f := f) (by rw [List.getElem?_eq_getElem hi, ei])
  refine ⟨fun x hx => ?_, fun p hp => ?_, fun Y e => cla_of lo c1 e, fun Y e1 e2 e3 => era_of lo X G ok ht (congrArg (fun z : AlR => z.2.2) c) (by rw [hf]; exact c2) e1 e2 e3, Option.isSome_iff_exists.mp c3⟩
  · obtain ⟨a, b⟩ := ba (List.all_eq_true.mp hb x hx)
    refine ⟨?_, of_decide_eq_true b⟩
    obtain ⟨f, fm, fe⟩ := List.any_eq_true.mp a
    cases f with
    | free y =>
      have e := of_decide_eq_true fe
      subst e
      exact He.free_ok X G (fk _ fm)
    | _ => cases fe
  · obtain ⟨f, fm, fe⟩ := List.any_eq_true.mp (List.all_eq_true.mp hc p hp)
    cases f with
    | int y i =>
      obtain ⟨e1, e2⟩ := ba fe
      have e1 := of_decide_eq_true e1
      have e2 := of_decide_eq_true e2
      obtain ⟨t, z⟩ := He.int_ok X G (fk _ fm)
      exact ⟨t, by rw [← e1, ← e2]; exact z⟩
    | _ => cases fe
end
end Rc
end Z_Rc9g
section Z_Rc9h
set_option Elab.async false
set_option linter.all false
set_option maxRecDepth 100000
set_option autoImplicit false
namespace Rc
open PySem PySem.Spec PyProof.Rows L2
section
variable {g : Gx} {X : Cx}
theorem clsn_own {k : Nat} {x : Str} {pos : Pos} (A : ErA g X) (hk : g.P.isErr k = true) (hx : g.T.cnm[k]? = some x) (hg : Gl X x) (hd : (x == ("__debug__" : Str)) = false) : ClsN g X (.Name x pos) (.own k) :=
  ⟨.inr k, .ref (g.cls k), by unfold tgT; dsimp only; rw [hk]; rfl, pe_glob hg (A.nm k x hk hx).1 rfl hd, fun _ r => r⟩
theorem clsn_ty {t : Ty} {T : String} {x : Str} {pos : Pos} (ht : tgT g.P t = some (.inl T)) (hg : Gl X x) (hm : X.mg x = none ∧ x ≠ ("__name__" : Str)) (hv : bootBuiltins x = some (.type T)) (hd : (x == ("__debug__" : Str)) = false) : ClsN g X (.Name x pos) t :=
  ⟨.inl T, .ty T, ht, pe_bltn hg hm.1 hv rfl hm.2 hd, fun _ r => r⟩
end
end Rc
end Z_Rc9h
section Z_Rc10
set_option Elab.async false
set_option linter.all false
set_option maxRecDepth 100000
set_option maxHeartbeats 2000000
set_option autoImplicit false
namespace Rc
open PySem PySem.Spec PyProof.Rows L2

def absI (i : Int) : Int := if i < 0 then -i else i
def large0 (ns : List Int) : List Int := (ns.filter fun i => decide ((10 : Int) ^ 18 ≤ absI i)).map fun i => absI i - (10 : Int) ^ 18
def cells0 (ns : List Int) : List Int := ns.map absI
def begun (ns : List Int) : S := ⟨large0 ns, 0, cells0 ns, 0⟩
def begT : E := .op .pow (.cst (.int 10)) (.cst (.int 18))
def begE1 : E := .comp (.op .sub (.bi .abs (.loc 2)) begT) (.nm 2) (.seq (.loc 0)) (.yes (.cm .ge (.bi .abs (.loc 2)) begT)) [2]
def begE2 : E := .comp (.bi .abs (.loc 2)) (.nm 2) (.seq (.loc 0)) .no [2]

section
variable (P : Pr) (sem : Nat → List D → S → CRes)
theorem ev_abs2 (a b : Slot) (i : Int) (s : S) : ev P sem (.bi .abs (.loc 2)) ⟨[a, b, .fz (.int i)], s⟩ = .ok (.v (.int (absI i))) ⟨[a, b, .fz (.int i)], s⟩ := by
  simp only [ev, bor, peek, List.getElem?_cons_succ, List.getElem?_cons_zero, Res.bind_ok, dBi, optR, absI]
theorem ev_begT (c : Cfg) : ev P sem begT c = .ok (.v (.int ((10 : Int) ^ 18))) c := by
  simp only [begT, ev, Res.bind_ok, Out.val, dOp, dPow]
  rfl
def begF (k : Eo) (e : E) (y : D) (c : Cfg) : Res (Option D) := match Rc.store (.nm 2) (.v y) (Rc.wipe [2] c.env) with
      | some env => (evc P sem k ⟨env, c.s⟩).bind fun r c => if r = true then (ev P sem e c).bind fun o c => .ok (some o.val) c else .ok none c
      | none => .bad
theorem begF_at (k : Eo) (e : E) (a b t : Slot) (y : D) (s : S) : begF P sem k e y ⟨[a, b, t], s⟩ = (evc P sem k ⟨[a, b, .fz y], s⟩).bind fun r c => if r = true then (ev P sem e c).bind fun o c => .ok (some o.val) c else .ok none c := by
  simp only [begF, Rc.store, Rc.wipe, List.set, Out.slot]
theorem bor_begT (c : Cfg) : bor begT (ev P sem begT) c = .ok (.int ((10 : Int) ^ 18)) c := by
  have z : bor begT (ev P sem begT) c = (ev P sem begT c).bind fun o c => .ok o.val c := by
    unfold begT bor; rfl
  rw [z, ev_begT]; rfl
theorem bor_abs2 (a b : Slot) (i : Int) (s : S) : bor (.bi .abs (.loc 2)) (ev P sem (.bi .abs (.loc 2))) ⟨[a, b, .fz (.int i)], s⟩ = .ok (.int (absI i)) ⟨[a, b, .fz (.int i)], s⟩ := by
  have z (c : Cfg) : bor (.bi .abs (.loc 2)) (ev P sem (.bi .abs (.loc 2))) c = (ev P sem (.bi .abs (.loc 2)) c).bind fun o c => .ok o.val c := by
    unfold bor; rfl
  rw [z, ev_abs2]; rfl
theorem begF1 (a b t : Slot) (i : Int) (s : S) : begF P sem (.yes (.cm .ge (.bi .abs (.loc 2)) begT)) (.op .sub (.bi .abs (.loc 2)) begT) (.int i) ⟨[a, b, t], s⟩ = .ok (if (10 : Int) ^ 18 ≤ absI i then some (.int (absI i - (10 : Int) ^ 18)) else none) ⟨[a, b, .fz (.int i)], s⟩ := by
  have e1 : evc P sem (.yes (.cm .ge (.bi .abs (.loc 2)) begT)) ⟨[a, b, .fz (.int i)], s⟩ = .ok (decide ((10 : Int) ^ 18 ≤ absI i)) ⟨[a, b, .fz (.int i)], s⟩ := by
    rw [evc, ev, if_pos (by rfl), bor_abs2, Res.bind_ok, bor_begT, Res.bind_ok]
    rfl
  have e2 : ev P sem (.op .sub (.bi .abs (.loc 2)) begT) ⟨[a, b, .fz (.int i)], s⟩ = .ok (.v (.int (absI i - (10 : Int) ^ 18))) ⟨[a, b, .fz (.int i)], s⟩ := by
    rw [ev, ev_abs2, Res.bind_ok, ev_begT]
    rfl
  rw [begF_at, e1, Res.bind_ok]
  by_cases h : (10 : Int) ^ 18 ≤ absI i
  · rw [if_pos (decide_eq_true h), e2, if_pos h]; rfl
  · rw [if_neg (by simpa using h), if_neg h]
theorem begF2 (a b t : Slot) (i : Int) (s : S) : begF P sem .no (.bi .abs (.loc 2)) (.int i) ⟨[a, b, t], s⟩ = .ok (some (.int (absI i))) ⟨[a, b, .fz (.int i)], s⟩ := by
  rw [begF_at, evc, Res.bind_ok, if_pos rfl, ev_abs2]; rfl
theorem map_beg1 (a b : Slot) (s : S) : ∀ (ns : List Int) (t : Slot), ∃ t', mapR (begF P sem (.yes (.cm .ge (.bi .abs (.loc 2)) begT)) (.op .sub (.bi .abs (.loc 2)) begT)) (ns.map D.int) ⟨[a, b, t], s⟩ = .ok ((large0 ns).map .int) ⟨[a, b, t'], s⟩
  | [], t => ⟨t, rfl⟩
  | n :: r, t => by
    obtain ⟨t', h⟩ := map_beg1 a b s r (.fz (.int n))
    refine ⟨t', ?_⟩
    rw [List.map_cons, mapR, begF1, Res.bind_ok, h, Res.bind_ok]
    unfold large0
    by_cases z : (10 : Int) ^ 18 ≤ absI n
    · rw [if_pos z, List.filter_cons_of_pos (by simpa using z)]; rfl
    · rw [if_neg z, List.filter_cons_of_neg (by simpa using z)]
theorem map_beg2 (a b : Slot) (s : S) : ∀ (ns : List Int) (t : Slot), ∃ t', mapR (begF P sem .no (.bi .abs (.loc 2))) (ns.map D.int) ⟨[a, b, t], s⟩ = .ok ((cells0 ns).map .int) ⟨[a, b, t'], s⟩
  | [], t => ⟨t, rfl⟩
  | n :: r, t => by
    obtain ⟨t', h⟩ := map_beg2 a b s r (.fz (.int n))
    refine ⟨t', ?_⟩
    rw [List.map_cons, mapR, begF2, Res.bind_ok, h, Res.bind_ok]
    rfl
theorem large0_len (ns : List Int) : (large0 ns).length ≤ ns.length := by
  unfold large0
  rw [List.length_map]
  exact List.length_filter_le _ _
theorem ev_beg1 (b t : Slot) (ns : List Int) (s : S) (h : ns.length ≤ most) : ev P sem begE1 ⟨[.fz (.lst (ns.map .int)), b, t], s⟩ = .ok (.l ((large0 ns).map .int)) ⟨[.fz (.lst (ns.map .int)), b, .none], s⟩ := by
  obtain ⟨t', e⟩ := map_beg1 P sem (.fz (.lst (ns.map .int))) b s ns t
  rw [begE1, ev]
  show (Res.ok (ns.map D.int) (⟨[.fz (.lst (ns.map .int)), b, t], s⟩ : Cfg)).bind _ = _
  rw [Res.bind_ok]
  show (noexc (mapR (begF P sem _ _) _ _)).bind _ = _
  rw [e]
  show (if ((large0 ns).map D.int).length ≤ most then _ else _) = _
  rw [if_pos (by rw [List.length_map]; exact Nat.le_trans (large0_len ns) h)]; rfl
theorem ev_beg2 (b t : Slot) (ns : List Int) (s : S) (h : ns.length ≤ most) : ev P sem begE2 ⟨[.fz (.lst (ns.map .int)), b, t], s⟩ = .ok (.l ((cells0 ns).map .int)) ⟨[.fz (.lst (ns.map .int)), b, .none], s⟩ := by
  obtain ⟨t', e⟩ := map_beg2 P sem (.fz (.lst (ns.map .int))) b s ns t
  rw [begE2, ev]
  show (Res.ok (ns.map D.int) (⟨[.fz (.lst (ns.map .int)), b, t], s⟩ : Cfg)).bind _ = _
  rw [Res.bind_ok]
  show (noexc (mapR (begF P sem .no (.bi .abs (.loc 2))) (ns.map D.int) ⟨[.fz (.lst (ns.map .int)), b, t], s⟩)).bind (fun ds c' => if ds.length ≤ most then Res.ok (Out.l ds) ⟨Rc.wipe [2] c'.env, c'.s⟩ else .bad) = _
  rw [e]
  show (if ((cells0 ns).map D.int).length ≤ most then _ else _) = _
  rw [if_pos (by rw [List.length_map]; unfold cells0; rw [List.length_map]; exact h)]; rfl
end
theorem isL_ints {w : Wd} {G : Hp} : ∀ {vs : List V} {ns : List Int}, IsL w G vs (ns.map .int) → vs = ns.map .int
  | _, [], .nil => rfl
  | _, n :: r, .cons h q => by
    cases h
    rw [isL_ints q]; rfl
/-- the promise of the first def of a law -/
def spBeg : Sp := fun vs H Q _ => ∃ (a : Addr) (ns : List Int), vs = [.ref a] ∧ Rd H a (.lst (ns.map .int)) ∧ ns.length ≤ 63 ∧
  ∀ H' d l c, (∀ b o, H b = some o → H' b = some o) → H d = none → H l = none → H c = none → RepD H' ⟨true, d, l, c, cells0 ns⟩ (begun ns) → Q (.ref d) H'
def rOff : Dr := ⟨false, 0, 0, 0, []⟩
theorem rOff_has (a : Addr) : ¬ rOff.has a := fun z => nomatch z.1
/-- only what stands at a -/
def onlyAt (H : Hp) (a : Addr) : Hp := fun b => if b = a then H a else none
theorem onlyAt_le {H : Hp} {a b : Addr} {o : HO} (h : onlyAt H a b = some o) : b = a ∧ H a = some o := by
  unfold onlyAt at h
  by_cases z : b = a
  · rw [if_pos z] at h; exact ⟨z, h⟩
  · rw [if_neg z] at h; cases h
theorem onlyAt_rd {H : Hp} {a : Addr} {o : HO} (h : Rd H a o) : Rd (onlyAt H a) a o := by
  rcases h with h | ⟨x, h⟩
  · exact .inl (by unfold onlyAt; rw [if_pos rfl]; exact h)
  · exact .inr ⟨x, by unfold onlyAt; rw [if_pos rfl]; exact h⟩
section
variable {g : Gx} {sem : Nat → List D → S → CRes} {fuel : Nat} {X : Cx} {W : WX}
theorem merge4 (a b c d : V) : mergeK [] [(kLarge, a), (kRest, b), (kCells, c), (kTurn, d)] = [(kLarge, a), (kRest, b), (kCells, c), (kTurn, d)] := by
  have n1 : (kLarge = kRest) = False := by decide
  have n2 : (kLarge = kCells) = False := by decide
  have n3 : (kLarge = kTurn) = False := by decide
  have n4 : (kRest = kCells) = False := by decide
  have n5 : (kRest = kTurn) = False := by decide
  have n6 : (kCells = kTurn) = False := by decide
  simp [mergeK, putK, n1, n2, n3, n4, n5, n6]
def tBeg : TS := fun D σ H => ∃ (a : Addr) (ns : List Int), σ = [some (.ref a), none, none] ∧ Rd H a (.lst (ns.map .int)) ∧ ns.length ≤ 63 ∧
  ∀ H' d l c, (∀ b o, H b = some o → H' b = some o) → H d = none → H l = none → H c = none → RepD H' ⟨true, d, l, c, cells0 ns⟩ (begun ns) → D.rt (.ref d) H'
theorem beg_body {st0 : Stmt} {ec : Expr} {j1 j2 j3 j4 j5 j6 : Nat} {p1 p2 p3 p4 p5 p6 p7 dp rp : Pos} (hN : X.N[1]? = some ("_law_large" : Str)) (hv : Vis X.env.scope "_law_large")
    (h1 : PS X st0 (rdC g sem fuel (.asg (.nm 1) begE1) W)) (h2 : PE X ec (rd g sem begE2 W)) :
    PSs X [st0, .Return (some (.Dict [some (.Constant (.str "large") j1 p1), some (.Constant (.str "rest") j2 p2), some (.Constant (.str "cells") j3 p3), some (.Constant (.str "turn") j4 p4)] [.Name "_law_large" p5, .Constant (.int 0) j5 p6, ec, .Constant (.int 0) j6 p7] dp)) rp] tBeg := by
  refine PSs.wk (pss_cons h1 (pss_one (ps_ret (pe_disp (pps_cons pe_str (pe_var hN hv (by decide) (by decide)) (pps_cons pe_str pe_int (pps_cons pe_str h2 (pps_cons pe_str pe_int pps_nil)))) rfl rfl (List.cons_ne_nil _ _) (show 4 ≤ 15 by decide))))) fun D σ H h => ?_
  obtain ⟨a, ns, rfl, hr, hl, h⟩ := h
  have hm : ns.length ≤ most := Nat.le_trans hl (by decide)
  let c0 : Cfg := ⟨[.fz (.lst (ns.map .int)), .none, .none], ⟨[], 0, [], 0⟩⟩
  have R0 : Rp (g.wd rOff) H (onlyAt H a) [some (.ref a), none, none] H (onlyAt H a) (fun _ => []) c0 := {
    g0 := Le.refl _
    new := fun _ z => .inl z
    gh := fun b o e => by
      obtain ⟨rfl, e⟩ := onlyAt_le e
      exact ⟨rOff_has _, .inl e⟩
    ext := fun _ _ e _ => e
    dr := fun z => nomatch z
    len := rfl
    slot := fun i s e => by
      match i, e with
      | 0, e =>
        have e1 : Slot.fz (.lst (ns.map .int)) = s := Option.some.inj e
        subst e1
        exact ⟨rfl, _, rfl, .lst (onlyAt_rd hr) (IsL.ints ns)⟩
      | 1, e =>
        have e1 : Slot.none = s := Option.some.inj e
        subst e1
        exact rfl
      | 2, e =>
        have e1 : Slot.none = s := Option.some.inj e
        subst e1
        exact rfl
    own := fun _ _ m => nomatch m
    dis := fun _ _ _ m _ => nomatch m }
  refine ⟨rOff, H, onlyAt H a, onlyAt H a, _, c0, R0, ?_⟩
  rw [exec, ev_beg1 _ _ _ _ _ _ hm]
  intro σ1 H1 G1 ow1 R1 l1 p hp
  obtain ⟨q, vs, eq1, eo, eH, iv⟩ := R1.slot 1 _ rfl
  refine ⟨.ref q, R1.at eq1, ?_⟩
  have f := R1.fresh hp (.dK [])
  have RL := (R1.upd (o := .dK []) hp).lend f upd_same
  refine ⟨rOff, _, _, _, _, _, RL, ?_⟩
  have e2 : ev g.P sem begE2 ⟨[.fz (.lst (ns.map .int)), .ol ((large0 ns).map .int), .none], c0.s⟩ = .ok (.l ((cells0 ns).map .int)) ⟨[.fz (.lst (ns.map .int)), .ol ((large0 ns).map .int), .none], c0.s⟩ := ev_beg2 _ _ _ _ _ _ hm
  refine res_of _ _ _ _ _ e2 fun v H2 G2 ow2 R2 l2 O2 K2 => ?_
  obtain ⟨q2, vs2, rfl, eH2, iv2, fq2⟩ := O2
  obtain ⟨R3, f3, e3⟩ := R2.unlend f.h0 (R1.g0none f.g) f.dr
  obtain ⟨q', vs', eq1', eo', eH', iv'⟩ := R3.slot 1 _ rfl
  have eqq : q' = q := by
    rw [eq1] at eq1'
    cases eq1'
    rfl
  subst eqq
  have z1 := isL_ints iv'
  have z2 := isL_ints iv2
  subst z1 z2
  have q2p : q2 ≠ p := fun z => by
    have y := fq2.h0
    rw [z, upd_same] at y
    cases y
  have m1 : q' ∈ ow2 1 := by rw [eo']; simp
  have o1 := R3.own 1 q' m1
  have q1p : q' ≠ p := fun z => f3.own 1 (by rw [← z]; exact m1)
  have q12 : q' ≠ q2 := fun z => fq2.own 1 (by rw [← z]; exact m1)
  have e3q : H2 q2 = some (.lst ((cells0 ns).map .int)) := eH2
  have h02 : H q2 = none := by
    have y := fq2.h0
    rw [upd_ne q2p] at y
    exact y
  refine ⟨e3, [(kLarge, .ref q'), (kRest, .int 0), (kCells, .ref q2), (kTurn, .int 0)], rfl, show 4 ≤ 15 by decide, ?_⟩
  rw [merge4]
  refine h _ p q' q2 (fun b o e => ?_) f.h0 o1.2.1 h02 ⟨upd_same, ?_, ?_, q12, rfl⟩
  · have y := R3.ext b o e (rOff_has _)
    have nb : b ≠ p := fun z => by rw [z, f.h0] at e; cases e
    rw [upd_ne nb]; exact y
  · rw [upd_ne q1p, eH'] <;> rfl
  · rw [upd_ne q2p, e3q] <;> rfl
end
section
variable {g : Gx} {sem : Nat → List D → S → CRes} {fuel : Nat} {X : Cx} {W : WX}
/-- the law's promise -/
def spLaw : Sp := fun vs H Q _ => ∃ (a : Addr) (ns : List Int), vs = [.ref a] ∧ Rd H a (.lst (ns.map .int)) ∧ ns.length ≤ 63 ∧ ∀ H', Q (.bl true) H'
/-- the places of the law's frame behind its first statement -/
def lawEnv (m : Nat) (ns : List Int) : List Slot := .fz (.lst (ns.map .int)) :: .fz .drw :: List.replicate m .none
theorem law_body {m : Nat} {st0 : Stmt} {rest : List Stmt} {b : Cs} {ec : TS} (h0 : PS X st0 (tAsg (tCallS spBeg (WE W) (tCons (tVar 0) tNil)) (gName 1))) (hr : PSs X rest (rdCs g sem fuel b W))
    (plain : ∀ ns : List Int, ns.length ≤ 63 → ∃ s, execs g.P sem fuel b ⟨lawEnv m ns, begun ns⟩ = .ret (.bl true) s) :
    PSs X (st0 :: rest) fun D σ H => ∃ (a : Addr) (ns : List Int), σ = some (.ref a) :: none :: List.replicate m none ∧ Rd H a (.lst (ns.map .int)) ∧ ns.length ≤ 63 ∧ ∀ H', D.rt (.bl true) H' := by
  refine PSs.wk (pss_cons h0 hr) fun D σ H h => ?_
  obtain ⟨a, ns, rfl, hrd, hl, hq⟩ := h
  obtain ⟨s2, e⟩ := plain ns hl
  refine ⟨.ref a, rfl, ⟨a, ns, rfl, hrd, hl, fun H' d l c keep hd hl' hc rp => ?_⟩⟩
  let r : Dr := ⟨true, d, l, c, cells0 ns⟩
  have nh : ∀ b, H b ≠ none → ¬ r.has b := fun b hb z => by
    rcases z.2 with z | z | z
    · exact hb (by rw [z]; exact hd)
    · exact hb (by rw [z]; exact hl')
    · exact hb (by rw [z]; exact hc)
  have ha : H a ≠ none := by
    rcases hrd with z | ⟨_, z⟩ <;> rw [z] <;> simp
  have R0 : Rp (g.wd r) H' (onlyAt H a) (some (.ref a) :: some (.ref d) :: List.replicate m none) H' (onlyAt H a) (fun _ => []) ⟨lawEnv m ns, begun ns⟩ := {
    g0 := Le.refl _
    new := fun _ z => .inl z
    gh := fun b o e => by
      obtain ⟨rfl, e⟩ := onlyAt_le e
      exact ⟨nh _ ha, .inl (keep _ _ e)⟩
    ext := fun _ _ e _ => e
    dr := fun _ => rp
    len := by simp [lawEnv]
    slot := fun i s e => by
      match i, e with
      | 0, e =>
        have e1 : Slot.fz (.lst (ns.map .int)) = s := Option.some.inj e
        subst e1
        exact ⟨rfl, _, rfl, .lst (onlyAt_rd hrd) (IsL.ints ns)⟩
      | 1, e =>
        have e1 : Slot.fz .drw = s := Option.some.inj e
        subst e1
        exact ⟨rfl, _, rfl, .drw rfl⟩
      | i + 2, e =>
        have e1 : (List.replicate m Slot.none)[i]? = some s := e
        rw [List.getElem?_replicate] at e1
        split at e1
        · cases e1; exact rfl
        · cases e1
    own := fun _ _ z => nomatch z
    dis := fun _ _ _ z _ => nomatch z }
  refine ⟨r, H', onlyAt H a, onlyAt H a, _, _, R0, ?_⟩
  rw [e]
  intro v H3 G3 _ iv
  cases iv
  exact hq _
end
section
variable {g : Gx} {P : Program} {w : World} {K : PySem.W.Frag} {mg : Str → Option Value} {base : Heap}
/-- the first def -/
theorem beg_ok {x qual : Str} {params : Arguments} {body : List Stmt} {scope : Scope} {f : Addr} {fd : FuncData} {sem : Nat → List D → S → CRes} (F : FunD K x qual params body scope [] [] f fd) (Sc : FnScope ["_law_script", "_law_large", "_law_grain"] ["_law_script"] scope) (T : Top g P K mg) (fns : ∀ (j : Nat) (y : Str), g.T.fnm[j]? = some y → FnB g P w K mg base (3 * 0) y (sem j))
    (hb : ∀ (cdv : Value) (A : Around) (outer : List Env) (s : Shared) (H : Hp) (E : XK), CtxA g sem 0 (cxOf (L2.CX P w) P w K mg base ["_law_script", "_law_large", "_law_grain"] qual scope f cdv A outer s H E) →
      PSs (cxOf (L2.CX P w) P w K mg base ["_law_script", "_law_large", "_law_grain"] qual scope f cdv A outer s H E) body tBeg) :
    FnG P w K mg base (L2.CX P w) 3 f fd ["_law_script"] spBeg := by
  refine fnG_of (k := 2) F Sc (fun vs H Q E h => ?_) fun cdv A outer s H vs Q E gu rm hsp => ?_
  · obtain ⟨_, _, rfl, _⟩ := h; rfl
  have C : CtxA g sem 0 (cxOf (L2.CX P w) P w K mg base ["_law_script", "_law_large", "_law_grain"] qual scope f cdv A outer s H E) :=
    ⟨⟨Sc.nd, rfl, gu, rm, T.blt, T.con, fun j y h => ⟨fns j y h⟩⟩, T.cl _ rfl, T.er _ rfl rfl rfl, T.sm⟩
  refine ⟨_, hb cdv A outer s H E C, ?_⟩
  obtain ⟨a, ns, rfl, h⟩ := hsp
  exact ⟨a, ns, rfl, h⟩
/-- the law -/
theorem lawG_ok {x qual : Str} {params : Arguments} {body : List Stmt} {scope : Scope} {f : Addr} {fd : FuncData} {N : List Str} {m n : Nat} {sem : Nat → List D → S → CRes} (F : FunD K x qual params body scope [] [] f fd) (Sc : FnScope N ["_law_script"] scope) (hN : N.length = m + 2) (T : Top g P K mg) (fns : ∀ (j : Nat) (y : Str), g.T.fnm[j]? = some y → FnB g P w K mg base (3 * n) y (sem j))
    (hb : ∀ (cdv : Value) (A : Around) (outer : List Env) (s : Shared) (H : Hp) (E : XK), CtxA g sem n (cxOf (L2.CX P w) P w K mg base N qual scope f cdv A outer s H E) →
      PSs (cxOf (L2.CX P w) P w K mg base N qual scope f cdv A outer s H E) body fun D σ H => ∃ (a : Addr) (ns : List Int), σ = some (.ref a) :: none :: List.replicate m none ∧ Rd H a (.lst (ns.map .int)) ∧ ns.length ≤ 63 ∧ ∀ H', D.rt (.bl true) H') :
    FnG P w K mg base (L2.CX P w) (3 * (n + 1)) f fd ["_law_script"] spLaw := by
  refine fnG_of (k := 3 * n + 2) F Sc (fun vs H Q E h => ?_) fun cdv A outer s H vs Q E gu rm hsp => ?_
  · obtain ⟨_, _, rfl, _⟩ := h; rfl
  have C : CtxA g sem n (cxOf (L2.CX P w) P w K mg base N qual scope f cdv A outer s H E) :=
    ⟨⟨Sc.nd, rfl, gu, rm, T.blt, T.con, fun j y h => ⟨fns j y h⟩⟩, T.cl _ rfl, T.er _ rfl rfl rfl, T.sm⟩
  refine ⟨_, hb cdv A outer s H E C, ?_⟩
  obtain ⟨a, ns, rfl, h1, h2, h3⟩ := hsp
  refine ⟨a, ns, ?_, h1, h2, h3⟩
  show ([V.ref a].map some ++ List.replicate (N.length - 1) none) = _
  rw [hN]; rfl
end
theorem vis_by {sc : Scope} {x : Str} (h : (match sc.names.lookup x with
    | some .local => true
    | some .cell => true
    | some .free => true
    | _ => false) = true) : L2.Vis sc x := by
  unfold L2.Vis
  split at h
  · rename_i e; exact .inl e
  · rename_i e; exact .inr (.inl e)
  · rename_i e; exact .inr (.inr e)
  · cases h
theorem loc_by {sc : Scope} {x : Str} (h : (match sc.names.lookup x with
    | some .local => true
    | some .cell => true
    | _ => false) = true) : L2.Loc sc x := by
  unfold L2.Loc
  split at h
  · rename_i e; exact .inl e
  · rename_i e; exact .inr e
  · cases h
theorem CxA.u80 {g : Gx} {sem : Nat → List D → S → CRes} {n q : Nat} {X : Cx} (A : CxA g sem n q X) : X.A.units + 80 < cLine := by
  have z := A.room.un
  omega
/-- a law, walked: the script is none of what is pinned -/
theorem walk_ofN {l : PySem.W.OpenLaw} {k : Nat} {q : Program} {loose : List Str} {XP : (Str → Option Value) → Heap → Prop} {YP : World → Heap → Prop} {d : DefRec}
    (hn : l.most = some 63) (hdf : d.params.defaults = []) (rm : Room k callerA)
    (F : ∀ (w : World) (mg : Str → Option Value) (fa : Addr) (h : Heap), YP w h → h.Ns mainGlobals mg → mg d.name = some (.ref fa) → ∃ (K : PySem.W.Frag) (fd : FuncData), K.In h ∧ noL K = true ∧ (∀ (s : Shared) (u : Value), BindsTo s fd ⟨[u], []⟩ [("_law_script", u)]) ∧
      ∀ base : Heap, K.In base → base.Ns mainGlobals mg → FnG l.prog w K mg base (L2.CX l.prog w) k fa fd ["_law_script"] spLaw) : PySem.W.WalkO q loose XP YP l.row.toRowW d [] (fun f vs => PySem.call f vs) := by
  refine Att.attach_call hn hdf fun w s0 s1 mg mb fa o pm cd doc a vs ns G Y ho hd hcd hmg hobj hints hlen hg => ?_
  obtain ⟨K, fd, KX, nl, bnd, hF⟩ := F w mg fa _ Y G.T.g hmg
  have noK := no_list nl KX hobj
  refine law_callG KX G.T.g G.T.b G.T.builtins G.T.nolimit hg hobj hints (Nat.le_trans hlen (by decide)) rm hF bnd (fun H only hS => ?_) fun H e s' => cx_never l.prog w H s1 e s'
  refine ⟨a, ns, rfl, ?_, hlen, fun _ => rfl⟩
  rcases hS with h | ⟨o, _, _, z, _⟩
  · exact h
  · rw [noK] at z; cases z
end Rc
end Z_Rc10
section Z_Rc11
set_option Elab.async false
set_option linter.all false
set_option maxRecDepth 100000
set_option maxHeartbeats 2000000
set_option autoImplicit false
namespace Rc
open PySem
def irMixed : Df0 := ⟨1, 6, (.cons (.dset 0 .turn (.op .add (.dget 0 .turn) (.cst (.int (1)))))
  (.cons (.par [1, 2] (.cons (.bi .int (.dget 0 .turn)) (.cons (.cst (.int (0))) .nil)))
  (.cons (.for (.nm 3) (.seq (.lst (.cons (.cst (.int (2147483629))) (.cons (.cst (.int (2147483587))) (.cons (.cst (.int (2147483579))) .nil)))))
  (.cons (.asg (.nm 4) (.op .mod (.op .add (.op .mul (.loc 1) (.cst (.int (69621)))) (.op .fdiv (.loc 3) (.cst (.int (7))))) (.loc 3)))
  (.cons (.for (.nm 5) (.cells 0)
  (.cons (.asg (.nm 4) (.op .mod (.op .add (.op .mul (.loc 4) (.cst (.int (48271)))) (.bi .int (.loc 5))) (.loc 3)))
  .nil))
  (.cons (.asg (.nm 2) (.op .add (.op .mul (.loc 2) (.cst (.int (2147483647)))) (.op .mod (.op .pow (.loc 4) (.cst (.int (5)))) (.loc 3))))
  .nil))))
  (.cons (.ret (.loc 2))
  .nil))))⟩
def irTake (jm : Nat) : Df0 := ⟨2, 3, (.cons (.ifs (.cm .eq (.dget 0 .rest) (.cst (.int (0))))
  (.cons (.dset 0 .rest (.ite (.dlarge 0) (.dpop 0) (.call jm (.cons (.loc 0) .nil))))
  .nil)
  .nil)
  (.cons (.asg (.nm 2) (.op .mod (.bi .int (.dget 0 .rest)) (.loc 1)))
  (.cons (.dset 0 .rest (.op .fdiv (.bi .int (.dget 0 .rest)) (.loc 1)))
  (.cons (.ret (.loc 2))
  .nil))))⟩
def irPick (jt : Nat) : Df0 := ⟨2, 2, (.cons (.ret (.ix (.loc 1) (.call jt (.cons (.loc 0) (.cons (.bi .len (.loc 1)) .nil)))))
  .nil)⟩
section
variable (P : Pr) (sem : Nat → List D → S → CRes) (fuel : Nat)
/-- the inner loop of mixed -/
theorem mixed_in (tn fo gr : Int) (hg : 0 < gr) (s : S) : ∀ (ns : List Int) (bl : Int) (t : Slot), 0 ≤ bl → bl < gr → ∃ bl' t', 0 ≤ bl' ∧ bl' < gr ∧
    loopF (fun x c => optS (store (.nm 5) (.v x) c.env) fun env => execs P sem fuel (.cons (.asg (.nm 4) (.op .mod (.op .add (.op .mul (.loc 4) (.cst (.int (48271)))) (.bi .int (.loc 5))) (.loc 3))) .nil) ⟨env, c.s⟩) (ns.map .int)
      ⟨[.fz .drw, .fz (.int tn), .fz (.int fo), .fz (.int gr), .fz (.int bl), t], s⟩ = .nx ⟨[.fz .drw, .fz (.int tn), .fz (.int fo), .fz (.int gr), .fz (.int bl'), t'], s⟩
  | [], bl, t, h0, h1 => ⟨bl, t, h0, h1, rfl⟩
  | n :: r, bl, t, h0, h1 => by
    obtain ⟨bl', t', a, b, e⟩ := mixed_in tn fo gr hg s r ((bl * 48271 + n) % gr) (.fz (.int n)) (Int.emod_nonneg _ (by omega)) (Int.emod_lt_of_pos _ hg)
    refine ⟨bl', t', a, b, ?_⟩
    have ee : execs P sem fuel (.cons (.asg (.nm 4) (.op .mod (.op .add (.op .mul (.loc 4) (.cst (.int (48271)))) (.bi .int (.loc 5))) (.loc 3))) .nil) ⟨[.fz .drw, .fz (.int tn), .fz (.int fo), .fz (.int gr), .fz (.int bl), .fz (.int n)], s⟩ = .nx ⟨[.fz .drw, .fz (.int tn), .fz (.int fo), .fz (.int gr), .fz (.int ((bl * 48271 + n) % gr)), .fz (.int n)], s⟩ := by
      simp [execs, exec, ev, load, bor, peek, dOp, dMul, dAdd, dMod, dBi, optR, Out.val, store, Out.slot, optS, hg]
    rw [List.map_cons, loopF]
    simp only [store, optS, List.set, Out.slot]
    rw [ee]
    exact e
/-- one turn of the outer loop -/
def mixBody : Cs := (.cons (.asg (.nm 4) (.op .mod (.op .add (.op .mul (.loc 1) (.cst (.int (69621)))) (.op .fdiv (.loc 3) (.cst (.int (7))))) (.loc 3)))
  (.cons (.for (.nm 5) (.cells 0)
  (.cons (.asg (.nm 4) (.op .mod (.op .add (.op .mul (.loc 4) (.cst (.int (48271)))) (.bi .int (.loc 5))) (.loc 3)))
  .nil))
  (.cons (.asg (.nm 2) (.op .add (.op .mul (.loc 2) (.cst (.int (2147483647)))) (.op .mod (.op .pow (.loc 4) (.cst (.int (5)))) (.loc 3))))
  .nil)))
theorem mixed_turn (tn fo gr : Int) (hg : 0 < gr) (hb : gr < 2 ^ 40) (s : S) (t4 t5 : Slot) : ∃ fo' t4' t5', execs P sem fuel mixBody ⟨[.fz .drw, .fz (.int tn), .fz (.int fo), .fz (.int gr), t4, t5], s⟩ = .nx ⟨[.fz .drw, .fz (.int tn), .fz (.int fo'), .fz (.int gr), t4', t5'], s⟩ := by
  obtain ⟨bl, t5', h0, h1, e⟩ := mixed_in P sem fuel tn fo gr hg s s.cells ((tn * 69621 + gr / 7) % gr) t5 (Int.emod_nonneg _ (by omega)) (Int.emod_lt_of_pos _ hg)
  refine ⟨fo * 2147483647 + bl ^ 5 % gr, .fz (.int bl), t5', ?_⟩
  have e1 : exec P sem fuel (.asg (.nm 4) (.op .mod (.op .add (.op .mul (.loc 1) (.cst (.int (69621)))) (.op .fdiv (.loc 3) (.cst (.int (7))))) (.loc 3))) ⟨[.fz .drw, .fz (.int tn), .fz (.int fo), .fz (.int gr), t4, t5], s⟩ = .nx ⟨[.fz .drw, .fz (.int tn), .fz (.int fo), .fz (.int gr), .fz (.int ((tn * 69621 + gr / 7) % gr)), t5], s⟩ := by
    simp [exec, ev, load, dOp, dMul, dAdd, dMod, dFdiv, optR, Out.val, store, Out.slot, optS, hg]
  have e2 : exec P sem fuel (.for (.nm 5) (.cells 0) (.cons (.asg (.nm 4) (.op .mod (.op .add (.op .mul (.loc 4) (.cst (.int (48271)))) (.bi .int (.loc 5))) (.loc 3))) .nil)) ⟨[.fz .drw, .fz (.int tn), .fz (.int fo), .fz (.int gr), .fz (.int ((tn * 69621 + gr / 7) % gr)), t5], s⟩ = .nx ⟨[.fz .drw, .fz (.int tn), .fz (.int fo), .fz (.int gr), .fz (.int bl), t5'], s⟩ := by
    rw [exec, ← e]; rfl
  have hp : bl.natAbs < 2 ^ 64 := by omega
  have e3 : exec P sem fuel (.asg (.nm 2) (.op .add (.op .mul (.loc 2) (.cst (.int (2147483647)))) (.op .mod (.op .pow (.loc 4) (.cst (.int (5)))) (.loc 3)))) ⟨[.fz .drw, .fz (.int tn), .fz (.int fo), .fz (.int gr), .fz (.int bl), t5'], s⟩ = .nx ⟨[.fz .drw, .fz (.int tn), .fz (.int (fo * 2147483647 + bl ^ 5 % gr)), .fz (.int gr), .fz (.int bl), t5'], s⟩ := by
    have q : dPow (.int bl) (.int 5) = some (.v (.int (bl ^ 5))) := by
      show (if (0 : Int) ≤ 5 ∧ (5 : Int) ≤ 1000 ∧ bl.natAbs < 2 ^ 64 then some (Out.v (.int (bl ^ (5 : Int).toNat))) else none) = _
      rw [if_pos ⟨by decide, by decide, hp⟩]; rfl
    simp [exec, ev, load, dOp, dMul, dAdd, dMod, q, optR, Out.val, store, Out.slot, optS, hg]
  rw [mixBody, execs, e1, SRes.then_nx, execs, e2, SRes.then_nx, execs, e3, SRes.then_nx, execs]
theorem mixed_ok (s : S) : ∃ v s', runD P sem fuel irMixed [.drw] s = .ok (.int v) s' := by
  let s1 : S := { s with turn := s.turn + 1 }
  obtain ⟨f1, a1, b1, e1⟩ := mixed_turn P sem fuel s1.turn 0 2147483629 (by decide) (by decide) s1 .none .none
  obtain ⟨f2, a2, b2, e2⟩ := mixed_turn P sem fuel s1.turn f1 2147483587 (by decide) (by decide) s1 a1 b1
  obtain ⟨f3, a3, b3, e3⟩ := mixed_turn P sem fuel s1.turn f2 2147483579 (by decide) (by decide) s1 a2 b2
  refine ⟨f3, s1, ?_⟩
  have h1 : exec P sem fuel (.dset 0 .turn (.op .add (.dget 0 .turn) (.cst (.int (1))))) ⟨[.fz .drw, .none, .none, .none, .none, .none], s⟩ = .nx ⟨[.fz .drw, .none, .none, .none, .none, .none], s1⟩ := by
    simp [exec, ev, dOp, dAdd, optR, Out.val, s1]
  have h2 : exec P sem fuel (.par [1, 2] (.cons (.bi .int (.dget 0 .turn)) (.cons (.cst (.int (0))) .nil))) ⟨[.fz .drw, .none, .none, .none, .none, .none], s1⟩ = .nx ⟨[.fz .drw, .fz (.int s1.turn), .fz (.int 0), .none, .none, .none], s1⟩ := by
    simp [exec, evouts, ev, bor, dBi, optR, Out.val, setOuts, Out.slot]
  have h3 : exec P sem fuel (.for (.nm 3) (.seq (.lst (.cons (.cst (.int (2147483629))) (.cons (.cst (.int (2147483587))) (.cons (.cst (.int (2147483579))) .nil))))) mixBody) ⟨[.fz .drw, .fz (.int s1.turn), .fz (.int 0), .none, .none, .none], s1⟩ = .nx ⟨[.fz .drw, .fz (.int s1.turn), .fz (.int f3), .fz (.int 2147483579), a3, b3], s1⟩ := by
    have hs : evSrc P sem (.seq (.lst (.cons (.cst (.int (2147483629))) (.cons (.cst (.int (2147483587))) (.cons (.cst (.int (2147483579))) .nil))))) ⟨[.fz .drw, .fz (.int s1.turn), .fz (.int 0), .none, .none, .none], s1⟩ = .ok [.int 2147483629, .int 2147483587, .int 2147483579] ⟨[.fz .drw, .fz (.int s1.turn), .fz (.int 0), .none, .none, .none], s1⟩ := by
      simp [evSrc, ev, evs, optR, seqD, Out.val, most]
    rw [exec, hs, Res.to_ok, loopF]
    simp only [store, optS, List.set, Out.slot, e1]
    rw [loopF]
    simp only [store, optS, List.set, Out.slot, e2]
    rw [loopF]
    simp only [store, optS, List.set, Out.slot, e3]
    rw [loopF]
  have h4 : exec P sem fuel (.ret (.loc 2)) ⟨[.fz .drw, .fz (.int s1.turn), .fz (.int f3), .fz (.int 2147483579), a3, b3], s1⟩ = .ret (.int f3) s1 := by
    simp [exec, ev, load, Out.val]
  unfold runD
  rw [if_pos (by rfl)]
  have hb : execs P sem fuel irMixed.body ⟨frame irMixed.size [.drw], s⟩ = .ret (.int f3) s1 := by
    show execs P sem fuel (.cons (.dset 0 .turn (.op .add (.dget 0 .turn) (.cst (.int (1)))))
  (.cons (.par [1, 2] (.cons (.bi .int (.dget 0 .turn)) (.cons (.cst (.int (0))) .nil)))
  (.cons (.for (.nm 3) (.seq (.lst (.cons (.cst (.int (2147483629))) (.cons (.cst (.int (2147483587))) (.cons (.cst (.int (2147483579))) .nil))))) mixBody)
  (.cons (.ret (.loc 2)) .nil)))) ⟨[.fz .drw, .none, .none, .none, .none, .none], s⟩ = _
    rw [execs, h1, SRes.then_nx, execs, h2, SRes.then_nx, execs, h3, SRes.then_nx, execs, h4, SRes.then_ret]
  rw [hb]
/-- take: a number from 0 to amount - 1 -/
theorem take_ok {jm : Nat} (hm : ∀ s, ∃ v s', sem jm [.drw] s = .ok (.int v) s') (a : Int) (ha : 0 < a) (hb : a < 1073741824) (s : S) : ∃ k s', 0 ≤ k ∧ k < a ∧ runD P sem fuel (irTake jm) [.drw, .int a] s = .ok (.int k) s' := by
  have hp : ∀ s : S, ∃ s' : S, exec P sem fuel (.ifs (.cm .eq (.dget 0 .rest) (.cst (.int (0)))) (.cons (.dset 0 .rest (.ite (.dlarge 0) (.dpop 0) (.call jm (.cons (.loc 0) .nil)))) .nil) .nil) ⟨[.fz .drw, .fz (.int a), .none], s⟩ = .nx ⟨[.fz .drw, .fz (.int a), .none], s'⟩ := by
    intro s
    obtain ⟨lg, rs, ce, tu⟩ := s
    have hq : dCm .eq (.int rs) (.int 0) = some (decide (rs = 0)) := by
      show (if PySem.SeqAt.shaped (.int rs) && PySem.SeqAt.shaped (.int 0) then some (PyData.eqv (.int rs) (.int 0)) else none) = _
      have e1 : (PySem.SeqAt.shaped (.int rs) && PySem.SeqAt.shaped (.int 0)) = true := rfl
      rw [if_pos e1]
      have e2 : PyData.eqv (.int rs) (.int 0) = decide (rs = 0) := by
        simp [PyData.eqv]
        by_cases z : rs = 0 <;> simp [z]
      rw [e2]
    have ht : ev P sem (.cm .eq (.dget 0 .rest) (.cst (.int (0)))) ⟨[.fz .drw, .fz (.int a), .none], ⟨lg, rs, ce, tu⟩⟩ = .ok (.v (.bl (decide (rs = 0)))) ⟨[.fz .drw, .fz (.int a), .none], ⟨lg, rs, ce, tu⟩⟩ := by
      simp [ev, bor, nomut, optR, Out.val, hq]
    by_cases hr : rs = 0
    · cases lg with
      | cons x r =>
        refine ⟨⟨r, x, ce, tu⟩, ?_⟩
        rw [exec, ht]
        simp [hr, truth, execs, exec, ev, Out.val]
      | nil =>
        obtain ⟨v, s', e⟩ := hm ⟨[], rs, ce, tu⟩
        refine ⟨{ s' with rest := v }, ?_⟩
        rw [exec, ht]
        simp only [hr, decide_true, Res.to_ok, truth, if_pos]
        simp [execs, exec, ev, evs, load, truth, Out.val, ← hr, e, ofCall]
    · refine ⟨⟨lg, rs, ce, tu⟩, ?_⟩
      rw [exec, ht]
      simp [hr, truth, execs]
  obtain ⟨s1, e1⟩ := hp s
  refine ⟨s1.rest % a, { s1 with rest := s1.rest / a }, Int.emod_nonneg _ (by omega), Int.emod_lt_of_pos _ ha, ?_⟩
  have e2 : exec P sem fuel (.asg (.nm 2) (.op .mod (.bi .int (.dget 0 .rest)) (.loc 1))) ⟨[.fz .drw, .fz (.int a), .none], s1⟩ = .nx ⟨[.fz .drw, .fz (.int a), .fz (.int (s1.rest % a))], s1⟩ := by
    simp [exec, ev, bor, dBi, load, dOp, dMod, optR, Out.val, store, Out.slot, optS, ha]
  have e3 : exec P sem fuel (.dset 0 .rest (.op .fdiv (.bi .int (.dget 0 .rest)) (.loc 1))) ⟨[.fz .drw, .fz (.int a), .fz (.int (s1.rest % a))], s1⟩ = .nx ⟨[.fz .drw, .fz (.int a), .fz (.int (s1.rest % a))], { s1 with rest := s1.rest / a }⟩ := by
    simp [exec, ev, bor, dBi, load, dOp, dFdiv, optR, Out.val, ha, hb]
  have e4 : exec P sem fuel (.ret (.loc 2)) ⟨[.fz .drw, .fz (.int a), .fz (.int (s1.rest % a))], { s1 with rest := s1.rest / a }⟩ = .ret (.int (s1.rest % a)) { s1 with rest := s1.rest / a } := by
    simp [exec, ev, load, Out.val]
  unfold runD
  rw [if_pos (by rfl)]
  have hbd : execs P sem fuel (irTake jm).body ⟨frame (irTake jm).size [.drw, .int a], s⟩ = .ret (.int (s1.rest % a)) { s1 with rest := s1.rest / a } := by
    show execs P sem fuel (.cons _ (.cons _ (.cons _ (.cons _ .nil)))) ⟨[.fz .drw, .fz (.int a), .none], s⟩ = _
    rw [execs, e1, SRes.then_nx, execs, e2, SRes.then_nx, execs, e3, SRes.then_nx, execs, e4, SRes.then_ret]
  rw [hbd]
/-- pick: one of a list's items -/
theorem pick_ok {jt : Nat} (ht : ∀ a s, 0 < a → a < 1073741824 → ∃ k s', 0 ≤ k ∧ k < a ∧ sem jt [.drw, .int a] s = .ok (.int k) s') (l : List D) (h0 : l ≠ []) (h1 : l.length ≤ most) (s : S) : ∃ d s', d ∈ l ∧ runD P sem fuel (irPick jt) [.drw, .lst l] s = .ok d s' := by
  have hl : 0 < l.length := List.length_pos_iff.mpr h0
  obtain ⟨k, s', k0, k1, e⟩ := ht l.length s (by omega) (by unfold most at h1; omega)
  have hk : k.toNat < l.length := by omega
  refine ⟨l[k.toNat], s', List.getElem_mem hk, ?_⟩
  have hx : dIx (.lst l) (.int k) = some l[k.toNat] := by
    have hp : place k l.length = some k.toNat := by
      unfold place L2.ixN
      simp [k0, k1, show ¬ k < 0 by omega]
    simp only [dIx, hp]
    exact List.getElem?_eq_getElem hk
  unfold runD
  rw [if_pos (by rfl)]
  have hbd : execs P sem fuel (irPick jt).body ⟨frame (irPick jt).size [.drw, .lst l], s⟩ = .ret l[k.toNat] s' := by
    show execs P sem fuel (.cons (.ret (.ix (.loc 1) (.call jt (.cons (.loc 0) (.cons (.bi .len (.loc 1)) .nil))))) .nil) ⟨[.fz .drw, .fz (.lst l)], s⟩ = _
    simp [execs, exec, ev, evs, bor, peek, load, nomut, nomuts, dBi, dLen, optR, Out.val, e, ofCall, hx]
  rw [hbd]
end
end Rc
end Z_Rc11
section Z_law
set_option Elab.async false
set_option linter.all false
set_option maxRecDepth 100000
set_option maxHeartbeats 0
namespace K0
open PySem PySem.Spec PyProof.Rows L2 PySem.RcKw
def tp (i : Nat) : Stmt := PySem.Challenge.pw_ringcubes_k00_errors_of_all_parts.main.body.getD i (.Pass ⟨0, 0, 0, 0⟩)
def names : Rc.Ti where
  fnm := (["_law_mixed", "_law_take", "_law_pick", "_law_any", "_law_kinds", "_law_plain_errors", "_law_errors_of"] : List Str)
  cnm := (["RingError", "BadPrime", "BadNumber", "BadDrawing", "BadArc", "BadWay", "BadCrossing", "BadOrder", "BadTable", "BadChoice", "BadBraid", "NotHere", "TooMany", "BadRule", "BadState", "NotOne", "BadEvent", "BadFilm", "BadDeed", "BadLive"] : List Str) ++ (["BadName", "BadStart", "BadText", "NoMark", "NoWatch", "NothingLeft", "BadWeb", "BadForm", "BadTree", "BadArrows", "BadMove", "BadPatch", "BadPlace", "BadMatching", "BadSurface", "BadChain"] : List Str)
  fld := ["part", "most", "at", "name"]
  con := []
  blt := (["ValueError", "abs", "enumerate", "int", "isinstance", "len", "range", "repr", "super"] : List Str)
def klas : Rc.PrL where
  mros := [[0], [1, 0], [2, 0], [3, 0], [4, 0], [5, 0], [6, 0], [7, 0], [8, 0], [9, 0], [10, 0], [11, 0], [12, 0], [13, 0], [14, 0], [15, 0], [16, 0], [17, 0], [18, 0], [19, 0], [20, 0], [21, 0], [22, 0], [23, 0], [24, 0], [25, 0], [26, 0], [27, 0], [28, 0], [29, 0], [30, 0], [31, 0], [32, 0], [33, 0], [34, 0], [35, 0]]
  errs := [true, true, true, true, true, true, true, true, true, true, true, true, true, true, true, true, true, true, true, true, true, true, true, true, true, true, true, true, true, true, true, true, true, true, true, true]
  attrs := [none, none, some 0, some 0, none, none, none, none, none, none, none, none, some 1, none, none, none, none, some 2, none, none, none, none, some 2, some 3, some 3, none, none, none, none, none, none, some 0, none, none, none, some 0]
  fldss := [[], [], [], [], [], [], [], [], [], [], [], [], [], [], [], [], [], [], [], [], [], [], [], [], [], [], [], [], [], [], [], [], [], [], [], []]
def sd_BadNumber : Rc.SupD := { name := "__init__", qual := "BadNumber.__init__", me := "self", fld := "part", msg := "a number is wrong", params := { posonlyargs := [], args := [{ arg := "self", annotation := none, pos := ⟨8, 17, 8, 21⟩ }, { arg := "part", annotation := none, pos := ⟨8, 23, 8, 27⟩ }], vararg := none, kwonlyargs := [], kw_defaults := [], kwarg := none, defaults := [] }, scope := { kind := .function, names := [("self", .local), ("part", .local), ("__class__", .free), ("super", .globalImplicit)], isGenerator := false, isCoroutine := false, more := [] }, arg := { arg := "self", annotation := none, pos := ⟨8, 17, 8, 21⟩ }, p0 := ⟨9, 8, 9, 13⟩, p1 := ⟨9, 8, 9, 15⟩, p2 := ⟨9, 8, 9, 24⟩, p3 := ⟨9, 25, 9, 44⟩, p4 := ⟨9, 8, 9, 45⟩, p5 := ⟨9, 8, 9, 45⟩, p6 := ⟨10, 8, 10, 12⟩, p7 := ⟨10, 8, 10, 17⟩, p8 := ⟨10, 20, 10, 24⟩, p9 := ⟨10, 8, 10, 24⟩, jj := 0 }
def sd_BadDrawing : Rc.SupD := { name := "__init__", qual := "BadDrawing.__init__", me := "self", fld := "part", msg := "a part of a drawing is wrong, or it is no drawing", params := { posonlyargs := [], args := [{ arg := "self", annotation := none, pos := ⟨13, 17, 13, 21⟩ }, { arg := "part", annotation := none, pos := ⟨13, 23, 13, 27⟩ }], vararg := none, kwonlyargs := [], kw_defaults := [], kwarg := none, defaults := [] }, scope := { kind := .function, names := [("self", .local), ("part", .local), ("__class__", .free), ("super", .globalImplicit)], isGenerator := false, isCoroutine := false, more := [] }, arg := { arg := "self", annotation := none, pos := ⟨13, 17, 13, 21⟩ }, p0 := ⟨14, 8, 14, 13⟩, p1 := ⟨14, 8, 14, 15⟩, p2 := ⟨14, 8, 14, 24⟩, p3 := ⟨14, 25, 14, 76⟩, p4 := ⟨14, 8, 14, 77⟩, p5 := ⟨14, 8, 14, 77⟩, p6 := ⟨15, 8, 15, 12⟩, p7 := ⟨15, 8, 15, 17⟩, p8 := ⟨15, 20, 15, 24⟩, p9 := ⟨15, 8, 15, 24⟩, jj := 0 }
def sd_TooMany : Rc.SupD := { name := "__init__", qual := "TooMany.__init__", me := "self", fld := "most", msg := "more than can be worked out", params := { posonlyargs := [], args := [{ arg := "self", annotation := none, pos := ⟨34, 17, 34, 21⟩ }, { arg := "most", annotation := none, pos := ⟨34, 23, 34, 27⟩ }], vararg := none, kwonlyargs := [], kw_defaults := [], kwarg := none, defaults := [] }, scope := { kind := .function, names := [("self", .local), ("most", .local), ("__class__", .free), ("super", .globalImplicit)], isGenerator := false, isCoroutine := false, more := [] }, arg := { arg := "self", annotation := none, pos := ⟨34, 17, 34, 21⟩ }, p0 := ⟨35, 8, 35, 13⟩, p1 := ⟨35, 8, 35, 15⟩, p2 := ⟨35, 8, 35, 24⟩, p3 := ⟨35, 25, 35, 54⟩, p4 := ⟨35, 8, 35, 55⟩, p5 := ⟨35, 8, 35, 55⟩, p6 := ⟨36, 8, 36, 12⟩, p7 := ⟨36, 8, 36, 17⟩, p8 := ⟨36, 20, 36, 24⟩, p9 := ⟨36, 8, 36, 24⟩, jj := 0 }
def sd_BadFilm : Rc.SupD := { name := "__init__", qual := "BadFilm.__init__", me := "self", fld := "at", msg := "not a film, or an event that is none or cannot be done", params := { posonlyargs := [], args := [{ arg := "self", annotation := none, pos := ⟨47, 17, 47, 21⟩ }, { arg := "at", annotation := none, pos := ⟨47, 23, 47, 25⟩ }], vararg := none, kwonlyargs := [], kw_defaults := [], kwarg := none, defaults := [] }, scope := { kind := .function, names := [("self", .local), ("at", .local), ("__class__", .free), ("super", .globalImplicit)], isGenerator := false, isCoroutine := false, more := [] }, arg := { arg := "self", annotation := none, pos := ⟨47, 17, 47, 21⟩ }, p0 := ⟨48, 8, 48, 13⟩, p1 := ⟨48, 8, 48, 15⟩, p2 := ⟨48, 8, 48, 24⟩, p3 := ⟨48, 25, 48, 81⟩, p4 := ⟨48, 8, 48, 82⟩, p5 := ⟨48, 8, 48, 82⟩, p6 := ⟨49, 8, 49, 12⟩, p7 := ⟨49, 8, 49, 15⟩, p8 := ⟨49, 18, 49, 20⟩, p9 := ⟨49, 8, 49, 20⟩, jj := 0 }
def sd_BadText : Rc.SupD := { name := "__init__", qual := "BadText.__init__", me := "self", fld := "at", msg := "not a text", params := { posonlyargs := [], args := [{ arg := "self", annotation := none, pos := ⟨60, 17, 60, 21⟩ }, { arg := "at", annotation := none, pos := ⟨60, 23, 60, 25⟩ }], vararg := none, kwonlyargs := [], kw_defaults := [], kwarg := none, defaults := [] }, scope := { kind := .function, names := [("self", .local), ("at", .local), ("__class__", .free), ("super", .globalImplicit)], isGenerator := false, isCoroutine := false, more := [] }, arg := { arg := "self", annotation := none, pos := ⟨60, 17, 60, 21⟩ }, p0 := ⟨61, 8, 61, 13⟩, p1 := ⟨61, 8, 61, 15⟩, p2 := ⟨61, 8, 61, 24⟩, p3 := ⟨61, 25, 61, 37⟩, p4 := ⟨61, 8, 61, 38⟩, p5 := ⟨61, 8, 61, 38⟩, p6 := ⟨62, 8, 62, 12⟩, p7 := ⟨62, 8, 62, 15⟩, p8 := ⟨62, 18, 62, 20⟩, p9 := ⟨62, 8, 62, 20⟩, jj := 0 }
def sd_NoMark : Rc.SupD := { name := "__init__", qual := "NoMark.__init__", me := "self", fld := "name", msg := "nothing is marked under a name", params := { posonlyargs := [], args := [{ arg := "self", annotation := none, pos := ⟨65, 17, 65, 21⟩ }, { arg := "name", annotation := none, pos := ⟨65, 23, 65, 27⟩ }], vararg := none, kwonlyargs := [], kw_defaults := [], kwarg := none, defaults := [] }, scope := { kind := .function, names := [("self", .local), ("name", .local), ("__class__", .free), ("super", .globalImplicit)], isGenerator := false, isCoroutine := false, more := [] }, arg := { arg := "self", annotation := none, pos := ⟨65, 17, 65, 21⟩ }, p0 := ⟨66, 8, 66, 13⟩, p1 := ⟨66, 8, 66, 15⟩, p2 := ⟨66, 8, 66, 24⟩, p3 := ⟨66, 25, 66, 57⟩, p4 := ⟨66, 8, 66, 58⟩, p5 := ⟨66, 8, 66, 58⟩, p6 := ⟨67, 8, 67, 12⟩, p7 := ⟨67, 8, 67, 17⟩, p8 := ⟨67, 20, 67, 24⟩, p9 := ⟨67, 8, 67, 24⟩, jj := 0 }
def sd_NoWatch : Rc.SupD := { name := "__init__", qual := "NoWatch.__init__", me := "self", fld := "name", msg := "nothing is watched under a name", params := { posonlyargs := [], args := [{ arg := "self", annotation := none, pos := ⟨70, 17, 70, 21⟩ }, { arg := "name", annotation := none, pos := ⟨70, 23, 70, 27⟩ }], vararg := none, kwonlyargs := [], kw_defaults := [], kwarg := none, defaults := [] }, scope := { kind := .function, names := [("self", .local), ("name", .local), ("__class__", .free), ("super", .globalImplicit)], isGenerator := false, isCoroutine := false, more := [] }, arg := { arg := "self", annotation := none, pos := ⟨70, 17, 70, 21⟩ }, p0 := ⟨71, 8, 71, 13⟩, p1 := ⟨71, 8, 71, 15⟩, p2 := ⟨71, 8, 71, 24⟩, p3 := ⟨71, 25, 71, 58⟩, p4 := ⟨71, 8, 71, 59⟩, p5 := ⟨71, 8, 71, 59⟩, p6 := ⟨72, 8, 72, 12⟩, p7 := ⟨72, 8, 72, 17⟩, p8 := ⟨72, 20, 72, 24⟩, p9 := ⟨72, 8, 72, 24⟩, jj := 0 }
def sd_BadPatch : Rc.SupD := { name := "__init__", qual := "BadPatch.__init__", me := "self", fld := "part", msg := "a part of a patch is wrong, or it is no patch", params := { posonlyargs := [], args := [{ arg := "self", annotation := none, pos := ⟨87, 17, 87, 21⟩ }, { arg := "part", annotation := none, pos := ⟨87, 23, 87, 27⟩ }], vararg := none, kwonlyargs := [], kw_defaults := [], kwarg := none, defaults := [] }, scope := { kind := .function, names := [("self", .local), ("part", .local), ("__class__", .free), ("super", .globalImplicit)], isGenerator := false, isCoroutine := false, more := [] }, arg := { arg := "self", annotation := none, pos := ⟨87, 17, 87, 21⟩ }, p0 := ⟨88, 8, 88, 13⟩, p1 := ⟨88, 8, 88, 15⟩, p2 := ⟨88, 8, 88, 24⟩, p3 := ⟨88, 25, 88, 72⟩, p4 := ⟨88, 8, 88, 73⟩, p5 := ⟨88, 8, 88, 73⟩, p6 := ⟨89, 8, 89, 12⟩, p7 := ⟨89, 8, 89, 17⟩, p8 := ⟨89, 20, 89, 24⟩, p9 := ⟨89, 8, 89, 24⟩, jj := 0 }
def sd_BadChain : Rc.SupD := { name := "__init__", qual := "BadChain.__init__", me := "self", fld := "part", msg := "a part of a chain is wrong, two do not fit, or it is no chain", params := { posonlyargs := [], args := [{ arg := "self", annotation := none, pos := ⟨98, 17, 98, 21⟩ }, { arg := "part", annotation := none, pos := ⟨98, 23, 98, 27⟩ }], vararg := none, kwonlyargs := [], kw_defaults := [], kwarg := none, defaults := [] }, scope := { kind := .function, names := [("self", .local), ("part", .local), ("__class__", .free), ("super", .globalImplicit)], isGenerator := false, isCoroutine := false, more := [] }, arg := { arg := "self", annotation := none, pos := ⟨98, 17, 98, 21⟩ }, p0 := ⟨99, 8, 99, 13⟩, p1 := ⟨99, 8, 99, 15⟩, p2 := ⟨99, 8, 99, 24⟩, p3 := ⟨99, 25, 99, 88⟩, p4 := ⟨99, 8, 99, 89⟩, p5 := ⟨99, 8, 99, 89⟩, p6 := ⟨100, 8, 100, 12⟩, p7 := ⟨100, 8, 100, 17⟩, p8 := ⟨100, 20, 100, 24⟩, p9 := ⟨100, 8, 100, 24⟩, jj := 0 }
def sups : List (Nat × Rc.SupD) := [(2, sd_BadNumber), (3, sd_BadDrawing), (12, sd_TooMany), (17, sd_BadFilm), (22, sd_BadText), (23, sd_NoMark), (24, sd_NoWatch), (31, sd_BadPatch), (35, sd_BadChain)]
theorem ok_BadNumber : sd_BadNumber.Ok where
  env := ⟨rfl, rfl, rfl, by decide, rfl, rfl, rfl, rfl, by decide⟩
  b1 := by intros; rfl
  b2 := by intros; rfl
  hd := rfl
  ha := rfl
  fdb := by decide
  mdb := by decide
  sw1 := fun _ => rfl
  sw2 := fun _ => rfl
  ev := ⟨_, fun _ => rfl⟩
theorem ok_BadDrawing : sd_BadDrawing.Ok where
  env := ⟨rfl, rfl, rfl, by decide, rfl, rfl, rfl, rfl, by decide⟩
  b1 := by intros; rfl
  b2 := by intros; rfl
  hd := rfl
  ha := rfl
  fdb := by decide
  mdb := by decide
  sw1 := fun _ => rfl
  sw2 := fun _ => rfl
  ev := ⟨_, fun _ => rfl⟩
theorem ok_TooMany : sd_TooMany.Ok where
  env := ⟨rfl, rfl, rfl, by decide, rfl, rfl, rfl, rfl, by decide⟩
  b1 := by intros; rfl
  b2 := by intros; rfl
  hd := rfl
  ha := rfl
  fdb := by decide
  mdb := by decide
  sw1 := fun _ => rfl
  sw2 := fun _ => rfl
  ev := ⟨_, fun _ => rfl⟩
theorem ok_BadFilm : sd_BadFilm.Ok where
  env := ⟨rfl, rfl, rfl, by decide, rfl, rfl, rfl, rfl, by decide⟩
  b1 := by intros; rfl
  b2 := by intros; rfl
  hd := rfl
  ha := rfl
  fdb := by decide
  mdb := by decide
  sw1 := fun _ => rfl
  sw2 := fun _ => rfl
  ev := ⟨_, fun _ => rfl⟩
theorem ok_BadText : sd_BadText.Ok where
  env := ⟨rfl, rfl, rfl, by decide, rfl, rfl, rfl, rfl, by decide⟩
  b1 := by intros; rfl
  b2 := by intros; rfl
  hd := rfl
  ha := rfl
  fdb := by decide
  mdb := by decide
  sw1 := fun _ => rfl
  sw2 := fun _ => rfl
  ev := ⟨_, fun _ => rfl⟩
theorem ok_NoMark : sd_NoMark.Ok where
  env := ⟨rfl, rfl, rfl, by decide, rfl, rfl, rfl, rfl, by decide⟩
  b1 := by intros; rfl
  b2 := by intros; rfl
  hd := rfl
  ha := rfl
  fdb := by decide
  mdb := by decide
  sw1 := fun _ => rfl
  sw2 := fun _ => rfl
  ev := ⟨_, fun _ => rfl⟩
theorem ok_NoWatch : sd_NoWatch.Ok where
  env := ⟨rfl, rfl, rfl, by decide, rfl, rfl, rfl, rfl, by decide⟩
  b1 := by intros; rfl
  b2 := by intros; rfl
  hd := rfl
  ha := rfl
  fdb := by decide
  mdb := by decide
  sw1 := fun _ => rfl
  sw2 := fun _ => rfl
  ev := ⟨_, fun _ => rfl⟩
theorem ok_BadPatch : sd_BadPatch.Ok where
  env := ⟨rfl, rfl, rfl, by decide, rfl, rfl, rfl, rfl, by decide⟩
  b1 := by intros; rfl
  b2 := by intros; rfl
  hd := rfl
  ha := rfl
  fdb := by decide
  mdb := by decide
  sw1 := fun _ => rfl
  sw2 := fun _ => rfl
  ev := ⟨_, fun _ => rfl⟩
theorem ok_BadChain : sd_BadChain.Ok where
  env := ⟨rfl, rfl, rfl, by decide, rfl, rfl, rfl, rfl, by decide⟩
  b1 := by intros; rfl
  b2 := by intros; rfl
  hd := rfl
  ha := rfl
  fdb := by decide
  mdb := by decide
  sw1 := fun _ => rfl
  sw2 := fun _ => rfl
  ev := ⟨_, fun _ => rfl⟩
theorem oks : ∀ d ∈ sups, d.2.Ok := by
  intro d h
  unfold sups at h
  simp only [List.mem_cons, List.mem_nil_iff, or_false] at h
  rcases h with h | h | h | h | h | h | h | h | h
  · subst h; exact ok_BadNumber
  · subst h; exact ok_BadDrawing
  · subst h; exact ok_TooMany
  · subst h; exact ok_BadFilm
  · subst h; exact ok_BadText
  · subst h; exact ok_NoMark
  · subst h; exact ok_NoWatch
  · subst h; exact ok_BadPatch
  · subst h; exact ok_BadChain
theorem kok : klas.ok names = true := by kernel_rfl
def fn : List He.DefD := ([⟨("_law_begun", none), "_law_begun", "_law_begun", defArgs (tp 38), defBody (tp 38), defScope (tp 38), [], []⟩, ⟨("_law_mixed", none), "_law_mixed", "_law_mixed", defArgs (tp 39), defBody (tp 39), defScope (tp 39), [], []⟩, ⟨("_law_take", none), "_law_take", "_law_take", defArgs (tp 40), defBody (tp 40), defScope (tp 40), [], []⟩, ⟨("_law_pick", none), "_law_pick", "_law_pick", defArgs (tp 41), defBody (tp 41), defScope (tp 41), [], []⟩, ⟨("_law_any", none), "_law_any", "_law_any", defArgs (tp 42), defBody (tp 42), defScope (tp 42), [], []⟩, ⟨("_law_kinds", none), "_law_kinds", "_law_kinds", defArgs (tp 43), defBody (tp 43), defScope (tp 43), [], []⟩, ⟨("_law_plain_errors", none), "_law_plain_errors", "_law_plain_errors", defArgs (tp 44), defBody (tp 44), defScope (tp 44), [], []⟩, ⟨("_law_errors_of", none), "_law_errors_of", "_law_errors_of", defArgs (tp 45), defBody (tp 45), defScope (tp 45), [], []⟩, ⟨("law", none), "law", "law", defArgs (tp 46), defBody (tp 46), defScope (tp 46), [], []⟩] : List He.DefD)
def fa : List He.Fa := ([.glo "_law_begun", .glo "_law_mixed", .glo "_law_take", .glo "_law_pick", .glo "_law_any", .glo "_law_kinds", .glo "_law_plain_errors", .glo "_law_errors_of", .glo "law", .free "ValueError", .free "abs", .free "enumerate", .free "int", .free "isinstance", .free "len", .free "range", .free "repr", .free "super"] : List He.Fa)
def hd : Rc.HkD := ⟨5, fa, fn, names, klas, PySem.Challenge.pw_ringcubes_k00_errors_of_all_parts.main.file, sups⟩
abbrev rowR : PySem.W.OpenRow := PySem.W.OpenLaw.row PySem.Challenge.rw_ringcubes_k00_errors_of_all_parts
def loose : List PySem.Str := (["RingError", "BadPrime", "BadNumber", "BadDrawing", "BadArc", "BadWay", "BadCrossing", "BadOrder", "BadTable", "BadChoice", "BadBraid", "NotHere", "TooMany", "BadRule", "BadState", "NotOne", "BadEvent", "BadFilm", "BadDeed", "BadLive"] : List PySem.Str) ++ (["BadName", "BadStart", "BadText", "NoMark", "NoWatch", "NothingLeft", "BadWeb", "BadForm", "BadTree", "BadArrows", "BadMove", "BadPatch", "BadPlace", "BadMatching", "BadSurface", "BadChain", "_law_begun", "_law_mixed", "_law_take", "_law_pick"] : List PySem.Str) ++ (["_law_any", "_law_kinds", "_law_plain_errors", "_law_errors_of"] : List PySem.Str)
theorem ran (w : World) : HandSHeadRun.RunEq rowR (PySem.W.view rowR.prog [46]) hd.hook hd.ob 40000 loose w := by
  intro os
  kernel_rfl
open Rc
def nm__law_mixed : List Str := (["_law_draw", "_law_turn", "_law_found", "_law_great", "_law_blend", "_law_grain"] : List Str)
def ir__law_mixed : Rc.Df0 := ⟨1, 6, (.cons (.dset 0 .turn (.op .add (.dget 0 .turn) (.cst (.int (1)))))
  (.cons (.par [1, 2] (.cons (.bi .int (.dget 0 .turn)) (.cons (.cst (.int (0))) .nil)))
  (.cons (.for (.nm 3) (.seq (.lst (.cons (.cst (.int (2147483629))) (.cons (.cst (.int (2147483587))) (.cons (.cst (.int (2147483579))) .nil)))))
  (.cons (.asg (.nm 4) (.op .mod (.op .add (.op .mul (.loc 1) (.cst (.int (69621)))) (.op .fdiv (.loc 3) (.cst (.int (7))))) (.loc 3)))
  (.cons (.for (.nm 5) (.cells 0)
  (.cons (.asg (.nm 4) (.op .mod (.op .add (.op .mul (.loc 4) (.cst (.int (48271)))) (.bi .int (.loc 5))) (.loc 3)))
  .nil))
  (.cons (.asg (.nm 2) (.op .add (.op .mul (.loc 2) (.cst (.int (2147483647)))) (.op .mod (.op .pow (.loc 4) (.cst (.int (5)))) (.loc 3))))
  .nil))))
  (.cons (.ret (.loc 2))
  .nil))))⟩
def nm__law_take : List Str := (["_law_draw", "_law_amount", "_law_found"] : List Str)
def ir__law_take : Rc.Df0 := ⟨2, 3, (.cons (.ifs (.cm .eq (.dget 0 .rest) (.cst (.int (0))))
  (.cons (.dset 0 .rest (.ite (.dlarge 0) (.dpop 0) (.call 0 (.cons (.loc 0) .nil))))
  .nil)
  .nil)
  (.cons (.asg (.nm 2) (.op .mod (.bi .int (.dget 0 .rest)) (.loc 1)))
  (.cons (.dset 0 .rest (.op .fdiv (.bi .int (.dget 0 .rest)) (.loc 1)))
  (.cons (.ret (.loc 2))
  .nil))))⟩
def nm__law_pick : List Str := (["_law_draw", "_law_some"] : List Str)
def ir__law_pick : Rc.Df0 := ⟨2, 2, (.cons (.ret (.ix (.loc 1) (.call 1 (.cons (.loc 0) (.cons (.bi .len (.loc 1)) .nil)))))
  .nil)⟩
def nm__law_any : List Str := (["_law_draw", "_law_some"] : List Str)
def ir__law_any : Rc.Df0 := ⟨1, 2, (.cons (.asg (.nm 1) (.lst (.cons (.cst .non) (.cons (.cst (.bl false)) (.cons (.neg (.cst (.int (5)))) (.cons (.op .pow (.cst (.int (10))) (.cst (.int (45)))) (.cons (.cst (.str "")) (.cons (.cst (.str "wide")) (.cons (.cst (.str "two words")) (.cons (.lst .nil) (.cons (.lst (.cons (.tup (.cons (.cst (.int (0))) (.cons (.cst (.int (2))) .nil))) .nil)) (.cons (.tup .nil) (.cons (.tup (.cons (.cst (.int (4))) .nil)) (.cons (.dct .nil) (.cons (.dct (.cons (.cst (.str "a")) (.tup (.cons (.cst (.int (1))) .nil)) .nil)) (.cons (.lst (.cons (.lst (.cons (.cst .non) .nil)) .nil)) .nil))))))))))))))))
  (.cons (.ret (.call 2 (.cons (.loc 0) (.cons (.loc 1) .nil))))
  .nil))⟩
def nm__law_kinds : List Str := (["_law_error", "_law_found"] : List Str)
def ir__law_kinds : Rc.Df0 := ⟨1, 2, (.cons (.asg (.nm 1) (.lst .nil))
  (.cons (.asg (.nm 1) (.op .add (.loc 1) (.lst (.cons (.isa (.loc 0) [.own 1]) (.cons (.isa (.loc 0) [.own 4]) (.cons (.isa (.loc 0) [.own 5]) .nil))))))
  (.cons (.asg (.nm 1) (.op .add (.loc 1) (.lst (.cons (.isa (.loc 0) [.own 6]) (.cons (.isa (.loc 0) [.own 7]) (.cons (.isa (.loc 0) [.own 8]) .nil))))))
  (.cons (.asg (.nm 1) (.op .add (.loc 1) (.lst (.cons (.isa (.loc 0) [.own 9]) (.cons (.isa (.loc 0) [.own 10]) (.cons (.isa (.loc 0) [.own 11]) .nil))))))
  (.cons (.asg (.nm 1) (.op .add (.loc 1) (.lst (.cons (.isa (.loc 0) [.own 13]) (.cons (.isa (.loc 0) [.own 14]) (.cons (.isa (.loc 0) [.own 15]) .nil))))))
  (.cons (.asg (.nm 1) (.op .add (.loc 1) (.lst (.cons (.isa (.loc 0) [.own 16]) (.cons (.isa (.loc 0) [.own 18]) (.cons (.isa (.loc 0) [.own 19]) .nil))))))
  (.cons (.asg (.nm 1) (.op .add (.loc 1) (.lst (.cons (.isa (.loc 0) [.own 20]) (.cons (.isa (.loc 0) [.own 21]) (.cons (.isa (.loc 0) [.own 25]) .nil))))))
  (.cons (.asg (.nm 1) (.op .add (.loc 1) (.lst (.cons (.isa (.loc 0) [.own 26]) (.cons (.isa (.loc 0) [.own 27]) (.cons (.isa (.loc 0) [.own 28]) .nil))))))
  (.cons (.asg (.nm 1) (.op .add (.loc 1) (.lst (.cons (.isa (.loc 0) [.own 29]) (.cons (.isa (.loc 0) [.own 30]) (.cons (.isa (.loc 0) [.own 32]) .nil))))))
  (.cons (.asg (.nm 1) (.op .add (.loc 1) (.lst (.cons (.isa (.loc 0) [.own 33]) (.cons (.isa (.loc 0) [.own 34]) .nil)))))
  (.cons (.asg (.nm 1) (.op .add (.loc 1) (.lst (.cons (.isa (.loc 0) [.own 2]) (.cons (.isa (.loc 0) [.own 3]) (.cons (.isa (.loc 0) [.own 12]) .nil))))))
  (.cons (.asg (.nm 1) (.op .add (.loc 1) (.lst (.cons (.isa (.loc 0) [.own 17]) (.cons (.isa (.loc 0) [.own 22]) (.cons (.isa (.loc 0) [.own 23]) .nil))))))
  (.cons (.asg (.nm 1) (.op .add (.loc 1) (.lst (.cons (.isa (.loc 0) [.own 24]) (.cons (.isa (.loc 0) [.own 31]) (.cons (.isa (.loc 0) [.own 35]) .nil))))))
  (.cons (.ret (.loc 1))
  .nil))))))))))))))⟩
def nm__law_plain_errors : List Str := (["_law_words_here", "_law_found"] : List Str)
def ir__law_plain_errors : Rc.Df0 := ⟨1, 2, (.cons (.asg (.nm 1) (.lst .nil))
  (.cons (.asg (.nm 1) (.op .add (.loc 1) (.lst (.cons (.newErr 1 (.loc 0)) (.cons (.newErr 4 (.loc 0)) (.cons (.newErr 5 (.loc 0)) (.cons (.newErr 6 (.loc 0)) .nil)))))))
  (.cons (.asg (.nm 1) (.op .add (.loc 1) (.lst (.cons (.newErr 7 (.loc 0)) (.cons (.newErr 8 (.loc 0)) (.cons (.newErr 9 (.loc 0)) (.cons (.newErr 10 (.loc 0)) .nil)))))))
  (.cons (.asg (.nm 1) (.op .add (.loc 1) (.lst (.cons (.newErr 11 (.loc 0)) (.cons (.newErr 13 (.loc 0)) (.cons (.newErr 14 (.loc 0)) (.cons (.newErr 15 (.loc 0)) .nil)))))))
  (.cons (.asg (.nm 1) (.op .add (.loc 1) (.lst (.cons (.newErr 16 (.loc 0)) (.cons (.newErr 18 (.loc 0)) (.cons (.newErr 19 (.loc 0)) (.cons (.newErr 20 (.loc 0)) .nil)))))))
  (.cons (.asg (.nm 1) (.op .add (.loc 1) (.lst (.cons (.newErr 21 (.loc 0)) (.cons (.newErr 25 (.loc 0)) (.cons (.newErr 26 (.loc 0)) (.cons (.newErr 27 (.loc 0)) .nil)))))))
  (.cons (.asg (.nm 1) (.op .add (.loc 1) (.lst (.cons (.newErr 28 (.loc 0)) (.cons (.newErr 29 (.loc 0)) (.cons (.newErr 30 (.loc 0)) (.cons (.newErr 32 (.loc 0)) .nil)))))))
  (.cons (.asg (.nm 1) (.op .add (.loc 1) (.lst (.cons (.newErr 33 (.loc 0)) (.cons (.newErr 34 (.loc 0)) .nil)))))
  (.cons (.ret (.loc 1))
  .nil)))))))))⟩
def nm__law_errors_of : List Str := (["_law_each", "_law_found"] : List Str)
def ir__law_errors_of : Rc.Df0 := ⟨1, 2, (.cons (.asg (.nm 1) (.lst .nil))
  (.cons (.app 1 (.tup (.cons (.newErr 2 (.loc 0)) (.cons (.fld (.newErr 2 (.loc 0)) 0) (.cons (.fld (.newErr 2 (.loc 0)) 0) .nil)))))
  (.cons (.app 1 (.tup (.cons (.newErr 3 (.loc 0)) (.cons (.fld (.newErr 3 (.loc 0)) 0) (.cons (.fld (.newErr 3 (.loc 0)) 0) .nil)))))
  (.cons (.app 1 (.tup (.cons (.newErr 12 (.loc 0)) (.cons (.fld (.newErr 12 (.loc 0)) 1) (.cons (.fld (.newErr 12 (.loc 0)) 1) .nil)))))
  (.cons (.app 1 (.tup (.cons (.newErr 17 (.loc 0)) (.cons (.fld (.newErr 17 (.loc 0)) 2) (.cons (.fld (.newErr 17 (.loc 0)) 2) .nil)))))
  (.cons (.app 1 (.tup (.cons (.newErr 22 (.loc 0)) (.cons (.fld (.newErr 22 (.loc 0)) 2) (.cons (.fld (.newErr 22 (.loc 0)) 2) .nil)))))
  (.cons (.app 1 (.tup (.cons (.newErr 23 (.loc 0)) (.cons (.fld (.newErr 23 (.loc 0)) 3) (.cons (.fld (.newErr 23 (.loc 0)) 3) .nil)))))
  (.cons (.app 1 (.tup (.cons (.newErr 24 (.loc 0)) (.cons (.fld (.newErr 24 (.loc 0)) 3) (.cons (.fld (.newErr 24 (.loc 0)) 3) .nil)))))
  (.cons (.app 1 (.tup (.cons (.newErr 31 (.loc 0)) (.cons (.fld (.newErr 31 (.loc 0)) 0) (.cons (.fld (.newErr 31 (.loc 0)) 0) .nil)))))
  (.cons (.app 1 (.tup (.cons (.newErr 35 (.loc 0)) (.cons (.fld (.newErr 35 (.loc 0)) 0) (.cons (.fld (.newErr 35 (.loc 0)) 0) .nil)))))
  (.cons (.ret (.loc 1))
  .nil)))))))))))⟩
def nm_law : List Str := (["_law_script", "_law_draw", "_law_words_here", "_law_each", "_law_threes_here", "_law_errors_here", "_law_item", "_law_spot", "_law_error", "_law_k", "_law_base_here"] : List Str)
def ir_law : Rc.Df0 := ⟨1, 11, (.cons (.asg (.tp [2, 3]) (.tup (.cons (.call 2 (.cons (.loc 1) (.cons (.lst (.cons (.cst (.str "")) (.cons (.cst (.str "w")) (.cons (.cst (.str "nothing of the kind")) .nil)))) .nil))) (.cons (.call 3 (.cons (.loc 1) .nil)) .nil))))
  (.cons (.asg (.nm 4) (.call 6 (.cons (.loc 3) .nil)))
  (.cons (.asg (.nm 5) (.op .add (.call 5 (.cons (.loc 2) .nil)) (.comp (.ix (.loc 6) (.cst (.int (0)))) (.nm 6) (.seq (.loc 4)) .no [6])))
  (.cons (.for (.tp [7, 8]) (.enum (.loc 5))
  (.cons (.ifs (.cm .ne (.call 4 (.cons (.loc 8) .nil)) (.comp (.cm .eq (.loc 9) (.loc 7)) (.nm 9) (.rng (.cst (.int (35)))) .no [9]))
  (.cons (.ret (.cst (.bl false)))
  .nil)
  .nil)
  (.cons (.ifs (.or (.not (.isa (.loc 8) [.own 0])) (.not (.isa (.loc 8) [.valueError])))
  (.cons (.ret (.cst (.bl false)))
  .nil)
  .nil)
  .nil)))
  (.cons (.ifs (.cm .ne (.comp (.cst (.int (1))) (.nm 6) (.seq (.loc 4)) (.yes (.cm .ne (.bi .repr (.lst (.cons (.ix (.loc 6) (.cst (.int (1)))) (.cons (.ix (.loc 6) (.cst (.int (2)))) .nil)))) (.bi .repr (.lst (.cons (.loc 3) (.cons (.loc 3) .nil)))))) [6]) (.lst .nil))
  (.cons (.ret (.cst (.bl false)))
  .nil)
  .nil)
  (.cons (.asg (.nm 10) (.newErr 0 (.cst (.str "w"))))
  (.cons (.ret (.and (.cm .notin (.cst (.bl true)) (.call 4 (.cons (.loc 10) .nil))) (.isa (.loc 10) [.valueError])))
  .nil)))))))⟩
def fs (j : Nat) : Option Rc.Df0 := ([ir__law_mixed, ir__law_take, ir__law_pick, ir__law_any, ir__law_kinds, ir__law_plain_errors, ir__law_errors_of] : List Rc.Df0)[j]?
section
variable {P : Program} {w : World} {K : PySem.W.Frag} {mg : Str → Option Value} {base : Heap} {sem : Nat → List Rc.D → Rc.S → Rc.CRes} {n : Nat} {f : Addr} {cdv : Value} {A : Around} {outer : List Env} {s : Shared} {H : Hp} {EE : XK}
theorem wk__law_mixed (C : CtxA (gx names klas K) sem n (cxOf (L2.CX P w) P w K mg base nm__law_mixed "_law_mixed" (defScope (tp 39)) f cdv A outer s H EE)) :
    PSs (cxOf (L2.CX P w) P w K mg base nm__law_mixed "_law_mixed" (defScope (tp 39)) f cdv A outer s H EE) (defBody (tp 39)) (rdCs (gx names klas K) sem 1000 ir__law_mixed.body (fun cl dd _ H => EE cl dd H)) :=
  (cs_cons (c_dset rfl (C.a.room.mono (Nat.le_add_right _ _)) rfl (vis_by rfl) (by decide) (by decide) (s_op (o := .add) (s_dget rfl (C.a.room.mono (Nat.le_add_right _ _)) rfl (vis_by rfl) (by decide) (by decide) (fun _ _ => rfl)) (s_cst pe_int fun _ _ => Is.int _)) rfl)
  (cs_cons (c_par2 C.a.calm C.a.nd rfl rfl (by decide) rfl rfl (os_cons (s_biT call_int1 rfl (C.a.blt _ (show _ ∈ names.blt from by decide +kernel)) rfl (s_bor rfl (s_dget rfl (C.a.room.mono (Nat.le_add_right _ _)) rfl (vis_by rfl) (by decide) (by decide) (fun _ _ => rfl))) rfl (by decide) (fun R b e h => ok_int R b e h)) (os_cons (s_cst pe_int fun _ _ => Is.int _) os_nil rfl) rfl) rfl rfl)
  (cs_cons (c_for passes_cx C.a.calm (i_seq (s_lst (a_cons (s_cst pe_int fun _ _ => Is.int _) (a_cons (s_cst pe_int fun _ _ => Is.int _) (a_cons (s_cst pe_int fun _ _ => Is.int _) a_nil rfl) rfl) rfl))) (g_nm C.a.nd rfl (loc_by rfl) (Or.inl rfl))
  (cs_cons (c_set C.a.nd rfl (loc_by rfl) (Or.inl rfl) (s_op (o := .mod) (s_op (o := .add) (s_op (o := .mul) (s_loc rfl (vis_by rfl) (by decide) (by decide)) (s_cst pe_int fun _ _ => Is.int _)) (s_op (o := .fdiv) (s_loc rfl (vis_by rfl) (by decide) (by decide)) (s_cst pe_int fun _ _ => Is.int _))) (s_loc rfl (vis_by rfl) (by decide) (by decide))) rfl)
  (cs_cons (c_for passes_cx C.a.calm (i_cells rfl (C.a.room.mono (Nat.le_add_right _ _)) rfl (vis_by rfl) (by decide) (by decide) (fun _ _ => rfl)) (g_nm C.a.nd rfl (loc_by rfl) (Or.inl rfl))
  (cs_cons (c_set C.a.nd rfl (loc_by rfl) (Or.inl rfl) (s_op (o := .mod) (s_op (o := .add) (s_op (o := .mul) (s_loc rfl (vis_by rfl) (by decide) (by decide)) (s_cst pe_int fun _ _ => Is.int _)) (s_biT call_int1 rfl (C.a.blt _ (show _ ∈ names.blt from by decide +kernel)) rfl (s_peek rfl (vis_by rfl) (by decide) (by decide)) rfl (by decide) (fun R b e h => ok_int R b e h))) (s_loc rfl (vis_by rfl) (by decide) (by decide))) rfl)
  cs_nil) (fun _ => rfl))
  (cs_cons (c_set C.a.nd rfl (loc_by rfl) (Or.inl rfl) (s_op (o := .add) (s_op (o := .mul) (s_loc rfl (vis_by rfl) (by decide) (by decide)) (s_cst pe_int fun _ _ => Is.int _)) (s_op (o := .mod) (s_op (o := .pow) (s_loc rfl (vis_by rfl) (by decide) (by decide)) (s_cst pe_int fun _ _ => Is.int _)) (s_loc rfl (vis_by rfl) (by decide) (by decide)))) rfl)
  cs_nil))) (fun _ => rfl))
  (cs_cons (c_ret (s_loc rfl (vis_by rfl) (by decide) (by decide)))
  cs_nil))))
theorem wk__law_take (C : CtxA (gx names klas K) sem n (cxOf (L2.CX P w) P w K mg base nm__law_take "_law_take" (defScope (tp 40)) f cdv A outer s H EE)) :
    PSs (cxOf (L2.CX P w) P w K mg base nm__law_take "_law_take" (defScope (tp 40)) f cdv A outer s H EE) (defBody (tp 40)) (rdCs (gx names klas K) sem 1000 ir__law_take.body (fun cl dd _ H => EE cl dd H)) :=
  (cs_cons (c_ifs (t_cm (o := .eq) (C.a.room.mono (Nat.le_add_right _ _)) (s_bor rfl (s_dget rfl (C.a.room.mono (Nat.le_add_right _ _)) rfl (vis_by rfl) (by decide) (by decide) (fun _ _ => rfl))) (s_bor rfl (s_cst pe_int fun _ _ => Is.int _)) rfl)
  (cs_cons (c_dset rfl (C.a.room.mono (Nat.le_add_right _ _)) rfl (vis_by rfl) (by decide) (by decide) (s_ite (t_dlarge rfl (C.a.room.mono (Nat.le_add_right _ _)) rfl (vis_by rfl) (by decide) (by decide) (fun _ _ => rfl) rfl) (s_dpop rfl (C.a.room.mono (Nat.le_add_right _ _)) rfl (vis_by rfl) (by decide) (by decide) (fun _ _ => rfl) rfl rfl rfl rfl rfl) (s_call C.a takes_cx rfl rfl (by decide) (a_cons (s_loc rfl (vis_by rfl) (by decide) (by decide)) a_nil rfl) rfl rfl)) rfl)
  cs_nil)
  cs_nil)
  (cs_cons (c_set C.a.nd rfl (loc_by rfl) (Or.inl rfl) (s_op (o := .mod) (s_biT call_int1 rfl (C.a.blt _ (show _ ∈ names.blt from by decide +kernel)) rfl (s_bor rfl (s_dget rfl (C.a.room.mono (Nat.le_add_right _ _)) rfl (vis_by rfl) (by decide) (by decide) (fun _ _ => rfl))) rfl (by decide) (fun R b e h => ok_int R b e h)) (s_loc rfl (vis_by rfl) (by decide) (by decide))) rfl)
  (cs_cons (c_dset rfl (C.a.room.mono (Nat.le_add_right _ _)) rfl (vis_by rfl) (by decide) (by decide) (s_op (o := .fdiv) (s_biT call_int1 rfl (C.a.blt _ (show _ ∈ names.blt from by decide +kernel)) rfl (s_bor rfl (s_dget rfl (C.a.room.mono (Nat.le_add_right _ _)) rfl (vis_by rfl) (by decide) (by decide) (fun _ _ => rfl))) rfl (by decide) (fun R b e h => ok_int R b e h)) (s_loc rfl (vis_by rfl) (by decide) (by decide))) rfl)
  (cs_cons (c_ret (s_loc rfl (vis_by rfl) (by decide) (by decide)))
  cs_nil))))
theorem wk__law_pick (C : CtxA (gx names klas K) sem n (cxOf (L2.CX P w) P w K mg base nm__law_pick "_law_pick" (defScope (tp 41)) f cdv A outer s H EE)) :
    PSs (cxOf (L2.CX P w) P w K mg base nm__law_pick "_law_pick" (defScope (tp 41)) f cdv A outer s H EE) (defBody (tp 41)) (rdCs (gx names klas K) sem 1000 ir__law_pick.body (fun cl dd _ H => EE cl dd H)) :=
  (cs_cons (c_ret (s_ix (C.a.room.mono (Nat.le_add_right _ _)) (s_peek rfl (vis_by rfl) (by decide) (by decide)) (s_call C.a takes_cx rfl rfl (by decide) (a_cons (s_loc rfl (vis_by rfl) (by decide) (by decide)) (a_cons (s_bi call_len1 rfl (C.a.blt _ (show _ ∈ names.blt from by decide +kernel)) rfl (s_peek rfl (vis_by rfl) (by decide) (by decide)) rfl (by decide) (fun R b e h => ok_len _ R b e h)) a_nil rfl) rfl) rfl rfl) (plainIx_of (fun _ _ _ _ z => nomatch z))))
  cs_nil)
theorem wk__law_any (C : CtxA (gx names klas K) sem n (cxOf (L2.CX P w) P w K mg base nm__law_any "_law_any" (defScope (tp 42)) f cdv A outer s H EE)) :
    PSs (cxOf (L2.CX P w) P w K mg base nm__law_any "_law_any" (defScope (tp 42)) f cdv A outer s H EE) (defBody (tp 42)) (rdCs (gx names klas K) sem 1000 ir__law_any.body (fun cl dd _ H => EE cl dd H)) :=
  (cs_cons (c_set C.a.nd rfl (loc_by rfl) (Or.inl rfl) (s_lst (a_cons (s_cst pe_non fun _ _ => Is.non) (a_cons (s_cst pe_bl fun _ _ => Is.bl _) (a_cons (s_neg (s_cst pe_int fun _ _ => Is.int _)) (a_cons (s_op (o := .pow) (s_cst pe_int fun _ _ => Is.int _) (s_cst pe_int fun _ _ => Is.int _)) (a_cons (s_cst pe_str fun _ _ => Is.str _) (a_cons (s_cst pe_str fun _ _ => Is.str _) (a_cons (s_cst pe_str fun _ _ => Is.str _) (a_cons (s_lst a_nil) (a_cons (s_lst (a_cons (s_tup (a_cons (s_cst pe_int fun _ _ => Is.int _) (a_cons (s_cst pe_int fun _ _ => Is.int _) a_nil rfl) rfl)) a_nil rfl)) (a_cons (s_tup a_nil) (a_cons (s_tup (a_cons (s_cst pe_int fun _ _ => Is.int _) a_nil rfl)) (a_cons s_dct0 (a_cons (s_dct (kv_cons (s_cst pe_str fun _ _ => Is.str _) (s_tup (a_cons (s_cst pe_int fun _ _ => Is.int _) a_nil rfl)) kv_nil) rfl rfl (List.cons_ne_nil _ _) (by decide) (by decide)) (a_cons (s_lst (a_cons (s_lst (a_cons (s_cst pe_non fun _ _ => Is.non) a_nil rfl)) a_nil rfl)) a_nil rfl) rfl) rfl) rfl) rfl) rfl) rfl) rfl) rfl) rfl) rfl) rfl) rfl) rfl)) rfl)
  (cs_cons (c_ret (s_call C.a takes_cx rfl rfl (by decide) (a_cons (s_loc rfl (vis_by rfl) (by decide) (by decide)) (a_cons (s_loc rfl (vis_by rfl) (by decide) (by decide)) a_nil rfl) rfl) rfl rfl))
  cs_nil))
theorem wk__law_kinds (C : CtxA (gx names klas K) sem n (cxOf (L2.CX P w) P w K mg base nm__law_kinds "_law_kinds" (defScope (tp 43)) f cdv A outer s H EE)) :
    PSs (cxOf (L2.CX P w) P w K mg base nm__law_kinds "_law_kinds" (defScope (tp 43)) f cdv A outer s H EE) (defBody (tp 43)) (rdCs (gx names klas K) sem 1000 ir__law_kinds.body (fun cl dd _ H => EE cl dd H)) :=
  (cs_cons (c_set C.a.nd rfl (loc_by rfl) (Or.inl rfl) (s_lst a_nil) rfl)
  (cs_cons (c_set C.a.nd rfl (loc_by rfl) (Or.inl rfl) (s_op (o := .add) (s_loc rfl (vis_by rfl) (by decide) (by decide)) (s_lst (a_cons (s_isa C.cl rfl rfl (C.a.blt _ (show _ ∈ names.blt from by decide +kernel)) (s_peek rfl (vis_by rfl) (by decide) (by decide)) (clsn_own C.er rfl rfl rfl (by decide)) rfl rfl rfl) (a_cons (s_isa C.cl rfl rfl (C.a.blt _ (show _ ∈ names.blt from by decide +kernel)) (s_peek rfl (vis_by rfl) (by decide) (by decide)) (clsn_own C.er rfl rfl rfl (by decide)) rfl rfl rfl) (a_cons (s_isa C.cl rfl rfl (C.a.blt _ (show _ ∈ names.blt from by decide +kernel)) (s_peek rfl (vis_by rfl) (by decide) (by decide)) (clsn_own C.er rfl rfl rfl (by decide)) rfl rfl rfl) a_nil rfl) rfl) rfl))) rfl)
  (cs_cons (c_set C.a.nd rfl (loc_by rfl) (Or.inl rfl) (s_op (o := .add) (s_loc rfl (vis_by rfl) (by decide) (by decide)) (s_lst (a_cons (s_isa C.cl rfl rfl (C.a.blt _ (show _ ∈ names.blt from by decide +kernel)) (s_peek rfl (vis_by rfl) (by decide) (by decide)) (clsn_own C.er rfl rfl rfl (by decide)) rfl rfl rfl) (a_cons (s_isa C.cl rfl rfl (C.a.blt _ (show _ ∈ names.blt from by decide +kernel)) (s_peek rfl (vis_by rfl) (by decide) (by decide)) (clsn_own C.er rfl rfl rfl (by decide)) rfl rfl rfl) (a_cons (s_isa C.cl rfl rfl (C.a.blt _ (show _ ∈ names.blt from by decide +kernel)) (s_peek rfl (vis_by rfl) (by decide) (by decide)) (clsn_own C.er rfl rfl rfl (by decide)) rfl rfl rfl) a_nil rfl) rfl) rfl))) rfl)
  (cs_cons (c_set C.a.nd rfl (loc_by rfl) (Or.inl rfl) (s_op (o := .add) (s_loc rfl (vis_by rfl) (by decide) (by decide)) (s_lst (a_cons (s_isa C.cl rfl rfl (C.a.blt _ (show _ ∈ names.blt from by decide +kernel)) (s_peek rfl (vis_by rfl) (by decide) (by decide)) (clsn_own C.er rfl rfl rfl (by decide)) rfl rfl rfl) (a_cons (s_isa C.cl rfl rfl (C.a.blt _ (show _ ∈ names.blt from by decide +kernel)) (s_peek rfl (vis_by rfl) (by decide) (by decide)) (clsn_own C.er rfl rfl rfl (by decide)) rfl rfl rfl) (a_cons (s_isa C.cl rfl rfl (C.a.blt _ (show _ ∈ names.blt from by decide +kernel)) (s_peek rfl (vis_by rfl) (by decide) (by decide)) (clsn_own C.er rfl rfl rfl (by decide)) rfl rfl rfl) a_nil rfl) rfl) rfl))) rfl)
  (cs_cons (c_set C.a.nd rfl (loc_by rfl) (Or.inl rfl) (s_op (o := .add) (s_loc rfl (vis_by rfl) (by decide) (by decide)) (s_lst (a_cons (s_isa C.cl rfl rfl (C.a.blt _ (show _ ∈ names.blt from by decide +kernel)) (s_peek rfl (vis_by rfl) (by decide) (by decide)) (clsn_own C.er rfl rfl rfl (by decide)) rfl rfl rfl) (a_cons (s_isa C.cl rfl rfl (C.a.blt _ (show _ ∈ names.blt from by decide +kernel)) (s_peek rfl (vis_by rfl) (by decide) (by decide)) (clsn_own C.er rfl rfl rfl (by decide)) rfl rfl rfl) (a_cons (s_isa C.cl rfl rfl (C.a.blt _ (show _ ∈ names.blt from by decide +kernel)) (s_peek rfl (vis_by rfl) (by decide) (by decide)) (clsn_own C.er rfl rfl rfl (by decide)) rfl rfl rfl) a_nil rfl) rfl) rfl))) rfl)
  (cs_cons (c_set C.a.nd rfl (loc_by rfl) (Or.inl rfl) (s_op (o := .add) (s_loc rfl (vis_by rfl) (by decide) (by decide)) (s_lst (a_cons (s_isa C.cl rfl rfl (C.a.blt _ (show _ ∈ names.blt from by decide +kernel)) (s_peek rfl (vis_by rfl) (by decide) (by decide)) (clsn_own C.er rfl rfl rfl (by decide)) rfl rfl rfl) (a_cons (s_isa C.cl rfl rfl (C.a.blt _ (show _ ∈ names.blt from by decide +kernel)) (s_peek rfl (vis_by rfl) (by decide) (by decide)) (clsn_own C.er rfl rfl rfl (by decide)) rfl rfl rfl) (a_cons (s_isa C.cl rfl rfl (C.a.blt _ (show _ ∈ names.blt from by decide +kernel)) (s_peek rfl (vis_by rfl) (by decide) (by decide)) (clsn_own C.er rfl rfl rfl (by decide)) rfl rfl rfl) a_nil rfl) rfl) rfl))) rfl)
  (cs_cons (c_set C.a.nd rfl (loc_by rfl) (Or.inl rfl) (s_op (o := .add) (s_loc rfl (vis_by rfl) (by decide) (by decide)) (s_lst (a_cons (s_isa C.cl rfl rfl (C.a.blt _ (show _ ∈ names.blt from by decide +kernel)) (s_peek rfl (vis_by rfl) (by decide) (by decide)) (clsn_own C.er rfl rfl rfl (by decide)) rfl rfl rfl) (a_cons (s_isa C.cl rfl rfl (C.a.blt _ (show _ ∈ names.blt from by decide +kernel)) (s_peek rfl (vis_by rfl) (by decide) (by decide)) (clsn_own C.er rfl rfl rfl (by decide)) rfl rfl rfl) (a_cons (s_isa C.cl rfl rfl (C.a.blt _ (show _ ∈ names.blt from by decide +kernel)) (s_peek rfl (vis_by rfl) (by decide) (by decide)) (clsn_own C.er rfl rfl rfl (by decide)) rfl rfl rfl) a_nil rfl) rfl) rfl))) rfl)
  (cs_cons (c_set C.a.nd rfl (loc_by rfl) (Or.inl rfl) (s_op (o := .add) (s_loc rfl (vis_by rfl) (by decide) (by decide)) (s_lst (a_cons (s_isa C.cl rfl rfl (C.a.blt _ (show _ ∈ names.blt from by decide +kernel)) (s_peek rfl (vis_by rfl) (by decide) (by decide)) (clsn_own C.er rfl rfl rfl (by decide)) rfl rfl rfl) (a_cons (s_isa C.cl rfl rfl (C.a.blt _ (show _ ∈ names.blt from by decide +kernel)) (s_peek rfl (vis_by rfl) (by decide) (by decide)) (clsn_own C.er rfl rfl rfl (by decide)) rfl rfl rfl) (a_cons (s_isa C.cl rfl rfl (C.a.blt _ (show _ ∈ names.blt from by decide +kernel)) (s_peek rfl (vis_by rfl) (by decide) (by decide)) (clsn_own C.er rfl rfl rfl (by decide)) rfl rfl rfl) a_nil rfl) rfl) rfl))) rfl)
  (cs_cons (c_set C.a.nd rfl (loc_by rfl) (Or.inl rfl) (s_op (o := .add) (s_loc rfl (vis_by rfl) (by decide) (by decide)) (s_lst (a_cons (s_isa C.cl rfl rfl (C.a.blt _ (show _ ∈ names.blt from by decide +kernel)) (s_peek rfl (vis_by rfl) (by decide) (by decide)) (clsn_own C.er rfl rfl rfl (by decide)) rfl rfl rfl) (a_cons (s_isa C.cl rfl rfl (C.a.blt _ (show _ ∈ names.blt from by decide +kernel)) (s_peek rfl (vis_by rfl) (by decide) (by decide)) (clsn_own C.er rfl rfl rfl (by decide)) rfl rfl rfl) (a_cons (s_isa C.cl rfl rfl (C.a.blt _ (show _ ∈ names.blt from by decide +kernel)) (s_peek rfl (vis_by rfl) (by decide) (by decide)) (clsn_own C.er rfl rfl rfl (by decide)) rfl rfl rfl) a_nil rfl) rfl) rfl))) rfl)
  (cs_cons (c_set C.a.nd rfl (loc_by rfl) (Or.inl rfl) (s_op (o := .add) (s_loc rfl (vis_by rfl) (by decide) (by decide)) (s_lst (a_cons (s_isa C.cl rfl rfl (C.a.blt _ (show _ ∈ names.blt from by decide +kernel)) (s_peek rfl (vis_by rfl) (by decide) (by decide)) (clsn_own C.er rfl rfl rfl (by decide)) rfl rfl rfl) (a_cons (s_isa C.cl rfl rfl (C.a.blt _ (show _ ∈ names.blt from by decide +kernel)) (s_peek rfl (vis_by rfl) (by decide) (by decide)) (clsn_own C.er rfl rfl rfl (by decide)) rfl rfl rfl) a_nil rfl) rfl))) rfl)
  (cs_cons (c_set C.a.nd rfl (loc_by rfl) (Or.inl rfl) (s_op (o := .add) (s_loc rfl (vis_by rfl) (by decide) (by decide)) (s_lst (a_cons (s_isa C.cl rfl rfl (C.a.blt _ (show _ ∈ names.blt from by decide +kernel)) (s_peek rfl (vis_by rfl) (by decide) (by decide)) (clsn_own C.er rfl rfl rfl (by decide)) rfl rfl rfl) (a_cons (s_isa C.cl rfl rfl (C.a.blt _ (show _ ∈ names.blt from by decide +kernel)) (s_peek rfl (vis_by rfl) (by decide) (by decide)) (clsn_own C.er rfl rfl rfl (by decide)) rfl rfl rfl) (a_cons (s_isa C.cl rfl rfl (C.a.blt _ (show _ ∈ names.blt from by decide +kernel)) (s_peek rfl (vis_by rfl) (by decide) (by decide)) (clsn_own C.er rfl rfl rfl (by decide)) rfl rfl rfl) a_nil rfl) rfl) rfl))) rfl)
  (cs_cons (c_set C.a.nd rfl (loc_by rfl) (Or.inl rfl) (s_op (o := .add) (s_loc rfl (vis_by rfl) (by decide) (by decide)) (s_lst (a_cons (s_isa C.cl rfl rfl (C.a.blt _ (show _ ∈ names.blt from by decide +kernel)) (s_peek rfl (vis_by rfl) (by decide) (by decide)) (clsn_own C.er rfl rfl rfl (by decide)) rfl rfl rfl) (a_cons (s_isa C.cl rfl rfl (C.a.blt _ (show _ ∈ names.blt from by decide +kernel)) (s_peek rfl (vis_by rfl) (by decide) (by decide)) (clsn_own C.er rfl rfl rfl (by decide)) rfl rfl rfl) (a_cons (s_isa C.cl rfl rfl (C.a.blt _ (show _ ∈ names.blt from by decide +kernel)) (s_peek rfl (vis_by rfl) (by decide) (by decide)) (clsn_own C.er rfl rfl rfl (by decide)) rfl rfl rfl) a_nil rfl) rfl) rfl))) rfl)
  (cs_cons (c_set C.a.nd rfl (loc_by rfl) (Or.inl rfl) (s_op (o := .add) (s_loc rfl (vis_by rfl) (by decide) (by decide)) (s_lst (a_cons (s_isa C.cl rfl rfl (C.a.blt _ (show _ ∈ names.blt from by decide +kernel)) (s_peek rfl (vis_by rfl) (by decide) (by decide)) (clsn_own C.er rfl rfl rfl (by decide)) rfl rfl rfl) (a_cons (s_isa C.cl rfl rfl (C.a.blt _ (show _ ∈ names.blt from by decide +kernel)) (s_peek rfl (vis_by rfl) (by decide) (by decide)) (clsn_own C.er rfl rfl rfl (by decide)) rfl rfl rfl) (a_cons (s_isa C.cl rfl rfl (C.a.blt _ (show _ ∈ names.blt from by decide +kernel)) (s_peek rfl (vis_by rfl) (by decide) (by decide)) (clsn_own C.er rfl rfl rfl (by decide)) rfl rfl rfl) a_nil rfl) rfl) rfl))) rfl)
  (cs_cons (c_ret (s_loc rfl (vis_by rfl) (by decide) (by decide)))
  cs_nil))))))))))))))
theorem wk__law_plain_errors (C : CtxA (gx names klas K) sem n (cxOf (L2.CX P w) P w K mg base nm__law_plain_errors "_law_plain_errors" (defScope (tp 44)) f cdv A outer s H EE)) :
    PSs (cxOf (L2.CX P w) P w K mg base nm__law_plain_errors "_law_plain_errors" (defScope (tp 44)) f cdv A outer s H EE) (defBody (tp 44)) (rdCs (gx names klas K) sem 1000 ir__law_plain_errors.body (fun cl dd _ H => EE cl dd H)) :=
  (cs_cons (c_set C.a.nd rfl (loc_by rfl) (Or.inl rfl) (s_lst a_nil) rfl)
  (cs_cons (c_set C.a.nd rfl (loc_by rfl) (Or.inl rfl) (s_op (o := .add) (s_loc rfl (vis_by rfl) (by decide) (by decide)) (s_lst (a_cons (s_newErr C.er rfl (C.a.room.mono (by omega)) rfl rfl (by decide) (s_loc rfl (vis_by rfl) (by decide) (by decide)) rfl) (a_cons (s_newErr C.er rfl (C.a.room.mono (by omega)) rfl rfl (by decide) (s_loc rfl (vis_by rfl) (by decide) (by decide)) rfl) (a_cons (s_newErr C.er rfl (C.a.room.mono (by omega)) rfl rfl (by decide) (s_loc rfl (vis_by rfl) (by decide) (by decide)) rfl) (a_cons (s_newErr C.er rfl (C.a.room.mono (by omega)) rfl rfl (by decide) (s_loc rfl (vis_by rfl) (by decide) (by decide)) rfl) a_nil rfl) rfl) rfl) rfl))) rfl)
  (cs_cons (c_set C.a.nd rfl (loc_by rfl) (Or.inl rfl) (s_op (o := .add) (s_loc rfl (vis_by rfl) (by decide) (by decide)) (s_lst (a_cons (s_newErr C.er rfl (C.a.room.mono (by omega)) rfl rfl (by decide) (s_loc rfl (vis_by rfl) (by decide) (by decide)) rfl) (a_cons (s_newErr C.er rfl (C.a.room.mono (by omega)) rfl rfl (by decide) (s_loc rfl (vis_by rfl) (by decide) (by decide)) rfl) (a_cons (s_newErr C.er rfl (C.a.room.mono (by omega)) rfl rfl (by decide) (s_loc rfl (vis_by rfl) (by decide) (by decide)) rfl) (a_cons (s_newErr C.er rfl (C.a.room.mono (by omega)) rfl rfl (by decide) (s_loc rfl (vis_by rfl) (by decide) (by decide)) rfl) a_nil rfl) rfl) rfl) rfl))) rfl)
  (cs_cons (c_set C.a.nd rfl (loc_by rfl) (Or.inl rfl) (s_op (o := .add) (s_loc rfl (vis_by rfl) (by decide) (by decide)) (s_lst (a_cons (s_newErr C.er rfl (C.a.room.mono (by omega)) rfl rfl (by decide) (s_loc rfl (vis_by rfl) (by decide) (by decide)) rfl) (a_cons (s_newErr C.er rfl (C.a.room.mono (by omega)) rfl rfl (by decide) (s_loc rfl (vis_by rfl) (by decide) (by decide)) rfl) (a_cons (s_newErr C.er rfl (C.a.room.mono (by omega)) rfl rfl (by decide) (s_loc rfl (vis_by rfl) (by decide) (by decide)) rfl) (a_cons (s_newErr C.er rfl (C.a.room.mono (by omega)) rfl rfl (by decide) (s_loc rfl (vis_by rfl) (by decide) (by decide)) rfl) a_nil rfl) rfl) rfl) rfl))) rfl)
  (cs_cons (c_set C.a.nd rfl (loc_by rfl) (Or.inl rfl) (s_op (o := .add) (s_loc rfl (vis_by rfl) (by decide) (by decide)) (s_lst (a_cons (s_newErr C.er rfl (C.a.room.mono (by omega)) rfl rfl (by decide) (s_loc rfl (vis_by rfl) (by decide) (by decide)) rfl) (a_cons (s_newErr C.er rfl (C.a.room.mono (by omega)) rfl rfl (by decide) (s_loc rfl (vis_by rfl) (by decide) (by decide)) rfl) (a_cons (s_newErr C.er rfl (C.a.room.mono (by omega)) rfl rfl (by decide) (s_loc rfl (vis_by rfl) (by decide) (by decide)) rfl) (a_cons (s_newErr C.er rfl (C.a.room.mono (by omega)) rfl rfl (by decide) (s_loc rfl (vis_by rfl) (by decide) (by decide)) rfl) a_nil rfl) rfl) rfl) rfl))) rfl)
  (cs_cons (c_set C.a.nd rfl (loc_by rfl) (Or.inl rfl) (s_op (o := .add) (s_loc rfl (vis_by rfl) (by decide) (by decide)) (s_lst (a_cons (s_newErr C.er rfl (C.a.room.mono (by omega)) rfl rfl (by decide) (s_loc rfl (vis_by rfl) (by decide) (by decide)) rfl) (a_cons (s_newErr C.er rfl (C.a.room.mono (by omega)) rfl rfl (by decide) (s_loc rfl (vis_by rfl) (by decide) (by decide)) rfl) (a_cons (s_newErr C.er rfl (C.a.room.mono (by omega)) rfl rfl (by decide) (s_loc rfl (vis_by rfl) (by decide) (by decide)) rfl) (a_cons (s_newErr C.er rfl (C.a.room.mono (by omega)) rfl rfl (by decide) (s_loc rfl (vis_by rfl) (by decide) (by decide)) rfl) a_nil rfl) rfl) rfl) rfl))) rfl)
  (cs_cons (c_set C.a.nd rfl (loc_by rfl) (Or.inl rfl) (s_op (o := .add) (s_loc rfl (vis_by rfl) (by decide) (by decide)) (s_lst (a_cons (s_newErr C.er rfl (C.a.room.mono (by omega)) rfl rfl (by decide) (s_loc rfl (vis_by rfl) (by decide) (by decide)) rfl) (a_cons (s_newErr C.er rfl (C.a.room.mono (by omega)) rfl rfl (by decide) (s_loc rfl (vis_by rfl) (by decide) (by decide)) rfl) (a_cons (s_newErr C.er rfl (C.a.room.mono (by omega)) rfl rfl (by decide) (s_loc rfl (vis_by rfl) (by decide) (by decide)) rfl) (a_cons (s_newErr C.er rfl (C.a.room.mono (by omega)) rfl rfl (by decide) (s_loc rfl (vis_by rfl) (by decide) (by decide)) rfl) a_nil rfl) rfl) rfl) rfl))) rfl)
  (cs_cons (c_set C.a.nd rfl (loc_by rfl) (Or.inl rfl) (s_op (o := .add) (s_loc rfl (vis_by rfl) (by decide) (by decide)) (s_lst (a_cons (s_newErr C.er rfl (C.a.room.mono (by omega)) rfl rfl (by decide) (s_loc rfl (vis_by rfl) (by decide) (by decide)) rfl) (a_cons (s_newErr C.er rfl (C.a.room.mono (by omega)) rfl rfl (by decide) (s_loc rfl (vis_by rfl) (by decide) (by decide)) rfl) a_nil rfl) rfl))) rfl)
  (cs_cons (c_ret (s_loc rfl (vis_by rfl) (by decide) (by decide)))
  cs_nil)))))))))
theorem wk__law_errors_of (C : CtxA (gx names klas K) sem n (cxOf (L2.CX P w) P w K mg base nm__law_errors_of "_law_errors_of" (defScope (tp 45)) f cdv A outer s H EE)) :
    PSs (cxOf (L2.CX P w) P w K mg base nm__law_errors_of "_law_errors_of" (defScope (tp 45)) f cdv A outer s H EE) (defBody (tp 45)) (rdCs (gx names klas K) sem 1000 ir__law_errors_of.body (fun cl dd _ H => EE cl dd H)) :=
  (cs_cons (c_set C.a.nd rfl (loc_by rfl) (Or.inl rfl) (s_lst a_nil) rfl)
  (cs_cons (c_app rfl (vis_by rfl) (by decide) (by decide) (s_tup (a_cons (s_newErr C.er rfl (C.a.room.mono (by omega)) rfl rfl (by decide) (s_loc rfl (vis_by rfl) (by decide) (by decide)) rfl) (a_cons (s_fld C.cl rfl (s_newErr C.er rfl (C.a.room.mono (by omega)) rfl rfl (by decide) (s_loc rfl (vis_by rfl) (by decide) (by decide)) rfl) rfl) (a_cons (s_fld C.cl rfl (s_newErrK C.er rfl rfl rfl (C.a.room.mono (by omega)) rfl rfl (by decide) (s_loc rfl (vis_by rfl) (by decide) (by decide)) rfl rfl rfl) rfl) a_nil rfl) rfl) rfl)) rfl rfl rfl rfl rfl rfl)
  (cs_cons (c_app rfl (vis_by rfl) (by decide) (by decide) (s_tup (a_cons (s_newErr C.er rfl (C.a.room.mono (by omega)) rfl rfl (by decide) (s_loc rfl (vis_by rfl) (by decide) (by decide)) rfl) (a_cons (s_fld C.cl rfl (s_newErr C.er rfl (C.a.room.mono (by omega)) rfl rfl (by decide) (s_loc rfl (vis_by rfl) (by decide) (by decide)) rfl) rfl) (a_cons (s_fld C.cl rfl (s_newErrK C.er rfl rfl rfl (C.a.room.mono (by omega)) rfl rfl (by decide) (s_loc rfl (vis_by rfl) (by decide) (by decide)) rfl rfl rfl) rfl) a_nil rfl) rfl) rfl)) rfl rfl rfl rfl rfl rfl)
  (cs_cons (c_app rfl (vis_by rfl) (by decide) (by decide) (s_tup (a_cons (s_newErr C.er rfl (C.a.room.mono (by omega)) rfl rfl (by decide) (s_loc rfl (vis_by rfl) (by decide) (by decide)) rfl) (a_cons (s_fld C.cl rfl (s_newErr C.er rfl (C.a.room.mono (by omega)) rfl rfl (by decide) (s_loc rfl (vis_by rfl) (by decide) (by decide)) rfl) rfl) (a_cons (s_fld C.cl rfl (s_newErrK C.er rfl rfl rfl (C.a.room.mono (by omega)) rfl rfl (by decide) (s_loc rfl (vis_by rfl) (by decide) (by decide)) rfl rfl rfl) rfl) a_nil rfl) rfl) rfl)) rfl rfl rfl rfl rfl rfl)
  (cs_cons (c_app rfl (vis_by rfl) (by decide) (by decide) (s_tup (a_cons (s_newErr C.er rfl (C.a.room.mono (by omega)) rfl rfl (by decide) (s_loc rfl (vis_by rfl) (by decide) (by decide)) rfl) (a_cons (s_fld C.cl rfl (s_newErr C.er rfl (C.a.room.mono (by omega)) rfl rfl (by decide) (s_loc rfl (vis_by rfl) (by decide) (by decide)) rfl) rfl) (a_cons (s_fld C.cl rfl (s_newErrK C.er rfl rfl rfl (C.a.room.mono (by omega)) rfl rfl (by decide) (s_loc rfl (vis_by rfl) (by decide) (by decide)) rfl rfl rfl) rfl) a_nil rfl) rfl) rfl)) rfl rfl rfl rfl rfl rfl)
  (cs_cons (c_app rfl (vis_by rfl) (by decide) (by decide) (s_tup (a_cons (s_newErr C.er rfl (C.a.room.mono (by omega)) rfl rfl (by decide) (s_loc rfl (vis_by rfl) (by decide) (by decide)) rfl) (a_cons (s_fld C.cl rfl (s_newErr C.er rfl (C.a.room.mono (by omega)) rfl rfl (by decide) (s_loc rfl (vis_by rfl) (by decide) (by decide)) rfl) rfl) (a_cons (s_fld C.cl rfl (s_newErrK C.er rfl rfl rfl (C.a.room.mono (by omega)) rfl rfl (by decide) (s_loc rfl (vis_by rfl) (by decide) (by decide)) rfl rfl rfl) rfl) a_nil rfl) rfl) rfl)) rfl rfl rfl rfl rfl rfl)
  (cs_cons (c_app rfl (vis_by rfl) (by decide) (by decide) (s_tup (a_cons (s_newErr C.er rfl (C.a.room.mono (by omega)) rfl rfl (by decide) (s_loc rfl (vis_by rfl) (by decide) (by decide)) rfl) (a_cons (s_fld C.cl rfl (s_newErr C.er rfl (C.a.room.mono (by omega)) rfl rfl (by decide) (s_loc rfl (vis_by rfl) (by decide) (by decide)) rfl) rfl) (a_cons (s_fld C.cl rfl (s_newErrK C.er rfl rfl rfl (C.a.room.mono (by omega)) rfl rfl (by decide) (s_loc rfl (vis_by rfl) (by decide) (by decide)) rfl rfl rfl) rfl) a_nil rfl) rfl) rfl)) rfl rfl rfl rfl rfl rfl)
  (cs_cons (c_app rfl (vis_by rfl) (by decide) (by decide) (s_tup (a_cons (s_newErr C.er rfl (C.a.room.mono (by omega)) rfl rfl (by decide) (s_loc rfl (vis_by rfl) (by decide) (by decide)) rfl) (a_cons (s_fld C.cl rfl (s_newErr C.er rfl (C.a.room.mono (by omega)) rfl rfl (by decide) (s_loc rfl (vis_by rfl) (by decide) (by decide)) rfl) rfl) (a_cons (s_fld C.cl rfl (s_newErrK C.er rfl rfl rfl (C.a.room.mono (by omega)) rfl rfl (by decide) (s_loc rfl (vis_by rfl) (by decide) (by decide)) rfl rfl rfl) rfl) a_nil rfl) rfl) rfl)) rfl rfl rfl rfl rfl rfl)
  (cs_cons (c_app rfl (vis_by rfl) (by decide) (by decide) (s_tup (a_cons (s_newErr C.er rfl (C.a.room.mono (by omega)) rfl rfl (by decide) (s_loc rfl (vis_by rfl) (by decide) (by decide)) rfl) (a_cons (s_fld C.cl rfl (s_newErr C.er rfl (C.a.room.mono (by omega)) rfl rfl (by decide) (s_loc rfl (vis_by rfl) (by decide) (by decide)) rfl) rfl) (a_cons (s_fld C.cl rfl (s_newErrK C.er rfl rfl rfl (C.a.room.mono (by omega)) rfl rfl (by decide) (s_loc rfl (vis_by rfl) (by decide) (by decide)) rfl rfl rfl) rfl) a_nil rfl) rfl) rfl)) rfl rfl rfl rfl rfl rfl)
  (cs_cons (c_app rfl (vis_by rfl) (by decide) (by decide) (s_tup (a_cons (s_newErr C.er rfl (C.a.room.mono (by omega)) rfl rfl (by decide) (s_loc rfl (vis_by rfl) (by decide) (by decide)) rfl) (a_cons (s_fld C.cl rfl (s_newErr C.er rfl (C.a.room.mono (by omega)) rfl rfl (by decide) (s_loc rfl (vis_by rfl) (by decide) (by decide)) rfl) rfl) (a_cons (s_fld C.cl rfl (s_newErrK C.er rfl rfl rfl (C.a.room.mono (by omega)) rfl rfl (by decide) (s_loc rfl (vis_by rfl) (by decide) (by decide)) rfl rfl rfl) rfl) a_nil rfl) rfl) rfl)) rfl rfl rfl rfl rfl rfl)
  (cs_cons (c_ret (s_loc rfl (vis_by rfl) (by decide) (by decide)))
  cs_nil)))))))))))
end
section
variable {P : Program} {w : World} {K : PySem.W.Frag} {mg : Str → Option Value} {base h : Heap}
theorem di__law_mixed (X : K.In h) (G : h.Ns mainGlobals mg) (c : hd.Says K) : DefI (gx names klas K) 1000 fs P w K mg base 0 "_law_mixed" := by
  obtain ⟨fd, F⟩ := c.sd.def_ 1 (d := ⟨("_law_mixed", none), "_law_mixed", "_law_mixed", defArgs (tp 39), defBody (tp 39), defScope (tp 39), [], []⟩) rfl
  exact ⟨ir__law_mixed, _, _, _, _, _, _, fd, nm__law_mixed, (["_law_draw"] : List Str), rfl, F, ⟨rfl, rfl, rfl, by decide +kernel, rfl, by decide +kernel, by decide +kernel⟩, rfl, rfl, He.glo_ok X G (c.sd.fact 1 (f := .glo "_law_mixed") rfl),
    F.bindsN fun _ _ _ _ _ _ us hl => match us, hl with | [_], _ => rfl, fun sem n cdv A outer s H E C => wk__law_mixed C⟩
theorem di__law_take (X : K.In h) (G : h.Ns mainGlobals mg) (c : hd.Says K) : DefI (gx names klas K) 1000 fs P w K mg base 1 "_law_take" := by
  obtain ⟨fd, F⟩ := c.sd.def_ 2 (d := ⟨("_law_take", none), "_law_take", "_law_take", defArgs (tp 40), defBody (tp 40), defScope (tp 40), [], []⟩) rfl
  exact ⟨ir__law_take, _, _, _, _, _, _, fd, nm__law_take, (["_law_draw", "_law_amount"] : List Str), rfl, F, ⟨rfl, rfl, rfl, by decide +kernel, rfl, by decide +kernel, by decide +kernel⟩, rfl, rfl, He.glo_ok X G (c.sd.fact 2 (f := .glo "_law_take") rfl),
    F.bindsN fun _ _ _ _ _ _ us hl => match us, hl with | [_, _], _ => rfl, fun sem n cdv A outer s H E C => wk__law_take C⟩
theorem di__law_pick (X : K.In h) (G : h.Ns mainGlobals mg) (c : hd.Says K) : DefI (gx names klas K) 1000 fs P w K mg base 2 "_law_pick" := by
  obtain ⟨fd, F⟩ := c.sd.def_ 3 (d := ⟨("_law_pick", none), "_law_pick", "_law_pick", defArgs (tp 41), defBody (tp 41), defScope (tp 41), [], []⟩) rfl
  exact ⟨ir__law_pick, _, _, _, _, _, _, fd, nm__law_pick, (["_law_draw", "_law_some"] : List Str), rfl, F, ⟨rfl, rfl, rfl, by decide +kernel, rfl, by decide +kernel, by decide +kernel⟩, rfl, rfl, He.glo_ok X G (c.sd.fact 3 (f := .glo "_law_pick") rfl),
    F.bindsN fun _ _ _ _ _ _ us hl => match us, hl with | [_, _], _ => rfl, fun sem n cdv A outer s H E C => wk__law_pick C⟩
theorem di__law_any (X : K.In h) (G : h.Ns mainGlobals mg) (c : hd.Says K) : DefI (gx names klas K) 1000 fs P w K mg base 3 "_law_any" := by
  obtain ⟨fd, F⟩ := c.sd.def_ 4 (d := ⟨("_law_any", none), "_law_any", "_law_any", defArgs (tp 42), defBody (tp 42), defScope (tp 42), [], []⟩) rfl
  exact ⟨ir__law_any, _, _, _, _, _, _, fd, nm__law_any, (["_law_draw"] : List Str), rfl, F, ⟨rfl, rfl, rfl, by decide +kernel, rfl, by decide +kernel, by decide +kernel⟩, rfl, rfl, He.glo_ok X G (c.sd.fact 4 (f := .glo "_law_any") rfl),
    F.bindsN fun _ _ _ _ _ _ us hl => match us, hl with | [_], _ => rfl, fun sem n cdv A outer s H E C => wk__law_any C⟩
theorem di__law_kinds (X : K.In h) (G : h.Ns mainGlobals mg) (c : hd.Says K) : DefI (gx names klas K) 1000 fs P w K mg base 4 "_law_kinds" := by
  obtain ⟨fd, F⟩ := c.sd.def_ 5 (d := ⟨("_law_kinds", none), "_law_kinds", "_law_kinds", defArgs (tp 43), defBody (tp 43), defScope (tp 43), [], []⟩) rfl
  exact ⟨ir__law_kinds, _, _, _, _, _, _, fd, nm__law_kinds, (["_law_error"] : List Str), rfl, F, ⟨rfl, rfl, rfl, by decide +kernel, rfl, by decide +kernel, by decide +kernel⟩, rfl, rfl, He.glo_ok X G (c.sd.fact 5 (f := .glo "_law_kinds") rfl),
    F.bindsN fun _ _ _ _ _ _ us hl => match us, hl with | [_], _ => rfl, fun sem n cdv A outer s H E C => wk__law_kinds C⟩
theorem di__law_plain_errors (X : K.In h) (G : h.Ns mainGlobals mg) (c : hd.Says K) : DefI (gx names klas K) 1000 fs P w K mg base 5 "_law_plain_errors" := by
  obtain ⟨fd, F⟩ := c.sd.def_ 6 (d := ⟨("_law_plain_errors", none), "_law_plain_errors", "_law_plain_errors", defArgs (tp 44), defBody (tp 44), defScope (tp 44), [], []⟩) rfl
  exact ⟨ir__law_plain_errors, _, _, _, _, _, _, fd, nm__law_plain_errors, (["_law_words_here"] : List Str), rfl, F, ⟨rfl, rfl, rfl, by decide +kernel, rfl, by decide +kernel, by decide +kernel⟩, rfl, rfl, He.glo_ok X G (c.sd.fact 6 (f := .glo "_law_plain_errors") rfl),
    F.bindsN fun _ _ _ _ _ _ us hl => match us, hl with | [_], _ => rfl, fun sem n cdv A outer s H E C => wk__law_plain_errors C⟩
theorem di__law_errors_of (X : K.In h) (G : h.Ns mainGlobals mg) (c : hd.Says K) : DefI (gx names klas K) 1000 fs P w K mg base 6 "_law_errors_of" := by
  obtain ⟨fd, F⟩ := c.sd.def_ 7 (d := ⟨("_law_errors_of", none), "_law_errors_of", "_law_errors_of", defArgs (tp 45), defBody (tp 45), defScope (tp 45), [], []⟩) rfl
  exact ⟨ir__law_errors_of, _, _, _, _, _, _, fd, nm__law_errors_of, (["_law_each"] : List Str), rfl, F, ⟨rfl, rfl, rfl, by decide +kernel, rfl, by decide +kernel, by decide +kernel⟩, rfl, rfl, He.glo_ok X G (c.sd.fact 7 (f := .glo "_law_errors_of") rfl),
    F.bindsN fun _ _ _ _ _ _ us hl => match us, hl with | [_], _ => rfl, fun sem n cdv A outer s H E C => wk__law_errors_of C⟩
theorem dis (X : K.In h) (G : h.Ns mainGlobals mg) (c : hd.Says K) (j : Nat) (y : Str) (e : (gx names klas K).T.fnm[j]? = some y) : DefI (gx names klas K) 1000 fs P w K mg base j y := by
  have e' : names.fnm[j]? = some y := e
  match j, e' with
  | 0, e' => cases e'; exact di__law_mixed X G c
  | 1, e' => cases e'; exact di__law_take X G c
  | 2, e' => cases e'; exact di__law_pick X G c
  | 3, e' => cases e'; exact di__law_any X G c
  | 4, e' => cases e'; exact di__law_kinds X G c
  | 5, e' => cases e'; exact di__law_plain_errors X G c
  | 6, e' => cases e'; exact di__law_errors_of X G c
  | j + 7, e' => cases e'
end
section
variable {P : Program} {w : World} {K : PySem.W.Frag} {mg : Str → Option Value} {base : Heap} {sem : Nat → List Rc.D → Rc.S → Rc.CRes} {n : Nat} {f : Addr} {cdv : Value} {A : Around} {outer : List Env} {s : Shared} {H : Hp} {EE : XK}
def nm__law_begun : List Str := ["_law_script", "_law_large", "_law_grain"]
theorem wk__law_begun (C : CtxA (gx names klas K) sem n (cxOf (L2.CX P w) P w K mg base nm__law_begun "_law_begun" (defScope (tp 38)) f cdv A outer s H EE)) : PSs (cxOf (L2.CX P w) P w K mg base nm__law_begun "_law_begun" (defScope (tp 38)) f cdv A outer s H EE) (defBody (tp 38)) tBeg :=
  beg_body (g := gx names klas K) (sem := sem) (fuel := 1000) (W := fun cl dd _ H => EE cl dd H) rfl (vis_by rfl)
    (c_setLc (own := [("_law_grain", 2)]) C.a.calm C.a.nd rfl rfl rfl (List.Mem.head _) (i_seq (s_loc rfl (vis_by rfl) (by decide) (by decide))) rfl (fun _ _ _ _ _ => (g_nm C.a.blk.nd rfl (loc_by rfl) (Or.inr rfl))) (fun _ _ _ _ _ => (ts_yes (t_cm (o := .ge) (C.a.blk.room.mono (Nat.le_add_right _ _)) (s_bor rfl (s_bi call_abs rfl (C.a.blk.blt _ (show _ ∈ names.blt from by decide +kernel)) rfl (s_peek rfl (vis_by rfl) (by decide) (by decide)) rfl (by decide) (fun R b e h => ok_abs R b e h))) (s_bor rfl (s_op (o := .pow) (s_cst pe_int fun _ _ => Is.int _) (s_cst pe_int fun _ _ => Is.int _))) rfl))) (fun _ _ _ _ _ => (s_op (o := .sub) (s_bi call_abs rfl (C.a.blk.blt _ (show _ ∈ names.blt from by decide +kernel)) rfl (s_peek rfl (vis_by rfl) (by decide) (by decide)) rfl (by decide) (fun R b e h => ok_abs R b e h)) (s_op (o := .pow) (s_cst pe_int fun _ _ => Is.int _) (s_cst pe_int fun _ _ => Is.int _)))) (fun _ => rfl))
    (s_comp (own := [("_law_grain", 2)]) C.a.calm C.a.nd (List.Mem.head _) (i_seq (s_loc rfl (vis_by rfl) (by decide) (by decide))) rfl (fun _ _ _ _ _ => (g_nm C.a.blk.nd rfl (loc_by rfl) (Or.inr rfl))) (fun _ _ _ _ _ => ts_no) (fun _ _ _ _ _ => (s_bi call_abs rfl (C.a.blk.blt _ (show _ ∈ names.blt from by decide +kernel)) rfl (s_peek rfl (vis_by rfl) (by decide) (by decide)) rfl (by decide) (fun R b e h => ok_abs R b e h))) (fun _ => rfl))
theorem wk_law (plain : ∀ ns : List Int, ns.length ≤ 63 → ∃ s, execs klas.pr (run klas.pr 1000 fs 6) 1000 ir_law.body ⟨lawEnv 9 ns, begun ns⟩ = .ret (.bl true) s) {fb : Addr} {fdb : FuncData} (FB : FnG P w K mg base (L2.CX P w) 3 fb fdb ["_law_script"] spBeg) (hm : mg "_law_begun" = some (.ref fb)) (hk : PySem.W.keepIn K (.ref fb) = true) (bi : Binds K fdb ["_law_script"] [])
    (C : CtxA (gx names klas K) (run klas.pr 1000 fs 6) 6 (cxOf (L2.CX P w) P w K mg base nm_law "law" (defScope (tp 46)) f cdv A outer s H EE)) : PSs (cxOf (L2.CX P w) P w K mg base nm_law "law" (defScope (tp 46)) f cdv A outer s H EE) (defBody (tp 46)) fun D σ H => ∃ (a : Addr) (ns : List Int), σ = some (.ref a) :: none :: List.replicate 9 none ∧ Rd H a (.lst (ns.map .int)) ∧ ns.length ≤ 63 ∧ ∀ H', D.rt (.bl true) H' :=
  law_body (g := gx names klas K) (sem := run klas.pr 1000 fs 6) (fuel := 1000) (m := 9) (b := ir_law.body) (W := fun cl dd _ H => EE cl dd H) (ec := fun _ _ _ => True)
    (ps_set C.a.nd rfl (loc_by rfl) (pe_callG FB C.a.gu (C.a.room.mono (by decide)) rfl hm hk bi takes_cx (pa_cons (pe_var rfl (vis_by rfl) (by decide) (by decide)) pa_nil) (by decide) rfl rfl))
    (cs_cons (c_asg (s_tup (a_cons (s_call C.a takes_cx rfl rfl (by decide) (a_cons (s_loc rfl (vis_by rfl) (by decide) (by decide)) (a_cons (s_lst (a_cons (s_cst pe_str fun _ _ => Is.str _) (a_cons (s_cst pe_str fun _ _ => Is.str _) (a_cons (s_cst pe_str fun _ _ => Is.str _) a_nil rfl) rfl) rfl)) a_nil rfl) rfl) rfl rfl) (a_cons (s_call C.a takes_cx rfl rfl (by decide) (a_cons (s_loc rfl (vis_by rfl) (by decide) (by decide)) a_nil rfl) rfl rfl) a_nil rfl) rfl)) (g_tp C.a.calm (gs_cons C.a.nd rfl (loc_by rfl) (Or.inl rfl) (gs_cons C.a.nd rfl (loc_by rfl) (Or.inl rfl) gs_nil rfl) rfl) rfl rfl) rfl rfl rfl)
  (cs_cons (c_set C.a.nd rfl (loc_by rfl) (Or.inl rfl) (s_call C.a takes_cx rfl rfl (by decide) (a_cons (s_loc rfl (vis_by rfl) (by decide) (by decide)) a_nil rfl) rfl rfl) rfl)
  (cs_cons (c_set C.a.nd rfl (loc_by rfl) (Or.inl rfl) (s_op (o := .add) (s_call C.a takes_cx rfl rfl (by decide) (a_cons (s_loc rfl (vis_by rfl) (by decide) (by decide)) a_nil rfl) rfl rfl) (s_comp (own := [("_law_item", 6)]) C.a.calm C.a.nd (List.Mem.head _) (i_seq (s_loc rfl (vis_by rfl) (by decide) (by decide))) rfl (fun _ _ _ _ _ => (g_nm C.a.blk.nd rfl (loc_by rfl) (Or.inr rfl))) (fun _ _ _ _ _ => ts_no) (fun _ _ _ _ _ => (s_ix (C.a.blk.room.mono (Nat.le_add_right _ _)) (s_peek rfl (vis_by rfl) (by decide) (by decide)) (s_cst pe_int fun _ _ => Is.int _) (plainIx_of (fun _ _ _ _ z => nomatch z)))) (fun _ => rfl))) rfl)
  (cs_cons (c_for passes_cx C.a.calm (i_enum rfl rfl (C.a.blt _ (show _ ∈ names.blt from by decide +kernel)).1 (s_loc rfl (vis_by rfl) (by decide) (by decide)) rfl) (g_tp C.a.calm (gs_cons C.a.nd rfl (loc_by rfl) (Or.inl rfl) (gs_cons C.a.nd rfl (loc_by rfl) (Or.inl rfl) gs_nil rfl) rfl) rfl rfl)
  (cs_cons (c_ifs (t_cm (o := .ne) (C.a.room.mono (Nat.le_add_right _ _)) (s_bor rfl (s_call C.a takes_cx rfl rfl (by decide) (a_cons (s_loc rfl (vis_by rfl) (by decide) (by decide)) a_nil rfl) rfl rfl)) (s_bor rfl (s_comp (own := [("_law_k", 9)]) C.a.calm C.a.nd (List.Mem.head _) (i_rng rfl rfl (C.a.blt _ (show _ ∈ names.blt from by decide +kernel)).1 (s_cst pe_int fun _ _ => Is.int _) rfl) rfl (fun _ _ _ _ _ => (g_nm C.a.blk.nd rfl (loc_by rfl) (Or.inr rfl))) (fun _ _ _ _ _ => ts_no) (fun _ _ _ _ _ => (s_cm (o := .eq) (C.a.blk.room.mono (Nat.le_add_right _ _)) (s_peek rfl (vis_by rfl) (by decide) (by decide)) (s_peek rfl (vis_by rfl) (by decide) (by decide)) rfl)) (fun _ => rfl))) rfl)
  (cs_cons (c_ret (s_cst pe_bl fun _ _ => Is.bl _))
  cs_nil)
  cs_nil)
  (cs_cons (c_ifs (PW.pt (t_or (t_not (t_val (s_isa C.cl rfl rfl (C.a.blt _ (show _ ∈ names.blt from by decide +kernel)) (s_peek rfl (vis_by rfl) (by decide) (by decide)) (clsn_own C.er rfl rfl rfl (by decide)) rfl rfl rfl) (fun _ => rfl))) (pw_or1 (t_not (t_val (s_isa C.cl rfl rfl (C.a.blt _ (show _ ∈ names.blt from by decide +kernel)) (s_peek rfl (vis_by rfl) (by decide) (by decide)) (clsn_ty rfl rfl (C.a.blt _ (show _ ∈ names.blt from by decide +kernel)) rfl (by decide)) rfl rfl rfl) (fun _ => rfl))))))
  (cs_cons (c_ret (s_cst pe_bl fun _ _ => Is.bl _))
  cs_nil)
  cs_nil)
  cs_nil)) (fun _ => rfl))
  (cs_cons (c_ifs (t_cm (o := .ne) (C.a.room.mono (Nat.le_add_right _ _)) (s_bor rfl (s_comp (own := [("_law_item", 6)]) C.a.calm C.a.nd (List.Mem.head _) (i_seq (s_loc rfl (vis_by rfl) (by decide) (by decide))) rfl (fun _ _ _ _ _ => (g_nm C.a.blk.nd rfl (loc_by rfl) (Or.inr rfl))) (fun _ _ _ _ _ => (ts_yes (t_cm (o := .ne) (C.a.blk.room.mono (Nat.le_add_right _ _)) (s_bor rfl (s_bi (call_repr C.sm C.a.blk.gu C.a.blk.u80) rfl (C.a.blk.blt _ (show _ ∈ names.blt from by decide +kernel)) rfl (s_bor rfl (s_lst (a_cons (s_ix (C.a.blk.room.mono (Nat.le_add_right _ _)) (s_peek rfl (vis_by rfl) (by decide) (by decide)) (s_cst pe_int fun _ _ => Is.int _) (plainIx_of (fun _ _ _ _ z => nomatch z))) (a_cons (s_ix (C.a.blk.room.mono (Nat.le_add_right _ _)) (s_peek rfl (vis_by rfl) (by decide) (by decide)) (s_cst pe_int fun _ _ => Is.int _) (plainIx_of (fun _ _ _ _ z => nomatch z))) a_nil rfl) rfl))) rfl (by decide) (fun R b e h => ok_repr R b e h))) (s_bor rfl (s_bi (call_repr C.sm C.a.blk.gu C.a.blk.u80) rfl (C.a.blk.blt _ (show _ ∈ names.blt from by decide +kernel)) rfl (s_bor rfl (s_lst (a_cons (s_loc rfl (vis_by rfl) (by decide) (by decide)) (a_cons (s_loc rfl (vis_by rfl) (by decide) (by decide)) a_nil rfl) rfl))) rfl (by decide) (fun R b e h => ok_repr R b e h))) rfl))) (fun _ _ _ _ _ => (s_cst pe_int fun _ _ => Is.int _)) (fun _ => rfl))) (s_bor rfl (s_lst a_nil)) rfl)
  (cs_cons (c_ret (s_cst pe_bl fun _ _ => Is.bl _))
  cs_nil)
  cs_nil)
  (cs_cons (c_set C.a.nd rfl (loc_by rfl) (Or.inl rfl) (s_newErr C.er rfl (C.a.room.mono (by omega)) rfl rfl (by decide) (s_cst pe_str fun _ _ => Is.str _) rfl) rfl)
  (cs_cons (c_ret (s_and (s_cm (o := .notin) (C.a.room.mono (Nat.le_add_right _ _)) (s_bor rfl (s_cst pe_bl fun _ _ => Is.bl _)) (s_bor rfl (s_call C.a takes_cx rfl rfl (by decide) (a_cons (s_loc rfl (vis_by rfl) (by decide) (by decide)) a_nil rfl) rfl rfl)) rfl) (pe_one (s_isa C.cl rfl rfl (C.a.blt _ (show _ ∈ names.blt from by decide +kernel)) (s_peek rfl (vis_by rfl) (by decide) (by decide)) (clsn_ty rfl rfl (C.a.blt _ (show _ ∈ names.blt from by decide +kernel)) rfl (by decide)) rfl rfl rfl))))
  cs_nil))))))) plain
end
theorem facts (plain : ∀ ns : List Int, ns.length ≤ 63 → ∃ s, execs klas.pr (run klas.pr 1000 fs 6) 1000 ir_law.body ⟨lawEnv 9 ns, begun ns⟩ = .ret (.bl true) s) {w : World} {K : PySem.W.Frag} {h : Heap} {mg : Str → Option Value} {fa : Addr} (X : K.In h) (G : h.Ns mainGlobals mg) (hfa : mg "law" = some (.ref fa)) (c : hd.Says K) :
    ∃ fd : FuncData, (∀ (s : Shared) (u : Value), BindsTo s fd ⟨[u], []⟩ [("_law_script", u)]) ∧ ∀ base : Heap, K.In base → base.Ns mainGlobals mg → FnG PySem.Challenge.pw_ringcubes_k00_errors_of_all_parts w K mg base (L2.CX PySem.Challenge.pw_ringcubes_k00_errors_of_all_parts w) (3 * (6 + 1)) fa fd ["_law_script"] spLaw := by
  obtain ⟨fdb, FB⟩ := c.sd.def_ 0 (d := ⟨("_law_begun", none), "_law_begun", "_law_begun", defArgs (tp 38), defBody (tp 38), defScope (tp 38), [], []⟩) rfl
  obtain ⟨fd, F⟩ := c.sd.def_ 8 (d := ⟨("law", none), "law", "law", defArgs (tp 46), defBody (tp 46), defScope (tp 46), [], []⟩) rfl
  have e := hfa.symm.trans (He.glo_ok X G (c.sd.fact 8 (f := .glo "law") rfl))
  cases e
  have b := FunD.bindsA (ps := ["_law_script"]) F fun _ _ _ _ _ _ us hl => match us, hl with | [_], _ => rfl
  have T : Top (gx names klas K) PySem.Challenge.pw_ringcubes_k00_errors_of_all_parts K mg := top_of c X G kok oks rfl (by decide +kernel) (by decide +kernel) (by decide +kernel)
  refine ⟨fd, fun s v => b s [v] rfl, fun base Xb Gb => ?_⟩
  have al := fun n => all_ok (g := gx names klas K) (P := PySem.Challenge.pw_ringcubes_k00_errors_of_all_parts) (w := w) (K := K) (mg := mg) (base := base) (fuel := 1000) (fs := fs) T (fun j y e => dis X G c j y e) n
  have B := beg_ok (base := base) (w := w) (sem := run klas.pr 1000 fs 0) FB ⟨rfl, rfl, rfl, by decide +kernel, rfl, by decide +kernel, by decide +kernel⟩ T (al 0) fun cdv A outer s H E C => wk__law_begun C
  exact lawG_ok (m := 9) (n := 6) (N := nm_law) (sem := run klas.pr 1000 fs 6) F ⟨rfl, rfl, rfl, by decide +kernel, rfl, by decide +kernel, by decide +kernel⟩ rfl T (al 6) fun cdv A outer s H E C => wk_law plain B (He.glo_ok X G (c.sd.fact 0 (f := .glo "_law_begun") rfl)) FB.kp
    (FB.bindsN fun _ _ _ _ _ _ us hl => match us, hl with | [_], _ => rfl) C

abbrev sm (n : Nat) := Rc.run klas.pr 1000 fs n
theorem mixed_k (n : Nat) (s : Rc.S) : ∃ v s', sm (n + 1) 0 [.drw] s = .ok (.int v) s' := Rc.mixed_ok klas.pr (sm n) 1000 s
theorem take_k (n : Nat) (a : Int) (s : Rc.S) (ha : 0 < a) (hb : a < 1073741824) : ∃ k s', 0 ≤ k ∧ k < a ∧ sm (n + 2) 1 [.drw, .int a] s = .ok (.int k) s' := Rc.take_ok klas.pr (sm (n + 1)) 1000 (jm := 0) (mixed_k n) a ha hb s
theorem pick_k (n : Nat) (l : List Rc.D) (h0 : l ≠ []) (h1 : l.length ≤ Rc.most) (s : Rc.S) : ∃ d s', d ∈ l ∧ sm (n + 3) 2 [.drw, .lst l] s = .ok d s' := Rc.pick_ok klas.pr (sm (n + 2)) 1000 (jt := 1) (take_k n) l h0 h1 s
def anyL : List Rc.D := [.non, .bl false, .int (-5), .int (10 ^ 45), .str "", .str "wide", .str "two words", .lst [], .lst [.tup [.int 0, .int 2]], .tup [], .tup [.int 4], .dct [], .dct [(.str "a", .tup [.int 1])], .lst [.lst [.non]]]
theorem any_1 (sem : Nat → List Rc.D → Rc.S → Rc.CRes) (s : Rc.S) : Rc.exec klas.pr sem 1000 (.asg (.nm 1) (.lst (.cons (.cst .non) (.cons (.cst (.bl false)) (.cons (.neg (.cst (.int (5)))) (.cons (.op .pow (.cst (.int (10))) (.cst (.int (45)))) (.cons (.cst (.str "")) (.cons (.cst (.str "wide")) (.cons (.cst (.str "two words")) (.cons (.lst .nil) (.cons (.lst (.cons (.tup (.cons (.cst (.int (0))) (.cons (.cst (.int (2))) .nil))) .nil)) (.cons (.tup .nil) (.cons (.tup (.cons (.cst (.int (4))) .nil)) (.cons (.dct .nil) (.cons (.dct (.cons (.cst (.str "a")) (.tup (.cons (.cst (.int (1))) .nil)) .nil)) (.cons (.lst (.cons (.lst (.cons (.cst .non) .nil)) .nil)) .nil)))))))))))))))) ⟨[.fz .drw, .none], s⟩ = .nx ⟨[.fz .drw, .ol anyL], s⟩ := by kernel_rfl
theorem any_k (n : Nat) (s : Rc.S) : ∃ d s', d ∈ anyL ∧ sm (n + 4) 3 [.drw] s = .ok d s' := by
  obtain ⟨d, s', hm, e⟩ := pick_k n anyL (by unfold anyL; exact List.cons_ne_nil _ _) (by show 14 ≤ Rc.most; decide) s
  refine ⟨d, s', hm, ?_⟩
  show Rc.runD klas.pr (sm (n + 3)) 1000 ir__law_any [.drw] s = _
  unfold Rc.runD
  rw [if_pos (by rfl)]
  have hb : Rc.execs klas.pr (sm (n + 3)) 1000 ir__law_any.body ⟨Rc.frame ir__law_any.size [.drw], s⟩ = .ret d s' := by
    show Rc.execs klas.pr (sm (n + 3)) 1000 (.cons _ (.cons (.ret (.call 2 (.cons (.loc 0) (.cons (.loc 1) .nil)))) .nil)) ⟨[.fz .drw, .none], s⟩ = _
    rw [Rc.execs, any_1, Rc.SRes.then_nx]
    simp [Rc.execs, Rc.exec, Rc.ev, Rc.evs, Rc.load, Rc.Out.val, e, Rc.ofCall]
  rw [hb]
def tlC : Rc.Cs → Rc.Cs
  | .cons _ r => r
  | .nil => .nil

def nth : Nat → Rc.Cs → Rc.C
  | 0, .cons a _ => a
  | n + 1, .cons _ r => nth n r
  | _, .nil => .pass
def bodyC : Rc.Cs := match nth 3 ir_law.body with
  | .for _ _ b => b
  | _ => .nil
abbrev fB (x : Rc.D) (c : Rc.Cfg) : Rc.SRes := Rc.optS (Rc.store (.tp [7, 8]) (.v x) c.env) fun env => Rc.execs klas.pr (sm 6) 1000 bodyC ⟨env, c.s⟩
theorem turn_0 (x w d t l : Rc.D) (t7 t8 : Rc.Slot) (a : List Rc.D) (s : Rc.S) : fB (.tup [.int 0, .err 1 a]) ⟨[.fz x, .fz .drw, .fz w, .fz d, .fz t, .fz l, .none, t7, t8, .none, .none], s⟩ = .nx ⟨[.fz x, .fz .drw, .fz w, .fz d, .fz t, .fz l, .none, .fz (.int 0), .fz (.err 1 a), .none, .none], s⟩ := by kernel_rfl
theorem turn_1 (x w d t l : Rc.D) (t7 t8 : Rc.Slot) (a : List Rc.D) (s : Rc.S) : fB (.tup [.int 1, .err 4 a]) ⟨[.fz x, .fz .drw, .fz w, .fz d, .fz t, .fz l, .none, t7, t8, .none, .none], s⟩ = .nx ⟨[.fz x, .fz .drw, .fz w, .fz d, .fz t, .fz l, .none, .fz (.int 1), .fz (.err 4 a), .none, .none], s⟩ := by kernel_rfl
theorem turn_2 (x w d t l : Rc.D) (t7 t8 : Rc.Slot) (a : List Rc.D) (s : Rc.S) : fB (.tup [.int 2, .err 5 a]) ⟨[.fz x, .fz .drw, .fz w, .fz d, .fz t, .fz l, .none, t7, t8, .none, .none], s⟩ = .nx ⟨[.fz x, .fz .drw, .fz w, .fz d, .fz t, .fz l, .none, .fz (.int 2), .fz (.err 5 a), .none, .none], s⟩ := by kernel_rfl
theorem turn_3 (x w d t l : Rc.D) (t7 t8 : Rc.Slot) (a : List Rc.D) (s : Rc.S) : fB (.tup [.int 3, .err 6 a]) ⟨[.fz x, .fz .drw, .fz w, .fz d, .fz t, .fz l, .none, t7, t8, .none, .none], s⟩ = .nx ⟨[.fz x, .fz .drw, .fz w, .fz d, .fz t, .fz l, .none, .fz (.int 3), .fz (.err 6 a), .none, .none], s⟩ := by kernel_rfl
theorem turn_4 (x w d t l : Rc.D) (t7 t8 : Rc.Slot) (a : List Rc.D) (s : Rc.S) : fB (.tup [.int 4, .err 7 a]) ⟨[.fz x, .fz .drw, .fz w, .fz d, .fz t, .fz l, .none, t7, t8, .none, .none], s⟩ = .nx ⟨[.fz x, .fz .drw, .fz w, .fz d, .fz t, .fz l, .none, .fz (.int 4), .fz (.err 7 a), .none, .none], s⟩ := by kernel_rfl
theorem turn_5 (x w d t l : Rc.D) (t7 t8 : Rc.Slot) (a : List Rc.D) (s : Rc.S) : fB (.tup [.int 5, .err 8 a]) ⟨[.fz x, .fz .drw, .fz w, .fz d, .fz t, .fz l, .none, t7, t8, .none, .none], s⟩ = .nx ⟨[.fz x, .fz .drw, .fz w, .fz d, .fz t, .fz l, .none, .fz (.int 5), .fz (.err 8 a), .none, .none], s⟩ := by kernel_rfl
theorem turn_6 (x w d t l : Rc.D) (t7 t8 : Rc.Slot) (a : List Rc.D) (s : Rc.S) : fB (.tup [.int 6, .err 9 a]) ⟨[.fz x, .fz .drw, .fz w, .fz d, .fz t, .fz l, .none, t7, t8, .none, .none], s⟩ = .nx ⟨[.fz x, .fz .drw, .fz w, .fz d, .fz t, .fz l, .none, .fz (.int 6), .fz (.err 9 a), .none, .none], s⟩ := by kernel_rfl
theorem turn_7 (x w d t l : Rc.D) (t7 t8 : Rc.Slot) (a : List Rc.D) (s : Rc.S) : fB (.tup [.int 7, .err 10 a]) ⟨[.fz x, .fz .drw, .fz w, .fz d, .fz t, .fz l, .none, t7, t8, .none, .none], s⟩ = .nx ⟨[.fz x, .fz .drw, .fz w, .fz d, .fz t, .fz l, .none, .fz (.int 7), .fz (.err 10 a), .none, .none], s⟩ := by kernel_rfl
theorem turn_8 (x w d t l : Rc.D) (t7 t8 : Rc.Slot) (a : List Rc.D) (s : Rc.S) : fB (.tup [.int 8, .err 11 a]) ⟨[.fz x, .fz .drw, .fz w, .fz d, .fz t, .fz l, .none, t7, t8, .none, .none], s⟩ = .nx ⟨[.fz x, .fz .drw, .fz w, .fz d, .fz t, .fz l, .none, .fz (.int 8), .fz (.err 11 a), .none, .none], s⟩ := by kernel_rfl
theorem turn_9 (x w d t l : Rc.D) (t7 t8 : Rc.Slot) (a : List Rc.D) (s : Rc.S) : fB (.tup [.int 9, .err 13 a]) ⟨[.fz x, .fz .drw, .fz w, .fz d, .fz t, .fz l, .none, t7, t8, .none, .none], s⟩ = .nx ⟨[.fz x, .fz .drw, .fz w, .fz d, .fz t, .fz l, .none, .fz (.int 9), .fz (.err 13 a), .none, .none], s⟩ := by kernel_rfl
theorem turn_10 (x w d t l : Rc.D) (t7 t8 : Rc.Slot) (a : List Rc.D) (s : Rc.S) : fB (.tup [.int 10, .err 14 a]) ⟨[.fz x, .fz .drw, .fz w, .fz d, .fz t, .fz l, .none, t7, t8, .none, .none], s⟩ = .nx ⟨[.fz x, .fz .drw, .fz w, .fz d, .fz t, .fz l, .none, .fz (.int 10), .fz (.err 14 a), .none, .none], s⟩ := by kernel_rfl
theorem turn_11 (x w d t l : Rc.D) (t7 t8 : Rc.Slot) (a : List Rc.D) (s : Rc.S) : fB (.tup [.int 11, .err 15 a]) ⟨[.fz x, .fz .drw, .fz w, .fz d, .fz t, .fz l, .none, t7, t8, .none, .none], s⟩ = .nx ⟨[.fz x, .fz .drw, .fz w, .fz d, .fz t, .fz l, .none, .fz (.int 11), .fz (.err 15 a), .none, .none], s⟩ := by kernel_rfl
theorem turn_12 (x w d t l : Rc.D) (t7 t8 : Rc.Slot) (a : List Rc.D) (s : Rc.S) : fB (.tup [.int 12, .err 16 a]) ⟨[.fz x, .fz .drw, .fz w, .fz d, .fz t, .fz l, .none, t7, t8, .none, .none], s⟩ = .nx ⟨[.fz x, .fz .drw, .fz w, .fz d, .fz t, .fz l, .none, .fz (.int 12), .fz (.err 16 a), .none, .none], s⟩ := by kernel_rfl
theorem turn_13 (x w d t l : Rc.D) (t7 t8 : Rc.Slot) (a : List Rc.D) (s : Rc.S) : fB (.tup [.int 13, .err 18 a]) ⟨[.fz x, .fz .drw, .fz w, .fz d, .fz t, .fz l, .none, t7, t8, .none, .none], s⟩ = .nx ⟨[.fz x, .fz .drw, .fz w, .fz d, .fz t, .fz l, .none, .fz (.int 13), .fz (.err 18 a), .none, .none], s⟩ := by kernel_rfl
theorem turn_14 (x w d t l : Rc.D) (t7 t8 : Rc.Slot) (a : List Rc.D) (s : Rc.S) : fB (.tup [.int 14, .err 19 a]) ⟨[.fz x, .fz .drw, .fz w, .fz d, .fz t, .fz l, .none, t7, t8, .none, .none], s⟩ = .nx ⟨[.fz x, .fz .drw, .fz w, .fz d, .fz t, .fz l, .none, .fz (.int 14), .fz (.err 19 a), .none, .none], s⟩ := by kernel_rfl
theorem turn_15 (x w d t l : Rc.D) (t7 t8 : Rc.Slot) (a : List Rc.D) (s : Rc.S) : fB (.tup [.int 15, .err 20 a]) ⟨[.fz x, .fz .drw, .fz w, .fz d, .fz t, .fz l, .none, t7, t8, .none, .none], s⟩ = .nx ⟨[.fz x, .fz .drw, .fz w, .fz d, .fz t, .fz l, .none, .fz (.int 15), .fz (.err 20 a), .none, .none], s⟩ := by kernel_rfl
theorem turn_16 (x w d t l : Rc.D) (t7 t8 : Rc.Slot) (a : List Rc.D) (s : Rc.S) : fB (.tup [.int 16, .err 21 a]) ⟨[.fz x, .fz .drw, .fz w, .fz d, .fz t, .fz l, .none, t7, t8, .none, .none], s⟩ = .nx ⟨[.fz x, .fz .drw, .fz w, .fz d, .fz t, .fz l, .none, .fz (.int 16), .fz (.err 21 a), .none, .none], s⟩ := by kernel_rfl
theorem turn_17 (x w d t l : Rc.D) (t7 t8 : Rc.Slot) (a : List Rc.D) (s : Rc.S) : fB (.tup [.int 17, .err 25 a]) ⟨[.fz x, .fz .drw, .fz w, .fz d, .fz t, .fz l, .none, t7, t8, .none, .none], s⟩ = .nx ⟨[.fz x, .fz .drw, .fz w, .fz d, .fz t, .fz l, .none, .fz (.int 17), .fz (.err 25 a), .none, .none], s⟩ := by kernel_rfl
theorem turn_18 (x w d t l : Rc.D) (t7 t8 : Rc.Slot) (a : List Rc.D) (s : Rc.S) : fB (.tup [.int 18, .err 26 a]) ⟨[.fz x, .fz .drw, .fz w, .fz d, .fz t, .fz l, .none, t7, t8, .none, .none], s⟩ = .nx ⟨[.fz x, .fz .drw, .fz w, .fz d, .fz t, .fz l, .none, .fz (.int 18), .fz (.err 26 a), .none, .none], s⟩ := by kernel_rfl
theorem turn_19 (x w d t l : Rc.D) (t7 t8 : Rc.Slot) (a : List Rc.D) (s : Rc.S) : fB (.tup [.int 19, .err 27 a]) ⟨[.fz x, .fz .drw, .fz w, .fz d, .fz t, .fz l, .none, t7, t8, .none, .none], s⟩ = .nx ⟨[.fz x, .fz .drw, .fz w, .fz d, .fz t, .fz l, .none, .fz (.int 19), .fz (.err 27 a), .none, .none], s⟩ := by kernel_rfl
theorem turn_20 (x w d t l : Rc.D) (t7 t8 : Rc.Slot) (a : List Rc.D) (s : Rc.S) : fB (.tup [.int 20, .err 28 a]) ⟨[.fz x, .fz .drw, .fz w, .fz d, .fz t, .fz l, .none, t7, t8, .none, .none], s⟩ = .nx ⟨[.fz x, .fz .drw, .fz w, .fz d, .fz t, .fz l, .none, .fz (.int 20), .fz (.err 28 a), .none, .none], s⟩ := by kernel_rfl
theorem turn_21 (x w d t l : Rc.D) (t7 t8 : Rc.Slot) (a : List Rc.D) (s : Rc.S) : fB (.tup [.int 21, .err 29 a]) ⟨[.fz x, .fz .drw, .fz w, .fz d, .fz t, .fz l, .none, t7, t8, .none, .none], s⟩ = .nx ⟨[.fz x, .fz .drw, .fz w, .fz d, .fz t, .fz l, .none, .fz (.int 21), .fz (.err 29 a), .none, .none], s⟩ := by kernel_rfl
theorem turn_22 (x w d t l : Rc.D) (t7 t8 : Rc.Slot) (a : List Rc.D) (s : Rc.S) : fB (.tup [.int 22, .err 30 a]) ⟨[.fz x, .fz .drw, .fz w, .fz d, .fz t, .fz l, .none, t7, t8, .none, .none], s⟩ = .nx ⟨[.fz x, .fz .drw, .fz w, .fz d, .fz t, .fz l, .none, .fz (.int 22), .fz (.err 30 a), .none, .none], s⟩ := by kernel_rfl
theorem turn_23 (x w d t l : Rc.D) (t7 t8 : Rc.Slot) (a : List Rc.D) (s : Rc.S) : fB (.tup [.int 23, .err 32 a]) ⟨[.fz x, .fz .drw, .fz w, .fz d, .fz t, .fz l, .none, t7, t8, .none, .none], s⟩ = .nx ⟨[.fz x, .fz .drw, .fz w, .fz d, .fz t, .fz l, .none, .fz (.int 23), .fz (.err 32 a), .none, .none], s⟩ := by kernel_rfl
theorem turn_24 (x w d t l : Rc.D) (t7 t8 : Rc.Slot) (a : List Rc.D) (s : Rc.S) : fB (.tup [.int 24, .err 33 a]) ⟨[.fz x, .fz .drw, .fz w, .fz d, .fz t, .fz l, .none, t7, t8, .none, .none], s⟩ = .nx ⟨[.fz x, .fz .drw, .fz w, .fz d, .fz t, .fz l, .none, .fz (.int 24), .fz (.err 33 a), .none, .none], s⟩ := by kernel_rfl
theorem turn_25 (x w d t l : Rc.D) (t7 t8 : Rc.Slot) (a : List Rc.D) (s : Rc.S) : fB (.tup [.int 25, .err 34 a]) ⟨[.fz x, .fz .drw, .fz w, .fz d, .fz t, .fz l, .none, t7, t8, .none, .none], s⟩ = .nx ⟨[.fz x, .fz .drw, .fz w, .fz d, .fz t, .fz l, .none, .fz (.int 25), .fz (.err 34 a), .none, .none], s⟩ := by kernel_rfl
theorem turn_26 (x w d t l : Rc.D) (t7 t8 : Rc.Slot) (a : List Rc.D) (s : Rc.S) : fB (.tup [.int 26, .err 2 a]) ⟨[.fz x, .fz .drw, .fz w, .fz d, .fz t, .fz l, .none, t7, t8, .none, .none], s⟩ = .nx ⟨[.fz x, .fz .drw, .fz w, .fz d, .fz t, .fz l, .none, .fz (.int 26), .fz (.err 2 a), .none, .none], s⟩ := by kernel_rfl
theorem turn_27 (x w d t l : Rc.D) (t7 t8 : Rc.Slot) (a : List Rc.D) (s : Rc.S) : fB (.tup [.int 27, .err 3 a]) ⟨[.fz x, .fz .drw, .fz w, .fz d, .fz t, .fz l, .none, t7, t8, .none, .none], s⟩ = .nx ⟨[.fz x, .fz .drw, .fz w, .fz d, .fz t, .fz l, .none, .fz (.int 27), .fz (.err 3 a), .none, .none], s⟩ := by kernel_rfl
theorem turn_28 (x w d t l : Rc.D) (t7 t8 : Rc.Slot) (a : List Rc.D) (s : Rc.S) : fB (.tup [.int 28, .err 12 a]) ⟨[.fz x, .fz .drw, .fz w, .fz d, .fz t, .fz l, .none, t7, t8, .none, .none], s⟩ = .nx ⟨[.fz x, .fz .drw, .fz w, .fz d, .fz t, .fz l, .none, .fz (.int 28), .fz (.err 12 a), .none, .none], s⟩ := by kernel_rfl
theorem turn_29 (x w d t l : Rc.D) (t7 t8 : Rc.Slot) (a : List Rc.D) (s : Rc.S) : fB (.tup [.int 29, .err 17 a]) ⟨[.fz x, .fz .drw, .fz w, .fz d, .fz t, .fz l, .none, t7, t8, .none, .none], s⟩ = .nx ⟨[.fz x, .fz .drw, .fz w, .fz d, .fz t, .fz l, .none, .fz (.int 29), .fz (.err 17 a), .none, .none], s⟩ := by kernel_rfl
theorem turn_30 (x w d t l : Rc.D) (t7 t8 : Rc.Slot) (a : List Rc.D) (s : Rc.S) : fB (.tup [.int 30, .err 22 a]) ⟨[.fz x, .fz .drw, .fz w, .fz d, .fz t, .fz l, .none, t7, t8, .none, .none], s⟩ = .nx ⟨[.fz x, .fz .drw, .fz w, .fz d, .fz t, .fz l, .none, .fz (.int 30), .fz (.err 22 a), .none, .none], s⟩ := by kernel_rfl
theorem turn_31 (x w d t l : Rc.D) (t7 t8 : Rc.Slot) (a : List Rc.D) (s : Rc.S) : fB (.tup [.int 31, .err 23 a]) ⟨[.fz x, .fz .drw, .fz w, .fz d, .fz t, .fz l, .none, t7, t8, .none, .none], s⟩ = .nx ⟨[.fz x, .fz .drw, .fz w, .fz d, .fz t, .fz l, .none, .fz (.int 31), .fz (.err 23 a), .none, .none], s⟩ := by kernel_rfl
theorem turn_32 (x w d t l : Rc.D) (t7 t8 : Rc.Slot) (a : List Rc.D) (s : Rc.S) : fB (.tup [.int 32, .err 24 a]) ⟨[.fz x, .fz .drw, .fz w, .fz d, .fz t, .fz l, .none, t7, t8, .none, .none], s⟩ = .nx ⟨[.fz x, .fz .drw, .fz w, .fz d, .fz t, .fz l, .none, .fz (.int 32), .fz (.err 24 a), .none, .none], s⟩ := by kernel_rfl
theorem turn_33 (x w d t l : Rc.D) (t7 t8 : Rc.Slot) (a : List Rc.D) (s : Rc.S) : fB (.tup [.int 33, .err 31 a]) ⟨[.fz x, .fz .drw, .fz w, .fz d, .fz t, .fz l, .none, t7, t8, .none, .none], s⟩ = .nx ⟨[.fz x, .fz .drw, .fz w, .fz d, .fz t, .fz l, .none, .fz (.int 33), .fz (.err 31 a), .none, .none], s⟩ := by kernel_rfl
theorem turn_34 (x w d t l : Rc.D) (t7 t8 : Rc.Slot) (a : List Rc.D) (s : Rc.S) : fB (.tup [.int 34, .err 35 a]) ⟨[.fz x, .fz .drw, .fz w, .fz d, .fz t, .fz l, .none, t7, t8, .none, .none], s⟩ = .nx ⟨[.fz x, .fz .drw, .fz w, .fz d, .fz t, .fz l, .none, .fz (.int 34), .fz (.err 35 a), .none, .none], s⟩ := by kernel_rfl
def errsL (d : Rc.D) : List Rc.D := [.err 1 [], .err 4 [], .err 5 [], .err 6 [], .err 7 [], .err 8 [], .err 9 [], .err 10 [], .err 11 [], .err 13 [], .err 14 [], .err 15 [], .err 16 [], .err 18 [], .err 19 [], .err 20 [], .err 21 [], .err 25 [], .err 26 [], .err 27 [], .err 28 [], .err 29 [], .err 30 [], .err 32 [], .err 33 [], .err 34 [], .err 2 [d], .err 3 [d], .err 12 [d], .err 17 [d], .err 22 [d], .err 23 [d], .err 24 [d], .err 31 [d], .err 35 [d]]
def enumL (d : Rc.D) : List Rc.D := [.tup [.int 0, .err 1 []], .tup [.int 1, .err 4 []], .tup [.int 2, .err 5 []], .tup [.int 3, .err 6 []], .tup [.int 4, .err 7 []], .tup [.int 5, .err 8 []], .tup [.int 6, .err 9 []], .tup [.int 7, .err 10 []], .tup [.int 8, .err 11 []], .tup [.int 9, .err 13 []], .tup [.int 10, .err 14 []], .tup [.int 11, .err 15 []], .tup [.int 12, .err 16 []], .tup [.int 13, .err 18 []], .tup [.int 14, .err 19 []], .tup [.int 15, .err 20 []], .tup [.int 16, .err 21 []], .tup [.int 17, .err 25 []], .tup [.int 18, .err 26 []], .tup [.int 19, .err 27 []], .tup [.int 20, .err 28 []], .tup [.int 21, .err 29 []], .tup [.int 22, .err 30 []], .tup [.int 23, .err 32 []], .tup [.int 24, .err 33 []], .tup [.int 25, .err 34 []], .tup [.int 26, .err 2 [d]], .tup [.int 27, .err 3 [d]], .tup [.int 28, .err 12 [d]], .tup [.int 29, .err 17 [d]], .tup [.int 30, .err 22 [d]], .tup [.int 31, .err 23 [d]], .tup [.int 32, .err 24 [d]], .tup [.int 33, .err 31 [d]], .tup [.int 34, .err 35 [d]]]
def thr (d : Rc.D) : List Rc.D := [.tup [.err 2 [d], d, d], .tup [.err 3 [d], d, d], .tup [.err 12 [d], d, d], .tup [.err 17 [d], d, d], .tup [.err 22 [d], d, d], .tup [.err 23 [d], d, d], .tup [.err 24 [d], d, d], .tup [.err 31 [d], d, d], .tup [.err 35 [d], d, d]]
theorem loop_all {f : Rc.D → Rc.Cfg → Rc.SRes} {E : Rc.Slot → Rc.Slot → Rc.Cfg} : ∀ xs : List Rc.D, (∀ x ∈ xs, ∀ t7 t8, ∃ u7 u8, f x (E t7 t8) = .nx (E u7 u8)) → ∀ t7 t8, ∃ u7 u8, Rc.loopF f xs (E t7 t8) = .nx (E u7 u8)
  | [], _, t7, t8 => ⟨t7, t8, rfl⟩
  | x :: r, h, t7, t8 => by
    obtain ⟨a, b, e⟩ := h x List.mem_cons_self t7 t8
    obtain ⟨u, v, e2⟩ := loop_all r (fun y m => h y (List.mem_cons_of_mem _ m)) a b
    refine ⟨u, v, ?_⟩
    rw [Rc.loopF, e]
    exact e2
theorem turns (x w d t l : Rc.D) (s : Rc.S) (y : Rc.D) (m : y ∈ enumL d) (t7 t8 : Rc.Slot) : ∃ u7 u8, fB y ⟨[.fz x, .fz .drw, .fz w, .fz d, .fz t, .fz l, .none, t7, t8, .none, .none], s⟩ = .nx ⟨[.fz x, .fz .drw, .fz w, .fz d, .fz t, .fz l, .none, u7, u8, .none, .none], s⟩ := by
  unfold enumL at m
  simp only [List.mem_cons, List.mem_nil_iff, or_false] at m
  rcases m with m | m | m | m | m | m | m | m | m | m | m | m | m | m | m | m | m | m | m | m | m | m | m | m | m | m | m | m | m | m | m | m | m | m | m
  · subst m; exact ⟨_, _, turn_0 x w d t l t7 t8 _ s⟩
  · subst m; exact ⟨_, _, turn_1 x w d t l t7 t8 _ s⟩
  · subst m; exact ⟨_, _, turn_2 x w d t l t7 t8 _ s⟩
  · subst m; exact ⟨_, _, turn_3 x w d t l t7 t8 _ s⟩
  · subst m; exact ⟨_, _, turn_4 x w d t l t7 t8 _ s⟩
  · subst m; exact ⟨_, _, turn_5 x w d t l t7 t8 _ s⟩
  · subst m; exact ⟨_, _, turn_6 x w d t l t7 t8 _ s⟩
  · subst m; exact ⟨_, _, turn_7 x w d t l t7 t8 _ s⟩
  · subst m; exact ⟨_, _, turn_8 x w d t l t7 t8 _ s⟩
  · subst m; exact ⟨_, _, turn_9 x w d t l t7 t8 _ s⟩
  · subst m; exact ⟨_, _, turn_10 x w d t l t7 t8 _ s⟩
  · subst m; exact ⟨_, _, turn_11 x w d t l t7 t8 _ s⟩
  · subst m; exact ⟨_, _, turn_12 x w d t l t7 t8 _ s⟩
  · subst m; exact ⟨_, _, turn_13 x w d t l t7 t8 _ s⟩
  · subst m; exact ⟨_, _, turn_14 x w d t l t7 t8 _ s⟩
  · subst m; exact ⟨_, _, turn_15 x w d t l t7 t8 _ s⟩
  · subst m; exact ⟨_, _, turn_16 x w d t l t7 t8 _ s⟩
  · subst m; exact ⟨_, _, turn_17 x w d t l t7 t8 _ s⟩
  · subst m; exact ⟨_, _, turn_18 x w d t l t7 t8 _ s⟩
  · subst m; exact ⟨_, _, turn_19 x w d t l t7 t8 _ s⟩
  · subst m; exact ⟨_, _, turn_20 x w d t l t7 t8 _ s⟩
  · subst m; exact ⟨_, _, turn_21 x w d t l t7 t8 _ s⟩
  · subst m; exact ⟨_, _, turn_22 x w d t l t7 t8 _ s⟩
  · subst m; exact ⟨_, _, turn_23 x w d t l t7 t8 _ s⟩
  · subst m; exact ⟨_, _, turn_24 x w d t l t7 t8 _ s⟩
  · subst m; exact ⟨_, _, turn_25 x w d t l t7 t8 _ s⟩
  · subst m; exact ⟨_, _, turn_26 x w d t l t7 t8 _ s⟩
  · subst m; exact ⟨_, _, turn_27 x w d t l t7 t8 _ s⟩
  · subst m; exact ⟨_, _, turn_28 x w d t l t7 t8 _ s⟩
  · subst m; exact ⟨_, _, turn_29 x w d t l t7 t8 _ s⟩
  · subst m; exact ⟨_, _, turn_30 x w d t l t7 t8 _ s⟩
  · subst m; exact ⟨_, _, turn_31 x w d t l t7 t8 _ s⟩
  · subst m; exact ⟨_, _, turn_32 x w d t l t7 t8 _ s⟩
  · subst m; exact ⟨_, _, turn_33 x w d t l t7 t8 _ s⟩
  · subst m; exact ⟨_, _, turn_34 x w d t l t7 t8 _ s⟩
theorem reprs_0 (x w l : Rc.D) (t7 t8 : Rc.Slot) (s : Rc.S) : Rc.exec klas.pr (sm 6) 1000 (nth 4 ir_law.body) ⟨[.fz x, .fz .drw, .fz w, .fz (.non), .fz (.lst (thr (.non))), .fz l, .none, t7, t8, .none, .none], s⟩ = .nx ⟨[.fz x, .fz .drw, .fz w, .fz (.non), .fz (.lst (thr (.non))), .fz l, .none, t7, t8, .none, .none], s⟩ := by kernel_rfl
theorem reprs_1 (x w l : Rc.D) (t7 t8 : Rc.Slot) (s : Rc.S) : Rc.exec klas.pr (sm 6) 1000 (nth 4 ir_law.body) ⟨[.fz x, .fz .drw, .fz w, .fz (.bl false), .fz (.lst (thr (.bl false))), .fz l, .none, t7, t8, .none, .none], s⟩ = .nx ⟨[.fz x, .fz .drw, .fz w, .fz (.bl false), .fz (.lst (thr (.bl false))), .fz l, .none, t7, t8, .none, .none], s⟩ := by kernel_rfl
theorem reprs_2 (x w l : Rc.D) (t7 t8 : Rc.Slot) (s : Rc.S) : Rc.exec klas.pr (sm 6) 1000 (nth 4 ir_law.body) ⟨[.fz x, .fz .drw, .fz w, .fz (.int (-5)), .fz (.lst (thr (.int (-5)))), .fz l, .none, t7, t8, .none, .none], s⟩ = .nx ⟨[.fz x, .fz .drw, .fz w, .fz (.int (-5)), .fz (.lst (thr (.int (-5)))), .fz l, .none, t7, t8, .none, .none], s⟩ := by kernel_rfl
theorem reprs_3 (x w l : Rc.D) (t7 t8 : Rc.Slot) (s : Rc.S) : Rc.exec klas.pr (sm 6) 1000 (nth 4 ir_law.body) ⟨[.fz x, .fz .drw, .fz w, .fz (.int (10 ^ 45)), .fz (.lst (thr (.int (10 ^ 45)))), .fz l, .none, t7, t8, .none, .none], s⟩ = .nx ⟨[.fz x, .fz .drw, .fz w, .fz (.int (10 ^ 45)), .fz (.lst (thr (.int (10 ^ 45)))), .fz l, .none, t7, t8, .none, .none], s⟩ := by kernel_rfl
theorem reprs_4 (x w l : Rc.D) (t7 t8 : Rc.Slot) (s : Rc.S) : Rc.exec klas.pr (sm 6) 1000 (nth 4 ir_law.body) ⟨[.fz x, .fz .drw, .fz w, .fz (.str ""), .fz (.lst (thr (.str ""))), .fz l, .none, t7, t8, .none, .none], s⟩ = .nx ⟨[.fz x, .fz .drw, .fz w, .fz (.str ""), .fz (.lst (thr (.str ""))), .fz l, .none, t7, t8, .none, .none], s⟩ := by kernel_rfl
theorem reprs_5 (x w l : Rc.D) (t7 t8 : Rc.Slot) (s : Rc.S) : Rc.exec klas.pr (sm 6) 1000 (nth 4 ir_law.body) ⟨[.fz x, .fz .drw, .fz w, .fz (.str "wide"), .fz (.lst (thr (.str "wide"))), .fz l, .none, t7, t8, .none, .none], s⟩ = .nx ⟨[.fz x, .fz .drw, .fz w, .fz (.str "wide"), .fz (.lst (thr (.str "wide"))), .fz l, .none, t7, t8, .none, .none], s⟩ := by kernel_rfl
theorem reprs_6 (x w l : Rc.D) (t7 t8 : Rc.Slot) (s : Rc.S) : Rc.exec klas.pr (sm 6) 1000 (nth 4 ir_law.body) ⟨[.fz x, .fz .drw, .fz w, .fz (.str "two words"), .fz (.lst (thr (.str "two words"))), .fz l, .none, t7, t8, .none, .none], s⟩ = .nx ⟨[.fz x, .fz .drw, .fz w, .fz (.str "two words"), .fz (.lst (thr (.str "two words"))), .fz l, .none, t7, t8, .none, .none], s⟩ := by kernel_rfl
theorem reprs_7 (x w l : Rc.D) (t7 t8 : Rc.Slot) (s : Rc.S) : Rc.exec klas.pr (sm 6) 1000 (nth 4 ir_law.body) ⟨[.fz x, .fz .drw, .fz w, .fz (.lst []), .fz (.lst (thr (.lst []))), .fz l, .none, t7, t8, .none, .none], s⟩ = .nx ⟨[.fz x, .fz .drw, .fz w, .fz (.lst []), .fz (.lst (thr (.lst []))), .fz l, .none, t7, t8, .none, .none], s⟩ := by kernel_rfl
theorem reprs_8 (x w l : Rc.D) (t7 t8 : Rc.Slot) (s : Rc.S) : Rc.exec klas.pr (sm 6) 1000 (nth 4 ir_law.body) ⟨[.fz x, .fz .drw, .fz w, .fz (.lst [.tup [.int 0, .int 2]]), .fz (.lst (thr (.lst [.tup [.int 0, .int 2]]))), .fz l, .none, t7, t8, .none, .none], s⟩ = .nx ⟨[.fz x, .fz .drw, .fz w, .fz (.lst [.tup [.int 0, .int 2]]), .fz (.lst (thr (.lst [.tup [.int 0, .int 2]]))), .fz l, .none, t7, t8, .none, .none], s⟩ := by kernel_rfl
theorem reprs_9 (x w l : Rc.D) (t7 t8 : Rc.Slot) (s : Rc.S) : Rc.exec klas.pr (sm 6) 1000 (nth 4 ir_law.body) ⟨[.fz x, .fz .drw, .fz w, .fz (.tup []), .fz (.lst (thr (.tup []))), .fz l, .none, t7, t8, .none, .none], s⟩ = .nx ⟨[.fz x, .fz .drw, .fz w, .fz (.tup []), .fz (.lst (thr (.tup []))), .fz l, .none, t7, t8, .none, .none], s⟩ := by kernel_rfl
theorem reprs_10 (x w l : Rc.D) (t7 t8 : Rc.Slot) (s : Rc.S) : Rc.exec klas.pr (sm 6) 1000 (nth 4 ir_law.body) ⟨[.fz x, .fz .drw, .fz w, .fz (.tup [.int 4]), .fz (.lst (thr (.tup [.int 4]))), .fz l, .none, t7, t8, .none, .none], s⟩ = .nx ⟨[.fz x, .fz .drw, .fz w, .fz (.tup [.int 4]), .fz (.lst (thr (.tup [.int 4]))), .fz l, .none, t7, t8, .none, .none], s⟩ := by kernel_rfl
theorem reprs_11 (x w l : Rc.D) (t7 t8 : Rc.Slot) (s : Rc.S) : Rc.exec klas.pr (sm 6) 1000 (nth 4 ir_law.body) ⟨[.fz x, .fz .drw, .fz w, .fz (.dct []), .fz (.lst (thr (.dct []))), .fz l, .none, t7, t8, .none, .none], s⟩ = .nx ⟨[.fz x, .fz .drw, .fz w, .fz (.dct []), .fz (.lst (thr (.dct []))), .fz l, .none, t7, t8, .none, .none], s⟩ := by kernel_rfl
theorem reprs_12 (x w l : Rc.D) (t7 t8 : Rc.Slot) (s : Rc.S) : Rc.exec klas.pr (sm 6) 1000 (nth 4 ir_law.body) ⟨[.fz x, .fz .drw, .fz w, .fz (.dct [(.str "a", .tup [.int 1])]), .fz (.lst (thr (.dct [(.str "a", .tup [.int 1])]))), .fz l, .none, t7, t8, .none, .none], s⟩ = .nx ⟨[.fz x, .fz .drw, .fz w, .fz (.dct [(.str "a", .tup [.int 1])]), .fz (.lst (thr (.dct [(.str "a", .tup [.int 1])]))), .fz l, .none, t7, t8, .none, .none], s⟩ := by kernel_rfl
theorem reprs_13 (x w l : Rc.D) (t7 t8 : Rc.Slot) (s : Rc.S) : Rc.exec klas.pr (sm 6) 1000 (nth 4 ir_law.body) ⟨[.fz x, .fz .drw, .fz w, .fz (.lst [.lst [.non]]), .fz (.lst (thr (.lst [.lst [.non]]))), .fz l, .none, t7, t8, .none, .none], s⟩ = .nx ⟨[.fz x, .fz .drw, .fz w, .fz (.lst [.lst [.non]]), .fz (.lst (thr (.lst [.lst [.non]]))), .fz l, .none, t7, t8, .none, .none], s⟩ := by kernel_rfl
theorem reprs (x w l : Rc.D) (t7 t8 : Rc.Slot) (s : Rc.S) (d : Rc.D) (m : d ∈ anyL) : Rc.exec klas.pr (sm 6) 1000 (nth 4 ir_law.body) ⟨[.fz x, .fz .drw, .fz w, .fz d, .fz (.lst (thr d)), .fz l, .none, t7, t8, .none, .none], s⟩ = .nx ⟨[.fz x, .fz .drw, .fz w, .fz d, .fz (.lst (thr d)), .fz l, .none, t7, t8, .none, .none], s⟩ := by
  unfold anyL at m
  simp only [List.mem_cons, List.mem_nil_iff, or_false] at m
  rcases m with m | m | m | m | m | m | m | m | m | m | m | m | m | m
  · subst m; exact reprs_0 x w l t7 t8 s
  · subst m; exact reprs_1 x w l t7 t8 s
  · subst m; exact reprs_2 x w l t7 t8 s
  · subst m; exact reprs_3 x w l t7 t8 s
  · subst m; exact reprs_4 x w l t7 t8 s
  · subst m; exact reprs_5 x w l t7 t8 s
  · subst m; exact reprs_6 x w l t7 t8 s
  · subst m; exact reprs_7 x w l t7 t8 s
  · subst m; exact reprs_8 x w l t7 t8 s
  · subst m; exact reprs_9 x w l t7 t8 s
  · subst m; exact reprs_10 x w l t7 t8 s
  · subst m; exact reprs_11 x w l t7 t8 s
  · subst m; exact reprs_12 x w l t7 t8 s
  · subst m; exact reprs_13 x w l t7 t8 s
theorem st_1 (x w d : Rc.D) (s : Rc.S) : Rc.exec klas.pr (sm 6) 1000 (nth 1 ir_law.body) ⟨[.fz x, .fz .drw, .fz w, .fz d, .none, .none, .none, .none, .none, .none, .none], s⟩ = .nx ⟨[.fz x, .fz .drw, .fz w, .fz d, .fz (.lst (thr d)), .none, .none, .none, .none, .none, .none], s⟩ := by kernel_rfl
theorem st_2 (x w d : Rc.D) (s : Rc.S) : Rc.exec klas.pr (sm 6) 1000 (nth 2 ir_law.body) ⟨[.fz x, .fz .drw, .fz w, .fz d, .fz (.lst (thr d)), .none, .none, .none, .none, .none, .none], s⟩ = .nx ⟨[.fz x, .fz .drw, .fz w, .fz d, .fz (.lst (thr d)), .ol (errsL d), .none, .none, .none, .none, .none], s⟩ := by kernel_rfl
theorem src_3 (x w d : Rc.D) (s : Rc.S) : Rc.evSrc klas.pr (sm 6) (.enum (.loc 5)) ⟨[.fz x, .fz .drw, .fz w, .fz d, .fz (.lst (thr d)), .ol (errsL d), .none, .none, .none, .none, .none], s⟩ = .ok (enumL d) ⟨[.fz x, .fz .drw, .fz w, .fz d, .fz (.lst (thr d)), .fz (.lst (errsL d)), .none, .none, .none, .none, .none], s⟩ := by kernel_rfl
theorem st_56 (x w d t l : Rc.D) (t7 t8 : Rc.Slot) (s : Rc.S) : Rc.execs klas.pr (sm 6) 1000 (.cons (nth 5 ir_law.body) (.cons (nth 6 ir_law.body) .nil)) ⟨[.fz x, .fz .drw, .fz w, .fz d, .fz t, .fz l, .none, t7, t8, .none, .none], s⟩ = .ret (.bl true) s := by kernel_rfl
theorem ways (x w : Rc.D) (s : Rc.S) (d : Rc.D) (m : d ∈ anyL) : Rc.execs klas.pr (sm 6) 1000 (tlC ir_law.body) ⟨[.fz x, .fz .drw, .fz w, .fz d, .none, .none, .none, .none, .none, .none, .none], s⟩ = .ret (.bl true) s := by
  show Rc.execs klas.pr (sm 6) 1000 (.cons (nth 1 ir_law.body) (.cons (nth 2 ir_law.body) (.cons (.for (.tp [7, 8]) (.enum (.loc 5)) bodyC) (.cons (nth 4 ir_law.body) (.cons (nth 5 ir_law.body) (.cons (nth 6 ir_law.body) .nil)))))) _ = _
  rw [Rc.execs, st_1, Rc.SRes.then_nx, Rc.execs, st_2, Rc.SRes.then_nx, Rc.execs, Rc.exec, src_3, Rc.Res.to_ok]
  obtain ⟨u7, u8, e⟩ := loop_all (f := fB) (E := fun t7 t8 => ⟨[.fz x, .fz .drw, .fz w, .fz d, .fz (.lst (thr d)), .fz (.lst (errsL d)), .none, t7, t8, .none, .none], s⟩) (enumL d) (turns x w d _ _ s) .none .none
  rw [e, Rc.SRes.then_nx, Rc.execs, reprs x w _ u7 u8 s d m, Rc.SRes.then_nx, st_56]
theorem plain (ns : List Int) (hl : ns.length ≤ 63) : ∃ s, Rc.execs klas.pr (Rc.run klas.pr 1000 fs 6) 1000 ir_law.body ⟨Rc.lawEnv 9 ns, Rc.begun ns⟩ = .ret (.bl true) s := by
  obtain ⟨w, s1, hw, e1⟩ := pick_k 3 [.str "", .str "w", .str "nothing of the kind"] (List.cons_ne_nil _ _) (by show 3 ≤ Rc.most; decide) (Rc.begun ns)
  obtain ⟨d, s2, hd, e2⟩ := any_k 2 s1
  refine ⟨s2, ?_⟩
  have h1 : Rc.exec klas.pr (sm 6) 1000 (.asg (.tp [2, 3]) (.tup (.cons (.call 2 (.cons (.loc 1) (.cons (.lst (.cons (.cst (.str "")) (.cons (.cst (.str "w")) (.cons (.cst (.str "nothing of the kind")) .nil)))) .nil))) (.cons (.call 3 (.cons (.loc 1) .nil)) .nil)))) ⟨Rc.lawEnv 9 ns, Rc.begun ns⟩ = .nx ⟨[.fz (.lst (ns.map .int)), .fz .drw, .fz w, .fz d, .none, .none, .none, .none, .none, .none, .none], s2⟩ := by
    simp [Rc.lawEnv, Rc.exec, Rc.ev, Rc.evs, Rc.load, Rc.Out.val, e1, e2, Rc.ofCall, Rc.store, Rc.setAll, Rc.optS, Rc.most, List.replicate]
  show Rc.execs klas.pr (sm 6) 1000 (.cons _ (tlC ir_law.body)) ⟨Rc.lawEnv 9 ns, Rc.begun ns⟩ = _
  rw [Rc.execs, h1, Rc.SRes.then_nx]
  exact ways _ _ _ d hd

end K0
open PySem PySem.W PySem.Calls PyProof.Rows
set_option maxRecDepth 100000 in
set_option maxHeartbeats 0 in
theorem PySem.Challenge.cw_ringcubes_k00_errors_of_all_parts_holds : PySem.Challenge.rw_ringcubes_k00_errors_of_all_parts.Holds := by
  w_on; o_law
  refine HandSHeadRun.head_any (r := (PySem.W.OpenLaw.row PySem.Challenge.rw_ringcubes_k00_errors_of_all_parts)) (q := view (PySem.W.OpenLaw.row PySem.Challenge.rw_ringcubes_k00_errors_of_all_parts).prog [46]) (H := K0.hd.hook) (ob := K0.hd.ob) (M := 40000) (loose := K0.loose) (d := HandSHeadRun.topDef (PySem.W.OpenLaw.row PySem.Challenge.rw_ringcubes_k00_errors_of_all_parts).prog 46) (kwd := []) (fun s => Rc.ob_eq K0.hd s)
    (by kernel_rfl) (fun s => by kernel_rfl) K0.ran (by kernel_rfl) (by kernel_rfl) (by kernel_rfl) (by rfl) (by first | assumption | decide +kernel) (by decide +kernel) ⟨rfl, rfl, rfl, rfl, rfl, by decide +kernel⟩ ?hw ?hc
  case hw => w_witness2
  case hc =>
    refine Rc.walk_ofN (l := PySem.Challenge.rw_ringcubes_k00_errors_of_all_parts) (k := 3 * (6 + 1)) rfl (by kernel_rfl) ⟨rfl, by decide, by decide⟩ ?F
    intro w mg fa h Y G hmg0
    obtain ⟨K, KX, c⟩ := Y
    have hmg : mg ("law" : PySem.Str) = some (.ref fa) := by
      have e : (HandSHeadRun.topDef (PySem.W.OpenLaw.row PySem.Challenge.rw_ringcubes_k00_errors_of_all_parts).prog 46).name = ("law" : PySem.Str) := by kernel_rfl
      rw [← e]
      exact hmg0
    obtain ⟨fd, hb, hF⟩ := K0.facts K0.plain (w := w) KX G hmg c
    exact ⟨K, fd, KX, c.bs0.1, hb, hF⟩
end Z_law
