import PyProof.Rows.All
import HandS.ForSpec
import HandS.Wide
import HandS.Walk
import HandS.IsInst
import HandS.Conv
import HandS.TupAny
import HandS.SortInts
import HandS.Style
import HandS.Zip
import HandS.TupMul
import HandS.Head0
import HandS.Head1
import HandS.Head2
import HandS.HeadEnd
import HandS.HeadHook1
import HandS.HeadHook2
import HandS.HeadHook4
import HandS.Defaults
import KE.KStateDown
import PySem.Challenge.RW_tiedanew_k25_whole_judged_rings
set_option Elab.async false
set_option linter.all false
set_option maxRecDepth 100000
namespace Py
open PySem PySem.Spec
open PyProof.Rows L2

/-- pure data -/
inductive D where
  | non | bl (b : Bool) | int (i : Int) | str (x : Str)
  | tup (xs : List D) | lst (xs : List D) | dct (kvs : List (Key × D))
  | ins (c : Nat) (vs : List D) | fn (f : Nat) | scr (ns : List Int)
  deriving Inhabited
inductive OwnK where
  | loc | io | lck
  deriving DecidableEq, Inhabited
inductive Slot where
  | no | val (d : D) | own (k : OwnK) (d : D)
  deriving Inhabited
abbrev Env := List Slot
inductive T where
  | val (d : D) | own (d : D) | slot (i : Nat)
structure Exn where
  c : Nat
  a : Option D
inductive R (α : Type) where
  | ok (a : α) (ρ : Env) | exc (x : Exn) (ρ : Env) | bad
@[inline] def R.bind {α β : Type} : R α → (α → Env → R β) → R β
  | .ok a ρ, f => f a ρ
  | .exc x ρ, _ => .exc x ρ
  | .bad, _ => .bad
@[inline] def R.opt {α : Type} (o : Option α) (ρ : Env) : R α := match o with
  | some a => .ok a ρ
  | none => .bad

mutual
def D.noLst : D → Bool
  | .lst _ => false
  | .dct _ => false
  | .tup xs => D.noLsts xs
  | .ins _ vs => D.noLsts vs
  | _ => true
termination_by structural e => e
def D.noLsts : List D → Bool
  | [] => true
  | x :: xs => D.noLst x && D.noLsts xs
termination_by structural e => e
end
/-- no list below the root -/
def D.kids : D → Bool
  | .lst xs => D.noLsts xs
  | .dct kvs => D.noLsts (kvs.map (·.2))
  | d => d.noLst

inductive Bi where
  | len | abs | max2 | min2 | int1 | str1 | list1 | tuple1 | sum1 | all1 | any1 | sorted1
  deriving DecidableEq
inductive Ty where
  | int | bool | str | tuple | list | dict
  deriving DecidableEq
inductive Mu where
  | append | pop0 | pop1 | extend
  deriving DecidableEq
inductive Tg where
  | nm (i : Nat) | tup (is : List Nat)

mutual
inductive IE where
  | var (i : Nat) | cst (d : D) | glo (x : Str) (d : D)
  | bin (o : Operator) (a b : IE) | neg (a : IE) | inv (a : IE) | not (a : IE)
  | and (xs : IEs) | or (xs : IEs)
  | cmp (o : CmpOp) (a b : IE) | chain (o o' : CmpOp) (a b c : IE)
  | isN (a : IE) | notN (a : IE) | isi (a : IE) (t : Ty)
  | ite (c a b : IE)
  | tup (xs : IEs) | lst (xs : IEs) | dct0
  | sub (a i : IE) | slc (a lo hi : IE) | absent | rev (a : IE)
  | call (f : Nat) (x : Str) (xs : IEs)
  | lrng (t : Bool) (xs : IEs)
  | bi (b : Bi) (xs : IEs)
  | mut (m : Mu) (i : Nat) (xs : IEs)
  | comp (elt : IE) (tg : Tg) (it : It) (conds : IEs) (own : List Nat)
inductive IEs where
  | nil | cons (a : IE) (r : IEs)
inductive It where
  | e (a : IE) | rng (xs : IEs) | enum (a : IE) | zip (a b : IE)
end
mutual
inductive IS where
  | asg (i : Nat) (e : IE) | unp (is : List Nat) (e : IE) | par (i j : Nat) (a b : IE)
  | setIx (i : Nat) (ix e : IE) | aug (i : Nat) (o : Operator) (e : IE)
  | exp (e : IE) | ret (e : IE) | retN
  | iff (c : IE) (a b : ISs) | for (tg : Tg) (it : It) (body : ISs) | while (c : IE) (body : ISs)
  | pass | brk | cont | never
inductive ISs where
  | nil | cons (a : IS) (r : ISs)
end
structure FnDef where
  np : Nat
  ns : Nat
  io : List Bool
  body : ISs
inductive FR where
  | ok (o : Bool) (d : D) (outs : List D) | exc (x : Exn) (outs : List D) | bad

/-! ### operations on data -/
def mulOk (i j : Int) : Bool := decide (i.natAbs.log2 + j.natAbs.log2 ≤ 900000)
def toInt : D → Option Int
  | .int i => some i
  | _ => none
def binD : Operator → D → D → Option T
  | .Add, .int i, .int j => some (.val (.int (i + j)))
  | .Add, .str x, .str y => if x.length + y.length ≤ 1000000 then some (.val (.str (x ++ y))) else none
  | .Add, .tup xs, .tup ys => if xs.length + ys.length ≤ 1000000 then some (.val (.tup (xs ++ ys))) else none
  | .Add, .lst xs, .lst ys => if xs.length + ys.length ≤ 1000000 then some (.own (.lst (xs ++ ys))) else none
  | .Sub, .int i, .int j => some (.val (.int (i - j)))
  | .Mult, .int i, .int j => if mulOk i j then some (.val (.int (i * j))) else none
  | .Mult, .lst xs, .int j => if 0 ≤ j ∧ j ≤ 1000000 ∧ xs.length * j.toNat ≤ 1000000 then some (.own (.lst ((List.replicate j.toNat xs).flatten))) else none
  | .FloorDiv, .int i, .int j => if 0 < j ∧ j.natAbs.log2 < 9000 then some (.val (.int (i / j))) else none
  | .Mod, .int i, .int j => if 0 < j then some (.val (.int (i % j))) else none
  | .Pow, .int i, .int j => if 0 ≤ j ∧ j ≤ 1000 ∧ i.natAbs < 2 ^ 1000 then some (.val (.int (i ^ j.toNat))) else none
  | .LShift, .int i, .int j => if 0 ≤ j ∧ j ≤ 1000000 ∧ i.natAbs < 2 ^ 64 then some (.val (.int (i * 2 ^ j.toNat))) else none
  | .RShift, .int i, .int j => if 0 ≤ j then some (.val (.int (i / 2 ^ j.toNat))) else none
  | .BitAnd, .int i, .int j => some (.val (.int (Builtin.bitAnd i j)))
  | .BitOr, .int i, .int j => some (.val (.int (Builtin.bitOr i j)))
  | .BitXor, .int i, .int j => some (.val (.int (Builtin.bitXor i j)))
  | _, _, _ => none
mutual
def toPD : D → Option PyData
  | .non => some .none
  | .bl b => some (.bool b)
  | .int i => some (.int i)
  | .str x => if PyData.strOk x then some (.str x) else none
  | .tup xs => match toPDs xs with
    | some ys => some (.tuple ys)
    | none => none
  | .lst xs => match toPDs xs with
    | some ys => some (.list ys)
    | none => none
  | _ => none
termination_by structural e => e
def toPDs : List D → Option (List PyData)
  | [] => some []
  | x :: xs => match toPD x, toPDs xs with
    | some y, some ys => some (y :: ys)
    | _, _ => none
termination_by structural e => e
end
end Py

set_option Elab.async false
set_option linter.all false
set_option maxRecDepth 100000
namespace Py
open PySem PySem.Spec
open PyProof.Rows L2

def eqD (a b : D) : Option Bool := match toPD a, toPD b with
  | some x, some y => if SeqAt.shaped x && SeqAt.shaped y then some (PyData.eqv x y) else none
  | _, _ => none
/-- flat values: neither list nor tuple -/
def flat1 : D → Bool
  | .non => true | .bl _ => true | .int _ => true | .str _ => true
  | _ => false
def flatEq : D → D → Bool
  | .non, .non => true
  | .bl a, .bl b => a == b
  | .bl a, .int j => (if a then 1 else 0) == j
  | .int i, .bl b => i == (if b then 1 else 0)
  | .int i, .int j => i == j
  | .str x, .str y => decide (x = y)
  | _, _ => false
def cmpD : CmpOp → D → D → Option Bool
  | .Lt, .int i, .int j => some (decide (i < j))
  | .LtE, .int i, .int j => some (decide (i ≤ j))
  | .Gt, .int i, .int j => some (decide (j < i))
  | .GtE, .int i, .int j => some (decide (j ≤ i))
  | .Eq, a, b => eqD a b
  | .NotEq, a, b => (eqD a b).map (!·)
  | .In, a, .tup xs => if flat1 a && xs.all flat1 then some (xs.any fun y => flatEq y a) else none
  | .In, a, .lst xs => if flat1 a && xs.all flat1 then some (xs.any fun y => flatEq y a) else none
  | .NotIn, a, .tup xs => if flat1 a && xs.all flat1 then some (!xs.any fun y => flatEq y a) else none
  | .NotIn, a, .lst xs => if flat1 a && xs.all flat1 then some (!xs.any fun y => flatEq y a) else none
  | _, _, _ => none
def tyIs : Ty → D → Option Bool
  | _, .ins _ _ => none
  | _, .fn _ => none
  | _, .scr _ => none
  | .int, .int _ => some true
  | .int, .bl _ => some true
  | .bool, .bl _ => some true
  | .str, .str _ => some true
  | .tuple, .tup _ => some true
  | .list, .lst _ => some true
  | .dict, .dct _ => some true
  | _, _ => some false
def subD : D → D → Option D
  | .scr ns, .int i => (atI ns i).map .int
  | .lst xs, .int i => atI xs i
  | .tup xs, .int i => atI xs i
  | .str x, .int i => if x.length ≤ 1000000 then (atI x.cps.toList i).map fun c => .str ⟨#[c]⟩ else none
  | _, _ => none
def cutD (xs : List D) (lo hi : Option Int) : List D := (xs.drop (HT.sIx xs.length 0 lo)).take (HT.sIx xs.length xs.length hi - HT.sIx xs.length 0 lo)
def slcD : D → Option Int → Option Int → Option T
  | .lst xs, lo, hi => some (.own (.lst (cutD xs lo hi)))
  | .tup xs, lo, hi => some (.val (.tup (cutD xs lo hi)))
  | _, _, _ => none
def revD : D → Option T
  | .lst xs => some (.own (.lst xs.reverse))
  | .tup xs => some (.val (.tup xs.reverse))
  | _ => none
def bitLen (n : Nat) : Nat := if n = 0 then 0 else n.log2 + 1
def seqOf : D → Option (List D)
  | .lst xs => some xs
  | .tup xs => some xs
  | _ => none
def intsOf : List D → Option (List Int)
  | [] => some []
  | .int i :: r => (intsOf r).map (i :: ·)
  | _ :: _ => none
def blsOf : List D → Option (List Bool)
  | [] => some []
  | .bl b :: r => (blsOf r).map (b :: ·)
  | _ :: _ => none
def insI (x : Int) : List Int → List Int
  | [] => [x]
  | y :: r => if x ≤ y then x :: y :: r else y :: insI x r
def sortI : List Int → List Int
  | [] => []
  | x :: r => insI x (sortI r)
def lenD : D → Option T
  | .scr xs => some (.val (.int xs.length))
  | .lst xs => some (.val (.int xs.length))
  | .tup xs => some (.val (.int xs.length))
  | .str x => if x.length ≤ 1000000 then some (.val (.int x.length)) else none
  | _ => none
def absD : D → Option T
  | .int i => some (.val (.int (if i < 0 then -i else i)))
  | _ => none
def max2D : D → D → Option T
  | .int i, .int j => some (.val (.int (if j > i then j else i)))
  | _, _ => none
def min2D : D → D → Option T
  | .int i, .int j => some (.val (.int (if j < i then j else i)))
  | _, _ => none
def int1D : D → Option T
  | .int i => some (.val (.int i))
  | .bl b => some (.val (.int (if b then 1 else 0)))
  | _ => none
def str1D : D → Option T
  | .int i => if i.natAbs.log2 < 1920 then some (.val (.str (toString i))) else none
  | _ => none
def list1D : D → Option T
  | .lst xs => some (.own (.lst xs))
  | .tup xs => some (.own (.lst xs))
  | _ => none
def tuple1D : D → Option T
  | .lst xs => some (.val (.tup xs))
  | .tup xs => some (.val (.tup xs))
  | _ => none
def sum1D : D → Option T
  | .lst xs => (intsOf xs).map fun ns => .val (.int ns.sum)
  | _ => none
def all1D : D → Option T
  | .lst xs => (blsOf xs).map fun bs => .val (.bl (bs.all id))
  | _ => none
def any1D : D → Option T
  | .lst xs => (blsOf xs).map fun bs => .val (.bl (bs.any id))
  | _ => none
def sorted1D : D → Option T
  | .lst xs => (intsOf xs).map fun ns => .own (.lst ((sortI ns).map .int))
  | .tup xs => (intsOf xs).map fun ns => .own (.lst ((sortI ns).map .int))
  | _ => none
def un1 (f : D → Option T) : List D → Option T
  | [d] => f d
  | _ => none
def bi2 (f : D → D → Option T) : List D → Option T
  | [d, e] => f d e
  | _ => none
def biD : Bi → List D → Option T
  | .len => un1 lenD
  | .abs => un1 absD
  | .max2 => bi2 max2D
  | .min2 => bi2 min2D
  | .int1 => un1 int1D
  | .str1 => un1 str1D
  | .list1 => un1 list1D
  | .tuple1 => un1 tuple1D
  | .sum1 => un1 sum1D
  | .all1 => un1 all1D
  | .any1 => un1 any1D
  | .sorted1 => un1 sorted1D
/-- a list changed: what comes back, the new content -/
def muD : Mu → D → List D → Option (D × D)
  | .append, .lst xs, [d] => if xs.length < 1000000 then some (.non, .lst (xs ++ [d])) else none
  | .pop0, .lst xs, [] => (xs[xs.length - 1]?).map fun d => (d, .lst xs.dropLast)
  | .pop1, .lst xs, [.int i] => match seqIndex? i xs.length with
    | some k => if -(2 ^ 63) ≤ i ∧ i < 2 ^ 63 then (xs[k]?).map fun d => (d, .lst (xs.eraseIdx k)) else none
    | none => none
  | .extend, .lst xs, [.lst ys] => if xs.length + ys.length ≤ 1000000 then some (.non, .lst (xs ++ ys)) else none
  | _, _, _ => none
def rangeD (lo hi : Int) : List D := (List.range (hi - lo).toNat).map fun (i : Nat) => .int (lo + (i : Int))
def rngD : List D → Option (List D)
  | [.int j] => if j < 2 ^ 62 ∧ -(2 ^ 62) ≤ j then some (rangeD 0 j) else none
  | [.int i, .int j] => if i < 2 ^ 62 ∧ -(2 ^ 62) ≤ i ∧ j < 2 ^ 62 ∧ -(2 ^ 62) ≤ j then some (rangeD i j) else none
  | _ => none
def mkSeq (t : Bool) (xs : List D) : T := if t then .val (.tup xs) else .own (.lst xs)
def lrngD (t : Bool) : List D → Option T
  | [.int j] => if j ≤ 16777216 ∧ -(2 ^ 62) ≤ j then some (mkSeq t (rangeD 0 j)) else none
  | [.int i, .int j] => if i < 2 ^ 62 ∧ -(2 ^ 62) ≤ i ∧ j < 2 ^ 62 ∧ -(2 ^ 62) ≤ j ∧ (j - i).toNat ≤ 16777216 then some (mkSeq t (rangeD i j)) else none
  | _ => none
def enumD (xs : List D) : List D := (List.range xs.length).zipWith (fun (i : Nat) x => .tup [.int (i : Int), x]) xs
def zipD (xs ys : List D) : List D := xs.zipWith (fun x y => .tup [x, y]) ys

/-! ### temps -/
def T.weak : T → T
  | .own d => .val d
  | t => t
def T.b (ρ : Env) : T → Option D
  | .val d => some d
  | .own d => some d
  | .slot i => match ρ[i]? with
    | some (.own _ d) => some d
    | some (.val d) => some d
    | _ => none
def T.fz (ρ : Env) : T → Option (D × Env)
  | .val d => some (d, ρ)
  | .own d => some (d, ρ)
  | .slot i => match ρ[i]? with
    | some (.own .loc d) => some (d, ρ.set i (.val d))
    | some (.val d) => some (d, ρ)
    | _ => none
def T.bs (ρ : Env) : List T → Option (List D)
  | [] => some []
  | t :: r => match t.b ρ, T.bs ρ r with
    | some d, some ds => some (d :: ds)
    | _, _ => none
def isOwn : Slot → Bool
  | .own _ _ => true
  | _ => false
/-- a slot that a name may be stored to -/
def free (ρ : Env) (i : Nat) : Bool := match ρ[i]? with
  | some .no => true
  | some (.val _) => true
  | some (.own .loc _) => true
  | _ => false
def bindTg : Tg → D → Env → Option Env
  | .nm i, d, ρ => if free ρ i then some (ρ.set i (.val d)) else none
  | .tup is, .tup ds, ρ => if is.length = ds.length then go is ds ρ else none
  | _, _, _ => none
where go : List Nat → List D → Env → Option Env
  | i :: is, d :: ds, ρ => if free ρ i then go is ds (ρ.set i (.val d)) else none
  | _, _, ρ => some ρ
/-! ### calls -/
/-- the callee's in/out arguments are slots that are owned and may be changed; what is handed in -/
def argsIn (ρ : Env) : List Bool → List T → Option (List D)
  | [], [] => some []
  | true :: io, .slot i :: ts => match ρ[i]? with
    | some (.own k d) => if k = .lck then none else (argsIn ρ io ts).map (d :: ·)
    | _ => none
  | false :: io, t :: ts => match t.b ρ, argsIn ρ io ts with
    | some d, some ds => some (d :: ds)
    | _, _ => none
  | _, _ => none
def ioSlots : List Bool → List T → List Nat
  | true :: io, .slot i :: ts => i :: ioSlots io ts
  | _ :: io, _ :: ts => ioSlots io ts
  | _, _ => []
def lent (ρ : Env) : List Bool → List T → List Nat
  | false :: io, .slot i :: ts => (match ρ[i]? with
    | some (.own _ _) => [i]
    | _ => []) ++ lent ρ io ts
  | _ :: io, _ :: ts => lent ρ io ts
  | _, _ => []
def putOuts : List Nat → List D → Env → Option Env
  | [], [], ρ => some ρ
  | i :: is, d :: ds, ρ => match ρ[i]? with
    | some (.own k _) => putOuts is ds (ρ.set i (.own k d))
    | _ => none
  | _, _, _ => none
def callR (io : List Bool) (Φ : List D → FR) (ts : List T) (ρ : Env) : R T :=
  match argsIn ρ io ts with
  | none => .bad
  | some ds =>
    if (ioSlots io ts).Nodup ∧ (∀ i ∈ ioSlots io ts, i ∉ lent ρ io ts) then
      match Φ ds with
      | .ok o d outs => if (lent ρ io ts = [] ∨ ((if o then d.kids else d.noLst) && outs.all D.kids) = true) then
          (match putOuts (ioSlots io ts) outs ρ with
          | some ρ' => .ok (if o then .own d else .val d) ρ'
          | none => .bad) else .bad
      | .exc x outs => if (lent ρ io ts = [] ∨ outs.all D.kids = true) then
          (match putOuts (ioSlots io ts) outs ρ with
          | some ρ' => .exc x ρ'
          | none => .bad) else .bad
      | .bad => .bad
    else .bad
def lock (ρ : Env) : T → Option (List D × Env × Option (Nat × OwnK))
  | .val d => (seqOf d).map fun xs => (xs, ρ, none)
  | .own d => (seqOf d).map fun xs => (xs, ρ, none)
  | .slot i => match ρ[i]? with
    | some (.own k d) => (seqOf d).map fun xs => (xs, ρ.set i (.own .lck d), some (i, k))
    | some (.val d) => (seqOf d).map fun xs => (xs, ρ, none)
    | _ => none
def unlock (ρ : Env) : Option (Nat × OwnK) → Env
  | none => ρ
  | some (i, k) => match ρ[i]? with
    | some (.own _ d) => ρ.set i (.own k d)
    | _ => ρ
def wipeE (ρ : Env) : List Nat → Env
  | [] => ρ
  | i :: is => (wipeE ρ is).set i .no
def backE (ρ ρ0 : Env) : List Nat → Env
  | [] => ρ
  | i :: is => (backE ρ ρ0 is).set i (ρ0.getD i .no)
def notOwn (ρ : Env) (i : Nat) : Bool := match ρ[i]? with
  | some (.own _ _) => false
  | _ => true
/-- the turns of a comprehension -/
def compLoop (own : List Nat) (tg : Tg) (c : Env → R Bool) (e : Env → R T) : List D → List D → Env → R (List D)
  | [], acc, ρ => .ok acc ρ
  | x :: xs, acc, ρ =>
    match bindTg tg x ρ with
    | none => .bad
    | some ρ1 => match c ρ1 with
      | .ok false ρ2 => compLoop own tg c e xs acc (wipeE ρ2 own)
      | .ok true ρ2 => (match e ρ2 with
        | .ok t ρ3 => (match t.fz ρ3 with
          | some (d, ρ4) => if acc.length < 1000000 then compLoop own tg c e xs (acc ++ [d]) (wipeE ρ4 own) else .bad
          | none => .bad)
        | _ => .bad)
      | _ => .bad
def asBl : T → Option Bool
  | .val (.bl b) => some b
  | _ => none
def optI : T → Option (Option Int)
  | .val (.int i) => some (some i)
  | _ => none
/-- an optional bound of a slice -/
def optE (abs : Bool) (r : Env → R T) (ρ : Env) : R (Option Int) := if abs then .ok none ρ else (r ρ).bind fun x ρ1 => R.opt (optI x) ρ1
def isNonD : D → Bool
  | .non => true
  | _ => false
def isAbs : IE → Bool
  | .absent => true
  | _ => false
section
variable (io : Nat → List Bool) (Φ : Nat → List D → FR)
mutual
def ev : IE → Env → R T
  | .var i, ρ => match ρ[i]? with
    | some (.val d) => .ok (.val d) ρ
    | some (.own _ _) => .ok (.slot i) ρ
    | _ => .bad
  | .cst d, ρ => .ok (.val d) ρ
  | .glo _ d, ρ => .ok (.val d) ρ
  | .bin o a b, ρ => (ev a ρ).bind fun x ρ1 => (ev b ρ1).bind fun y ρ2 =>
    match x.b ρ2, y.b ρ2 with
    | some d, some e => R.opt (binD o d e) ρ2
    | _, _ => .bad
  | .neg a, ρ => (ev a ρ).bind fun x ρ1 => match x with
    | .val (.int i) => .ok (.val (.int (-i))) ρ1
    | _ => .bad
  | .inv a, ρ => (ev a ρ).bind fun x ρ1 => match x with
    | .val (.int i) => .ok (.val (.int (Builtin.bitNot i))) ρ1
    | _ => .bad
  | .not a, ρ => (ev a ρ).bind fun x ρ1 => match x with
    | .val (.bl b) => .ok (.val (.bl (!b))) ρ1
    | _ => .bad
  | .and xs, ρ => evAnd xs ρ
  | .or xs, ρ => evOr xs ρ
  | .cmp o a b, ρ => (ev a ρ).bind fun x ρ1 => (ev b ρ1).bind fun y ρ2 =>
    match x.b ρ2, y.b ρ2 with
    | some d, some e => R.opt ((cmpD o d e).map fun b => .val (.bl b)) ρ2
    | _, _ => .bad
  | .chain o o' a b c, ρ => (ev a ρ).bind fun x ρ1 => (ev b ρ1).bind fun y ρ2 =>
    match x, y with
    | .val d, .val e => (match cmpD o d e with
      | some false => .ok (.val (.bl false)) ρ2
      | some true => (ev c ρ2).bind fun z ρ3 => (match z with
        | .val f => R.opt ((cmpD o' e f).map fun b => .val (.bl b)) ρ3
        | _ => .bad)
      | none => .bad)
    | _, _ => .bad
  | .isN a, ρ => (ev a ρ).bind fun x ρ1 => match x with
    | .val d => .ok (.val (.bl (isNonD d))) ρ1
    | _ => .bad
  | .notN a, ρ => (ev a ρ).bind fun x ρ1 => match x with
    | .val d => .ok (.val (.bl (!isNonD d))) ρ1
    | _ => .bad
  | .isi a t, ρ => (ev a ρ).bind fun x ρ1 => match x.b ρ1 with
    | some d => R.opt ((tyIs t d).map fun b => .val (.bl b)) ρ1
    | none => .bad
  | .ite c a b, ρ => (ev c ρ).bind fun x ρ1 => match asBl x with
    | some true => ev a ρ1
    | some false => ev b ρ1
    | none => .bad
  | .tup xs, ρ => (evF xs ρ).bind fun ds ρ1 => if ds.length ≤ 1000000 then .ok (.val (.tup ds)) ρ1 else .bad
  | .lst xs, ρ => (evF xs ρ).bind fun ds ρ1 => if ds.length ≤ 1000000 then .ok (.own (.lst ds)) ρ1 else .bad
  | .dct0, ρ => .ok (.own (.dct [])) ρ
  | .sub a i, ρ => (ev a ρ).bind fun x ρ1 => (ev i ρ1).bind fun y ρ2 =>
    match x.b ρ2, y with
    | some d, .val e => R.opt ((subD d e).map .val) ρ2
    | _, _ => .bad
  | .slc a lo hi, ρ => (ev a ρ).bind fun x ρ1 => (optE (isAbs lo) (ev lo) ρ1).bind fun l ρ2 => (optE (isAbs hi) (ev hi) ρ2).bind fun h ρ3 =>
    match x.b ρ3 with
    | some d => R.opt (slcD d l h) ρ3
    | none => .bad
  | .absent, _ => .bad
  | .rev a, ρ => (ev a ρ).bind fun x ρ1 => match x.b ρ1 with
    | some d => R.opt (revD d) ρ1
    | none => .bad
  | .call f _ xs, ρ => (evA xs ρ).bind fun ts ρ1 => callR (io f) (Φ f) ts ρ1
  | .lrng t xs, ρ => (evF xs ρ).bind fun ds ρ1 => R.opt (lrngD t ds) ρ1
  | .bi b xs, ρ => (evA xs ρ).bind fun ts ρ1 => match T.bs ρ1 ts with
    | some ds => R.opt (biD b ds) ρ1
    | none => .bad
  | .mut m i xs, ρ => (match ρ[i]? with
    | some (.own _ (.lst _)) => (evF xs ρ).bind fun ds ρ1 => (match ρ1[i]? with
      | some (.own k d) => if k = .lck then .bad else (match muD m d ds with
        | some (r, d') => .ok (.val r) (ρ1.set i (.own k d'))
        | none => .bad)
      | _ => .bad)
    | _ => .bad)
  | .comp elt tg it conds own, ρ => (evIt it ρ).bind fun p ρ1 =>
    if own.all (notOwn ρ1) then
      (match compLoop own tg (evC conds) (ev elt) p.1 [] (wipeE ρ1 own) with
      | .ok ds ρ2 => .ok (.own (.lst ds)) (unlock (backE ρ2 ρ1 own) p.2)
      | _ => .bad)
    else .bad
termination_by structural e => e
/-- items of a display: frozen at once -/
def evF : IEs → Env → R (List D)
  | .nil, ρ => .ok [] ρ
  | .cons a r, ρ => (ev a ρ).bind fun t ρ1 => match t.fz ρ1 with
    | some (d, ρ2) => (evF r ρ2).bind fun ds ρ3 => .ok (d :: ds) ρ3
    | none => .bad
termination_by structural e => e
/-- arguments: names of owned slots stay such -/
def evA : IEs → Env → R (List T)
  | .nil, ρ => .ok [] ρ
  | .cons a r, ρ => (ev a ρ).bind fun t ρ1 => (evA r ρ1).bind fun ts ρ2 => .ok (t.weak :: ts) ρ2
termination_by structural e => e
def evAnd : IEs → Env → R T
  | .nil, _ => .bad
  | .cons a .nil, ρ => ev a ρ
  | .cons a r, ρ => (ev a ρ).bind fun x ρ1 => match asBl x with
    | some true => evAnd r ρ1
    | some false => .ok (.val (.bl false)) ρ1
    | none => .bad
termination_by structural e => e
def evOr : IEs → Env → R T
  | .nil, _ => .bad
  | .cons a .nil, ρ => ev a ρ
  | .cons a r, ρ => (ev a ρ).bind fun x ρ1 => match asBl x with
    | some false => evOr r ρ1
    | some true => .ok (.val (.bl true)) ρ1
    | none => .bad
termination_by structural e => e
/-- all tests of a comprehension -/
def evC : IEs → Env → R Bool
  | .nil, ρ => .ok true ρ
  | .cons a r, ρ => (ev a ρ).bind fun x ρ1 => match asBl x with
    | some true => evC r ρ1
    | some false => .ok false ρ1
    | none => .bad
termination_by structural e => e
def evIt : It → Env → R (List D × Option (Nat × OwnK))
  | .e a, ρ => (ev a ρ).bind fun t ρ1 => match lock ρ1 t with
    | some (xs, ρ2, l) => .ok (xs, l) ρ2
    | none => .bad
  | .rng xs, ρ => (evF xs ρ).bind fun ds ρ1 => R.opt ((rngD ds).map fun xs => (xs, none)) ρ1
  | .enum a, ρ => (ev a ρ).bind fun t ρ1 => match lock ρ1 t with
    | some (xs, ρ2, l) => .ok (enumD xs, l) ρ2
    | none => .bad
  | .zip a b, ρ => (ev a ρ).bind fun t ρ1 => (ev b ρ1).bind fun u ρ2 => match t.fz ρ2 with
    | some (d, ρ3) => (match u.fz ρ3 with
      | some (e, ρ4) => (match seqOf d, seqOf e with
        | some xs, some ys => .ok (zipD xs ys, none) ρ4
        | _, _ => .bad)
      | none => .bad)
    | none => .bad
termination_by structural e => e
end
end
end Py

set_option Elab.async false
set_option linter.all false
set_option maxRecDepth 100000
namespace Py
open PySem PySem.Spec
open PyProof.Rows L2
/-- how a statement ends -/
inductive O where
  | nx (ρ : Env) | rt (o : Bool) (d : D) (ρ : Env) | bk (ρ : Env) | ct (ρ : Env) | exc (x : Exn) (ρ : Env) | bad
def R.thenO {α : Type} : R α → (α → Env → O) → O
  | .ok a ρ, f => f a ρ
  | .exc x ρ, _ => .exc x ρ
  | .bad, _ => .bad
/-- a value is stored to a name -/
def putT (ρ : Env) (i : Nat) : T → Option Env
  | .val d => if free ρ i then some (ρ.set i (.val d)) else none
  | .own d => if free ρ i then some (ρ.set i (.own .loc d)) else none
  | .slot j => match ρ[j]? with
    | some (.own .loc d) => if free ρ i then some ((ρ.set j (.val d)).set i (.val d)) else none
    | some (.val d) => if free ρ i then some (ρ.set i (.val d)) else none
    | _ => none
def setD : D → D → D → Option D
  | .lst xs, .int k, d => (ixN xs.length k).map fun j => .lst (xs.set j d)
  | _, _, _ => none
def setAt (ρ : Env) (i : Nat) (d : D) : T → O
  | .val k => (match ρ[i]? with
    | some (.own kd c) => if kd = .lck then .bad else (match setD c k d with
      | some c' => .nx (ρ.set i (.own kd c'))
      | none => .bad)
    | _ => .bad)
  | _ => .bad
def augAt (ρ : Env) (i : Nat) (o : Operator) (x : Int) : T → O
  | .val (.int y) => (match binD o (.int x) (.int y) with
    | some (.val d) => if free ρ i then .nx (ρ.set i (.val d)) else .bad
    | _ => .bad)
  | _ => .bad
def rtAt (ρ : Env) : T → O
  | .val d => .rt false d ρ
  | .own d => .rt true d ρ
  | .slot i => (match ρ[i]? with
    | some (.own .loc d) => .rt true d (ρ.set i .no)
    | some (.val d) => .rt false d ρ
    | _ => .bad)
def parAt (ρ : Env) (i j : Nat) : T → T → O
  | .slot _, _ => .bad
  | _, .slot _ => .bad
  | t, u => if i = j then .bad else (match putT ρ j u with
    | some ρ1 => (match putT ρ1 i t with
      | some ρ2 => .nx ρ2
      | none => .bad)
    | none => .bad)
def forLoop (tg : Tg) (b : Env → O) : List D → Env → O
  | [], ρ => .nx ρ
  | x :: xs, ρ => match bindTg tg x ρ with
    | none => .bad
    | some ρ1 => match b ρ1 with
      | .nx ρ2 => forLoop tg b xs ρ2
      | .ct ρ2 => forLoop tg b xs ρ2
      | .bk ρ2 => .nx ρ2
      | .rt o d ρ2 => .rt o d ρ2
      | .exc x ρ2 => .exc x ρ2
      | .bad => .bad
def whileLoop (c : Env → R T) (b : Env → O) : Nat → Env → O
  | 0, _ => .bad
  | n + 1, ρ => (c ρ).thenO fun t ρ1 => match asBl t with
    | some false => .nx ρ1
    | some true => (match b ρ1 with
      | .nx ρ2 => whileLoop c b n ρ2
      | .ct ρ2 => whileLoop c b n ρ2
      | .bk ρ2 => .nx ρ2
      | .rt o d ρ2 => .rt o d ρ2
      | .exc x ρ2 => .exc x ρ2
      | .bad => .bad)
    | none => .bad
def O.unlock (l : Option (Nat × OwnK)) : O → O
  | .nx ρ => .nx (Py.unlock ρ l)
  | .rt o d ρ => .rt o d (Py.unlock ρ l)
  | .exc x ρ => .exc x (Py.unlock ρ l)
  | _ => .bad
/-- while loops: at most so many turns -/
def most : Nat := 1000000
section
variable (io : Nat → List Bool) (Φ : Nat → List D → FR)
mutual
def ss : IS → Env → O
  | .asg i e, ρ => (ev io Φ e ρ).thenO fun t ρ1 => match putT ρ1 i t with
    | some ρ2 => .nx ρ2
    | none => .bad
  | .unp is e, ρ => (ev io Φ e ρ).thenO fun t ρ1 => match t.fz ρ1 with
    | some (.tup ds, ρ2) => (match bindTg (.tup is) (.tup ds) ρ2 with
      | some ρ3 => .nx ρ3
      | none => .bad)
    | _ => .bad
  | .par i j a b, ρ => (ev io Φ a ρ).thenO fun t ρ1 => (ev io Φ b ρ1).thenO fun u ρ2 => parAt ρ2 i j t u
  | .setIx i ix e, ρ => (ev io Φ e ρ).thenO fun t ρ1 => match t.fz ρ1 with
    | some (d, ρ2) => if (ρ2[i]?).any isOwn then (ev io Φ ix ρ2).thenO fun y ρ3 => setAt ρ3 i d y else .bad
    | none => .bad
  | .aug i o e, ρ => (match ρ[i]? with
    | some (.val (.int x)) => (ev io Φ e ρ).thenO fun t ρ1 => augAt ρ1 i o x t
    | _ => .bad)
  | .exp e, ρ => (ev io Φ e ρ).thenO fun _ ρ1 => .nx ρ1
  | .ret e, ρ => (ev io Φ e ρ).thenO fun t ρ1 => rtAt ρ1 t
  | .retN, ρ => .rt false .non ρ
  | .iff c a b, ρ => (ev io Φ c ρ).thenO fun t ρ1 => match asBl t with
    | some true => sss a ρ1
    | some false => sss b ρ1
    | none => .bad
  | .for tg it body, ρ => (evIt io Φ it ρ).thenO fun p ρ1 => (forLoop tg (sss body) p.1 ρ1).unlock p.2
  | .while c body, ρ => whileLoop (ev io Φ c) (sss body) most ρ
  | .pass, ρ => .nx ρ
  | .brk, ρ => .bk ρ
  | .cont, ρ => .ct ρ
  | .never, _ => .bad
termination_by structural e => e
def sss : ISs → Env → O
  | .nil, ρ => .nx ρ
  | .cons a r, ρ => match ss a ρ with
    | .nx ρ1 => sss r ρ1
    | o => o
termination_by structural e => e
end
end
/-! ### a def -/
def initE (ns : Nat) : List Bool → List D → Env
  | true :: io, d :: ds => .own .io d :: initE (ns - 1) io ds
  | _ :: io, d :: ds => .val d :: initE (ns - 1) io ds
  | _, _ => List.replicate ns .no
def outsE : List Bool → Env → Option (List D)
  | true :: io, .own .io d :: ρ => (outsE io ρ).map (d :: ·)
  | true :: _, _ => none
  | false :: io, _ :: ρ => outsE io ρ
  | [], _ => some []
  | false :: _, [] => none
def endR (io : List Bool) : O → FR
  | .nx ρ => (match outsE io ρ with
    | some outs => .ok false .non outs
    | none => .bad)
  | .rt o d ρ => (match outsE io ρ with
    | some outs => .ok o d outs
    | none => .bad)
  | .exc x ρ => (match outsE io ρ with
    | some outs => .exc x outs
    | none => .bad)
  | _ => .bad
abbrev Tab := Nat → Option FnDef
def ioOf (tab : Tab) (f : Nat) : List Bool := match tab f with
  | some d => d.io
  | none => []
def phi (tab : Tab) : Nat → Nat → List D → FR
  | 0, _, _ => .bad
  | k + 1, f, ds => match tab f with
    | some d => if ds.length = d.np ∧ d.io.length = d.np then endR d.io (sss (ioOf tab) (phi tab k) d.body (initE d.ns d.io ds)) else .bad
    | none => .bad
end Py

set_option Elab.async false
set_option linter.all false
set_option maxRecDepth 100000
namespace Py
open PySem PySem.Spec
open PyProof.Rows L2

abbrev Ms := Addr → Prop
structure Gt where
  K : PySem.W.Frag
  fa : Nat → Addr
  nm : Nat → Str
  free : List Str
  con : List (Str × D)

mutual
def Rep (G : Gt) (M : Ms) (H : Hp) : D → V → Prop
  | .non, v => v = .non
  | .bl b, v => v = .bl b
  | .int i, v => v = .int i
  | .str x, v => v = .str x
  | .tup xs, v => ∃ a vs, v = .ref a ∧ SqT G.K H a vs ∧ Reps G M H xs vs
  | .lst xs, v => ∃ a vs, v = .ref a ∧ ¬ M a ∧ H a = some (.lst vs) ∧ Reps G M H xs vs
  | .dct kvs, v => ∃ a us, v = .ref a ∧ ¬ M a ∧ Rd H a (.dK us) ∧ Repk G M H kvs us
  | .ins _ _, _ => False
  | .fn f, v => v = .ref (G.fa f)
  | .scr ns, v => ∃ a, v = .ref a ∧ ((∃ o, H a = some (.frz o (.lst (ns.map V.int)))) ∨ ∀ H', SqL G.K H' a (ns.map V.int))
termination_by structural e => e
def Reps (G : Gt) (M : Ms) (H : Hp) : List D → List V → Prop
  | [], vs => vs = []
  | d :: ds, vs => ∃ v r, vs = v :: r ∧ Rep G M H d v ∧ Reps G M H ds r
termination_by structural e => e
def Repk (G : Gt) (M : Ms) (H : Hp) : List (Key × D) → List (Key × V) → Prop
  | [], us => us = []
  | (k, d) :: kvs, us => ∃ v r, us = (k, v) :: r ∧ Rep G M H d v ∧ Repk G M H kvs r
termination_by structural e => e
end
def MutO : Option HO → Prop
  | some (.lst _) => True
  | some (.dK _) => True
  | _ => False
structure Mov (M M' : Ms) (H H' : Hp) : Prop where
  mo : ∀ a, M a → MutO (H a)
  st : ∀ b o, H b = some o → ¬ M b → H' b = some o
  sub : ∀ a, M' a → M a ∨ H a = none
section
variable {G : Gt} {M M' : Ms} {H H' : Hp}
theorem Mov.at {o : HO} {a : Addr} (m : Mov M M' H H') (h : H a = some o) (n : ¬ M a) : H' a = some o ∧ ¬ M' a :=
  ⟨m.st a o h n, fun q => by
    rcases m.sub a q with z | z
    · exact n z
    · rw [h] at z; cases z⟩
theorem Mov.sqT {a : Addr} {vs : List V} (m : Mov M M' H H') (h : SqT G.K H a vs) : SqT G.K H' a vs := by
  rcases h with (h | ⟨o, h⟩) | h
  · exact .inl (.inl (m.at h fun q => by have := m.mo a q; rw [h] at this; exact this).1)
  · exact .inl (.inr ⟨o, (m.at h fun q => by have := m.mo a q; rw [h] at this; exact this).1⟩)
  · exact .inr h
theorem Mov.rd {a : Addr} {u : HO} (m : Mov M M' H H') (h : Rd H a u) (n : ¬ M a) : Rd H' a u ∧ ¬ M' a := by
  rcases h with h | ⟨o, h⟩
  · exact ⟨.inl (m.at h n).1, (m.at h n).2⟩
  · exact ⟨.inr ⟨o, (m.at h n).1⟩, (m.at h n).2⟩
mutual
theorem Rep.mov (m : Mov M M' H H') : ∀ (d : D) (v : V), Rep G M H d v → Rep G M' H' d v
  | .non, _, h => by simpa only [Rep] using h
  | .bl b, _, h => by simpa only [Rep] using h
  | .int i, _, h => by simpa only [Rep] using h
  | .str x, _, h => by simpa only [Rep] using h
  | .tup xs, v, h => by
    simp only [Rep] at h ⊢
    obtain ⟨a, vs, e, h1, h2⟩ := h
    exact ⟨a, vs, e, m.sqT h1, Reps.mov m xs vs h2⟩
  | .lst xs, v, h => by
    simp only [Rep] at h ⊢
    obtain ⟨a, vs, e, n, h1, h2⟩ := h
    exact ⟨a, vs, e, (m.at h1 n).2, (m.at h1 n).1, Reps.mov m xs vs h2⟩
  | .dct kvs, v, h => by
    simp only [Rep] at h ⊢
    obtain ⟨a, us, e, n, h1, h2⟩ := h
    exact ⟨a, us, e, (m.rd h1 n).2, (m.rd h1 n).1, Repk.mov m kvs us h2⟩
  | .ins _ _, _, h => by simp only [Rep] at h
  | .fn f, _, h => by simpa only [Rep] using h
  | .scr ns, _, h => by
    simp only [Rep] at h ⊢
    obtain ⟨a, e, h⟩ := h
    refine ⟨a, e, ?_⟩
    rcases h with ⟨o, h⟩ | h
    · exact .inl ⟨o, (m.at h fun q => by have := m.mo a q; rw [h] at this; exact this).1⟩
    · exact .inr h
theorem Reps.mov (m : Mov M M' H H') : ∀ (ds : List D) (vs : List V), Reps G M H ds vs → Reps G M' H' ds vs
  | [], _, h => by simpa only [Reps] using h
  | d :: ds, vs, h => by
    simp only [Reps] at h ⊢
    obtain ⟨v, r, e, h1, h2⟩ := h
    exact ⟨v, r, e, Rep.mov m d v h1, Reps.mov m ds r h2⟩
theorem Repk.mov (m : Mov M M' H H') : ∀ (kvs : List (Key × D)) (us : List (Key × V)), Repk G M H kvs us → Repk G M' H' kvs us
  | [], _, h => by simpa only [Repk] using h
  | (k, d) :: kvs, us, h => by
    simp only [Repk] at h ⊢
    obtain ⟨v, r, e, h1, h2⟩ := h
    exact ⟨v, r, e, Rep.mov m d v h1, Repk.mov m kvs r h2⟩
end
/-- less is owned, or values without lists -/
theorem Rep.less (mo : ∀ a, M a → MutO (H a)) (sub : ∀ a, M' a → M a) {d : D} {v : V} (h : Rep G M H d v) : Rep G M' H d v :=
  Rep.mov ⟨mo, fun _ _ e _ => e, fun a q => .inl (sub a q)⟩ d v h
theorem Reps.less (mo : ∀ a, M a → MutO (H a)) (sub : ∀ a, M' a → M a) {d : List D} {v : List V} (h : Reps G M H d v) : Reps G M' H d v :=
  Reps.mov ⟨mo, fun _ _ e _ => e, fun a q => .inl (sub a q)⟩ d v h
mutual
theorem Rep.clean : ∀ (d : D) (v : V), d.noLst = true → Rep G M H d v → Rep G M' H d v
  | .non, _, _, h => by simpa only [Rep] using h
  | .bl b, _, _, h => by simpa only [Rep] using h
  | .int i, _, _, h => by simpa only [Rep] using h
  | .str x, _, _, h => by simpa only [Rep] using h
  | .tup xs, v, c, h => by
    simp only [Rep] at h ⊢
    simp only [D.noLst] at c
    obtain ⟨a, vs, e, h1, h2⟩ := h
    exact ⟨a, vs, e, h1, Reps.clean xs vs c h2⟩
  | .lst xs, v, c, h => by simp only [D.noLst] at c; cases c
  | .dct kvs, v, c, h => by simp only [D.noLst] at c; cases c
  | .ins _ _, _, _, h => by simp only [Rep] at h
  | .fn f, _, _, h => by simpa only [Rep] using h
  | .scr ns, _, _, h => by simpa only [Rep] using h
theorem Reps.clean : ∀ (ds : List D) (vs : List V), D.noLsts ds = true → Reps G M H ds vs → Reps G M' H ds vs
  | [], _, _, h => by simpa only [Reps] using h
  | d :: ds, vs, c, h => by
    simp only [Reps] at h ⊢
    simp only [D.noLsts, Bool.and_eq_true] at c
    obtain ⟨v, r, e, h1, h2⟩ := h
    exact ⟨v, r, e, Rep.clean d v c.1 h1, Reps.clean ds r c.2 h2⟩
end
theorem Repk.clean : ∀ (kvs : List (Key × D)) (us : List (Key × V)), D.noLsts (kvs.map (·.2)) = true → Repk G M H kvs us → Repk G M' H kvs us
  | [], _, _, h => by simpa only [Repk] using h
  | (k, d) :: kvs, us, c, h => by
    simp only [Repk] at h ⊢
    simp only [List.map_cons, D.noLsts, Bool.and_eq_true] at c
    obtain ⟨v, r, e, h1, h2⟩ := h
    exact ⟨v, r, e, Rep.clean d v c.1 h1, Repk.clean kvs r c.2 h2⟩
/-! ### lists of reps -/
theorem Reps.length : ∀ {ds : List D} {vs : List V}, Reps G M H ds vs → vs.length = ds.length
  | [], _, h => by simp only [Reps] at h; subst h; rfl
  | d :: ds, _, h => by
    simp only [Reps] at h
    obtain ⟨v, r, rfl, _, h2⟩ := h
    rw [List.length_cons, List.length_cons, Reps.length h2]
theorem Reps.get : ∀ {ds : List D} {vs : List V} {i : Nat} {d : D}, Reps G M H ds vs → ds[i]? = some d → ∃ v, vs[i]? = some v ∧ Rep G M H d v
  | [], _, _, _, _, e => by simp at e
  | d :: ds, _, 0, _, h, e => by
    simp only [Reps] at h
    obtain ⟨v, r, rfl, h1, _⟩ := h
    simp only [List.getElem?_cons_zero, Option.some.injEq] at e
    subst e
    exact ⟨v, rfl, h1⟩
  | d :: ds, _, i + 1, _, h, e => by
    simp only [Reps] at h
    obtain ⟨v, r, rfl, _, h2⟩ := h
    exact Reps.get (i := i) h2 (by simpa using e)
theorem Reps.get' : ∀ {ds : List D} {vs : List V} {i : Nat} {v : V}, Reps G M H ds vs → vs[i]? = some v → ∃ d, ds[i]? = some d ∧ Rep G M H d v := fun {ds vs i v} h e => by
  have hl := h.length
  have hi : i < vs.length := (List.getElem?_eq_some_iff.mp e).1
  obtain ⟨w, e2, r⟩ := h.get (i := i) (d := ds[i]'(by omega)) (List.getElem?_eq_getElem _)
  rw [e] at e2
  cases e2
  exact ⟨_, List.getElem?_eq_getElem _, r⟩
theorem Reps.append : ∀ {ds es : List D} {vs us : List V}, Reps G M H ds vs → Reps G M H es us → Reps G M H (ds ++ es) (vs ++ us)
  | [], _, _, _, h, k => by simp only [Reps] at h; subst h; exact k
  | d :: ds, es, _, us, h, k => by
    simp only [Reps] at h
    obtain ⟨v, r, rfl, h1, h2⟩ := h
    show Reps G M H (d :: (ds ++ es)) (v :: (r ++ us))
    simp only [Reps]
    exact ⟨v, _, rfl, h1, Reps.append h2 k⟩
theorem Reps.one {d : D} {v : V} (h : Rep G M H d v) : Reps G M H [d] [v] := by
  simp only [Reps]
  exact ⟨v, [], rfl, h, rfl⟩
theorem Reps.nil : Reps G M H [] [] := by simp only [Reps]
theorem Reps.cons {d : D} {v : V} {ds : List D} {vs : List V} (h : Rep G M H d v) (t : Reps G M H ds vs) : Reps G M H (d :: ds) (v :: vs) := by
  simp only [Reps]
  exact ⟨v, vs, rfl, h, t⟩
theorem Reps.drop : ∀ (n : Nat) {ds : List D} {vs : List V}, Reps G M H ds vs → Reps G M H (ds.drop n) (vs.drop n)
  | 0, _, _, h => h
  | n + 1, [], _, h => by simp only [Reps] at h; subst h; exact .nil
  | n + 1, d :: ds, _, h => by
    simp only [Reps] at h
    obtain ⟨v, r, rfl, _, h2⟩ := h
    exact Reps.drop n h2
theorem Reps.take : ∀ (n : Nat) {ds : List D} {vs : List V}, Reps G M H ds vs → Reps G M H (ds.take n) (vs.take n)
  | 0, _, _, h => by simp; exact .nil
  | n + 1, [], _, h => by simp only [Reps] at h; subst h; exact .nil
  | n + 1, d :: ds, _, h => by
    simp only [Reps] at h
    obtain ⟨v, r, rfl, h1, h2⟩ := h
    exact .cons h1 (Reps.take n h2)
theorem Reps.set : ∀ {ds : List D} {vs : List V} (i : Nat) {d : D} {v : V}, Reps G M H ds vs → Rep G M H d v → Reps G M H (ds.set i d) (vs.set i v)
  | [], _, _, _, _, h, _ => by simp only [Reps] at h; subst h; exact .nil
  | d :: ds, _, 0, _, _, h, k => by
    simp only [Reps] at h
    obtain ⟨v, r, rfl, _, h2⟩ := h
    exact .cons k h2
  | d :: ds, _, i + 1, _, _, h, k => by
    simp only [Reps] at h
    obtain ⟨v, r, rfl, h1, h2⟩ := h
    exact .cons h1 (Reps.set i h2 k)
theorem Reps.reverse : ∀ {ds : List D} {vs : List V}, Reps G M H ds vs → Reps G M H ds.reverse vs.reverse
  | [], _, h => by simp only [Reps] at h; subst h; exact .nil
  | d :: ds, _, h => by
    simp only [Reps] at h
    obtain ⟨v, r, rfl, h1, h2⟩ := h
    rw [List.reverse_cons, List.reverse_cons]
    exact (Reps.reverse h2).append (.one h1)
theorem Reps.eraseIdx : ∀ (i : Nat) {ds : List D} {vs : List V}, Reps G M H ds vs → Reps G M H (ds.eraseIdx i) (vs.eraseIdx i)
  | _, [], _, h => by simp only [Reps] at h; subst h; exact .nil
  | 0, d :: ds, _, h => by
    simp only [Reps] at h
    obtain ⟨v, r, rfl, h1, h2⟩ := h
    exact h2
  | i + 1, d :: ds, _, h => by
    simp only [Reps] at h
    obtain ⟨v, r, rfl, h1, h2⟩ := h
    exact .cons h1 (Reps.eraseIdx i h2)
theorem Reps.dropLast {ds : List D} {vs : List V} (h : Reps G M H ds vs) : Reps G M H ds.dropLast vs.dropLast := by
  rw [List.dropLast_eq_take, List.dropLast_eq_take, h.length]
  exact h.take _
theorem Reps.replicate {ds : List D} {vs : List V} (h : Reps G M H ds vs) : ∀ n, Reps G M H (List.replicate n ds).flatten (List.replicate n vs).flatten
  | 0 => .nil
  | n + 1 => by
    rw [List.replicate_succ, List.replicate_succ, List.flatten_cons, List.flatten_cons]
    exact h.append (h.replicate n)
theorem Reps.ints : ∀ {ds : List D} {vs : List V} {ns : List Int}, Reps G M H ds vs → intsOf ds = some ns → vs = ns.map V.int
  | [], _, _, h, e => by
    simp only [intsOf, Option.some.injEq] at e
    subst e
    simp only [Reps] at h
    exact h
  | d :: ds, _, ns, h, e => by
    simp only [Reps] at h
    obtain ⟨v, r, rfl, h1, h2⟩ := h
    cases d with
    | int i =>
      simp only [intsOf, Option.map_eq_some_iff] at e
      obtain ⟨ms, e1, rfl⟩ := e
      simp only [Rep] at h1
      rw [h1, h2.ints e1]
      rfl
    | _ => simp [intsOf] at e
theorem Reps.bls : ∀ {ds : List D} {vs : List V} {ns : List Bool}, Reps G M H ds vs → blsOf ds = some ns → vs = ns.map V.bl
  | [], _, _, h, e => by
    simp only [blsOf, Option.some.injEq] at e
    subst e
    simp only [Reps] at h
    exact h
  | d :: ds, _, ns, h, e => by
    simp only [Reps] at h
    obtain ⟨v, r, rfl, h1, h2⟩ := h
    cases d with
    | bl i =>
      simp only [blsOf, Option.map_eq_some_iff] at e
      obtain ⟨ms, e1, rfl⟩ := e
      simp only [Rep] at h1
      rw [h1, h2.bls e1]
      rfl
    | _ => simp [blsOf] at e
theorem Reps.ofInts : ∀ (ns : List Int), Reps G M H (ns.map .int) (ns.map V.int)
  | [] => .nil
  | n :: ns => .cons (by simp only [Rep]) (Reps.ofInts ns)
end

/-! ### owned objects -/
def Root (G : Gt) (M : Ms) (H : Hp) : D → Addr → Prop
  | .lst xs, a => ∃ vs, H a = some (.lst vs) ∧ Reps G M H xs vs
  | .dct kvs, a => ∃ us, H a = some (.dK us) ∧ Repk G M H kvs us
  | _, _ => False
def SlotRel (G : Gt) (M : Ms) (H : Hp) : Slot → Option V → Prop
  | .no, _ => True
  | .val d, some v => Rep G M H d v
  | .own _ d, some (.ref a) => Root G M H d a
  | _, _ => False
def OwnAt (ρ : Env) (σ : L2.St) (i : Nat) (a : Addr) : Prop := (∃ k d, ρ[i]? = some (.own k d)) ∧ σ[i]? = some (some (.ref a))
def MM (ρ : Env) (σ : L2.St) (M0 : Ms) : Ms := fun a => (∃ i, OwnAt ρ σ i a) ∨ M0 a
structure StRel (G : Gt) (M0 : Ms) (ρ : Env) (σ : L2.St) (H : Hp) : Prop where
  len : ρ.length = σ.length
  inj : ∀ i j a, OwnAt ρ σ i a → OwnAt ρ σ j a → i = j
  dis : ∀ i a, OwnAt ρ σ i a → ¬ M0 a
  mo : ∀ a, MM ρ σ M0 a → MutO (H a)
  sl : ∀ (i : Nat) (s : Slot), ρ[i]? = some s → ∃ v, σ[i]? = some v ∧ SlotRel G (MM ρ σ M0) H s v
structure Ext (ρ : Env) (σ : L2.St) (H : Hp) (ρ' : Env) (σ' : L2.St) (H' : Hp) : Prop where
  st : ∀ b o, H b = some o → (∀ i, ¬ OwnAt ρ σ i b) → H' b = some o
  tr : ∀ b, H' b = none → H b = none
  fr : ∀ i a, OwnAt ρ' σ' i a → (∃ j, OwnAt ρ σ j a) ∨ H a = none
  kp : ∀ (i : Nat) (k : OwnK) (d : D), ρ[i]? = some (.own k d) → k ≠ .loc → σ'[i]? = σ[i]? ∧ ∃ d', ρ'[i]? = some (.own k d') ∧ (k = .lck → d' = d)
theorem Ext.refl {ρ : Env} {σ : L2.St} {H : Hp} : Ext ρ σ H ρ σ H := ⟨fun _ _ h _ => h, fun _ h => h, fun i a h => .inl ⟨i, h⟩, fun i k d e _ => ⟨rfl, d, e, fun _ => rfl⟩⟩
theorem Ext.trans {ρ ρ1 ρ2 : Env} {σ σ1 σ2 : L2.St} {H H1 H2 : Hp} (a : Ext ρ σ H ρ1 σ1 H1) (b : Ext ρ1 σ1 H1 ρ2 σ2 H2) : Ext ρ σ H ρ2 σ2 H2 where
  st := fun c o h n => b.st c o (a.st c o h n) fun i q => by
    rcases a.fr i c q with ⟨j, z⟩ | z
    · exact n j z
    · rw [h] at z; cases z
  tr := fun c h => a.tr c (b.tr c h)
  fr := fun i c q => by
    rcases b.fr i c q with ⟨j, z⟩ | z
    · exact a.fr j c z
    · exact .inr (a.tr c z)
  kp := fun i k d e n => by
    obtain ⟨h1, d1, e1, f1⟩ := a.kp i k d e n
    obtain ⟨h2, d2, e2, f2⟩ := b.kp i k d1 e1 n
    exact ⟨h2.trans h1, d2, e2, fun q => (f2 q).trans (f1 q)⟩
/-- what is owned or held outside, under a step -/
theorem StRel.mov {G : Gt} {M0 : Ms} {ρ ρ' : Env} {σ σ' : L2.St} {H H' : Hp} (R : StRel G M0 ρ σ H) (e : Ext ρ σ H ρ' σ' H') : Mov (MM ρ σ M0) (MM ρ' σ' M0) H H' where
  mo := R.mo
  st := fun b o h n => e.st b o h fun i q => n (.inl ⟨i, q⟩)
  sub := fun a q => by
    rcases q with ⟨i, q⟩ | q
    · rcases e.fr i a q with z | z
      · exact .inl (.inl z)
      · exact .inr z
    · exact .inl (.inr q)
/-- a temp and its value -/
def TRel (G : Gt) (M : Ms) (ρ : Env) (σ : L2.St) (H : Hp) : T → V → Prop
  | .val d, v => Rep G M H d v
  | .own d, v => ∃ a, v = .ref a ∧ Root G M H d a
  | .slot i, v => ∃ a, v = .ref a ∧ OwnAt ρ σ i a
/-- what a temp owns -/
def Tm : T → V → Ms
  | .own _, .ref a => fun b => b = a
  | _, _ => fun _ => False
/-- behind an expression -/
structure Post (G : Gt) (M0 : Ms) (ρ : Env) (σ : L2.St) (H : Hp) (t : T) (ρ' : Env) (v : V) (H' : Hp) : Prop where
  R : StRel G (fun a => Tm t v a ∨ M0 a) ρ' σ H'
  tr : TRel G (MM ρ' σ fun a => Tm t v a ∨ M0 a) ρ' σ H' t v
  fr : ∀ a, Tm t v a → H a = none
  ex : Ext ρ σ H ρ' σ H'
/-- behind an exception -/
def XRel (G : Gt) (H : Hp) (x : Exn) (cls : Value) (d : Option Addr) : Prop := False
structure XPost (G : Gt) (M0 : Ms) (ρ : Env) (σ : L2.St) (H : Hp) (x : Exn) (ρ' : Env) (σ' : L2.St) (cls : Value) (d : Option Addr) (H' : Hp) : Prop where
  R : StRel G M0 ρ' σ' H'
  x : XRel G H' x cls d
  ex : Ext ρ σ H ρ' σ' H'
def TEv (G : Gt) (W : WX) (r : Env → R T) : TE := fun σ H Q => ∃ M0 ρ, StRel G M0 ρ σ H ∧ match r ρ with
  | .ok t ρ' => ∀ v H', Post G M0 ρ σ H t ρ' v H' → Q v H'
  | .exc x ρ' => ∀ cls d H', XPost G M0 ρ σ H x ρ' σ cls d H' → W cls d σ H'
  | .bad => False
end Py

set_option Elab.async false
set_option linter.all false
set_option maxRecDepth 100000
namespace Py
open PySem PySem.Spec
open PyProof.Rows L2

section
variable {G : Gt} {M M' M0 : Ms} {H H' H1 : Hp} {ρ ρ' ρ1 : Env} {σ σ' : L2.St} {a : Addr} {d : D} {v : V}
/-- read now: below the root nothing changes -/
def Bor (G : Gt) (M : Ms) (H : Hp) (d : D) (v : V) : Prop := Rep G M H d v ∨ ∃ a, v = .ref a ∧ Root G M H d a
theorem Bor.lst {xs : List D} (h : Bor G M H (.lst xs) v) : ∃ a vs, v = .ref a ∧ H a = some (.lst vs) ∧ Reps G M H xs vs := by
  rcases h with h | ⟨a, e, h⟩
  · simp only [Rep] at h
    obtain ⟨a, vs, e, _, h1, h2⟩ := h
    exact ⟨a, vs, e, h1, h2⟩
  · obtain ⟨vs, h1, h2⟩ := h
    exact ⟨a, vs, e, h1, h2⟩
theorem Bor.tup {xs : List D} (h : Bor G M H (.tup xs) v) : ∃ a vs, v = .ref a ∧ SqT G.K H a vs ∧ Reps G M H xs vs := by
  rcases h with h | ⟨a, e, h⟩
  · simpa only [Rep] using h
  · exact h.elim
theorem Bor.int {i : Int} (h : Bor G M H (.int i) v) : v = .int i := by
  rcases h with h | ⟨a, e, h⟩
  · simpa only [Rep] using h
  · exact h.elim
theorem Bor.bl {i : Bool} (h : Bor G M H (.bl i) v) : v = .bl i := by
  rcases h with h | ⟨a, e, h⟩
  · simpa only [Rep] using h
  · exact h.elim
theorem Bor.str {i : Str} (h : Bor G M H (.str i) v) : v = .str i := by
  rcases h with h | ⟨a, e, h⟩
  · simpa only [Rep] using h
  · exact h.elim
theorem Bor.non (h : Bor G M H .non v) : v = .non := by
  rcases h with h | ⟨a, e, h⟩
  · simpa only [Rep] using h
  · exact h.elim
theorem Bor.scr {ns : List Int} (h : Bor G M H (.scr ns) v) : ∃ a, v = .ref a ∧ SqL G.K H a (ns.map V.int) := by
  rcases h with h | ⟨a, e, h⟩
  · simp only [Rep] at h
    obtain ⟨a, e, h⟩ := h
    refine ⟨a, e, ?_⟩
    rcases h with ⟨o, h⟩ | h
    · exact .inl (.inr ⟨o, h⟩)
    · exact h H
  · exact h.elim
theorem Root.mut (h : Root G M H d a) : MutO (H a) := by
  cases d with
  | lst xs => obtain ⟨vs, e, _⟩ := h; rw [e]; trivial
  | dct xs => obtain ⟨vs, e, _⟩ := h; rw [e]; trivial
  | _ => exact h.elim
theorem Root.some (h : Root G M H d a) : H a ≠ none := fun e => by
  have := h.mut
  rw [e] at this
  exact this
/-- owned, moved: its object stands, the rest moves -/
theorem Root.mov (m : Mov M M' H H') (h : Root G M H d a) (e : H' a = H a) : Root G M' H' d a := by
  cases d with
  | lst xs =>
    obtain ⟨vs, e1, h1⟩ := h
    exact ⟨vs, e.trans e1, Reps.mov m xs vs h1⟩
  | dct xs =>
    obtain ⟨vs, e1, h1⟩ := h
    exact ⟨vs, e.trans e1, Repk.mov m xs vs h1⟩
  | _ => exact h.elim
/-- owned no more -/
theorem Root.rep (h : Root G M H d a) (m : Mov M M' H H') (e : H' a = H a) (n : ¬ M' a) : Rep G M' H' d (.ref a) := by
  cases d with
  | lst xs =>
    obtain ⟨vs, e1, h1⟩ := h
    simp only [Rep]
    exact ⟨a, vs, rfl, n, e.trans e1, Reps.mov m xs vs h1⟩
  | dct xs =>
    obtain ⟨vs, e1, h1⟩ := h
    simp only [Rep]
    exact ⟨a, vs, rfl, n, .inl (e.trans e1), Repk.mov m xs vs h1⟩
  | _ => exact h.elim
theorem Mov.same (mo : ∀ a, M a → MutO (H a)) (sub : ∀ a, M' a → M a) : Mov M M' H H := ⟨mo, fun _ _ e _ => e, fun a q => .inl (sub a q)⟩

/-! ### slots -/
theorem own_set {i j : Nat} {s : Slot} (h : OwnAt (ρ.set i s) σ j a) : (j = i ∧ (∃ k d, s = .own k d) ∧ σ[j]? = some (some (.ref a))) ∨ (j ≠ i ∧ OwnAt ρ σ j a) := by
  obtain ⟨⟨k, d, e⟩, e2⟩ := h
  by_cases q : j = i
  · subst q
    refine .inl ⟨rfl, ?_, e2⟩
    by_cases hl : j < ρ.length
    · rw [List.getElem?_set_self hl] at e
      exact ⟨k, d, Option.some.inj e⟩
    · rw [List.getElem?_eq_none (by simpa using Nat.le_of_not_lt hl)] at e
      cases e
  · rw [List.getElem?_set_ne (Ne.symm q)] at e
    exact .inr ⟨q, ⟨k, d, e⟩, e2⟩
theorem own_set_ne {i j : Nat} {s : Slot} (h : OwnAt ρ σ j a) (n : j ≠ i) : OwnAt (ρ.set i s) σ j a := by
  obtain ⟨⟨k, d, e⟩, e2⟩ := h
  exact ⟨⟨k, d, by rw [List.getElem?_set_ne (Ne.symm n)]; exact e⟩, e2⟩
theorem own_set_eq {i : Nat} {k : OwnK} (h : OwnAt ρ σ i a) : OwnAt (ρ.set i (.own k d)) σ i a := by
  obtain ⟨⟨k', d', e⟩, e2⟩ := h
  exact ⟨⟨k, d, by rw [List.getElem?_set_self (List.getElem?_eq_some_iff.mp e).1]⟩, e2⟩
theorem StRel.own {i : Nat} {k : OwnK} (R : StRel G M0 ρ σ H) (e : ρ[i]? = some (.own k d)) : ∃ a, OwnAt ρ σ i a ∧ Root G (MM ρ σ M0) H d a := by
  obtain ⟨v, e1, h⟩ := R.sl i _ e
  cases v with
  | none => exact h.elim
  | some v =>
    cases v with
    | ref a => exact ⟨a, ⟨⟨k, d, e⟩, e1⟩, h⟩
    | _ => exact h.elim
theorem StRel.val {i : Nat} (R : StRel G M0 ρ σ H) (e : ρ[i]? = some (.val d)) : ∃ v, σ[i]? = some (some v) ∧ Rep G (MM ρ σ M0) H d v := by
  obtain ⟨v, e1, h⟩ := R.sl i _ e
  cases v with
  | none => exact h.elim
  | some v => exact ⟨v, e1, h⟩
/-- a slot is left, or its list is owned no more -/
theorem StRel.loose {i : Nat} {s : Slot} (R : StRel G M0 ρ σ H) (e : ρ[i]? = some (.own .loc d)) (hs : s = .no ∨ s = .val d) (o : OwnAt ρ σ i a) : StRel G M0 (ρ.set i s) σ H ∧ Rep G (MM (ρ.set i s) σ M0) H d (.ref a) ∧ Ext ρ σ H (ρ.set i s) σ H ∧
    Root G (MM ρ σ M0) H d a ∧ ¬ MM (ρ.set i s) σ M0 a := by
  have ns : ¬ ∃ k d, s = .own k d := by
    rintro ⟨k, d', q⟩
    rcases hs with z | z <;> rw [z] at q <;> cases q
  have back : ∀ {j b}, OwnAt (ρ.set i s) σ j b → j ≠ i ∧ OwnAt ρ σ j b := fun {j b} q => by
    rcases own_set q with ⟨_, z, _⟩ | z
    · exact absurd z ns
    · exact z
  have sub : ∀ b, MM (ρ.set i s) σ M0 b → MM ρ σ M0 b := fun b q => by
    rcases q with ⟨j, q⟩ | q
    · exact .inl ⟨j, (back q).2⟩
    · exact .inr q
  have mv : Mov (MM ρ σ M0) (MM (ρ.set i s) σ M0) H H := .same R.mo sub
  obtain ⟨a', o', r⟩ := R.own e
  have ea : a' = a := by
    have := o'.2.symm.trans o.2
    exact V.ref.inj (Option.some.inj (Option.some.inj this))
  subst ea
  have na : ¬ MM (ρ.set i s) σ M0 a' := fun q => by
    rcases q with ⟨j, q⟩ | q
    · exact (back q).1 (R.inj _ _ _ (back q).2 o)
    · exact R.dis _ _ o q
  have rp : Rep G (MM (ρ.set i s) σ M0) H d (.ref a') := r.rep mv rfl na
  refine ⟨⟨by rw [List.length_set]; exact R.len, fun j k b p q => R.inj j k b (back p).2 (back q).2, fun j b p => R.dis j b (back p).2, fun b q => R.mo b (sub b q), fun j t ej => ?_⟩, rp, ⟨fun _ _ h _ => h, fun _ h => h, fun j b q => .inl ⟨j, (back q).2⟩, fun j k d' ej nk => ?_⟩, r, na⟩
  · by_cases q : j = i
    · subst q
      rw [List.getElem?_set_self (List.getElem?_eq_some_iff.mp e).1] at ej
      cases ej
      refine ⟨_, o.2, ?_⟩
      rcases hs with z | z
      · subst z; trivial
      · subst z; exact rp
    · rw [List.getElem?_set_ne (Ne.symm q)] at ej
      obtain ⟨w, ew, h⟩ := R.sl j t ej
      refine ⟨w, ew, ?_⟩
      cases t with
      | no => trivial
      | val d' =>
        cases w with
        | none => exact h.elim
        | some w => exact Rep.mov mv _ _ h
      | own k d' =>
        cases w with
        | none => exact h.elim
        | some w =>
          cases w with
          | ref b => exact Root.mov mv h rfl
          | _ => exact h.elim
  · by_cases q : j = i
    · subst q
      rw [e] at ej
      cases ej
      exact absurd rfl nk
    · exact ⟨rfl, d', by rw [List.getElem?_set_ne (Ne.symm q)]; exact ej, fun _ => rfl⟩
/-- the same state with another outside -/
theorem StRel.out {M0' : Ms} (R : StRel G M0 ρ σ H) (sub : ∀ b, M0' b → M0 b) : StRel G M0' ρ σ H := by
  have s2 : ∀ b, MM ρ σ M0' b → MM ρ σ M0 b := fun b q => by
    rcases q with q | q
    · exact .inl q
    · exact .inr (sub b q)
  have mv : Mov (MM ρ σ M0) (MM ρ σ M0') H H := .same R.mo s2
  refine ⟨R.len, R.inj, fun i b p q => R.dis i b p (sub b q), fun b q => R.mo b (s2 b q), fun j t ej => ?_⟩
  obtain ⟨w, ew, h⟩ := R.sl j t ej
  refine ⟨w, ew, ?_⟩
  cases t with
  | no => trivial
  | val d' =>
    cases w with
    | none => exact h.elim
    | some w => exact Rep.mov mv _ _ h
  | own k d' =>
    cases w with
    | none => exact h.elim
    | some w =>
      cases w with
      | ref b => exact Root.mov mv h rfl
      | _ => exact h.elim
/-- a new object: nothing of ours changes -/
theorem StRel.grow {p : Addr} {o : HO} (R : StRel G M0 ρ σ H) (n : H p = none) : Mov (MM ρ σ M0) (MM ρ σ fun b => b = p ∨ M0 b) H (upd H p o) ∧ Ext ρ σ H ρ σ (upd H p o) := by
  have ne : ∀ b u, H b = some u → b ≠ p := fun b u e => ne_of_none e n
  refine ⟨⟨R.mo, fun b u e _ => by rw [upd_ne (ne b u e)]; exact e, fun b q => ?_⟩, ⟨fun b u e _ => by rw [upd_ne (ne b u e)]; exact e, fun b e => ?_, fun i b q => .inl ⟨i, q⟩, fun i k d e _ => ⟨rfl, d, e, fun _ => rfl⟩⟩⟩
  · rcases q with q | q | q
    · exact .inl (.inl q)
    · rw [q]; exact .inr n
    · exact .inl (.inr q)
  · by_cases q : b = p
    · rw [q]; exact n
    · rw [upd_ne q] at e; exact e
theorem StRel.slots {M1 : Ms} (R : StRel G M0 ρ σ H) (m : Mov (MM ρ σ M0) (MM ρ σ M1) H H') (k : ∀ i a, OwnAt ρ σ i a → H' a = H a) {j : Nat} {t : Slot} (ej : ρ[j]? = some t) : ∃ v, σ[j]? = some v ∧ SlotRel G (MM ρ σ M1) H' t v := by
  obtain ⟨w, ew, h⟩ := R.sl j t ej
  refine ⟨w, ew, ?_⟩
  cases t with
  | no => trivial
  | val d' =>
    cases w with
    | none => exact h.elim
    | some w => exact Rep.mov m _ _ h
  | own kk d' =>
    cases w with
    | none => exact h.elim
    | some w =>
      cases w with
      | ref b => exact Root.mov m h (k j b ⟨⟨kk, d', ej⟩, ew⟩)
      | _ => exact h.elim
theorem StRel.fresh {p : Addr} {o : HO} (R : StRel G M0 ρ σ H) (n : H p = none) (mo : MutO (some o)) : StRel G (fun b => b = p ∨ M0 b) ρ σ (upd H p o) := by
  have ne : ∀ b, MutO (H b) → b ≠ p := fun b e z => by rw [z, n] at e; exact e
  obtain ⟨mv, ex⟩ := R.grow (o := o) n
  refine ⟨R.len, R.inj, fun i b q z => ?_, fun b q => ?_, fun j t ej => R.slots mv (fun i b q => ?_) ej⟩
  · rcases z with z | z
    · exact ne b (R.mo b (.inl ⟨i, q⟩)) z
    · exact R.dis i b q z
  · by_cases z : b = p
    · rw [z, upd_same]; exact mo
    · rw [upd_ne z]
      rcases q with q | q | q
      · exact R.mo b (.inl q)
      · exact absurd q z
      · exact R.mo b (.inr q)
  · exact upd_ne (ne b (R.mo b (.inl ⟨i, q⟩)))
theorem StRel.fresh0 {p : Addr} {o : HO} (R : StRel G M0 ρ σ H) (n : H p = none) : StRel G M0 ρ σ (upd H p o) ∧ Mov (MM ρ σ M0) (MM ρ σ M0) H (upd H p o) ∧ Ext ρ σ H ρ σ (upd H p o) := by
  have ne : ∀ b, MutO (H b) → b ≠ p := fun b e z => by rw [z, n] at e; exact e
  obtain ⟨mv, ex⟩ := R.grow (o := o) n
  have mv0 : Mov (MM ρ σ M0) (MM ρ σ M0) H (upd H p o) := ⟨mv.mo, mv.st, fun b q => .inl q⟩
  refine ⟨⟨R.len, R.inj, R.dis, fun b q => ?_, fun j t ej => R.slots mv0 (fun i b q => ?_) ej⟩, mv0, ex⟩
  · rw [upd_ne (ne b (R.mo b q))]; exact R.mo b q
  · exact upd_ne (ne b (R.mo b (.inl ⟨i, q⟩)))
/-! ### temps -/
/-- a temp that is a value, or the name of an owned slot -/
def TW (G : Gt) (M : Ms) (σ : L2.St) (H : Hp) : T → V → Prop
  | .val d, v => Rep G M H d v
  | .own _, _ => False
  | .slot i, v => σ[i]? = some (some v)
theorem Post.tm {t : T} (R : StRel G M0 ρ σ H) (p : Post G M0 ρ σ H t ρ' v H') {b : Addr} (h : Tm t v b) : ¬ MM ρ' σ M0 b := fun q => by
  rcases q with ⟨i, q⟩ | q
  · exact p.R.dis i b q (.inl h)
  · have := R.mo b (.inr q)
    rw [p.fr b h] at this
    exact this
theorem Post.weak {t : T} (R : StRel G M0 ρ σ H) (p : Post G M0 ρ σ H t ρ' v H') : StRel G M0 ρ' σ H' ∧ TW G (MM ρ' σ M0) σ H' t.weak v := by
  have R' := p.R.out (M0' := M0) fun b q => .inr q
  refine ⟨R', ?_⟩
  have mv : Mov (MM ρ' σ fun a => Tm t v a ∨ M0 a) (MM ρ' σ M0) H' H' := .same p.R.mo fun b q => by
    rcases q with q | q
    · exact .inl q
    · exact .inr (.inr q)
  cases t with
  | val d => exact Rep.mov mv _ _ p.tr
  | own d =>
    obtain ⟨a, e, r⟩ := p.tr
    subst e
    exact r.rep mv rfl (p.tm R rfl)
  | slot i =>
    obtain ⟨a, e, o⟩ := p.tr
    rw [e]
    exact o.2
/-- a temp, read later -/
theorem TW.mov {t : T} (R : StRel G M0 ρ σ H) (h : TW G (MM ρ σ M0) σ H t v) (e : Ext ρ σ H ρ' σ H') : TW G (MM ρ' σ M0) σ H' t v := by
  cases t with
  | val d => exact Rep.mov (R.mov e) _ _ h
  | own d => exact h.elim
  | slot i => exact h
theorem TW.bor {t : T} (R : StRel G M0 ρ σ H) (h : TW G (MM ρ σ M0) σ H t v) {d : D} (e : t.b ρ = some d) : Bor G (MM ρ σ M0) H d v := by
  cases t with
  | val d' => cases e; exact .inl h
  | own d' => exact h.elim
  | slot i =>
    have h : σ[i]? = some (some v) := h
    dsimp only [T.b] at e
    cases q : ρ[i]? with
    | none => rw [q] at e; cases e
    | some s =>
      rw [q] at e
      obtain ⟨w, ew, r⟩ := R.sl i s q
      rw [h] at ew
      cases ew
      cases s with
      | no => cases e
      | val d' => cases e; exact .inl r
      | own k d' =>
        cases e
        cases v with
        | ref a => exact .inr ⟨a, rfl, r⟩
        | _ => exact r.elim
theorem T.weak_b {t : T} : t.weak.b ρ = t.b ρ := by cases t <;> rfl
/-- a temp, frozen -/
theorem Post.fz {t : T} (R : StRel G M0 ρ σ H) (p : Post G M0 ρ σ H t ρ' v H') {d : D} {ρ2 : Env} (e : t.fz ρ' = some (d, ρ2)) : StRel G M0 ρ2 σ H' ∧ Rep G (MM ρ2 σ M0) H' d v ∧ Ext ρ σ H ρ2 σ H' := by
  obtain ⟨R', w⟩ := p.weak R
  cases t with
  | val d' => cases e; exact ⟨R', w, p.ex⟩
  | own d' => cases e; exact ⟨R', w, p.ex⟩
  | slot i =>
    have w : σ[i]? = some (some v) := w
    dsimp only [T.fz] at e
    split at e
    · rename_i d' q
      cases e
      obtain ⟨a, o, _⟩ := R'.own q
      have ev := o.2
      rw [w] at ev
      cases ev
      obtain ⟨z1, z2, z3, _⟩ := R'.loose q (.inr rfl) o
      exact ⟨z1, z2, p.ex.trans z3⟩
    · rename_i d' q
      cases e
      obtain ⟨w', e1, r⟩ := R'.val q
      rw [w] at e1
      cases e1
      exact ⟨R', r, p.ex⟩
    · cases e
end
end Py

set_option Elab.async false
set_option linter.all false
set_option maxRecDepth 100000
namespace Py
open PySem PySem.Spec
open PyProof.Rows L2

section
variable {G : Gt} {M M' M0 : Ms} {H H' : Hp} {ρ : Env} {σ : L2.St} {v : V}
/-- a new value: as it stands, or laid at a new place -/
def Made (G : Gt) (M : Ms) (H : Hp) : T → V → Hp → Prop
  | .val d, v, H' => (H' = H ∧ Rep G M H d v) ∨ ∃ p o, v = .ref p ∧ H p = none ∧ H' = upd H p o ∧ (∀ M', Mov M M' H H' → (¬ M' p) → Rep G M' H' d v)
  | .own d, v, H' => ∃ p o, v = .ref p ∧ H p = none ∧ H' = upd H p o ∧ MutO (some o) ∧ ∀ M', Mov M M' H H' → Root G M' H' d p
  | .slot _, _, _ => False
theorem Made.post {t : T} (R : StRel G M0 ρ σ H) (m : Made G (MM ρ σ M0) H t v H') : Post G M0 ρ σ H t ρ v H' := by
  cases t with
  | slot i => exact m.elim
  | val d =>
    have out : StRel G (fun a => Tm (.val d) v a ∨ M0 a) ρ σ H := R.out fun b q => by
      rcases q with q | q
      · exact q.elim
      · exact q
    have e : (fun a => Tm (.val d) v a ∨ M0 a) = M0 := by
      funext b
      exact propext ⟨fun q => q.elim (fun z => z.elim) id, .inr⟩
    rcases m with ⟨rfl, m⟩ | ⟨p, o, rfl, n, rfl, m⟩
    · exact ⟨out, by rw [e]; exact m, fun a q => q.elim, .refl⟩
    · obtain ⟨R', mv, ex⟩ := R.fresh0 (o := o) n
      refine ⟨by rw [e]; exact R', ?_, fun a q => q.elim, ex⟩
      rw [e]
      refine m _ mv fun q => ?_
      have := R.mo p q
      rw [n] at this
      exact this
  | own d =>
    obtain ⟨p, o, rfl, n, rfl, mo, m⟩ := m
    have e : (fun a => Tm (.own d) (.ref p) a ∨ M0 a) = (fun b => b = p ∨ M0 b) := rfl
    obtain ⟨mv, ex⟩ := R.grow (o := o) n
    refine ⟨by rw [e]; exact R.fresh n mo, ?_, fun a q => ?_, ex⟩
    · rw [e]
      exact ⟨p, rfl, m _ mv⟩
    · have : a = p := q
      rw [this]
      exact n
theorem made_val {d : D} (h : Rep G M H d v) : Made G M H (.val d) v H := .inl ⟨rfl, h⟩
theorem made_int {i : Int} : Made G M H (.val (.int i)) (.int i) H := made_val (by simp only [Rep])
theorem made_bl {i : Bool} : Made G M H (.val (.bl i)) (.bl i) H := made_val (by simp only [Rep])
theorem made_str {i : Str} : Made G M H (.val (.str i)) (.str i) H := made_val (by simp only [Rep])
theorem made_non : Made G M H (.val .non) .non H := made_val (by simp only [Rep])
theorem made_lst {p : Addr} {ds : List D} {vs : List V} (h : Reps G M H ds vs) (n : H p = none) : Made G M H (.own (.lst ds)) (.ref p) (upd H p (.lst vs)) :=
  ⟨p, _, rfl, n, rfl, trivial, fun M' m => ⟨vs, upd_same, Reps.mov m ds vs h⟩⟩
theorem made_tup {p : Addr} {ds : List D} {vs : List V} (h : Reps G M H ds vs) (n : H p = none) : Made G M H (.val (.tup ds)) (.ref p) (upd H p (.tup vs)) :=
  .inr ⟨p, _, rfl, n, rfl, fun M' m _ => by
    simp only [Rep]
    exact ⟨p, vs, rfl, .of upd_same, Reps.mov m ds vs h⟩⟩
end
theorem small6 {n : Nat} (h : n ≤ 1000000) : n ≤ sizeLine := Nat.le_trans h (by decide)
theorem small6' {n : Nat} (h : n < 1000000) : n < sizeLine := Nat.lt_of_lt_of_le h (by decide)

section
variable {X : Cx} {G : Gt}
theorem OpR.or {f : Value → Value → Sem Value} {r r' : R2} (h : OpR X f r) (h' : OpR X f r') : OpR X f (fun x y H Q => r x y H Q ∨ r' x y H Q) := by
  intro pins s σ H x y v u Q I rx ry q
  rcases q with q | q
  · exact h pins s σ H x y v u Q I rx ry q
  · exact h' pins s σ H x y v u Q I rx ry q
theorem op_powW : OpR X (binaryOp .Pow) (rI (fun i j => 0 ≤ j ∧ (Builtin.Int.intBits i : Int) * j ≤ 2 ^ 27) fun i j => .int (i ^ j.toNat)) := opI fun _ _ _ _ _ _ _ hc q => pow_int hc.1 hc.2 q
theorem mulOk_ok {i j : Int} (h : mulOk i j = true) : CMulW i j := by
  have := of_decide_eq_true h
  unfold CMulW
  omega
/-- what is asked of a two-place operation -/
def rD (G : Gt) (f : D → D → Option T) : R2 := fun x y H Q => ∃ M d e t, Bor G M H d x ∧ Bor G M H e y ∧ f d e = some t ∧ (∀ a, M a → MutO (H a)) ∧ ∀ v H', Made G M H t v H' → Q v H'
theorem op_bin (hK : G.K = X.K) (o : Operator) : OpR X (binaryOp o) (rD G (binD o)) := by
  intro pins s σ H x y v u Q I rx ry h
  obtain ⟨M, d, e, t, hx, hy, ht, mo, q⟩ := h
  unfold binD at ht
  split at ht
  · cases ht
    have ex := hx.int
    have ey := hy.int
    subst ex ey
    exact op_add pins s σ H _ _ v u Q I rx ry ⟨_, _, rfl, rfl, q _ _ made_int⟩
  · split at ht
    · rename_i hl
      cases ht
      have ex := hx.str
      have ey := hy.str
      subst ex ey
      exact op_add_str pins s σ H _ _ v u Q I rx ry ⟨_, _, rfl, rfl, small6 hl, q _ _ made_str⟩
    · cases ht
  · split at ht
    · rename_i hl
      cases ht
      obtain ⟨a, vs, rfl, h1, h2⟩ := hx.tup
      obtain ⟨b, us, rfl, h3, h4⟩ := hy.tup
      have l1 := h2.length
      have l2 := h4.length
      refine op_catA pins s σ H _ _ v u Q I rx ry ⟨a, b, vs, us, rfl, rfl, hK ▸ h1, hK ▸ h3, by rw [l1, l2]; exact small6 hl, fun e => ?_, fun e e2 => ?_, fun _ _ p n => q _ _ (made_tup (h2.append h4) n)⟩
      · subst e
        have z := List.eq_nil_of_length_eq_zero l1.symm
        subst z
        exact q _ _ (made_val (by simp only [Rep]; exact ⟨b, us, rfl, h3, by simpa using h4⟩))
      · subst e2
        have z := List.eq_nil_of_length_eq_zero l2.symm
        subst z
        exact q _ _ (made_val (by simp only [Rep]; exact ⟨a, vs, rfl, h1, by simpa using h2⟩))
    · cases ht
  · split at ht
    · rename_i hl
      cases ht
      obtain ⟨a, vs, rfl, h1, h2⟩ := hx.lst
      obtain ⟨b, us, rfl, h3, h4⟩ := hy.lst
      have l1 := h2.length
      have l2 := h4.length
      exact op_cat pins s σ H _ _ v u Q I rx ry ⟨a, b, vs, us, rfl, rfl, h1, h3, by rw [l1, l2]; exact small6 hl, fun p n => q _ _ (made_lst (h2.append h4) n)⟩
    · cases ht
  · cases ht
    have ex := hx.int
    have ey := hy.int
    subst ex ey
    exact op_sub pins s σ H _ _ v u Q I rx ry ⟨_, _, rfl, rfl, q _ _ made_int⟩
  · split at ht
    · rename_i hl
      cases ht
      have ex := hx.int
      have ey := hy.int
      subst ex ey
      exact op_mulW pins s σ H _ _ v u Q I rx ry ⟨_, _, rfl, rfl, mulOk_ok hl, q _ _ made_int⟩
    · cases ht
  · split at ht
    · rename_i hl
      cases ht
      obtain ⟨a, vs, rfl, h1, h2⟩ := hx.lst
      have ey := hy.int
      subst ey
      have l1 := h2.length
      exact op_rep pins s σ H _ _ v u Q I rx ry ⟨a, _, vs, rfl, rfl, h1, by omega, by omega, by rw [l1]; exact small6 hl.2.2, fun p n => q _ _ (made_lst (h2.replicate _) n)⟩
    · cases ht
  · split at ht
    · rename_i hl
      cases ht
      have ex := hx.int
      have ey := hy.int
      subst ex ey
      exact op_fdivW pins s σ H _ _ v u Q I rx ry ⟨_, _, rfl, rfl, hl, q _ _ made_int⟩
    · cases ht
  · split at ht
    · rename_i hl
      cases ht
      have ex := hx.int
      have ey := hy.int
      subst ex ey
      exact op_mod pins s σ H _ _ v u Q I rx ry ⟨_, _, rfl, rfl, hl, q _ _ made_int⟩
    · cases ht
  · split at ht
    · rename_i i j hl
      cases ht
      have ex := hx.int
      have ey := hy.int
      subst ex ey
      refine op_powW pins s σ H _ _ v u Q I rx ry ⟨_, _, rfl, rfl, ⟨hl.1, ?_⟩, q _ _ made_int⟩
      have hb : Builtin.Int.intBits i ≤ 1000 := by
        unfold Builtin.Int.intBits
        split
        · omega
        · have := PySem.Flt.log2_lt_of (by decide : 0 < 1000) hl.2.2
          omega
      have h1 : (Builtin.Int.intBits i : Int) ≤ 1000 := by omega
      have h2 : (Builtin.Int.intBits i : Int) * j ≤ 1000 * 1000 := by
        refine Int.mul_le_mul h1 hl.2.1 hl.1 (by decide)
      exact Int.le_trans h2 (by decide)
    · cases ht
  · split at ht
    · rename_i hl
      cases ht
      have ex := hx.int
      have ey := hy.int
      subst ex ey
      exact op_shl pins s σ H _ _ v u Q I rx ry ⟨_, _, rfl, rfl, hl, q _ _ made_int⟩
    · cases ht
  · split at ht
    · rename_i hl
      cases ht
      have ex := hx.int
      have ey := hy.int
      subst ex ey
      exact op_shr pins s σ H _ _ v u Q I rx ry ⟨_, _, rfl, rfl, hl, q _ _ made_int⟩
    · cases ht
  · cases ht
    have ex := hx.int
    have ey := hy.int
    subst ex ey
    exact op_and pins s σ H _ _ v u Q I rx ry ⟨_, _, rfl, rfl, q _ _ made_int⟩
  · cases ht
    have ex := hx.int
    have ey := hy.int
    subst ex ey
    exact op_or pins s σ H _ _ v u Q I rx ry ⟨_, _, rfl, rfl, q _ _ made_int⟩
  · cases ht
    have ex := hx.int
    have ey := hy.int
    subst ex ey
    exact op_xor pins s σ H _ _ v u Q I rx ry ⟨_, _, rfl, rfl, q _ _ made_int⟩
  · cases ht
end
end Py

set_option Elab.async false
set_option linter.all false
set_option maxRecDepth 100000
namespace Py
open PySem PySem.Spec
open PyProof.Rows L2

section
variable {G : Gt} {M M' M0 : Ms} {H H' : Hp} {ρ : Env} {σ : L2.St} {v : V}
mutual
theorem Rep.dp : ∀ (d : D) (v : V) (p : PyData), Rep G M H d v → toPD d = some p → Dp G.K H v p
  | .non, v, p, h, e => by
    simp only [Rep] at h; simp only [toPD, Option.some.injEq] at e; subst h e; exact .non
  | .bl b, v, p, h, e => by
    simp only [Rep] at h; simp only [toPD, Option.some.injEq] at e; subst h e; exact .bl b
  | .int i, v, p, h, e => by
    simp only [Rep] at h; simp only [toPD, Option.some.injEq] at e; subst h e; exact .int i
  | .str x, v, p, h, e => by
    simp only [Rep] at h
    simp only [toPD] at e
    split at e
    · cases e; subst h; exact .str x
    · cases e
  | .tup xs, v, p, h, e => by
    simp only [Rep] at h
    obtain ⟨a, vs, rfl, h1, h2⟩ := h
    simp only [toPD] at e
    split at e
    · rename_i ys q
      cases e
      exact .tup h1 (Reps.dp xs vs ys h2 q)
    · cases e
  | .lst xs, v, p, h, e => by
    simp only [Rep] at h
    obtain ⟨a, vs, rfl, _, h1, h2⟩ := h
    simp only [toPD] at e
    split at e
    · rename_i ys q
      cases e
      exact .lst (.of h1) (Reps.dp xs vs ys h2 q)
    · cases e
  | .dct _, _, _, _, e => by simp [toPD] at e
  | .ins _ _, _, _, _, e => by simp [toPD] at e
  | .fn _, _, _, _, e => by simp [toPD] at e
  | .scr _, _, _, _, e => by simp [toPD] at e
theorem Reps.dp : ∀ (ds : List D) (vs : List V) (ps : List PyData), Reps G M H ds vs → toPDs ds = some ps → DpAll G.K H vs ps
  | [], vs, ps, h, e => by
    simp only [Reps] at h; simp only [toPDs, Option.some.injEq] at e; subst h e; exact .nil
  | d :: ds, vs, ps, h, e => by
    simp only [Reps] at h
    obtain ⟨v, r, rfl, h1, h2⟩ := h
    simp only [toPDs] at e
    split at e
    · rename_i y ys q1 q2
      cases e
      exact .cons (Rep.dp d v y h1 q1) (Reps.dp ds r ys h2 q2)
    · cases e
end
theorem Bor.dp {d : D} {p : PyData} (h : Bor G M H d v) (e : toPD d = some p) : Dp G.K H v p := by
  rcases h with h | ⟨a, rfl, h⟩
  · exact Rep.dp d v p h e
  · cases d with
    | lst xs =>
      obtain ⟨vs, h1, h2⟩ := h
      simp only [toPD] at e
      split at e
      · rename_i ys q
        cases e
        exact .lst (.of h1) (Reps.dp xs vs ys h2 q)
      · cases e
    | dct kvs => simp [toPD] at e
    | _ => exact h.elim
theorem Bor.flat {d : D} (h : Bor G M H d v) (f : flat1 d = true) : flatV v = true := by
  cases d with
  | non => rw [h.non]; rfl
  | bl b => rw [h.bl]; rfl
  | int b => rw [h.int]; rfl
  | str b => rw [h.str]; rfl
  | _ => cases f
theorem Rep.bor {d : D} (h : Rep G M H d v) : Bor G M H d v := .inl h
theorem flat_eq {d e : D} {x y : V} (h : Bor G M H d x) (k : Bor G M H e y) (f : flat1 d = true) (g : flat1 e = true) : eqV x y = flatEq d e := by
  cases d with
  | non =>
    rw [h.non]
    cases e with
    | non => rw [k.non]; rfl
    | bl b => rw [k.bl]; rfl
    | int b => rw [k.int]; rfl
    | str b => rw [k.str]; rfl
    | _ => cases g
  | bl c =>
    rw [h.bl]
    cases e with
    | non => rw [k.non]; rfl
    | bl b => rw [k.bl]; rfl
    | int b => rw [k.int]; rfl
    | str b => rw [k.str]; rfl
    | _ => cases g
  | int c =>
    rw [h.int]
    cases e with
    | non => rw [k.non]; rfl
    | bl b => rw [k.bl]; rfl
    | int b => rw [k.int]; rfl
    | str b => rw [k.str]; rfl
    | _ => cases g
  | str c =>
    rw [h.str]
    cases e with
    | non => rw [k.non]; rfl
    | bl b => rw [k.bl]; rfl
    | int b => rw [k.int]; rfl
    | str b =>
      rw [k.str]
      show (c == b) = decide (c = b)
      by_cases q : c = b
      · subst q; simp
      · rw [decide_eq_false q]; simpa using q
    | _ => cases g
  | _ => cases f
theorem Reps.flats : ∀ {ds : List D} {vs : List V}, Reps G M H ds vs → ds.all flat1 = true → vs.all flatV = true
  | [], _, h, _ => by simp only [Reps] at h; subst h; rfl
  | d :: ds, _, h, f => by
    simp only [Reps] at h
    obtain ⟨v, r, rfl, h1, h2⟩ := h
    rw [List.all_cons, Bool.and_eq_true] at f
    rw [List.all_cons, Bool.and_eq_true]
    exact ⟨h1.bor.flat f.1, h2.flats f.2⟩
theorem in_eq {d : D} {x : V} (h : Bor G M H d x) (f : flat1 d = true) : ∀ {ds : List D} {vs : List V}, Reps G M H ds vs → ds.all flat1 = true → inV x vs = ds.any fun y => flatEq y d
  | [], _, k, _ => by simp only [Reps] at k; subst k; rfl
  | e :: ds, _, k, g => by
    simp only [Reps] at k
    obtain ⟨v, r, rfl, h1, h2⟩ := k
    rw [List.all_cons, Bool.and_eq_true] at g
    show (eqV v x || inV x r) = (flatEq e d || _)
    rw [flat_eq h1.bor h g.1 f, in_eq h f h2 g.2]
end
section
variable {X : Cx} {G : Gt}
def rDb (G : Gt) (f : D → D → Option Bool) : R2 := fun x y H Q => ∃ M d e b, Bor G M H d x ∧ Bor G M H e y ∧ f d e = some b ∧ Q (.bl b) H
theorem op_eqDD (hK : G.K = X.K) (hu : X.A.units + 64 < cLine) : OpR X (compareOp .Eq) (rDb G eqD) := by
  intro pins s σ H x y v u Q I rx ry h
  obtain ⟨M, d, e, b, hx, hy, hb, q⟩ := h
  unfold eqD at hb
  split at hb
  · rename_i p1 p2 e1 e2
    split at hb
    · rename_i hs
      rw [Bool.and_eq_true] at hs
      cases hb
      exact op_eqD hu pins s σ H _ _ v u Q I rx ry ⟨p1, p2, hK ▸ hx.dp e1, hK ▸ hy.dp e2, hs.1, hs.2, q⟩
    · cases hb
  · cases hb
theorem op_neDD (hK : G.K = X.K) (hu : X.A.units + 64 < cLine) : OpR X (compareOp .NotEq) (rDb G fun a b => (eqD a b).map (!·)) := by
  intro pins s σ H x y v u Q I rx ry h
  obtain ⟨M, d, e, b, hx, hy, hb, q⟩ := h
  rw [Option.map_eq_some_iff] at hb
  obtain ⟨c, hb, rfl⟩ := hb
  unfold eqD at hb
  split at hb
  · rename_i p1 p2 e1 e2
    split at hb
    · rename_i hs
      rw [Bool.and_eq_true] at hs
      cases hb
      exact op_neD hu pins s σ H _ _ v u Q I rx ry ⟨p1, p2, hK ▸ hx.dp e1, hK ▸ hy.dp e2, hs.1, hs.2, q⟩
    · cases hb
  · cases hb
theorem op_inDD (hK : G.K = X.K) : OpR X (compareOp .In) (rDb G (cmpD .In)) := by
  intro pins s σ H x y v u Q I rx ry h
  obtain ⟨M, d, e, b, hx, hy, hb, q⟩ := h
  unfold cmpD at hb
  cases e with
  | tup xs =>
    dsimp only at hb
    split at hb
    · rename_i f
      rw [Bool.and_eq_true] at f
      cases hb
      obtain ⟨a, vs, rfl, h1, h2⟩ := hy.tup
      exact op_in_seq pins s σ H _ _ v u Q I rx ry ⟨a, vs, rfl, .inr (hK ▸ h1), hx.flat f.1, h2.flats f.2, by rw [in_eq hx f.1 h2 f.2]; exact q⟩
    · cases hb
  | lst xs =>
    dsimp only at hb
    split at hb
    · rename_i f
      rw [Bool.and_eq_true] at f
      cases hb
      obtain ⟨a, vs, rfl, h1, h2⟩ := hy.lst
      exact op_in_seq pins s σ H _ _ v u Q I rx ry ⟨a, vs, rfl, .inl (.of h1), hx.flat f.1, h2.flats f.2, by rw [in_eq hx f.1 h2 f.2]; exact q⟩
    · cases hb
  | _ => simp at hb
theorem op_notinDD (hK : G.K = X.K) : OpR X (compareOp .NotIn) (rDb G (cmpD .NotIn)) := by
  intro pins s σ H x y v u Q I rx ry h
  obtain ⟨M, d, e, b, hx, hy, hb, q⟩ := h
  unfold cmpD at hb
  cases e with
  | tup xs =>
    dsimp only at hb
    split at hb
    · rename_i f
      rw [Bool.and_eq_true] at f
      cases hb
      obtain ⟨a, vs, rfl, h1, h2⟩ := hy.tup
      exact op_notIn_seq pins s σ H _ _ v u Q I rx ry ⟨a, vs, rfl, .inr (hK ▸ h1), hx.flat f.1, h2.flats f.2, by rw [in_eq hx f.1 h2 f.2]; exact q⟩
    · cases hb
  | lst xs =>
    dsimp only at hb
    split at hb
    · rename_i f
      rw [Bool.and_eq_true] at f
      cases hb
      obtain ⟨a, vs, rfl, h1, h2⟩ := hy.lst
      exact op_notIn_seq pins s σ H _ _ v u Q I rx ry ⟨a, vs, rfl, .inl (.of h1), hx.flat f.1, h2.flats f.2, by rw [in_eq hx f.1 h2 f.2]; exact q⟩
    · cases hb
  | _ => simp at hb
theorem op_cmp (hK : G.K = X.K) (hu : X.A.units + 64 < cLine) (o : CmpOp) : OpR X (compareOp o) (rDb G (cmpD o)) := by
  cases o with
  | Eq => exact op_eqDD hK hu
  | NotEq => exact op_neDD hK hu
  | In => exact op_inDD hK
  | NotIn => exact op_notinDD hK
  | Lt =>
    intro pins s σ H x y v u Q I rx ry h
    obtain ⟨M, d, e, b, hx, hy, hb, q⟩ := h
    unfold cmpD at hb
    cases d with
    | int i => cases e with
      | int j =>
        cases hb
        have ex := hx.int
        have ey := hy.int
        subst ex ey
        exact op_lt pins s σ H _ _ v u Q I rx ry ⟨_, _, rfl, rfl, q⟩
      | _ => cases hb
    | _ => cases hb
  | LtE =>
    intro pins s σ H x y v u Q I rx ry h
    obtain ⟨M, d, e, b, hx, hy, hb, q⟩ := h
    unfold cmpD at hb
    cases d with
    | int i => cases e with
      | int j =>
        cases hb
        have ex := hx.int
        have ey := hy.int
        subst ex ey
        exact op_le pins s σ H _ _ v u Q I rx ry ⟨_, _, rfl, rfl, q⟩
      | _ => cases hb
    | _ => cases hb
  | Gt =>
    intro pins s σ H x y v u Q I rx ry h
    obtain ⟨M, d, e, b, hx, hy, hb, q⟩ := h
    unfold cmpD at hb
    cases d with
    | int i => cases e with
      | int j =>
        cases hb
        have ex := hx.int
        have ey := hy.int
        subst ex ey
        exact op_gt pins s σ H _ _ v u Q I rx ry ⟨_, _, rfl, rfl, q⟩
      | _ => cases hb
    | _ => cases hb
  | GtE =>
    intro pins s σ H x y v u Q I rx ry h
    obtain ⟨M, d, e, b, hx, hy, hb, q⟩ := h
    unfold cmpD at hb
    cases d with
    | int i => cases e with
      | int j =>
        cases hb
        have ex := hx.int
        have ey := hy.int
        subst ex ey
        exact op_ge pins s σ H _ _ v u Q I rx ry ⟨_, _, rfl, rfl, q⟩
      | _ => cases hb
    | _ => cases hb
  | Is => intro pins s σ H x y v u Q I rx ry h; obtain ⟨M, d, e, b, hx, hy, hb, q⟩ := h; simp [cmpD] at hb
  | IsNot => intro pins s σ H x y v u Q I rx ry h; obtain ⟨M, d, e, b, hx, hy, hb, q⟩ := h; simp [cmpD] at hb
/-! ### isinstance -/
def Ty.nm : Ty → String
  | .int => "int" | .bool => "bool" | .str => "str" | .tuple => "tuple" | .list => "list" | .dict => "dict"
def D.ty : D → Option String
  | .non => some "NoneType" | .bl _ => some "bool" | .int _ => some "int" | .str _ => some "str" | .tup _ => some "tuple" | .lst _ => some "list" | .dct _ => some "dict"
  | _ => none
theorem ty_ok {d : D} {t : Ty} {b : Bool} (h : tyIs t d = some b) : ∃ n, d.ty = some n ∧ kitB n t.nm = some b := by
  cases d <;> cases t <;> simp [tyIs] at h <;> subst h <;> exact ⟨_, rfl, by decide +kernel⟩
theorem SqT.ty {K : PySem.W.Frag} {H : Hp} {a : Addr} {vs : List V} (h : SqT K H a vs) : TyX K H (.ref a) (.type "tuple") := by
  rcases h with (h | ⟨o, h⟩) | ⟨o, its, n, h1, h2, _⟩
  · exact .base (.tup h)
  · exact .fTuple h
  · exact .kTuple h1 h2
theorem Bor.ty {M : Ms} {H : Hp} {d : D} {v : V} {n : String} (h : Bor G M H d v) (e : d.ty = some n) : TyX G.K H v (.type n) := by
  cases d with
  | non => cases e; rw [h.non]; exact .base .non
  | bl b => cases e; rw [h.bl]; exact .base (.bl _)
  | int i => cases e; rw [h.int]; exact .base (.int _)
  | str i => cases e; rw [h.str]; exact .base (.str _)
  | tup xs =>
    cases e
    obtain ⟨a, vs, rfl, h1, _⟩ := h.tup
    exact SqT.ty h1
  | lst xs =>
    cases e
    obtain ⟨a, vs, rfl, h1, _⟩ := h.lst
    exact .base (.lst h1)
  | dct xs =>
    cases e
    rcases h with h | ⟨a, rfl, h⟩
    · simp only [Rep] at h
      obtain ⟨a, us, rfl, _, h1, _⟩ := h
      rcases h1 with h1 | ⟨o, h1⟩
      · exact .base (.dK h1)
      · exact .fDict h1
    · obtain ⟨us, h1, _⟩ := h
      exact .base (.dK h1)
  | _ => cases e
theorem call_isiD (hK : G.K = X.K) (t : Ty) : CallR X (.builtin "isinstance") (fun xs H Q => ∃ M d x b, xs = [x, .ty t.nm] ∧ Bor G M H d x ∧ tyIs t d = some b ∧ Q (.bl b) H) := by
  intro pins s σ H xs us Q I r h
  obtain ⟨M, d, x, b, rfl, hx, hb, q⟩ := h
  obtain ⟨n, e1, e2⟩ := ty_ok hb
  exact call_isi pins s σ H _ us Q I r ⟨x, .ty t.nm, .type n, .type t.nm, b, rfl, .ty _, hK ▸ hx.ty e1, kit_ty e2, q⟩
end
end Py

set_option Elab.async false
set_option linter.all false
set_option maxRecDepth 100000
/-! sorted of a tuple of ints -/
namespace SrtO
open PySem PyProof.Rows Srt
section
variable {prog : Program} {w : World} {A : Around} {E : Value → Shared → Prop} {s : Shared}
abbrev gotH (h : Heap) (ws : List Value) : Heap := (h.push (seqObj "list" #[] 0)).update h.objs.size (Obj.mapSeq (· ++ ws.toArray))
theorem gather_tup {t : Addr} {ws : List Value} {Q : List Value → Shared → Prop} (ht : IsTup s.heap t ws.toArray)
    (k : Q ws { s with heap := gotH s.heap ws }) (z : ws.length ≤ sizeLine) :
    wpAny (model prog w) A (collect (.ref t)) Q E s := by
  obtain ⟨ob, e0, e1, m, e2⟩ := id ht
  unfold collect
  refine wpAny_bind (wpAny_runValue
    (codeAny_builtin entry_proto_collect' ?_))
  show wpAny _ _ (do
    again (.builtin "list.__iadd__" ⟨[← newList [],
      .ref t], []⟩)) _ _ s
  refine wpAny_bind (wpAny_newList (wpAny_pure
    ⟨Code.quiet_builtin _ (by decide +kernel),
     codeAny_builtin entry_list_iadd' ?_⟩))
  show wpAny _ _ (Builtin.List.listExtendWith
    (.ref s.heap.objs.size) (.ref t)
    (.ref s.heap.objs.size)) _ _
    { s with heap :=
        s.heap.push (seqObj "list" #[] 0) }
  unfold Builtin.List.listExtendWith
  have e0' : (s.heap.push (seqObj "list" #[] 0)).get? t
    = some ob := Heap.get?_push_of_some _ e0
  refine wpAny_bind
    (wpAny_typeOf (T := "tuple") ⟨ob, e0', e1⟩ ?_)
  have et : (Value.type "tuple" == Value.type "tuple") = true
    := by rfl
  rw [if_pos (by rw [et]; simp)]
  refine wpAny_bind (listItems_at e0' e2 ?_)
  refine wpAny_bind (listItems_at (xs := #[]) (n := 0)
    (Heap.get?_push_size _ rfl) rfl ?_)
  rw [if_neg (by simp)]
  refine wpAny_bind (listUpdate_at (xs := #[]) (n := 0)
    (Heap.get?_push_size _ rfl) rfl ?_ (Nat.zero_le _)
    (by
      show (#[] ++ ws.toArray).size ≤ sizeLine + 1
      simp only [Array.size_append, List.size_toArray,
        List.length_nil]
      omega))
  refine wpAny_pure ?_
  show wpAny (model prog w) A (do
      let o ← load s.heap.objs.size
      match o.data with
      | .seq xs _ => pure xs.toList
      | _ => unsupported "internal:collect") Q E
    { s with heap := gotH s.heap ws }
  refine wpAny_bind (wpAny_load
    (get?_update_seq (Heap.get?_push_size _ rfl) _) ?_)
  show wpAny _ _ (pure ((#[] : Array Value)
    ++ ws.toArray).toList) Q E _
  have e9 : ((#[] : Array Value) ++ ws.toArray).toList = ws := by simp
  rw [e9]
  exact wpAny_pure k
theorem sorted_tup {t : Addr} {ws : List Value} {lt2 : Value → Value → Bool} {Q : Value → Shared → Prop} (O : Swo lt2) (ht : IsTup s.heap t ws.toArray) (z : ws.length ≤ sizeLine)
    (hS : 2 ≤ ws.length → ∀ (h' : Heap) (a : Addr), SortableO prog w A.in1.in1 { s with heap := h' } a ws lt2)
    (k : ∀ out : List Value, Srtd lt2 out → Stb lt2 out ws → Q (.ref (s.heap.objs.size + 1)) { s with heap := sortedAll s.heap ws out.toArray }) :
    wpAny (model prog w) A (call (.builtin "sorted") [.ref t]) Q E s := by
  refine Calls.call_function_entry kind_sorted
    plain_sorted entry_sorted (args_sorted1 _) ?_
  unfold Builtin.«sorted»
  refine wpAny_bind (m := checkCount "sorted" 1 1 _)
    (wpAny_pure ?_)
  refine wpAny_bind (gather_tup ht ?_ z)
  refine wpAny_bind (wpAny_newList ?_ z)
  have zs : (gotH s.heap ws).objs.size = s.heap.objs.size + 1 := by
    show ((s.heap.push _).update _ _).objs.size = _
    rw [Heap.size_update, size_push']
  have at1 : ((gotH s.heap ws).push (seqObj "list" ws.toArray 0)).get? (s.heap.objs.size + 1) = some (seqObj "list" ws.toArray 0) := by
    rw [← zs]
    exact Heap.get?_push_size _ rfl
  show wpAny _ _ _ _ _ { s with heap := ((gotH s.heap ws).push (seqObj "list" ws.toArray 0)) }
  rw [zs]
  refine wpAny_bind (wpAny_holding (wpAny_call_entry
    slot_list_sort ⟨_, at1, rfl⟩ entry_list_sort
    (list_sort_ord O at1 z (fun h2 => hS h2 _ _)
      fun out hs hb => ⟨_, rfl, ?_⟩) (args_list_sort _)))
  exact wpAny_pure ⟨_, rfl, k out hs hb⟩
end
end SrtO
namespace L2
open PySem PySem.Spec PyProof.Rows
theorem cr_sortedTI {X : Cx} : CallR X (.builtin "sorted") (fun vs H Q => ∃ (a : Addr) (ns : List Int), vs = [V.ref a] ∧ SqT X.K H a (ns.map V.int) ∧
    ∀ (ns' : List Int) (p : Addr), ns'.Perm ns → ns'.Pairwise (· ≤ ·) → H p = none → Q (.ref p) (upd H p (.lst (ns'.map V.int)))) := by
  intro pins s σ H vs us Q I r h
  obtain ⟨a, ns, e, hs, q⟩ := h
  subst e
  obtain ⟨ws, rv, ht, hz⟩ := I.tuple hs
  rw [Vals.ref1 r]
  have ii := rv.ints
  refine SrtO.sorted_tup SrtO.swo_int ht (by rw [← rv.length]; exact hz) (fun h2 h₁ a' => SrtO.ints_sortable ii h2) fun out h1 h2 => ?_
  obtain ⟨k1, k2, k3⟩ := SrtO.ints_out ii h1 h2
  obtain ⟨ep, oe⟩ := PyProof.Rows.sortedAll_at s.heap ws out.toArray
  have zl : ((out.map SrtO.iv).map V.int).length ≤ sizeLine := by
    rw [List.length_map, k2.length_eq]
    rw [List.length_map] at hz
    exact hz
  refine ⟨.ref _, upd H (s.heap.objs.size + 1) (.lst ((out.map SrtO.iv).map V.int)), ?_, rfl, q _ _ k2 k3 (I.hok.fresh (Nat.le_succ _))⟩
  exact I.laid (t' := s.toks) (fun _ _ => PyProof.Rows.sortedAll_old) (Nat.le_succ _) ⟨zl, out, ep, vals_of_ints k1, oe⟩
end L2

set_option Elab.async false
set_option linter.all false
set_option maxRecDepth 100000
/-! t[::-1] of a tuple -/
namespace HT
open PySem PyProof.Rows PySem.Spec
section
variable {prog : Program} {w : World} {A : Around} {E : Value → Shared → Prop} {s : Shared}
theorem down_all (n : Nat) : Builtin.Slice.sliceAdjust none none (-1) (n : Int) = ((n : Int) - 1, -1) := rfl
theorem down_many (n : Nat) : Builtin.Slice.slicePlaces ((n : Int) - 1) (-1) (-1) = n := by
  unfold Builtin.Slice.slicePlaces
  rw [if_neg (by decide)]
  by_cases h : (n : Int) - 1 > -1
  · rw [if_pos h]
    have e : ((n : Int) - 1 - -1 - 1) / (- -1) = (n : Int) - 1 := by
      rw [show (- -1 : Int) = 1 by decide, Int.ediv_one]
      omega
    rw [e]
    omega
  · rw [if_neg h]
    omega
theorem applied_down {sl : Addr} {vl vu vk : Value} {n : Nat} {Q : Int × Int × Nat → Shared → Prop} (hs : s.heap.IsSliceOf sl vl vu vk) (pl : IsPart vl none) (pu : IsPart vu none) (pk : IsPart vk (some (-1)))
    (h : Q ((n : Int) - 1, -1, n) s) : wpAny (model prog w) A (Builtin.Slice.sliceApplied (.ref sl) (pure (n : Int))) Q E s := by
  obtain ⟨os, h0, h1, h2⟩ := id hs
  unfold Builtin.Slice.sliceApplied Builtin.Slice.sliceFields
  refine wpAny_bind (wpAny_bind (wpAny_field h0 h2 (x := vl) rfl (wpAny_bind
    (wpAny_field h0 h2 (x := vu) rfl (wpAny_bind
      (wpAny_field h0 h2 (x := vk) rfl (wpAny_pure ?_)))))))
  refine wpAny_bind (slicePart_ pk ?_)
  show wpAny _ _ (if ((-1 : Int) == 0) = true then _ else _) _ _ s
  rw [if_neg (by decide)]
  refine wpAny_bind (slicePart_ pl (wpAny_bind
    (slicePart_ pu (wpAny_bind (wpAny_pure ?_)))))
  show wpAny _ _ (match Builtin.Slice.sliceAdjust none none (-1) (n : Int) with
    | (lo, hi) => pure (lo, (-1 : Int), Builtin.Slice.slicePlaces lo hi (-1))) _ _ s
  rw [down_all]
  show wpAny _ _ (pure ((n : Int) - 1, (-1 : Int), Builtin.Slice.slicePlaces ((n : Int) - 1) (-1) (-1))) _ _ s
  rw [down_many]
  exact wpAny_pure h
theorem fm_congr {α β : Type} {f g : α → Option β} : ∀ {l : List α}, (∀ a ∈ l, f a = g a) → l.filterMap f = l.filterMap g
  | [], _ => rfl
  | a :: l, h => by
    have h1 := h a List.mem_cons_self
    have h2 := fm_congr (l := l) fun b hb => h b (List.mem_cons_of_mem _ hb)
    rw [List.filterMap_cons, List.filterMap_cons, h1, h2]
theorem pick_down (xs : Array Value) : ((List.range xs.size).filterMap fun (m : Nat) => xs[((xs.size : Int) - 1 + (m : Int) * (-1)).toNat]?).toArray = xs.toList.reverse.toArray := by
  have e : ∀ m ∈ List.range xs.size, xs[((xs.size : Int) - 1 + (m : Int) * (-1)).toNat]? = xs[xs.size - 1 - m]? := fun m hm => by
    have := List.mem_range.mp hm
    have z : ((xs.size : Int) - 1 + (m : Int) * (-1)).toNat = xs.size - 1 - m := by omega
    rw [z]
  rw [fm_congr e]
  have k := PySem.W.krv_range xs.size
  have : (List.range xs.size).filterMap (fun m => xs[xs.size - 1 - m]?) = ((List.range xs.size).map (fun k => xs.size - 1 - k)).filterMap (xs[·]?) := by
    rw [List.filterMap_map]
    rfl
  rw [this, k, List.filterMap_reverse, PySem.W.krv_all]
theorem item_tup_down {t sl : Addr} {its : Array Value} {vl vu vk : Value} {Q : Value → Shared → Prop} (ht : IsTup s.heap t its) (hs : s.heap.IsSliceOf sl vl vu vk) (pl : IsPart vl none) (pu : IsPart vu none) (pk : IsPart vk (some (-1)))
    (h : Q (.ref s.heap.objs.size) { s with heap := s.heap.push { cls := .type "tuple", data := .seq its.toList.reverse.toArray } })
    (z : its.size ≤ sizeLine) : wpAny (model prog w) A (getItem (.ref t) (.ref sl)) Q E s := by
  have ok : sizeOk (.seq its.toList.reverse.toArray) := by
    show its.toList.reverse.toArray.size ≤ sizeLine
    rw [List.size_toArray, List.length_reverse, Array.length_toList]
    exact z
  obtain ⟨os, h0, h1, h2⟩ := id hs
  have ts : s.TypeIs (.ref sl) "slice" := ⟨os, h0, h1⟩
  unfold getItem
  try with_reducible refine wpAny_holding ?_
  first
    | refine wpAny_bind (wpAny_pure ?_)
    | skip
  refine wpAny_bind (wpAny_sequenceKey
    ht.typeIs (by decide) ?_)
  refine wpAny_bind (wpAny_callSpecial?_slot
    (name := Str.ofString "__getitem__") ht.typeIs
    PyProof.Rows.slot_tuple_getitem
    (wpAny_call_entry PyProof.Rows.slot_tuple_getitem
      ht.typeIs entry_tuple_getitem ?_
      (args_tuple_getitem _ _)))
  show wpAny _ _ (Builtin.Tuple.tupleItemsOf
    (.ref t) >>= _) _ _ s
  refine wpAny_bind (tupleItemsOf_ ht ?_)
  refine wpAny_bind (wpAny_typeOf ts ?_)
  rw [if_pos (by decide)]
  refine wpAny_bind (applied_down hs pl pu pk ?_)
  show wpAny _ _ (if (((its.size : Int) - 1) == 0 && (-1 : Int) == 1 && its.size == its.size) = true then _ else _) _ _ s
  rw [if_neg (by simp), pick_down]
  first
    | exact wpAny_bind (m := Builtin.Tuple.tupleExact _)
        (wpAny_newObj_type (wpAny_pure ⟨_, rfl, wpAny_pure h⟩) ok)
    | exact wpAny_bind (m := Builtin.Tuple.tupleExact _)
        (wpAny_newObj_type (wpAny_bind (wpAny_pure (wpAny_pure ⟨_, rfl, wpAny_pure h⟩))) ok)
    | exact wpAny_bind (wpAny_bind (m := Builtin.Tuple.tupleExact _)
        (wpAny_newObj_type (wpAny_pure (wpAny_pure ⟨_, rfl, wpAny_pure h⟩)) ok))
    | exact wpAny_bind (wpAny_bind (m := Builtin.Tuple.tupleExact _)
        (wpAny_newObj_type (wpAny_pure ⟨_, rfl, wpAny_pure h⟩) ok))
end
end HT
namespace L2
open PySem PySem.Spec PyProof.Rows
section
variable {X : Cx}
theorem pe_revT {e : Expr} {te : TE} {k : Nat} {p1 p2 p3 pos : Pos} (he : PE X e te) : PE X (.Subscript e (.Slice none none (some (.UnaryOp .USub (.Constant (.int 1) k p1) p2)) p3) pos)
    (fun σ H Q => te σ H fun x H1 => ∃ a xs, x = .ref a ∧ SqT X.K H1 a xs ∧ ∀ p, H1 p = none → Q (.ref p) (upd H1 p (.tup xs.reverse))) := by
  refine ⟨fun pins s σ H Q I h => ?_⟩
  refine Subscript_ (thn (he.run pins s σ H _ I h)
    fun v s1 ⟨x, H1, I1, r1, q1⟩ => ?_)
  obtain ⟨a, xs, ex, hx, q⟩ := q1
  subst ex
  cases r1
  have step : PO X (some (.UnaryOp .USub (.Constant (.int 1) k p1) p2))
      (tPart (tUn (rU fun i => .int (-i)) (tC (.int 1)))) := po_some (pe_un un_neg pe_int)
  refine wpAny_Slice (thn (po_none.run pins s1 σ H1
    (fun o G => o = none ∧ G = H1) I1 ⟨rfl, rfl⟩) fun vl s2 ⟨l, H2, I2, pl, z1, z2⟩ => ?_)
  subst z1 z2
  refine thn (po_none.run pins s2 σ H2
    (fun o G => o = none ∧ G = H2) I2 ⟨rfl, rfl⟩) fun vu s3 ⟨u, H3, I3, pu, z1, z2⟩ => ?_
  subst z1 z2
  refine thn (step.run pins s3 σ H3
    (fun o G => o = some (-1) ∧ G = H3) I3 ⟨1, rfl, -1, rfl, rfl, rfl⟩) fun vs s4 ⟨o, H4, I4, ps, z1, z2⟩ => ?_
  subst z1 z2
  have I5 : Inv X pins σ H4 { s4 with heap := s4.heap.push { cls := .type "slice", data := .fields #[vl, vu, vs] } } :=
    I4.kept (t' := s4.toks) fun b ob q => Heap.get?_push_of_some _ q
  obtain ⟨its, r, ht, hz⟩ := I5.tuple hx
  have hl := r.length
  show wpAny (model X.prog X.w) X.A (subscriptTail e
    (.Slice none none (some (.UnaryOp .USub (.Constant (.int 1) k p1) p2)) p3)
    (.ref a) (.ref s4.heap.objs.size)) (EP X pins σ Q) X.xe
    { s4 with heap := s4.heap.push { cls := .type "slice", data := .fields #[vl, vu, vs] } }
  refine tail_any (ops := [.ref a, .ref s4.heap.objs.size]) ht.typeIs PyProof.Rows.slot_tuple_getitem.lookup ?_ (by with_unfolding_all rfl)
  refine HT.item_tup_down ht (Heap.IsSliceOf.new _ vl vu vs) pl pu ps ?_ (by rw [List.size_toArray]; omega)
  refine ⟨.ref _, _, I5.laid (t' := s4.toks) (o := .tup xs.reverse) (fun b ob q => Heap.get?_push_of_some _ q) (Nat.le_refl _) ?_, rfl, q _ (I5.hok.fresh (Nat.le_refl _))⟩
  refine ⟨by rw [List.length_reverse]; exact hz, its.reverse, r.reverse, ?_⟩
  exact IsTup.new _ _
end
end L2

set_option Elab.async false
set_option linter.all false
set_option maxRecDepth 100000
namespace Py
open PySem PySem.Spec
open PyProof.Rows L2

def Bors (G : Gt) (M : Ms) (H : Hp) : List D → List V → Prop
  | [], vs => vs = []
  | d :: ds, vs => ∃ v r, vs = v :: r ∧ Bor G M H d v ∧ Bors G M H ds r
section
variable {X : Cx} {G : Gt}
/-- what is asked of a built-in's call -/
def rDs (G : Gt) (f : List D → Option T) : List V → Hp → VK → Prop := fun xs H Q => ∃ M ds t, Bors G M H ds xs ∧ f ds = some t ∧ ∀ v H', Made G M H t v H' → Q v H'
theorem sort_perm : ∀ (x : Int) (l : List Int), (insI x l).Perm (x :: l)
  | x, [] => .refl _
  | x, y :: r => by
    unfold insI
    split
    · exact .refl _
    · exact ((sort_perm x r).cons y).trans (.swap x y r)
theorem sortI_perm : ∀ l : List Int, (sortI l).Perm l
  | [] => .refl _
  | x :: r => (sort_perm x (sortI r)).trans ((sortI_perm r).cons x)
theorem ins_sorted (x : Int) : ∀ {l : List Int}, l.Pairwise (· ≤ ·) → (insI x l).Pairwise (· ≤ ·)
  | [], _ => by unfold insI; exact List.pairwise_singleton _ _
  | y :: r, h => by
    rw [List.pairwise_cons] at h
    unfold insI
    split
    · rename_i hxy
      rw [List.pairwise_cons, List.pairwise_cons]
      refine ⟨fun z hz => ?_, h.1, h.2⟩
      rcases List.mem_cons.mp hz with rfl | hz
      · exact hxy
      · exact Int.le_trans hxy (h.1 z hz)
    · rename_i hxy
      rw [List.pairwise_cons]
      refine ⟨fun z hz => ?_, ins_sorted x h.2⟩
      rcases List.mem_cons.mp ((sort_perm x r).mem_iff.mp hz) with rfl | hz
      · omega
      · exact h.1 z hz
theorem sortI_sorted : ∀ l : List Int, (sortI l).Pairwise (· ≤ ·)
  | [] => .nil
  | x :: r => ins_sorted x (sortI_sorted r)
theorem sorted_uniq : ∀ {l m : List Int}, l.Perm m → l.Pairwise (· ≤ ·) → m.Pairwise (· ≤ ·) → l = m
  | [], m, p, _, _ => (List.nil_perm.mp p).symm
  | x :: l, [], p, _, _ => (List.perm_nil.mp p)
  | x :: l, y :: m, p, h, k => by
    rw [List.pairwise_cons] at h k
    have e : x = y := by
      have h1 := p.mem_iff.mp (List.mem_cons_self (a := x) (l := l))
      have h2 := p.mem_iff.mpr (List.mem_cons_self (a := y) (l := m))
      have a1 : y ≤ x := by
        rcases List.mem_cons.mp h1 with z | z
        · omega
        · exact k.1 x z
      have a2 : x ≤ y := by
        rcases List.mem_cons.mp h2 with z | z
        · omega
        · exact h.1 y z
      omega
    subst e
    rw [sorted_uniq ((List.perm_cons x).mp p) h.2 k.2]
theorem bi_seq (hK : G.K = X.K) {M : Ms} {H : Hp} {d : D} {v : V} {xs : List D} (h : Bor G M H d v) (e : seqOf d = some xs) : ∃ a vs, v = .ref a ∧ Reps G M H xs vs ∧ ((∃ ys, d = .lst ys ∧ H a = some (.lst vs)) ∨ (∃ ys, d = .tup ys ∧ SqT X.K H a vs)) := by
  cases d with
  | lst ys =>
    cases e
    obtain ⟨a, vs, rfl, h1, h2⟩ := h.lst
    exact ⟨a, vs, rfl, h2, .inl ⟨_, rfl, h1⟩⟩
  | tup ys =>
    cases e
    obtain ⟨a, vs, rfl, h1, h2⟩ := h.tup
    exact ⟨a, vs, rfl, h2, .inr ⟨_, rfl, hK ▸ h1⟩⟩
  | _ => cases e
/-- a built-in of one argument, of two -/
theorem callR1 {f : Value} {g : D → Option T} (h : ∀ (pins : List (Addr × Obj)) (s : Shared) (σ : L2.St) (H : Hp) (v : V) (us : List Value) (Q : VK) (M : Ms) (d : D) (t : T), Inv X pins σ H s → Vals [v] us → Bor G M H d v → g d = some t →
    (∀ v H', Made G M H t v H' → Q v H') → wpAny (model X.prog X.w) X.A (call f us) (EP X pins σ Q) X.xe s) : CallR X f (rDs G (un1 g)) := by
  intro pins s σ H xs us Q I r hh
  obtain ⟨M, ds, t, hb, ht, q⟩ := hh
  match ds, hb, ht with
  | [], _, ht => cases ht
  | _ :: _ :: _, _, ht => cases ht
  | [d], hb, ht =>
    obtain ⟨v, r', e, h1, h2⟩ := hb
    have h2 : r' = [] := h2
    subst e h2
    exact h pins s σ H v us Q M d t I r h1 ht q
theorem callR2 {f : Value} {g : D → D → Option T} (h : ∀ (pins : List (Addr × Obj)) (s : Shared) (σ : L2.St) (H : Hp) (v w : V) (us : List Value) (Q : VK) (M : Ms) (d e : D) (t : T), Inv X pins σ H s → Vals [v, w] us → Bor G M H d v → Bor G M H e w → g d e = some t →
    (∀ v H', Made G M H t v H' → Q v H') → wpAny (model X.prog X.w) X.A (call f us) (EP X pins σ Q) X.xe s) : CallR X f (rDs G (bi2 g)) := by
  intro pins s σ H xs us Q I r hh
  obtain ⟨M, ds, t, hb, ht, q⟩ := hh
  match ds, hb, ht with
  | [], _, ht => cases ht
  | [_], _, ht => cases ht
  | _ :: _ :: _ :: _, _, ht => cases ht
  | [d, e], hb, ht =>
    obtain ⟨v, r', e1, h1, w, r2, e2, h2, h3⟩ := hb
    have h3 : r2 = [] := h3
    subst e1 e2 h3
    exact h pins s σ H v w us Q M d e t I r h1 h2 ht q
theorem call_lenD (hK : G.K = X.K) : CallR X (.builtin "len") (rDs G (un1 lenD)) := callR1 fun pins s σ H v us Q M d t I r h ht q => by
  cases d with
  | scr xs =>
    cases ht
    obtain ⟨a, rfl, h1⟩ := h.scr
    exact call_len_seq pins s σ H _ us Q I r ⟨a, _, rfl, .inl (hK ▸ h1), by rw [List.length_map]; exact q _ _ made_int⟩
  | lst xs =>
    cases ht
    obtain ⟨a, vs, rfl, h1, h3⟩ := h.lst
    exact call_len_seq pins s σ H _ us Q I r ⟨a, vs, rfl, .inl (.of h1), by rw [h3.length]; exact q _ _ made_int⟩
  | tup xs =>
    cases ht
    obtain ⟨a, vs, rfl, h1, h3⟩ := h.tup
    exact call_len_seq pins s σ H _ us Q I r ⟨a, vs, rfl, .inr (hK ▸ h1), by rw [h3.length]; exact q _ _ made_int⟩
  | str x =>
    unfold lenD at ht
    dsimp only at ht
    split at ht
    · rename_i hl
      cases ht
      have e := h.str
      subst e
      exact call_len_str pins s σ H _ us Q I r ⟨_, rfl, small6 hl, q _ _ made_int⟩
    · cases ht
  | _ => cases ht
theorem call_absD : CallR X (.builtin "abs") (rDs G (un1 absD)) := callR1 fun pins s σ H v us Q M d t I r h ht q => by
  cases d with
  | int i =>
    cases ht
    have e := h.int
    subst e
    exact call_abs pins s σ H _ us Q I r ⟨_, rfl, q _ _ made_int⟩
  | _ => cases ht
theorem call_max2D (hc : X.calm = true) : CallR X (.builtin "max") (rDs G (bi2 max2D)) := callR2 fun pins s σ H v w us Q M d e t I r h k ht q => by
  cases d with
  | int i => cases e with
    | int j =>
      cases ht
      have e1 := h.int
      have e2 := k.int
      subst e1 e2
      exact call_max2 hc pins s σ H _ us Q I r ⟨_, _, rfl, q _ _ made_int⟩
    | _ => cases ht
  | _ => cases ht
theorem call_min2D (hc : X.calm = true) : CallR X (.builtin "min") (rDs G (bi2 min2D)) := callR2 fun pins s σ H v w us Q M d e t I r h k ht q => by
  cases d with
  | int i => cases e with
    | int j =>
      cases ht
      have e1 := h.int
      have e2 := k.int
      subst e1 e2
      exact call_min2 hc pins s σ H _ us Q I r ⟨_, _, rfl, q _ _ made_int⟩
    | _ => cases ht
  | _ => cases ht
theorem call_intD : CallR X (.type "int") (rDs G (un1 int1D)) := callR1 fun pins s σ H v us Q M d t I r h ht q => by
  cases d with
  | int i =>
    cases ht
    have e1 := h.int
    subst e1
    exact call_int1 pins s σ H _ us Q I r (.inl ⟨_, rfl, q _ _ made_int⟩)
  | bl i =>
    cases ht
    have e1 := h.bl
    subst e1
    exact call_int1 pins s σ H _ us Q I r (.inr ⟨_, rfl, q _ _ made_int⟩)
  | _ => cases ht
theorem call_strD : CallR X (.type "str") (rDs G (un1 str1D)) := callR1 fun pins s σ H v us Q M d t I r h ht q => by
  cases d with
  | int i =>
    unfold str1D at ht
    dsimp only at ht
    split at ht
    · rename_i hl
      cases ht
      have e1 := h.int
      subst e1
      exact call_str_int pins s σ H _ us Q I r ⟨_, rfl, hl, q _ _ made_str⟩
    · cases ht
  | _ => cases ht
theorem call_listD (hK : G.K = X.K) : CallR X (.type "list") (rDs G (un1 list1D)) := callR1 fun pins s σ H v us Q M d t I r h ht q => by
  cases d with
  | lst xs =>
    cases ht
    obtain ⟨a, vs, rfl, h1, h3⟩ := h.lst
    exact call_list_of pins s σ H _ us Q I r ⟨a, vs, rfl, .inl (.of h1), fun p n => q _ _ (made_lst h3 n)⟩
  | tup xs =>
    cases ht
    obtain ⟨a, vs, rfl, h1, h3⟩ := h.tup
    exact call_list_of pins s σ H _ us Q I r ⟨a, vs, rfl, .inr (hK ▸ h1), fun p n => q _ _ (made_lst h3 n)⟩
  | _ => cases ht
theorem call_tupleD (hK : G.K = X.K) : CallR X (.type "tuple") (rDs G (un1 tuple1D)) := callR1 fun pins s σ H v us Q M d t I r h ht q => by
  cases d with
  | lst xs =>
    cases ht
    obtain ⟨a, vs, rfl, h1, h3⟩ := h.lst
    exact call_tuple_of pins s σ H _ us Q I r ⟨a, vs, rfl, .inl ⟨.of h1, fun p n => q _ _ (made_tup h3 n)⟩⟩
  | tup xs =>
    cases ht
    obtain ⟨a, vs, rfl, h1, h3⟩ := h.tup
    exact call_tuple_of pins s σ H _ us Q I r ⟨a, vs, rfl, .inr ⟨hK ▸ h1, q _ _ (made_val (by simp only [Rep]; exact ⟨a, vs, rfl, h1, h3⟩))⟩⟩
  | _ => cases ht
theorem call_sumD (hc : X.calm = true) : CallR X (.builtin "sum") (rDs G (un1 sum1D)) := callR1 fun pins s σ H v us Q M d t I r h ht q => by
  cases d with
  | lst xs =>
    unfold sum1D at ht
    rw [Option.map_eq_some_iff] at ht
    obtain ⟨ns, e, rfl⟩ := ht
    obtain ⟨a, vs, rfl, h1, h3⟩ := h.lst
    have e2 := h3.ints e
    subst e2
    exact cr_sum hc pins s σ H _ us Q I r ⟨a, ns, rfl, .of h1, q _ _ made_int⟩
  | _ => cases ht
theorem call_allD (hc : X.calm = true) : CallR X (.builtin "all") (rDs G (un1 all1D)) := callR1 fun pins s σ H v us Q M d t I r h ht q => by
  cases d with
  | lst xs =>
    unfold all1D at ht
    rw [Option.map_eq_some_iff] at ht
    obtain ⟨ns, e, rfl⟩ := ht
    obtain ⟨a, vs, rfl, h1, h3⟩ := h.lst
    have e2 := h3.bls e
    subst e2
    exact cr_all hc pins s σ H _ us Q I r ⟨a, ns, rfl, .of h1, q _ _ made_bl⟩
  | _ => cases ht
theorem call_anyD (hc : X.calm = true) : CallR X (.builtin "any") (rDs G (un1 any1D)) := callR1 fun pins s σ H v us Q M d t I r h ht q => by
  cases d with
  | lst xs =>
    unfold any1D at ht
    rw [Option.map_eq_some_iff] at ht
    obtain ⟨ns, e, rfl⟩ := ht
    obtain ⟨a, vs, rfl, h1, h3⟩ := h.lst
    have e2 := h3.bls e
    subst e2
    exact cr_any hc pins s σ H _ us Q I r ⟨a, ns, rfl, .of h1, q _ _ made_bl⟩
  | _ => cases ht
theorem call_sortedD (hK : G.K = X.K) : CallR X (.builtin "sorted") (rDs G (un1 sorted1D)) := callR1 fun pins s σ H v us Q M d t I r h ht q => by
  cases d with
  | lst xs =>
    unfold sorted1D at ht
    dsimp only at ht
    rw [Option.map_eq_some_iff] at ht
    obtain ⟨ns, e, rfl⟩ := ht
    obtain ⟨a, vs, rfl, h1, h3⟩ := h.lst
    have e2 := h3.ints e
    subst e2
    refine cr_sortedI pins s σ H _ us Q I r ⟨a, ns, rfl, .of h1, fun ns' p pm sr n => ?_⟩
    rw [sorted_uniq (pm.trans (sortI_perm ns).symm) sr (sortI_sorted ns)]
    exact q _ _ (made_lst (.ofInts _) n)
  | tup xs =>
    unfold sorted1D at ht
    dsimp only at ht
    rw [Option.map_eq_some_iff] at ht
    obtain ⟨ns, e, rfl⟩ := ht
    obtain ⟨a, vs, rfl, h1, h3⟩ := h.tup
    have e2 := h3.ints e
    subst e2
    refine cr_sortedTI pins s σ H _ us Q I r ⟨a, ns, rfl, hK ▸ h1, fun ns' p pm sr n => ?_⟩
    rw [sorted_uniq (pm.trans (sortI_perm ns).symm) sr (sortI_sorted ns)]
    exact q _ _ (made_lst (.ofInts _) n)
  | _ => cases ht
/-! ### subscripts and slices -/
theorem atI_map {α β : Type} (f : α → β) (xs : List α) (i : Int) : atI (xs.map f) i = (atI xs i).map f := by
  unfold atI
  rw [List.length_map]
  cases ixN xs.length i with
  | none => rfl
  | some j =>
    show (xs.map f)[j]? = (xs[j]?).map f
    rw [List.getElem?_map]
theorem Reps.atI {M : Ms} {H : Hp} {ds : List D} {vs : List V} {i : Int} {d : D} (h : Reps G M H ds vs) (e : atI ds i = some d) : ∃ v, L2.atI vs i = some v ∧ Rep G M H d v := by
  unfold L2.atI at e ⊢
  rw [h.length]
  cases q : ixN ds.length i with
  | none => rw [q] at e; cases e
  | some j =>
    rw [q] at e
    exact h.get (i := j) e
theorem ix_D (hK : G.K = X.K) : IxR X (fun x y H Q => ∃ M d e t, Bor G M H d x ∧ Bor G M H e y ∧ subD d e = some t ∧ ∀ v, Rep G M H t v → Q v H) := by
  intro value slice pins s σ H x y v u Q I rx ry hh hs
  obtain ⟨M, d, e, t, hx, hy, ht, q⟩ := hh
  cases e with
  | int i =>
    have ey := hy.int
    subst ey
    cases d with
    | lst xs =>
      obtain ⟨a, vs, rfl, h1, h2⟩ := hx.lst
      obtain ⟨w, e1, e2⟩ := h2.atI ht
      exact ix_list value slice pins s σ H _ _ v u Q I rx ry ⟨a, vs, i, w, rfl, rfl, .of h1, e1, q w e2⟩ hs
    | tup xs =>
      obtain ⟨a, vs, rfl, h1, h2⟩ := hx.tup
      obtain ⟨w, e1, e2⟩ := h2.atI ht
      exact ix_tup value slice pins s σ H _ _ v u Q I rx ry ⟨a, vs, i, w, rfl, rfl, hK ▸ h1, e1, q w e2⟩ hs
    | scr ns =>
      obtain ⟨a, rfl, h1⟩ := hx.scr
      unfold subD at ht
      dsimp only at ht
      rw [Option.map_eq_some_iff] at ht
      obtain ⟨n, e1, rfl⟩ := ht
      exact ix_list value slice pins s σ H _ _ v u Q I rx ry ⟨a, _, i, .int n, rfl, rfl, hK ▸ h1, by rw [atI_map, e1]; rfl, q _ (by simp only [Rep])⟩ hs
    | str z =>
      unfold subD at ht
      dsimp only at ht
      split at ht
      · rename_i hl
        rw [Option.map_eq_some_iff] at ht
        obtain ⟨c, e1, rfl⟩ := ht
        have ex := hx.str
        subst ex
        exact ix_str value slice pins s σ H _ _ v u Q I rx ry ⟨z, i, c, rfl, rfl, small6 hl, e1, q _ (by simp only [Rep])⟩ hs
      · cases ht
    | _ => cases ht
  | _ => cases d <;> cases ht
theorem sl_D (hK : G.K = X.K) : SlR X (fun x lo hi H Q => ∃ M d t, Bor G M H d x ∧ slcD d lo hi = some t ∧ ∀ v H', Made G M H t v H' → Q v H') := by
  intro pins s σ H x v vl vu lo hi sl Q I rx hs pl pu hh
  obtain ⟨M, d, t, hx, ht, q⟩ := hh
  cases d with
  | lst xs =>
    cases ht
    obtain ⟨a, vs, rfl, h1, h2⟩ := hx.lst
    refine sl_list pins s σ H _ v vl vu lo hi sl Q I rx hs pl pu ⟨a, vs, rfl, .of h1, fun p n => ?_⟩
    have k : Reps G M H (cutD xs lo hi) (cutV vs lo hi) := by
      unfold cutD cutV
      rw [h2.length]
      exact (h2.drop _).take _
    exact q _ _ (made_lst k n)
  | tup xs =>
    cases ht
    obtain ⟨a, vs, rfl, h1, h2⟩ := hx.tup
    have k : Reps G M H (cutD xs lo hi) (cutV vs lo hi) := by
      unfold cutD cutV
      rw [h2.length]
      exact (h2.drop _).take _
    refine sl_tupA pins s σ H _ v vl vu lo hi sl Q I rx hs pl pu ⟨a, vs, rfl, hK ▸ h1, fun e => ?_, fun _ p n => q _ _ (made_tup k n)⟩
    have e2 : cutV vs lo hi = vs := by
      unfold cutV
      rw [e.1, e.2]
      simp
    rw [e2] at k
    exact q _ _ (made_val (by simp only [Rep]; exact ⟨a, vs, rfl, h1, k⟩))
  | _ => cases ht
end
end Py

set_option Elab.async false
set_option linter.all false
set_option maxRecDepth 100000
namespace Py
open PySem PySem.Spec
open PyProof.Rows L2

theorem PE_imp {X : Cx} {e : Expr} {t t' : TE} (h : PE X e t) (k : ∀ σ H Q, t' σ H Q → t σ H Q) : PE X e t' := ⟨fun pins s σ H Q I hw => h.run pins s σ H Q I (k σ H Q hw)⟩
theorem PT_imp {X : Cx} {e : Expr} {t t' : TT} (h : PT X e t) (k : ∀ σ H Q, t' σ H Q → t σ H Q) : PT X e t' := ⟨fun pins s σ H Q I hw => h.run pins s σ H Q I (k σ H Q hw)⟩
theorem PA_imp {X : Cx} {e : List Expr} {t t' : TA} (h : PA X e t) (k : ∀ σ H Q, t' σ H Q → t σ H Q) : PA X e t' := ⟨fun pos pins s σ H Q I hw => h.run pos pins s σ H Q I (k σ H Q hw)⟩
section
variable {G : Gt} {W : WX} {M0 : Ms} {ρ ρ1 ρ2 : Env} {σ : L2.St} {H H1 H2 : Hp}
/-- what an evaluation asks: an end, by kind -/
def Fin {α β : Type} (G : Gt) (W : WX) (M0 : Ms) (ρ : Env) (σ : L2.St) (H : Hp) (post : α → Env → β → Hp → Prop) (r : R α) (Q : β → Hp → Prop) : Prop := match r with
  | .ok a ρ' => ∀ b H', post a ρ' b H' → Q b H'
  | .exc x ρ' => ∀ cls d H', XPost G M0 ρ σ H x ρ' σ cls d H' → W cls d σ H'
  | .bad => False
abbrev FinT (G : Gt) (W : WX) (M0 : Ms) (ρ : Env) (σ : L2.St) (H : Hp) (r : R T) (Q : V → Hp → Prop) : Prop := Fin G W M0 ρ σ H (Post G M0 ρ σ H) r Q
def EvT (G : Gt) (W : WX) (r : Env → R T) : TE := fun σ H Q => ∃ M0 ρ, StRel G M0 ρ σ H ∧ FinT G W M0 ρ σ H (r ρ) Q
def TWs (G : Gt) (M : Ms) (σ : L2.St) (H : Hp) : List T → List V → Prop
  | [], vs => vs = []
  | t :: ts, vs => ∃ v r, vs = v :: r ∧ TW G M σ H t v ∧ TWs G M σ H ts r
structure PostA (G : Gt) (M0 : Ms) (ρ : Env) (σ : L2.St) (H : Hp) (ts : List T) (ρ' : Env) (vs : List V) (H' : Hp) : Prop where
  R : StRel G M0 ρ' σ H'
  tw : TWs G (MM ρ' σ M0) σ H' ts vs
  ex : Ext ρ σ H ρ' σ H'
structure PostF (G : Gt) (M0 : Ms) (ρ : Env) (σ : L2.St) (H : Hp) (ds : List D) (ρ' : Env) (vs : List V) (H' : Hp) : Prop where
  R : StRel G M0 ρ' σ H'
  tw : Reps G (MM ρ' σ M0) H' ds vs
  ex : Ext ρ σ H ρ' σ H'
structure PostB (G : Gt) (M0 : Ms) (ρ : Env) (σ : L2.St) (H : Hp) (b : Bool) (ρ' : Env) (b' : Bool) (H' : Hp) : Prop where
  R : StRel G M0 ρ' σ H'
  eq : b' = b
  ex : Ext ρ σ H ρ' σ H'
structure PostO (G : Gt) (M0 : Ms) (ρ : Env) (σ : L2.St) (H : Hp) (b : Option Int) (ρ' : Env) (b' : Option Int) (H' : Hp) : Prop where
  R : StRel G M0 ρ' σ H'
  eq : b' = b
  ex : Ext ρ σ H ρ' σ H'
abbrev FinA (G : Gt) (W : WX) (M0 : Ms) (ρ : Env) (σ : L2.St) (H : Hp) (r : R (List T)) (Q : List V → Hp → Prop) : Prop := Fin G W M0 ρ σ H (PostA G M0 ρ σ H) r Q
abbrev FinF (G : Gt) (W : WX) (M0 : Ms) (ρ : Env) (σ : L2.St) (H : Hp) (r : R (List D)) (Q : List V → Hp → Prop) : Prop := Fin G W M0 ρ σ H (PostF G M0 ρ σ H) r Q
abbrev FinB (G : Gt) (W : WX) (M0 : Ms) (ρ : Env) (σ : L2.St) (H : Hp) (r : R Bool) (Q : Bool → Hp → Prop) : Prop := Fin G W M0 ρ σ H (PostB G M0 ρ σ H) r Q
abbrev FinO (G : Gt) (W : WX) (M0 : Ms) (ρ : Env) (σ : L2.St) (H : Hp) (r : R (Option Int)) (Q : Option Int → Hp → Prop) : Prop := Fin G W M0 ρ σ H (PostO G M0 ρ σ H) r Q
def EvA (G : Gt) (W : WX) (r : Env → R (List T)) : TA := fun σ H Q => ∃ M0 ρ, StRel G M0 ρ σ H ∧ FinA G W M0 ρ σ H (r ρ) Q
def EvF (G : Gt) (W : WX) (r : Env → R (List D)) : TA := fun σ H Q => ∃ M0 ρ, StRel G M0 ρ σ H ∧ FinF G W M0 ρ σ H (r ρ) Q
def EvB (G : Gt) (W : WX) (r : Env → R Bool) : TT := fun σ H Q => ∃ M0 ρ, StRel G M0 ρ σ H ∧ FinB G W M0 ρ σ H (r ρ) Q
def EvO (G : Gt) (W : WX) (r : Env → R (Option Int)) : TO := fun σ H Q => ∃ M0 ρ, StRel G M0 ρ σ H ∧ FinO G W M0 ρ σ H (r ρ) Q
/-- the Bool of a value's evaluation -/
def R.bl (r : R T) : R Bool := r.bind fun t ρ => match asBl t with
  | some b => .ok b ρ
  | none => .bad

theorem Post.pre {t : T} {v : V} (e : Ext ρ σ H ρ1 σ H1) (p : Post G M0 ρ1 σ H1 t ρ2 v H2) : Post G M0 ρ σ H t ρ2 v H2 := ⟨p.R, p.tr, fun a h => e.tr a (p.fr a h), e.trans p.ex⟩
theorem XPost.pre {σ1 σ2 : L2.St} {x : Exn} {cls : Value} {d : Option Addr} (e : Ext ρ σ H ρ1 σ1 H1) (p : XPost G M0 ρ1 σ1 H1 x ρ2 σ2 cls d H2) : XPost G M0 ρ σ H x ρ2 σ2 cls d H2 := ⟨p.R, p.x, e.trans p.ex⟩
theorem PostA.pre {t : List T} {v : List V} (e : Ext ρ σ H ρ1 σ H1) (p : PostA G M0 ρ1 σ H1 t ρ2 v H2) : PostA G M0 ρ σ H t ρ2 v H2 := ⟨p.R, p.tw, e.trans p.ex⟩
theorem PostF.pre {t : List D} {v : List V} (e : Ext ρ σ H ρ1 σ H1) (p : PostF G M0 ρ1 σ H1 t ρ2 v H2) : PostF G M0 ρ σ H t ρ2 v H2 := ⟨p.R, p.tw, e.trans p.ex⟩
theorem PostB.pre {t v : Bool} (e : Ext ρ σ H ρ1 σ H1) (p : PostB G M0 ρ1 σ H1 t ρ2 v H2) : PostB G M0 ρ σ H t ρ2 v H2 := ⟨p.R, p.eq, e.trans p.ex⟩
theorem PostO.pre {t v : Option Int} (e : Ext ρ σ H ρ1 σ H1) (p : PostO G M0 ρ1 σ H1 t ρ2 v H2) : PostO G M0 ρ σ H t ρ2 v H2 := ⟨p.R, p.eq, e.trans p.ex⟩
theorem Fin.imp {α β : Type} {post post' : α → Env → β → Hp → Prop} {r : R α} {Q Q' : β → Hp → Prop} (h : Fin G W M0 ρ1 σ H1 post r Q) (ex : Ext ρ1 σ H1 ρ σ H) (k : ∀ a ρ' b H', r = .ok a ρ' → post' a ρ' b H' → post a ρ' b H') (q : ∀ b H', Q b H' → Q' b H') : Fin G W M0 ρ σ H post' r Q' := by
  cases r with
  | ok a ρ' => exact fun b H' p => q b H' (h b H' (k a ρ' b H' rfl p))
  | exc x ρ' => exact fun cls d H' p => h cls d H' (p.pre ex)
  | bad => exact h
theorem Fin.mono {α β : Type} {post : α → Env → β → Hp → Prop} {r : R α} {Q Q' : β → Hp → Prop} (h : Fin G W M0 ρ σ H post r Q) (q : ∀ a ρ' b H', r = .ok a ρ' → post a ρ' b H' → Q b H' → Q' b H') : Fin G W M0 ρ σ H post r Q' := by
  cases r with
  | ok a ρ' => exact fun b H' p => q a ρ' b H' rfl p (h b H' p)
  | exc x ρ' => exact h
  | bad => exact h
/-- one after the other: behind the first stands the second -/
theorem Fin.bind {α β γ δ : Type} {post1 : γ → Env → δ → Hp → Prop} {post : α → Env → β → Hp → Prop} {r1 : R γ} {k : γ → Env → R α} {Q : β → Hp → Prop} (h : Fin G W M0 ρ σ H post (r1.bind k) Q) :
    Fin G W M0 ρ σ H post1 r1 (fun b H1 => ∃ a ρ1, r1 = .ok a ρ1 ∧ post1 a ρ1 b H1 ∧ Fin G W M0 ρ σ H post (k a ρ1) Q) := by
  cases r1 with
  | ok a ρ' => exact fun b H' p => ⟨a, ρ', rfl, p, h⟩
  | exc x ρ' => exact h
  | bad => exact h
theorem FinT.pre {r : R T} {Q : V → Hp → Prop} (h : FinT G W M0 ρ σ H r Q) (e : Ext ρ σ H ρ1 σ H1) : FinT G W M0 ρ1 σ H1 r Q := h.imp e (fun _ _ _ _ _ p => p.pre e) fun _ _ q => q
theorem FinA.pre {r : R (List T)} {Q : List V → Hp → Prop} (h : FinA G W M0 ρ σ H r Q) (e : Ext ρ σ H ρ1 σ H1) : FinA G W M0 ρ1 σ H1 r Q := h.imp e (fun _ _ _ _ _ p => p.pre e) fun _ _ q => q
theorem FinF.pre {r : R (List D)} {Q : List V → Hp → Prop} (h : FinF G W M0 ρ σ H r Q) (e : Ext ρ σ H ρ1 σ H1) : FinF G W M0 ρ1 σ H1 r Q := h.imp e (fun _ _ _ _ _ p => p.pre e) fun _ _ q => q
theorem FinB.pre {r : R Bool} {Q : Bool → Hp → Prop} (h : FinB G W M0 ρ σ H r Q) (e : Ext ρ σ H ρ1 σ H1) : FinB G W M0 ρ1 σ H1 r Q := h.imp e (fun _ _ _ _ _ p => p.pre e) fun _ _ q => q
theorem FinO.pre {r : R (Option Int)} {Q : Option Int → Hp → Prop} (h : FinO G W M0 ρ σ H r Q) (e : Ext ρ σ H ρ1 σ H1) : FinO G W M0 ρ1 σ H1 r Q := h.imp e (fun _ _ _ _ _ p => p.pre e) fun _ _ q => q
/-- a first value, then the rest, for each kind of rest -/
theorem FinT.thenT {r1 : R T} {k : T → Env → R T} {Q : V → Hp → Prop} (R : StRel G M0 ρ σ H) (h : FinT G W M0 ρ σ H (r1.bind k) Q) :
    FinT G W M0 ρ σ H r1 (fun v H1 => ∃ t ρ1, StRel G M0 ρ1 σ H1 ∧ TW G (MM ρ1 σ M0) σ H1 t.weak v ∧ Post G M0 ρ σ H t ρ1 v H1 ∧ FinT G W M0 ρ1 σ H1 (k t ρ1) Q) :=
  (Fin.bind (post1 := Post G M0 ρ σ H) h).mono fun _ _ v H1 _ _ ⟨t, ρ1, _, p, f⟩ => ⟨t, ρ1, (p.weak R).1, (p.weak R).2, p, FinT.pre f p.ex⟩
theorem FinA.thenT {r1 : R T} {k : T → Env → R (List T)} {Q : List V → Hp → Prop} (R : StRel G M0 ρ σ H) (h : FinA G W M0 ρ σ H (r1.bind k) Q) :
    FinT G W M0 ρ σ H r1 (fun v H1 => ∃ t ρ1, StRel G M0 ρ1 σ H1 ∧ TW G (MM ρ1 σ M0) σ H1 t.weak v ∧ Post G M0 ρ σ H t ρ1 v H1 ∧ FinA G W M0 ρ1 σ H1 (k t ρ1) Q) :=
  (Fin.bind (post1 := Post G M0 ρ σ H) h).mono fun _ _ v H1 _ _ ⟨t, ρ1, _, p, f⟩ => ⟨t, ρ1, (p.weak R).1, (p.weak R).2, p, FinA.pre f p.ex⟩
theorem FinF.thenT {r1 : R T} {k : T → Env → R (List D)} {Q : List V → Hp → Prop} (R : StRel G M0 ρ σ H) (h : FinF G W M0 ρ σ H (r1.bind k) Q) :
    FinT G W M0 ρ σ H r1 (fun v H1 => ∃ t ρ1, StRel G M0 ρ1 σ H1 ∧ TW G (MM ρ1 σ M0) σ H1 t.weak v ∧ Post G M0 ρ σ H t ρ1 v H1 ∧ FinF G W M0 ρ1 σ H1 (k t ρ1) Q) :=
  (Fin.bind (post1 := Post G M0 ρ σ H) h).mono fun _ _ v H1 _ _ ⟨t, ρ1, _, p, f⟩ => ⟨t, ρ1, (p.weak R).1, (p.weak R).2, p, FinF.pre f p.ex⟩
theorem FinB.thenT {r1 : R T} {k : T → Env → R Bool} {Q : Bool → Hp → Prop} (R : StRel G M0 ρ σ H) (h : FinB G W M0 ρ σ H (r1.bind k) Q) :
    FinT G W M0 ρ σ H r1 (fun v H1 => ∃ t ρ1, StRel G M0 ρ1 σ H1 ∧ TW G (MM ρ1 σ M0) σ H1 t.weak v ∧ Post G M0 ρ σ H t ρ1 v H1 ∧ FinB G W M0 ρ1 σ H1 (k t ρ1) Q) :=
  (Fin.bind (post1 := Post G M0 ρ σ H) h).mono fun _ _ v H1 _ _ ⟨t, ρ1, _, p, f⟩ => ⟨t, ρ1, (p.weak R).1, (p.weak R).2, p, FinB.pre f p.ex⟩
theorem FinO.thenT {r1 : R T} {k : T → Env → R (Option Int)} {Q : Option Int → Hp → Prop} (R : StRel G M0 ρ σ H) (h : FinO G W M0 ρ σ H (r1.bind k) Q) :
    FinT G W M0 ρ σ H r1 (fun v H1 => ∃ t ρ1, StRel G M0 ρ1 σ H1 ∧ TW G (MM ρ1 σ M0) σ H1 t.weak v ∧ Post G M0 ρ σ H t ρ1 v H1 ∧ FinO G W M0 ρ1 σ H1 (k t ρ1) Q) :=
  (Fin.bind (post1 := Post G M0 ρ σ H) h).mono fun _ _ v H1 _ _ ⟨t, ρ1, _, p, f⟩ => ⟨t, ρ1, (p.weak R).1, (p.weak R).2, p, FinO.pre f p.ex⟩
theorem FinT.thenA {r1 : R (List T)} {k : List T → Env → R T} {Q : V → Hp → Prop} (h : FinT G W M0 ρ σ H (r1.bind k) Q) :
    FinA G W M0 ρ σ H r1 (fun v H1 => ∃ t ρ1, PostA G M0 ρ σ H t ρ1 v H1 ∧ FinT G W M0 ρ1 σ H1 (k t ρ1) Q) :=
  (Fin.bind (post1 := PostA G M0 ρ σ H) h).mono fun _ _ v H1 _ _ ⟨t, ρ1, _, p, f⟩ => ⟨t, ρ1, p, FinT.pre f p.ex⟩
theorem FinA.thenA {r1 : R (List T)} {k : List T → Env → R (List T)} {Q : List V → Hp → Prop} (h : FinA G W M0 ρ σ H (r1.bind k) Q) :
    FinA G W M0 ρ σ H r1 (fun v H1 => ∃ t ρ1, PostA G M0 ρ σ H t ρ1 v H1 ∧ FinA G W M0 ρ1 σ H1 (k t ρ1) Q) :=
  (Fin.bind (post1 := PostA G M0 ρ σ H) h).mono fun _ _ v H1 _ _ ⟨t, ρ1, _, p, f⟩ => ⟨t, ρ1, p, FinA.pre f p.ex⟩
theorem FinT.thenF {r1 : R (List D)} {k : List D → Env → R T} {Q : V → Hp → Prop} (h : FinT G W M0 ρ σ H (r1.bind k) Q) :
    FinF G W M0 ρ σ H r1 (fun v H1 => ∃ t ρ1, PostF G M0 ρ σ H t ρ1 v H1 ∧ FinT G W M0 ρ1 σ H1 (k t ρ1) Q) :=
  (Fin.bind (post1 := PostF G M0 ρ σ H) h).mono fun _ _ v H1 _ _ ⟨t, ρ1, _, p, f⟩ => ⟨t, ρ1, p, FinT.pre f p.ex⟩
theorem FinF.thenF {r1 : R (List D)} {k : List D → Env → R (List D)} {Q : List V → Hp → Prop} (h : FinF G W M0 ρ σ H (r1.bind k) Q) :
    FinF G W M0 ρ σ H r1 (fun v H1 => ∃ t ρ1, PostF G M0 ρ σ H t ρ1 v H1 ∧ FinF G W M0 ρ1 σ H1 (k t ρ1) Q) :=
  (Fin.bind (post1 := PostF G M0 ρ σ H) h).mono fun _ _ v H1 _ _ ⟨t, ρ1, _, p, f⟩ => ⟨t, ρ1, p, FinF.pre f p.ex⟩
theorem FinT.thenO {r1 : R (Option Int)} {k : Option Int → Env → R T} {Q : V → Hp → Prop} (h : FinT G W M0 ρ σ H (r1.bind k) Q) :
    FinO G W M0 ρ σ H r1 (fun v H1 => ∃ t ρ1, PostO G M0 ρ σ H t ρ1 v H1 ∧ FinT G W M0 ρ1 σ H1 (k t ρ1) Q) :=
  (Fin.bind (post1 := PostO G M0 ρ σ H) h).mono fun _ _ v H1 _ _ ⟨t, ρ1, _, p, f⟩ => ⟨t, ρ1, p, FinT.pre f p.ex⟩
/-- the end: a value made here -/
theorem FinT.made {t : Option T} {Q : V → Hp → Prop} (R : StRel G M0 ρ σ H) (h : FinT G W M0 ρ σ H (Py.R.opt t ρ) Q) : ∃ t', t = some t' ∧ ∀ v H', Made G (MM ρ σ M0) H t' v H' → Q v H' := by
  cases t with
  | none => exact h.elim
  | some t => exact ⟨t, rfl, fun v H' m => h v H' (m.post R)⟩
theorem FinT.val {d : D} {Q : V → Hp → Prop} {v : V} (R : StRel G M0 ρ σ H) (h : FinT G W M0 ρ σ H (.ok (.val d) ρ) Q) (r : Rep G (MM ρ σ M0) H d v) : Q v H := h v H ((made_val r).post R)
theorem TW.val {M : Ms} {d : D} {v : V} (h : TW G M σ H (.val d) v) : Rep G M H d v := h
theorem asBl_eq {t : T} {b : Bool} (h : asBl t = some b) : t = .val (.bl b) := by
  cases t with
  | val d => cases d with
    | bl c => cases h; rfl
    | _ => cases h
  | _ => cases h
theorem TWs.mov {ts : List T} (R : StRel G M0 ρ σ H) (e : Ext ρ σ H ρ1 σ H1) : ∀ {vs : List V}, TWs G (MM ρ σ M0) σ H ts vs → TWs G (MM ρ1 σ M0) σ H1 ts vs := by
  induction ts with
  | nil => exact fun h => h
  | cons t ts ih =>
    rintro vs ⟨v, r, e1, h1, h2⟩
    exact ⟨v, r, e1, h1.mov R e, ih h2⟩
theorem TWs.bors {ts : List T} (R : StRel G M0 ρ σ H) : ∀ {vs : List V} {ds : List D}, TWs G (MM ρ σ M0) σ H ts vs → T.bs ρ ts = some ds → Bors G (MM ρ σ M0) H ds vs := by
  induction ts with
  | nil =>
    intro vs ds h e
    cases e
    exact h
  | cons t ts ih =>
    rintro vs ds ⟨v, r, e1, h1, h2⟩ e
    unfold T.bs at e
    split at e
    · rename_i d ds' q1 q2
      cases e
      exact ⟨v, r, e1, h1.bor R q1, ih h2 q2⟩
    · cases e
end
end Py

set_option Elab.async false
set_option linter.all false
set_option maxRecDepth 100000
namespace Py
open PySem PySem.Spec
open PyProof.Rows L2

/-! ### the text against the IR -/
def vis (sc : Scope) (x : Str) : Bool := match sc.names.lookup x with
  | some .local => true
  | some .cell => true
  | some .free => true
  | _ => false
def gl (sc : Scope) (x : Str) : Bool := match sc.names.lookup x with
  | some .globalImplicit => true
  | _ => false
def plainN (x : Str) : Bool := !(x == ("__debug__" : Str)) && !(x == ("__classdict__" : Str)) && decide (x ≠ "__name__")
def Bi.nm : Bi → Str
  | .len => "len" | .abs => "abs" | .max2 => "max" | .min2 => "min" | .int1 => "int" | .str1 => "str" | .list1 => "list" | .tuple1 => "tuple" | .sum1 => "sum" | .all1 => "all" | .any1 => "any" | .sorted1 => "sorted"
def Mu.nm : Mu → Str
  | .append => "append" | .pop0 => "pop" | .pop1 => "pop" | .extend => "extend"
def cstB : D → Const → Bool
  | .non, .none => true
  | .bl b, .bool c => b == c
  | .int i, .int j => decide (i = j)
  | .str x, .str y => decide (x = y)
  | _, _ => false
def sameC : D → D → Bool
  | .int i, .int j => decide (i = j)
  | .str x, .str y => decide (x = y)
  | _, _ => false
def plainIx : Expr → Bool
  | .Slice _ _ _ _ => false
  | _ => true
def notStar : Expr → Bool
  | .Starred _ _ => false
  | _ => true
def notSet : Expr → Bool
  | .Set _ _ _ => false
  | _ => true
def okNm (N : List Str) (sc : Scope) (i : Nat) : Expr → Bool
  | .Name x _ => decide (N[i]? = some x) && (match sc.names.lookup x with
    | some .local => true
    | some .cell => true
    | _ => false)
  | _ => false
def okNms (N : List Str) (sc : Scope) : List Nat → List Expr → Bool
  | [] => fun es => match es with
    | [] => true
    | _ => false
  | i :: is => fun es => match es with
    | e :: es => okNm N sc i e && notStar e && okNms N sc is es
    | _ => false
def okTg (N : List Str) (sc : Scope) : Tg → Expr → Bool
  | .nm i => fun e => okNm N sc i e
  | .tup is => fun e => match e with
    | .Tuple es _ _ => okNms N sc is es
    | _ => false
/-- the block's own names are those of the target -/
def tgIn (own : List Nat) : Tg → Bool
  | .nm i => own.contains i
  | .tup is => is.all own.contains
def ownOf (N : List Str) (is : List Nat) : List (Str × Nat) := is.map fun i => (N.getD i Str.empty, i)
section
variable (G : Gt) (np : Nat → Option Nat) (N : List Str)
mutual
def okE (sc : Scope) : IE → Expr → Bool
  | .var i => fun e => match e with
    | .Name x _ => decide (N[i]? = some x) && vis sc x && plainN x
    | _ => false
  | .cst d => fun e => match e with
    | .Constant c _ _ => cstB d c
    | _ => false
  | .glo y d => fun e => match e with
    | .Name x _ => decide (x = y) && gl sc x && plainN x && (G.con.any fun p => decide (p.1 = x) && sameC p.2 d)
    | _ => false
  | .bin o a b => fun e => match e with
    | .BinOp l o' r _ => decide (o = o') && okE sc a l && okE sc b r
    | _ => false
  | .neg a => fun e => match e with
    | .UnaryOp .USub e _ => okE sc a e
    | _ => false
  | .inv a => fun e => match e with
    | .UnaryOp .Invert e _ => okE sc a e
    | _ => false
  | .not a => fun e => match e with
    | .UnaryOp .Not e _ => okE sc a e
    | _ => false
  | .and xs => fun e => match e with
    | .BoolOp .And es _ => okEs sc xs es
    | _ => false
  | .or xs => fun e => match e with
    | .BoolOp .Or es _ => okEs sc xs es
    | _ => false
  | .cmp o a b => fun e => match e with
    | .Compare l [o'] [r] _ => decide (o = o') && okE sc a l && okE sc b r && !behindInMarks o r
    | _ => false
  | .chain o p a b c => fun e => match e with
    | .Compare l [o', p'] [m, r] _ => decide (o = o') && decide (p = p') && okE sc a l && okE sc b m && okE sc c r && !lastMarks [o, p] [m, r]
    | _ => false
  | .isN a => fun e => match e with
    | .Compare l [.Is] [.Constant .none _ _] _ => okE sc a l
    | _ => false
  | .notN a => fun e => match e with
    | .Compare l [.IsNot] [.Constant .none _ _] _ => okE sc a l
    | _ => false
  | .isi a t => fun e => match e with
    | .Call (.Name f _) [e, .Name ty _] [] _ => decide (f = "isinstance") && gl sc f && G.free.contains f && decide (ty = Str.ofString t.nm) && gl sc ty && G.free.contains ty && okE sc a e && notStar e
    | _ => false
  | .ite c a b => fun e => match e with
    | .IfExp t x y _ => okE sc c t && okE sc a x && okE sc b y
    | _ => false
  | .tup xs => fun e => match e with
    | .Tuple es _ _ => okEs sc xs es
    | _ => false
  | .lst xs => fun e => match e with
    | .List es _ => okEs sc xs es
    | _ => false
  | .dct0 => fun e => match e with
    | .Dict [] [] _ => true
    | _ => false
  | .sub a i => fun e => match e with
    | .Subscript e x _ => okE sc a e && okE sc i x && plainIx x
    | _ => false
  | .slc a lo hi => fun e => match e with
    | .Subscript e (.Slice l h none _) _ => okE sc a e && (match l with
        | none => isAbs lo
        | some l => okE sc lo l) && (match h with
        | none => isAbs hi
        | some h => okE sc hi h)
    | _ => false
  | .absent => fun _ => false
  | .rev a => fun e => match e with
    | .Subscript e (.Slice none none (some (.UnaryOp .USub (.Constant (.int i) _ _) _)) _) _ => decide (i = 1) && okE sc a e
    | _ => false
  | .call f y xs => fun e => match e with
    | .Call (.Name x _) es [] _ => decide (x = y) && decide (G.nm f = x) && gl sc x && plainN x && okEs sc xs es && decide (np f = some es.length)
    | _ => false
  | .lrng t xs => fun e => match e with
    | .Call (.Name x _) [.Call (.Name y _) es [] _] [] _ => decide (x = if t then "tuple" else "list") && gl sc x && G.free.contains x && decide (y = "range") && gl sc y && G.free.contains y && okEs sc xs es && (match es with
        | [_] => true
        | [_, _] => true
        | _ => false)
    | _ => false
  | .bi b xs => fun e => match e with
    | .Call (.Name x _) es [] _ => decide (x = b.nm) && gl sc x && G.free.contains x && okEs sc xs es && (match es with
        | [] => false
        | _ :: _ => true)
    | _ => false
  | .mut m i xs => fun e => match e with
    | .Call (.Attribute (.Name x _) at_ ap) es [] cp => decide (N[i]? = some x) && vis sc x && plainN x && decide (at_ = m.nm) && okEs sc xs es && (ap.endLine == cp.line) && decide (es.length < 29) && (match m, es with
        | .pop0, [] => true
        | .pop0, _ :: _ => false
        | _, [] => false
        | _, _ :: _ => true)
    | _ => false
  | .comp elt tg it conds own => fun e => match e with
    | .ListComp e [⟨tg', it', ifs, a⟩] scope _ => decide (a = 0) && okIt sc it it' && okTg N scope tg tg' && okE (relS scope sc) elt e && okC (relS scope sc) conds ifs &&
      blkC N sc scope (ownOf N own) && (own.all fun i => decide (i < N.length)) && tgIn own tg && notSet it'
    | _ => false
termination_by structural e => e
def okEs (sc : Scope) : IEs → List Expr → Bool
  | .nil => fun es => match es with
    | [] => true
    | _ => false
  | .cons a r => fun es => match es with
    | e :: es => okE sc a e && notStar e && okEs sc r es
    | _ => false
termination_by structural e => e
def okC (sc : Scope) : IEs → List Expr → Bool
  | .nil => fun es => match es with
    | [] => true
    | _ => false
  | .cons a r => fun es => match r, es with
    | .nil, [e] => okE sc a e
    | _, _ => false
termination_by structural e => e
def okIt (sc : Scope) : It → Expr → Bool
  | .e a => fun e => okE sc a e
  | .rng xs => fun e => match e with
    | .Call (.Name x _) es [] _ => decide (x = "range") && gl sc x && G.free.contains x && okEs sc xs es && (match es with
        | [_] => true
        | [_, _] => true
        | _ => false)
    | _ => false
  | .enum _ => fun _ => false
  | .zip _ _ => fun _ => false
termination_by structural e => e
end
end
end Py

set_option Elab.async false
set_option linter.all false
set_option maxRecDepth 100000
namespace Py
open PySem PySem.Spec
open PyProof.Rows L2

theorem vis_ok {sc : Scope} {x : Str} (h : vis sc x = true) : Vis sc x := by
  unfold vis at h
  split at h
  · rename_i e; exact .inl e
  · rename_i e; exact .inr (.inl e)
  · rename_i e; exact .inr (.inr e)
  · cases h
theorem gl_ok {X : Cx} {sc : Scope} (hs : X.env.scope = sc) {x : Str} (h : gl sc x = true) : Gl X x := by
  unfold gl at h
  split at h
  · rename_i e
    show X.env.scope.names.lookup x = some .globalImplicit
    rw [hs]
    exact e
  · cases h
theorem plain_ok {x : Str} (h : plainN x = true) : (x == ("__debug__" : Str)) = false ∧ (x == ("__classdict__" : Str)) = false ∧ x ≠ "__name__" := by
  unfold plainN at h
  simp only [Bool.and_eq_true, Bool.not_eq_true', decide_eq_true_eq] at h
  exact ⟨h.1.1, h.1.2, h.2⟩
theorem star_ok {e : Expr} (h : notStar e = true) (es : List Expr) (env : PySem.Env) : starEach (e :: es) env = (false, PySem.eval e env) :: starEach es env := by
  cases e <;> first | rfl | cases h
theorem plainIx_ok {e : Expr} (h : plainIx e = true) : PlainIx e := by
  intro o i
  cases e <;> first | rfl | cases h
section
variable (io : Nat → List Bool) (Φ : Nat → List D → FR)
/-- what a def keeps -/
structure PostC (G : Gt) (M0 : Ms) (as : List Addr) (H : Hp) (o : Bool) (d : D) (outs : List D) (v : V) (H' : Hp) : Prop where
  mo : ∀ a, (M0 a ∨ a ∈ as) → MutO (H' a)
  outs : ∃ l : List (D × Addr), l.map (·.1) = outs ∧ l.map (·.2) = as ∧ ∀ p ∈ l, Root G (fun a => Tm (if o then .own d else .val d) v a ∨ M0 a ∨ a ∈ as) H' p.1 p.2
  val : if o then ∃ a, v = .ref a ∧ Root G (fun b => b = a ∨ M0 b ∨ b ∈ as) H' d a ∧ H a = none ∧ MutO (H' a) else Rep G (fun a => M0 a ∨ a ∈ as) H' d v
  st : ∀ b o, H b = some o → b ∉ as → H' b = some o
  tr : ∀ b, H' b = none → H b = none
structure PostX (G : Gt) (M0 : Ms) (as : List Addr) (H : Hp) (x : Exn) (outs : List D) (cls : Value) (dd : Option Addr) (H' : Hp) : Prop where
  mo : ∀ a, (M0 a ∨ a ∈ as) → MutO (H' a)
  outs : ∃ l : List (D × Addr), l.map (·.1) = outs ∧ l.map (·.2) = as ∧ ∀ p ∈ l, Root G (fun a => M0 a ∨ a ∈ as) H' p.1 p.2
  x : XRel G H' x cls dd
  st : ∀ b o, H b = some o → b ∉ as → H' b = some o
  tr : ∀ b, H' b = none → H b = none
/-- the arguments of a call: in/out ones stand at as -/
inductive ArgsRel (G : Gt) (M : Ms) (H : Hp) : List Bool → List D → List V → List Addr → Prop
  | nil : ArgsRel G M H [] [] [] []
  | io {b : List Bool} {d : D} {ds : List D} {vs : List V} {a : Addr} {as : List Addr} (r : Root G M H d a) (t : ArgsRel G M H b ds vs as) : ArgsRel G M H (true :: b) (d :: ds) (.ref a :: vs) (a :: as)
  | val {b : List Bool} {d : D} {ds : List D} {v : V} {vs : List V} {as : List Addr} (r : Rep G M H d v) (t : ArgsRel G M H b ds vs as) : ArgsRel G M H (false :: b) (d :: ds) (v :: vs) as
def spOf (G : Gt) (b : List Bool) (f : List D → FR) : Sp := fun vs H Q E => ∃ M0 ds as, ArgsRel G (fun a => M0 a ∨ a ∈ as) H b ds vs as ∧ as.Nodup ∧ (∀ a ∈ as, ¬ M0 a) ∧ (∀ a, (M0 a ∨ a ∈ as) → MutO (H a)) ∧
  match f ds with
  | .ok o d outs => ∀ v H', PostC G M0 as H o d outs v H' → Q v H'
  | .exc x outs => ∀ cls dd H', PostX G M0 as H x outs cls dd H' → E cls dd H'
  | .bad => False
end
structure Good (G : Gt) (tab : Tab) (k : Nat) (Φ : Nat → List D → FR) (W : WX) (X : Cx) : Prop where
  hK : G.K = X.K
  nd : X.N.Nodup
  calm : X.calm = true
  tk : Takes X W
  hr : Room (k + 1) X.A
  free : ∀ x, G.free.contains x = true → X.mg x = none
  con : ∀ p ∈ G.con, ∃ u v, X.mg p.1 = some u ∧ RelV v u ∧ ∀ M H, Rep G M H p.2 v
  fns : ∀ f d, tab f = some d → X.mg (G.nm f) = some (.ref (G.fa f)) ∧ PySem.W.keepIn X.K (.ref (G.fa f)) = true ∧
    ∃ fd ps, List.length ps = d.np ∧ L2.Binds X.K fd ps [] ∧ FnOk X.prog X.w X.K X.mg X.base (L2.CX X.prog X.w) k (G.fa f) fd ps (spOf G d.io (Φ f))
theorem Good.blk {G : Gt} {tab : Tab} {k : Nat} {Φ : Nat → List D → FR} {W : WX} {X : Cx} (g : Good G tab k Φ W X) (s : Shared) (H : Hp) (scope : Scope) (cenv : PySem.Env) (fp : List Addr) : Good G tab k Φ (fun _ _ _ _ => False) (X.blk s H scope cenv fp) :=
  ⟨g.hK, g.nd, g.calm, L2.takes0, g.hr, g.free, g.con, g.fns⟩
/-! ### iteration -/
structure Wk (G : Gt) (M0 : Ms) (ρ0 : Env) (σ0 : L2.St) (H0 : Hp) (xs : List D) (J : L2.It) : Prop where
  go : ∀ (M1 : Ms) ρ σ H i, (∀ b, M0 b → M1 b) → (∀ b, M1 b → M0 b ∨ H0 b = none) → StRel G M1 ρ σ H → Ext ρ0 σ0 H0 ρ σ H → i < xs.length → J.go i H
  stop : ∀ (M1 : Ms) ρ σ H, (∀ b, M0 b → M1 b) → (∀ b, M1 b → M0 b ∨ H0 b = none) → StRel G M1 ρ σ H → Ext ρ0 σ0 H0 ρ σ H → J.stop xs.length H
  yld : ∀ (M1 : Ms) ρ σ H i x H' d, (∀ b, M0 b → M1 b) → (∀ b, M1 b → M0 b ∨ H0 b = none) → StRel G M1 ρ σ H → Ext ρ0 σ0 H0 ρ σ H → xs[i]? = some d → J.yld i H x H' → StRel G M1 ρ σ H' ∧ Ext ρ σ H ρ σ H' ∧ Rep G (MM ρ σ M1) H' d x
def LockOf (ρ1 ρL : Env) : Option (Nat × OwnK) → Prop
  | none => ρL = ρ1
  | some (i, k) => ∃ d, ρ1[i]? = some (.own k d) ∧ ρL = ρ1.set i (.own .lck d)
structure PostI (G : Gt) (M0 : Ms) (ρ : Env) (σ : L2.St) (H : Hp) (p : List D × Option (Nat × OwnK)) (ρL : Env) (J : L2.It) (H' : Hp) : Prop where
  ex : ∃ ρ1, StRel G M0 ρ1 σ H' ∧ Ext ρ σ H ρ1 σ H' ∧ LockOf ρ1 ρL p.2 ∧ StRel G M0 ρL σ H'
  wk : Wk G M0 ρL σ H' p.1 J
def EvI (G : Gt) (W : WX) (r : Env → R (List D × Option (Nat × OwnK))) : TI := fun σ H R => ∃ M0 ρ, StRel G M0 ρ σ H ∧ Fin G W M0 ρ σ H (PostI G M0 ρ σ H) (r ρ) R
end Py

set_option Elab.async false
set_option linter.all false
set_option maxRecDepth 100000
namespace Py
open PySem PySem.Spec
open PyProof.Rows L2

section
variable {G : Gt} {W : WX} {M M' M0 : Ms} {ρ ρ' : Env} {σ : L2.St} {H H' : Hp}
def adr (σ : L2.St) (i : Nat) : Addr := match σ[i]? with
  | some (some (.ref a)) => a
  | _ => 0
theorem OwnAt.adr {i : Nat} {a : Addr} (h : OwnAt ρ σ i a) : a = Py.adr σ i := by
  unfold Py.adr
  rw [h.2]
theorem putOuts_spec : ∀ (is : List Nat) (ds : List D) (ρ ρ' : Env), is.Nodup → putOuts is ds ρ = some ρ' → ρ'.length = ρ.length ∧ ds.length = is.length ∧ (∀ j, j ∉ is → ρ'[j]? = ρ[j]?) ∧
    ∀ (n i : Nat) (d : D), is[n]? = some i → ds[n]? = some d → ∃ k d0, ρ[i]? = some (.own k d0) ∧ ρ'[i]? = some (.own k d)
  | [], [], ρ, ρ', _, h => by cases h; exact ⟨rfl, rfl, fun _ _ => rfl, fun n i d e _ => by simp at e⟩
  | [], _ :: _, _, _, _, h => by cases h
  | _ :: _, [], _, _, _, h => by cases h
  | i :: is, d :: ds, ρ, ρ', nd, h => by
    unfold putOuts at h
    rw [List.nodup_cons] at nd
    split at h
    · rename_i k d0 e
      obtain ⟨h1, h2, h3, h4⟩ := putOuts_spec is ds _ ρ' nd.2 h
      have hi := (List.getElem?_eq_some_iff.mp e).1
      refine ⟨by rw [h1, List.length_set], by rw [List.length_cons, List.length_cons, h2], fun j hj => ?_, fun n j d' e1 e2 => ?_⟩
      · rw [List.mem_cons, not_or] at hj
        rw [h3 j hj.2, List.getElem?_set_ne (Ne.symm hj.1)]
      · cases n with
        | zero =>
          simp only [List.getElem?_cons_zero, Option.some.injEq] at e1 e2
          subst e1 e2
          refine ⟨k, d0, e, ?_⟩
          rw [h3 i nd.1, List.getElem?_set_self hi]
        | succ n =>
          simp only [List.getElem?_cons_succ] at e1 e2
          obtain ⟨k', d1, a1, a2⟩ := h4 n j d' e1 e2
          have nj : j ≠ i := fun q => nd.1 (q ▸ List.mem_of_getElem? e1)
          rw [List.getElem?_set_ne (Ne.symm nj)] at a1
          exact ⟨k', d1, a1, a2⟩
    · cases h
theorem args_rel (R : StRel G M0 ρ σ H) (sub : ∀ a, M' a → MM ρ σ M0 a) : ∀ (b : List Bool) (ts : List T) (ds : List D) (vs : List V), argsIn ρ b ts = some ds → TWs G (MM ρ σ M0) σ H ts vs → (∀ i ∈ lent ρ b ts, ∀ a, OwnAt ρ σ i a → ¬ M' a) →
    ArgsRel G M' H b ds vs ((ioSlots b ts).map (adr σ)) ∧ ∀ i ∈ ioSlots b ts, OwnAt ρ σ i (adr σ i) ∧ ∃ k d, ρ[i]? = some (.own k d) ∧ k ≠ .lck
  | [], [], ds, vs, e, h, _ => by
    cases e
    have h : vs = [] := h
    subst h
    exact ⟨.nil, fun i hi => by cases hi⟩
  | [], _ :: _, ds, vs, e, h, _ => by cases e
  | b :: bs, [], ds, vs, e, h, _ => by cases b <;> cases e
  | true :: b, t :: ts, ds, vs, e, h, hl => by
    obtain ⟨v, r, e1, h1, h2⟩ := h
    subst e1
    cases t with
    | val d => cases e
    | own d => cases e
    | slot i =>
      unfold argsIn at e
      split at e
      · rename_i k d q
        split at e
        · cases e
        · rename_i nk
          rw [Option.map_eq_some_iff] at e
          obtain ⟨ds', e, rfl⟩ := e
          obtain ⟨z1, z2⟩ := args_rel R sub b ts ds' r e h2 hl
          obtain ⟨a, o, rt⟩ := R.own q
          have h1 : σ[i]? = some (some v) := h1
          have ev := o.2
          rw [h1] at ev
          cases ev
          have ea := o.adr
          refine ⟨?_, fun j hj => ?_⟩
          · show ArgsRel G M' H (true :: b) (d :: ds') (.ref a :: r) (adr σ i :: _)
            rw [← ea]
            exact .io (rt.mov (.same R.mo sub) rfl) z1
          · rcases List.mem_cons.mp hj with rfl | hj
            · exact ⟨ea ▸ o, k, d, q, nk⟩
            · exact z2 j hj
      · cases e
  | false :: b, t :: ts, ds, vs, e, h, hl => by
    obtain ⟨v, r, e1, h1, h2⟩ := h
    subst e1
    unfold argsIn at e
    split at e
    · rename_i d ds' q1 q2
      cases e
      have rest : ∀ i ∈ lent ρ b ts, ∀ a, OwnAt ρ σ i a → ¬ M' a := fun i hi => hl i (by
        unfold lent
        cases t with
        | slot j => exact List.mem_append_right _ hi
        | _ => exact hi)
      obtain ⟨z1, z2⟩ := args_rel R sub b ts ds' r q2 h2 rest
      have mv : Mov (MM ρ σ M0) M' H H := .same R.mo sub
      have rp : Rep G M' H d v := by
        cases t with
        | val d' => cases q1; exact Rep.mov mv _ _ h1
        | own d' => exact h1.elim
        | slot i =>
          have h1 : σ[i]? = some (some v) := h1
          dsimp only [T.b] at q1
          split at q1
          · rename_i k d' q
            cases q1
            obtain ⟨a, o, rt⟩ := R.own q
            have ev := o.2
            rw [h1] at ev
            cases ev
            refine rt.rep mv rfl (hl i ?_ a o)
            unfold lent
            rw [q]
            exact List.mem_cons_self
          · rename_i d' q
            cases q1
            obtain ⟨w, ew, rp⟩ := R.val q
            rw [h1] at ew
            cases ew
            exact Rep.mov mv _ _ rp
          · cases q1
      refine ⟨?_, fun j hj => z2 j ?_⟩
      · cases t <;> exact .val rp z1
      · cases t <;> exact hj
    · cases e
theorem Root.clean {d : D} {a : Addr} (h : Root G M H d a) (c : d.kids = true) : Root G M' H d a := by
  cases d with
  | lst xs =>
    obtain ⟨vs, e, r⟩ := h
    exact ⟨vs, e, Reps.clean xs vs c r⟩
  | dct xs =>
    obtain ⟨vs, e, r⟩ := h
    exact ⟨vs, e, Repk.clean xs vs c r⟩
  | _ => exact h.elim
/-- the caller's state behind a call -/
theorem after_call {is ls : List Nat} {outs : List D} {l : List (D × Addr)} {Tv : Ms} (R : StRel G M0 ρ σ H) (nd : is.Nodup) (ho : ∀ i ∈ is, OwnAt ρ σ i (adr σ i) ∧ ∃ k d, ρ[i]? = some (.own k d) ∧ k ≠ .lck)
    (hp : putOuts is outs ρ = some ρ') (l1 : l.map (·.1) = outs) (l2 : l.map (·.2) = is.map (adr σ)) (hr : ∀ p ∈ l, Root G (fun a => Tv a ∨ (MM ρ σ M0 a ∧ a ∉ is.map (adr σ) ∧ ∀ i ∈ ls, ¬ OwnAt ρ σ i a) ∨ a ∈ is.map (adr σ)) H' p.1 p.2)
    (mo : ∀ a, ((MM ρ σ M0 a ∧ a ∉ is.map (adr σ) ∧ ∀ i ∈ ls, ¬ OwnAt ρ σ i a) ∨ a ∈ is.map (adr σ)) → MutO (H' a)) (st : ∀ b o, H b = some o → b ∉ is.map (adr σ) → H' b = some o) (tr : ∀ b, H' b = none → H b = none)
    (ht : ∀ a, Tv a → H a = none ∧ MutO (H' a)) (hc : ls = [] ∨ ∀ d ∈ outs, d.kids = true) :
    StRel G (fun a => Tv a ∨ M0 a) ρ' σ H' ∧ Ext ρ σ H ρ' σ H' ∧ (ls = [] → Mov (fun a => Tv a ∨ (MM ρ σ M0 a ∧ a ∉ is.map (adr σ) ∧ ∀ i ∈ ls, ¬ OwnAt ρ σ i a) ∨ a ∈ is.map (adr σ)) (MM ρ' σ fun a => Tv a ∨ M0 a) H' H') := by
  obtain ⟨p1, p2, p3, p4⟩ := putOuts_spec is outs ρ ρ' nd hp
  have spec : ∀ i ∈ is, ∃ k d0 d, ρ[i]? = some (.own k d0) ∧ ρ'[i]? = some (.own k d) ∧ d ∈ outs ∧ Root G (fun a => Tv a ∨ (MM ρ σ M0 a ∧ a ∉ is.map (adr σ) ∧ ∀ i ∈ ls, ¬ OwnAt ρ σ i a) ∨ a ∈ is.map (adr σ)) H' d (adr σ i) := fun i hi => by
    obtain ⟨n, hn, e⟩ := List.mem_iff_getElem.mp hi
    have hlen : l.length = is.length := by
      have := congrArg List.length l2
      simpa using this
    have hnl : n < l.length := by omega
    have e1 : outs[n]? = some (l[n]).1 := by rw [← l1, List.getElem?_map, List.getElem?_eq_getElem hnl]; rfl
    have e2 : (l[n]).2 = adr σ i := by
      have z : (l.map (·.2))[n]? = (is.map (adr σ))[n]? := by rw [l2]
      rw [List.getElem?_map, List.getElem?_map, List.getElem?_eq_getElem hnl, List.getElem?_eq_getElem hn, e] at z
      exact Option.some.inj z
    obtain ⟨k, d0, a1, a2⟩ := p4 n i _ (by rw [List.getElem?_eq_getElem hn, e]) e1
    refine ⟨k, d0, _, a1, a2, List.mem_of_getElem? e1, ?_⟩
    rw [← e2]
    exact hr _ (List.getElem_mem hnl)
  have own_eq : ∀ j a, OwnAt ρ' σ j a ↔ OwnAt ρ σ j a := fun j a => by
    by_cases hj : j ∈ is
    · obtain ⟨k, d0, d, a1, a2, _⟩ := spec j hj
      exact ⟨fun q => ⟨⟨k, d0, a1⟩, q.2⟩, fun q => ⟨⟨k, d, a2⟩, q.2⟩⟩
    · unfold OwnAt
      rw [p3 j hj]
  have mm : ∀ a, MM ρ' σ (fun a => Tv a ∨ M0 a) a → Tv a ∨ MM ρ σ M0 a := fun a q => by
    rcases q with ⟨i, q⟩ | q | q
    · exact .inr (.inl ⟨i, (own_eq i a).mp q⟩)
    · exact .inl q
    · exact .inr (.inr q)
  have notas : ∀ b, (∀ i, ¬ OwnAt ρ σ i b) → b ∉ is.map (adr σ) := fun b n hb => by
    obtain ⟨i, hi, e⟩ := List.mem_map.mp hb
    exact n i (e ▸ (ho i hi).1)
  have mv : Mov (MM ρ σ M0) (MM ρ' σ fun a => Tv a ∨ M0 a) H H' := ⟨R.mo, fun b o e n => st b o e (notas b fun i q => n (.inl ⟨i, q⟩)), fun a q => by
    rcases mm a q with z | z
    · exact .inr (ht a z).1
    · exact .inl z⟩
  have keep : ∀ a, MutO (H a) → a ∉ is.map (adr σ) → H' a = H a := fun a m n => by
    cases e : H a with
    | none => rw [e] at m; exact m.elim
    | some o => exact st a o e n
  have mo2 : ∀ a, MM ρ' σ (fun a => Tv a ∨ M0 a) a → MutO (H' a) := fun a q => by
    rcases mm a q with z | z
    · exact (ht a z).2
    · by_cases ha : a ∈ is.map (adr σ)
      · exact mo a (.inr ha)
      · rw [keep a (R.mo a z) ha]
        exact R.mo a z
  have back : ls = [] → Mov (fun a => Tv a ∨ (MM ρ σ M0 a ∧ a ∉ is.map (adr σ) ∧ ∀ i ∈ ls, ¬ OwnAt ρ σ i a) ∨ a ∈ is.map (adr σ)) (MM ρ' σ fun a => Tv a ∨ M0 a) H' H' := fun e => by
    refine ⟨fun a q => ?_, fun _ _ h _ => h, fun a q => ?_⟩
    · rcases q with q | q
      · exact (ht a q).2
      · exact mo a q
    · rcases mm a q with z | z
      · exact .inl (.inl z)
      · by_cases ha : a ∈ is.map (adr σ)
        · exact .inl (.inr (.inr ha))
        · exact .inl (.inr (.inl ⟨z, ha, fun i hi => by rw [e] at hi; cases hi⟩))
  refine ⟨⟨by rw [p1]; exact R.len, fun i j a q1 q2 => R.inj i j a ((own_eq i a).mp q1) ((own_eq j a).mp q2), fun i a q z => ?_, mo2, fun j t ej => ?_⟩, ⟨fun b o e n => st b o e (notas b n), tr, fun i a q => .inl ⟨i, (own_eq i a).mp q⟩, fun i k d e nk => ⟨rfl, ?_⟩⟩, back⟩
  · have q := (own_eq i a).mp q
    rcases z with z | z
    · have := R.mo a (.inl ⟨i, q⟩)
      rw [(ht a z).1] at this
      exact this
    · exact R.dis i a q z
  · by_cases hj : j ∈ is
    · obtain ⟨k, d0, d, a1, a2, hd, rt⟩ := spec j hj
      rw [a2] at ej
      cases ej
      refine ⟨_, (ho j hj).1.2, ?_⟩
      show Root G _ H' d (adr σ j)
      rcases hc with hc | hc
      · exact rt.mov (back hc) rfl
      · exact rt.clean (hc d hd)
    · rw [p3 j hj] at ej
      obtain ⟨w, ew, h⟩ := R.sl j t ej
      refine ⟨w, ew, ?_⟩
      cases t with
      | no => trivial
      | val d' =>
        cases w with
        | none => exact h.elim
        | some w => exact Rep.mov mv _ _ h
      | own kk d' =>
        cases w with
        | none => exact h.elim
        | some w =>
          cases w with
          | ref b =>
            have o : OwnAt ρ σ j b := ⟨⟨kk, d', ej⟩, ew⟩
            refine Root.mov mv h (keep b (R.mo b (.inl ⟨j, o⟩)) fun hb => ?_)
            obtain ⟨i, hi, e⟩ := List.mem_map.mp hb
            exact hj (R.inj _ _ _ (e ▸ (ho i hi).1) o ▸ hi)
          | _ => exact h.elim
  · by_cases hi : i ∈ is
    · obtain ⟨k', d0, d', a1, a2, _⟩ := spec i hi
      rw [a1] at e
      cases e
      obtain ⟨_, k2, d2, b1, b2⟩ := ho i hi
      rw [a1] at b1
      cases b1
      exact ⟨d', a2, fun q => absurd q b2⟩
    · exact ⟨d, by rw [p3 i hi]; exact e, fun _ => rfl⟩

theorem nodup_adr {is : List Nat} (R : StRel G M0 ρ σ H) (nd : is.Nodup) (ho : ∀ i ∈ is, OwnAt ρ σ i (adr σ i)) : (is.map (adr σ)).Nodup := by
  refine List.pairwise_map.mpr (List.Pairwise.imp_of_mem (fun {i j} hi hj n e => n ?_) nd)
  exact R.inj i j _ (ho i hi) (e ▸ ho j hj)
/-- a call, from its promise -/
theorem call_fin {b : List Bool} {f : List D → FR} {ts : List T} {vs : List V} {Q : V → Hp → Prop} (R : StRel G M0 ρ σ H) (tw : TWs G (MM ρ σ M0) σ H ts vs) (h : FinT G W M0 ρ σ H (callR b f ts ρ) Q) : spOf G b f vs H Q (fun cls dd H' => W cls dd σ H') := by
  unfold callR at h
  split at h
  · exact h.elim
  · rename_i ds e1
    split at h
    · rename_i nd
      obtain ⟨nd, dj⟩ := nd
      have ho := (args_rel (M' := fun _ => False) R (fun _ q => q.elim) b ts ds vs e1 tw (fun _ _ _ _ q => q.elim)).2
      generalize hio : ioSlots b ts = is at nd dj ho h
      generalize hls : lent ρ b ts = ls at dj h
      have sub : ∀ a, ((MM ρ σ M0 a ∧ a ∉ is.map (adr σ) ∧ ∀ i ∈ ls, ¬ OwnAt ρ σ i a) ∨ a ∈ is.map (adr σ)) → MM ρ σ M0 a := fun a q => by
        rcases q with q | q
        · exact q.1
        · obtain ⟨i, hi, e⟩ := List.mem_map.mp q
          exact .inl ⟨i, e ▸ (ho i hi).1⟩
      have hl : ∀ i ∈ lent ρ b ts, ∀ a, OwnAt ρ σ i a → ¬ ((MM ρ σ M0 a ∧ a ∉ is.map (adr σ) ∧ ∀ i ∈ ls, ¬ OwnAt ρ σ i a) ∨ a ∈ is.map (adr σ)) := fun i hi a o q => by
        rw [hls] at hi
        rcases q with q | q
        · exact q.2.2 i hi o
        · obtain ⟨j, hj, e⟩ := List.mem_map.mp q
          have := R.inj i j a o (e ▸ (ho j hj).1)
          subst this
          exact dj i hj hi
      obtain ⟨ar, _⟩ := args_rel R sub b ts ds vs e1 tw hl
      rw [hio] at ar
      refine ⟨_, ds, is.map (adr σ), ar, nodup_adr R nd fun i hi => (ho i hi).1, fun a ha q => q.2.1 ha, fun a q => R.mo a (sub a q), ?_⟩
      split at h
      · rename_i o d outs ef
        try rw [ef]
        cases o with
        | true =>
          simp only [if_true] at h
          split at h
          · rename_i hc
            split at h
            · rename_i ρ' ep
              intro v H' pc
              obtain ⟨l, l1, l2, hr⟩ := pc.outs
              have hcl : ls = [] ∨ ∀ d ∈ outs, d.kids = true := hc.imp id fun q => by
                rw [Bool.and_eq_true] at q
                exact List.all_eq_true.mp q.2
              obtain ⟨a, ev, rt, fr, mt⟩ := pc.val
              subst ev
              obtain ⟨z1, z2, z3⟩ := after_call (Tv := fun c => c = a) (ls := ls) R nd ho ep l1 l2 hr pc.mo pc.st pc.tr (fun c e => by subst e; exact ⟨fr, mt⟩) hcl
              refine h _ H' ⟨z1, ⟨a, rfl, ?_⟩, fun c e => by have e : c = a := e; subst e; exact fr, z2⟩
              rcases hc with hc | hc
              · exact rt.mov (z3 hc) rfl
              · rw [Bool.and_eq_true] at hc
                exact rt.clean hc.1
            · exact h.elim
          · exact h.elim
        | false =>
          simp only [Bool.false_eq_true, if_false] at h
          split at h
          · rename_i hc
            split at h
            · rename_i ρ' ep
              intro v H' pc
              obtain ⟨l, l1, l2, hr⟩ := pc.outs
              have hcl : ls = [] ∨ ∀ d ∈ outs, d.kids = true := hc.imp id fun q => by
                rw [Bool.and_eq_true] at q
                exact List.all_eq_true.mp q.2
              have rp := pc.val
              obtain ⟨z1, z2, z3⟩ := after_call (Tv := fun _ => False) (ls := ls) R nd ho ep l1 l2 hr pc.mo pc.st pc.tr (fun c e => e.elim) hcl
              refine h v H' ⟨z1, ?_, fun c e => e.elim, z2⟩
              rcases hc with hc | hc
              · refine Rep.mov (z3 hc) _ _ ?_
                have e : (fun a => False ∨ (MM ρ σ M0 a ∧ a ∉ is.map (adr σ) ∧ ∀ i ∈ ls, ¬ OwnAt ρ σ i a) ∨ a ∈ is.map (adr σ)) = fun a => (MM ρ σ M0 a ∧ a ∉ is.map (adr σ) ∧ ∀ i ∈ ls, ¬ OwnAt ρ σ i a) ∨ a ∈ is.map (adr σ) := by
                  funext a
                  exact propext ⟨fun q => q.elim False.elim id, .inr⟩
                rw [e]
                exact rp
              · rw [Bool.and_eq_true] at hc
                exact Rep.clean _ _ hc.1 rp
            · exact h.elim
          · exact h.elim
      · rename_i x outs ef
        try rw [ef]
        split at h
        · rename_i hc
          split at h
          · rename_i ρ' ep
            intro cls dd H' px
            obtain ⟨l, l1, l2, hr⟩ := px.outs
            have hcl : ls = [] ∨ ∀ d ∈ outs, d.kids = true := hc.imp id fun q => List.all_eq_true.mp q
            have e : (fun a => (MM ρ σ M0 a ∧ a ∉ is.map (adr σ) ∧ ∀ i ∈ ls, ¬ OwnAt ρ σ i a) ∨ a ∈ is.map (adr σ)) = (fun a => False ∨ (MM ρ σ M0 a ∧ a ∉ is.map (adr σ) ∧ ∀ i ∈ ls, ¬ OwnAt ρ σ i a) ∨ a ∈ is.map (adr σ)) := by
              funext a
              exact propext ⟨.inr, fun q => q.elim False.elim id⟩
            obtain ⟨z1, z2, _⟩ := after_call (Tv := fun _ => False) (ls := ls) R nd ho ep l1 l2 (by rw [← e]; exact hr) px.mo px.st px.tr (fun c e => e.elim) hcl
            have z1' : StRel G M0 ρ' σ H' := z1.out fun b q => .inr q
            exact h cls dd H' ⟨z1', px.x, z2⟩
          · exact h.elim
        · exact h.elim
      · exact h.elim
    · exact h.elim
end
end Py

set_option Elab.async false
set_option linter.all false
set_option maxRecDepth 100000
namespace Py
open PySem PySem.Spec
open PyProof.Rows L2

section
variable {G : Gt} {W : WX} {M M' M0 : Ms} {ρ ρ' : Env} {σ : L2.St} {H H' : Hp}
/-- the owned object of a slot is written -/
theorem StRel.put {i : Nat} {k : OwnK} {d d' : D} {a : Addr} {o : HO} (R : StRel G M0 ρ σ H) (e : ρ[i]? = some (.own k d)) (nk : k ≠ .lck) (oa : OwnAt ρ σ i a) (mo : MutO (some o))
    (hr : ∀ M', Mov (MM ρ σ M0) M' H (upd H a o) → Root G M' (upd H a o) d' a) : StRel G M0 (ρ.set i (.own k d')) σ (upd H a o) ∧ Ext ρ σ H (ρ.set i (.own k d')) σ (upd H a o) ∧ Mov (MM ρ σ M0) (MM (ρ.set i (.own k d')) σ M0) H (upd H a o) := by
  have hi := (List.getElem?_eq_some_iff.mp e).1
  have own_eq : ∀ j b, OwnAt (ρ.set i (.own k d')) σ j b ↔ OwnAt ρ σ j b := fun j b => by
    by_cases q : j = i
    · subst q
      exact ⟨fun z => ⟨⟨k, d, e⟩, z.2⟩, fun z => own_set_eq z⟩
    · exact ⟨fun z => by
        rcases own_set z with ⟨w, _⟩ | ⟨_, w⟩
        · exact absurd w q
        · exact w, fun z => own_set_ne z q⟩
  have mm : ∀ b, MM (ρ.set i (.own k d')) σ M0 b ↔ MM ρ σ M0 b := fun b => by
    constructor
    · rintro (⟨j, z⟩ | z)
      · exact .inl ⟨j, (own_eq j b).mp z⟩
      · exact .inr z
    · rintro (⟨j, z⟩ | z)
      · exact .inl ⟨j, (own_eq j b).mpr z⟩
      · exact .inr z
  have mv : Mov (MM ρ σ M0) (MM (ρ.set i (.own k d')) σ M0) H (upd H a o) := ⟨R.mo, fun b u h n => by
      rw [upd_ne (fun z => n (by rw [z]; exact .inl ⟨i, oa⟩))]
      exact h, fun b q => .inl ((mm b).mp q)⟩
  refine ⟨⟨by rw [List.length_set]; exact R.len, fun j l b p q => R.inj j l b ((own_eq j b).mp p) ((own_eq l b).mp q), fun j b p => R.dis j b ((own_eq j b).mp p), fun b q => ?_, fun j t ej => ?_⟩, ⟨fun b u h n => ?_, fun b h => ?_, fun j b q => .inl ⟨j, (own_eq j b).mp q⟩, fun j k' d2 ej n2 => ⟨rfl, ?_⟩⟩, mv⟩
  · by_cases z : b = a
    · rw [z, upd_same]; exact mo
    · rw [upd_ne z]; exact R.mo b ((mm b).mp q)
  · by_cases q : j = i
    · subst q
      rw [List.getElem?_set_self hi] at ej
      cases ej
      exact ⟨_, oa.2, hr _ mv⟩
    · rw [List.getElem?_set_ne (Ne.symm q)] at ej
      obtain ⟨w, ew, h⟩ := R.sl j t ej
      refine ⟨w, ew, ?_⟩
      cases t with
      | no => trivial
      | val d2 =>
        cases w with
        | none => exact h.elim
        | some w => exact Rep.mov mv _ _ h
      | own kk d2 =>
        cases w with
        | none => exact h.elim
        | some w =>
          cases w with
          | ref b =>
            refine Root.mov mv h (upd_ne fun z => q ?_)
            subst z
            exact R.inj j i b ⟨⟨kk, d2, ej⟩, ew⟩ oa
          | _ => exact h.elim
  · rw [upd_ne fun z => n i (by rw [z]; exact oa)]
    exact h
  · by_cases z : b = a
    · rw [z, upd_same] at h; cases h
    · rw [upd_ne z] at h; exact h
  · by_cases q : j = i
    · subst q
      rw [e] at ej
      cases ej
      exact ⟨d', List.getElem?_set_self hi, fun z => absurd z nk⟩
    · exact ⟨d2, by rw [List.getElem?_set_ne (Ne.symm q)]; exact ej, fun _ => rfl⟩
end
section
variable {X : Cx} {G : Gt}
def Mu.id : Mu → String
  | .append => "list.append" | .pop0 => "list.pop" | .pop1 => "list.pop" | .extend => "list.extend"
/-- a list's method that changes it, by values -/
def rMu (G : Gt) (m : Mu) : V → List V → Hp → VK → Prop := fun x xs H Q => ∃ M a d ds r d' vs, x = .ref a ∧ d = D.lst ds ∧ H a = some (.lst vs) ∧ Reps G M H ds vs ∧ (∃ es, Reps G M H es xs ∧ muD m d es = some (r, d')) ∧
  ∀ v us ds', d' = .lst ds' → Rep G M H r v → Reps G M H ds' us → Q v (upd H a (.lst us))
theorem mt_mu (m : Mu) : MtR X m.id (rMu G m) := by
  intro pins s σ H x xs v us Q I rx rxs h
  obtain ⟨M, a, d, ds, r, d', vs, rfl, rfl, ha, hr, ⟨es, he, hm⟩, q⟩ := h
  cases m with
  | append =>
    match es, he, hm with
    | [], _, hm => simp [muD] at hm
    | _ :: _ :: _, _, hm => simp [muD] at hm
    | [e], he, hm =>
      obtain ⟨w, r', rfl, h1, h2⟩ : ∃ v r, xs = v :: r ∧ Rep G M H e v ∧ Reps G M H [] r := by simpa only [Reps] using he
      have h2 : r' = [] := by simpa only [Reps] using h2
      subst h2
      unfold muD at hm
      dsimp only at hm
      split at hm
      · rename_i hl
        cases hm
        exact mt_append pins s σ H _ _ v us Q I rx rxs ⟨a, vs, w, rfl, rfl, ha, by rw [hr.length]; exact small6' hl, q _ _ _ rfl (by simp only [Rep]) (hr.append (.one h1))⟩
      · cases hm
  | pop0 =>
    match es, he, hm with
    | _ :: _, _, hm => simp [muD] at hm
    | [], he, hm =>
      have he : xs = [] := by simpa only [Reps] using he
      subst he
      unfold muD at hm
      dsimp only at hm
      rw [Option.map_eq_some_iff] at hm
      obtain ⟨e, e1, e2⟩ := hm
      cases e2
      obtain ⟨w, e3, e4⟩ := hr.get e1
      exact mt_pop pins s σ H _ _ v us Q I rx rxs ⟨a, vs, w, rfl, rfl, ha, by rw [hr.length]; exact e3, q _ _ _ rfl e4 hr.dropLast⟩
  | pop1 =>
    match es, he, hm with
    | [], _, hm => simp [muD] at hm
    | _ :: _ :: _, _, hm => simp [muD] at hm
    | [e], he, hm =>
      obtain ⟨w, r', rfl, h1, h2⟩ : ∃ v r, xs = v :: r ∧ Rep G M H e v ∧ Reps G M H [] r := by simpa only [Reps] using he
      have h2 : r' = [] := by simpa only [Reps] using h2
      subst h2
      cases e with
      | int i =>
        simp only [Rep] at h1
        subst h1
        unfold muD at hm
        dsimp only at hm
        split at hm
        · rename_i k e1
          split at hm
          · rename_i hb
            rw [Option.map_eq_some_iff] at hm
            obtain ⟨e, e2, e3⟩ := hm
            cases e3
            obtain ⟨w, e4, e5⟩ := hr.get e2
            exact mt_popAt pins s σ H _ _ v us Q I rx rxs ⟨a, vs, i, k, w, rfl, rfl, ha, hb.1, hb.2, by rw [hr.length]; exact e1, e4, q _ _ _ rfl e5 (hr.eraseIdx k)⟩
          · cases hm
        · cases hm
      | _ => simp [muD] at hm
  | extend =>
    match es, he, hm with
    | [], _, hm => simp [muD] at hm
    | _ :: _ :: _, _, hm => simp [muD] at hm
    | [e], he, hm =>
      obtain ⟨w, r', rfl, h1, h2⟩ : ∃ v r, xs = v :: r ∧ Rep G M H e v ∧ Reps G M H [] r := by simpa only [Reps] using he
      have h2 : r' = [] := by simpa only [Reps] using h2
      subst h2
      cases e with
      | lst ys =>
        unfold muD at hm
        dsimp only at hm
        split at hm
        · rename_i hl
          cases hm
          obtain ⟨b, us', rfl, h3, h4⟩ := (Rep.bor h1).lst
          exact mt_extend pins s σ H _ _ v us Q I rx rxs ⟨a, b, vs, us', rfl, rfl, ha, h3, by rw [hr.length, h4.length]; exact small6 hl, q _ _ _ rfl (by simp only [Rep]) (hr.append h4)⟩
        · cases hm
      | _ => simp [muD] at hm
theorem muD_lst {m : Mu} {ds es : List D} {r d' : D} (h : muD m (.lst ds) es = some (r, d')) : ∃ ds', d' = .lst ds' := by
  unfold muD at h
  split at h <;> (try split at h) <;> (try split at h) <;> first | cases h | skip
  all_goals first | exact ⟨_, rfl⟩ | (rw [Option.map_eq_some_iff] at h; obtain ⟨_, _, e⟩ := h; cases e; exact ⟨_, rfl⟩)
end
end Py

set_option Elab.async false
set_option linter.all false
set_option maxRecDepth 100000
namespace Py
open PySem PySem.Spec
open PyProof.Rows L2

section
variable {G : Gt} {W : WX} {M M' M0 : Ms} {ρ ρ' : Env} {σ σ' : L2.St} {H H' : Hp}
theorem free_own {i : Nat} (f : free ρ i = true) {k : OwnK} {d : D} (e : ρ[i]? = some (.own k d)) : k = .loc := by
  unfold free at f
  rw [e] at f
  cases k <;> first | rfl | cases f
theorem free_lt {i : Nat} (f : free ρ i = true) : i < ρ.length := by
  unfold free at f
  cases e : ρ[i]? with
  | none => rw [e] at f; cases f
  | some s => exact (List.getElem?_eq_some_iff.mp e).1
theorem own_put {i j : Nat} {s : Slot} {x : Option V} {a : Addr} (h : OwnAt (ρ.set i s) (σ.set i x) j a) : (j = i ∧ (∃ k d, s = .own k d) ∧ x = some (.ref a)) ∨ (j ≠ i ∧ OwnAt ρ σ j a) := by
  obtain ⟨⟨k, d, e⟩, e2⟩ := h
  by_cases q : j = i
  · subst q
    refine .inl ⟨rfl, ?_⟩
    have l1 : j < ρ.length := by
      have := (List.getElem?_eq_some_iff.mp e).1
      rwa [List.length_set] at this
    have l2 : j < σ.length := by
      have := (List.getElem?_eq_some_iff.mp e2).1
      rwa [List.length_set] at this
    rw [List.getElem?_set_self l1] at e
    rw [List.getElem?_set_self l2] at e2
    exact ⟨⟨k, d, Option.some.inj e⟩, Option.some.inj e2⟩
  · rw [List.getElem?_set_ne (Ne.symm q)] at e e2
    exact .inr ⟨q, ⟨k, d, e⟩, e2⟩
theorem own_put_ne {i j : Nat} {s : Slot} {x : Option V} {a : Addr} (h : OwnAt ρ σ j a) (n : j ≠ i) : OwnAt (ρ.set i s) (σ.set i x) j a := by
  obtain ⟨⟨k, d, e⟩, e2⟩ := h
  exact ⟨⟨k, d, by rw [List.getElem?_set_ne (Ne.symm n)]; exact e⟩, by rw [List.getElem?_set_ne (Ne.symm n)]; exact e2⟩
/-- a slot gets another content; s: what is owned there -/
theorem StRel.store {i : Nat} {s : Slot} {v : V} {M1 : Ms} (R : StRel G M1 ρ σ H) (f : free ρ i = true) (h1 : ∀ b, M0 b → M1 b)
    (hs : (∃ d, s = .val d ∧ (∀ b, M1 b → M0 b) ∧ Rep G (MM ρ σ M1) H d v) ∨ (∃ d a, s = .own .loc d ∧ v = .ref a ∧ (∀ b, M1 b ↔ (b = a ∨ M0 b)) ∧ ¬ M0 a ∧ Root G (MM ρ σ M1) H d a)) :
    StRel G M0 (ρ.set i s) (σ.set i (some v)) H ∧ (∀ j a, OwnAt (ρ.set i s) (σ.set i (some v)) j a → (j ≠ i ∧ OwnAt ρ σ j a) ∨ (j = i ∧ M1 a ∧ ¬ M0 a)) ∧
      Mov (MM ρ σ M1) (MM (ρ.set i s) (σ.set i (some v)) M0) H H := by
  have li := free_lt f
  have own : ∀ j a, OwnAt (ρ.set i s) (σ.set i (some v)) j a → (j ≠ i ∧ OwnAt ρ σ j a) ∨ (j = i ∧ M1 a ∧ ¬ M0 a) := fun j a q => by
    rcases own_put q with ⟨e1, ⟨k, d, e2⟩, e3⟩ | z
    · refine .inr ⟨e1, ?_⟩
      rcases hs with ⟨d', e4, _⟩ | ⟨d', b, e4, e5, e6, n, _⟩
      · rw [e4] at e2; cases e2
      · rw [e5] at e3
        cases e3
        exact ⟨(e6 _).mpr (.inl rfl), n⟩
    · exact .inl z
  have sub : ∀ b, MM (ρ.set i s) (σ.set i (some v)) M0 b → MM ρ σ M1 b := fun b q => by
    rcases q with ⟨j, q⟩ | q
    · rcases own j b q with ⟨_, z⟩ | ⟨_, z, _⟩
      · exact .inl ⟨j, z⟩
      · exact .inr z
    · exact .inr (h1 b q)
  have mv : Mov (MM ρ σ M1) (MM (ρ.set i s) (σ.set i (some v)) M0) H H := .same R.mo sub
  refine ⟨⟨by rw [List.length_set, List.length_set]; exact R.len, fun j l b p q => ?_, fun j b p z => ?_, fun b q => R.mo b (sub b q), fun j t ej => ?_⟩, own, mv⟩
  · rcases own j b p with ⟨n1, z1⟩ | ⟨n1, z1, _⟩
    · rcases own l b q with ⟨n2, z2⟩ | ⟨n2, z2, _⟩
      · exact R.inj j l b z1 z2
      · exact absurd z2 (R.dis j b z1)
    · rcases own l b q with ⟨n2, z2⟩ | ⟨n2, z2, _⟩
      · exact absurd z1 (R.dis l b z2)
      · rw [n1, n2]
  · rcases own j b p with ⟨n1, z1⟩ | ⟨n1, z1, n⟩
    · exact R.dis j b z1 (h1 b z)
    · exact n z
  · by_cases q : j = i
    · subst q
      rw [List.getElem?_set_self li] at ej
      cases ej
      refine ⟨some v, by rw [List.getElem?_set_self (by rw [← R.len]; exact li)], ?_⟩
      rcases hs with ⟨d', e4, _, rp⟩ | ⟨d', b, e4, e5, e6, n, rt⟩
      · subst e4
        exact Rep.mov mv _ _ rp
      · subst e4 e5
        exact rt.mov mv rfl
    · rw [List.getElem?_set_ne (Ne.symm q)] at ej
      obtain ⟨w, ew, h⟩ := R.sl j t ej
      refine ⟨w, by rw [List.getElem?_set_ne (Ne.symm q)]; exact ew, ?_⟩
      cases t with
      | no => trivial
      | val d2 =>
        cases w with
        | none => exact h.elim
        | some w => exact Rep.mov mv _ _ h
      | own kk d2 =>
        cases w with
        | none => exact h.elim
        | some w =>
          cases w with
          | ref b => exact Root.mov mv h rfl
          | _ => exact h.elim
theorem ext_store {i : Nat} {s : Slot} {x : Option V} (f : free ρ i = true) (own : ∀ j a, OwnAt (ρ.set i s) (σ.set i x) j a → (∃ l, OwnAt ρ σ l a) ∨ H a = none) : Ext ρ σ H (ρ.set i s) (σ.set i x) H := by
  refine ⟨fun _ _ h _ => h, fun _ h => h, own, fun j k d e nk => ?_⟩
  have n : j ≠ i := fun q => by
    subst q
    exact nk (free_own f e)
  exact ⟨List.getElem?_set_ne (Ne.symm n), d, by rw [List.getElem?_set_ne (Ne.symm n)]; exact e, fun _ => rfl⟩
theorem StRel.putVal {i : Nat} {d : D} {v : V} (R : StRel G M0 ρ σ H) (f : free ρ i = true) (h : Rep G (MM ρ σ M0) H d v) :
    StRel G M0 (ρ.set i (.val d)) (σ.set i (some v)) H ∧ Ext ρ σ H (ρ.set i (.val d)) (σ.set i (some v)) H ∧ Mov (MM ρ σ M0) (MM (ρ.set i (.val d)) (σ.set i (some v)) M0) H H := by
  obtain ⟨z1, z2, z3⟩ := R.store (M0 := M0) f (fun _ q => q) (.inl ⟨d, rfl, fun _ q => q, h⟩)
  refine ⟨z1, ext_store f fun j a q => ?_, z3⟩
  rcases z2 j a q with ⟨_, z⟩ | ⟨_, z, n⟩
  · exact .inl ⟨j, z⟩
  · exact absurd z n
/-! ### targets -/
def gNames (is : List Nat) : TGs := match is with
  | [] => gNil
  | i :: r => gCons (gName i) (gNames r)
def gOf (K : PySem.W.Frag) : Tg → TG
  | .nm i => gName i
  | .tup is => gTup K is.length (gNames is)
theorem bindGo_ok {Q : L2.St → Hp → Prop} : ∀ (is : List Nat) (ds : List D) (vs : List V) (ρ ρ' : Env) (σ : L2.St), is.length = ds.length → StRel G M0 ρ σ H → Reps G (MM ρ σ M0) H ds vs → bindTg.go is ds ρ = some ρ' →
    (∀ σ', StRel G M0 ρ' σ' H → Ext ρ σ H ρ' σ' H → (∀ j, j ∉ is → σ'[j]? = σ[j]? ∧ ρ'[j]? = ρ[j]?) → σ'.length = σ.length → Q σ' H) → gNames is vs σ H Q
  | [], [], vs, ρ, ρ', σ, _, R, h, e, k => by
    have h : vs = [] := by simpa only [Reps] using h
    subst h
    cases e
    exact ⟨rfl, k σ R .refl (fun _ _ => ⟨rfl, rfl⟩) rfl⟩
  | [], _ :: _, _, _, _, _, l, _, _, _, _ => by cases l
  | _ :: _, [], _, _, _, _, l, _, _, _, _ => by cases l
  | i :: is, d :: ds, vs, ρ, ρ', σ, l, R, h, e, k => by
    obtain ⟨v, r, rfl, h1, h2⟩ : ∃ v r, vs = v :: r ∧ Rep G (MM ρ σ M0) H d v ∧ Reps G (MM ρ σ M0) H ds r := by simpa only [Reps] using h
    unfold bindTg.go at e
    split at e
    · rename_i f
      obtain ⟨R1, e1, m1⟩ := R.putVal f h1
      refine ⟨v, r, rfl, ?_⟩
      show gNames is r (σ.set i (some v)) H Q
      refine bindGo_ok is ds r _ ρ' _ (Nat.succ.inj l) R1 (Reps.mov m1 _ _ h2) e fun σ' R2 e2 hj hl => k σ' R2 (e1.trans e2) (fun j hn => ?_) (by rw [hl, List.length_set])
      rw [List.mem_cons, not_or] at hn
      obtain ⟨a, b⟩ := hj j hn.2
      exact ⟨by rw [a, List.getElem?_set_ne (Ne.symm hn.1)], by rw [b, List.getElem?_set_ne (Ne.symm hn.1)]⟩
    · cases e
def tgs : Tg → List Nat
  | .nm i => [i]
  | .tup is => is
theorem bind_ok {K : PySem.W.Frag} (hK : G.K = K) {Q : L2.St → Hp → Prop} {tg : Tg} {d : D} {v : V} (R : StRel G M0 ρ σ H) (h : Rep G (MM ρ σ M0) H d v) (e : bindTg tg d ρ = some ρ')
    (k : ∀ σ', StRel G M0 ρ' σ' H → Ext ρ σ H ρ' σ' H → (∀ j, j ∉ tgs tg → σ'[j]? = σ[j]? ∧ ρ'[j]? = ρ[j]?) → σ'.length = σ.length → Q σ' H) : gOf K tg v σ H Q := by
  cases tg with
  | nm i =>
    unfold bindTg at e
    dsimp only at e
    split at e
    · rename_i f
      cases e
      obtain ⟨R1, e1, m1⟩ := R.putVal f h
      refine k _ R1 e1 (fun j hn => ?_) (by rw [List.length_set])
      have n : j ≠ i := fun q => hn (by rw [q]; exact List.mem_cons_self)
      exact ⟨List.getElem?_set_ne (Ne.symm n), List.getElem?_set_ne (Ne.symm n)⟩
    · cases e
  | tup is =>
    cases d with
    | tup ds =>
      unfold bindTg at e
      dsimp only at e
      split at e
      · rename_i l
        simp only [Rep] at h
        obtain ⟨a, vs, rfl, h1, h2⟩ := h
        refine ⟨a, vs, rfl, hK ▸ h1, by rw [h2.length, ← l], ?_⟩
        exact bindGo_ok is ds vs ρ ρ' σ l R h2 e k
      · cases e
    | _ => cases e
theorem nm_ok {X : Cx} {sc : Scope} {i : Nat} {e : Expr} (hs : ∀ x k, k ≠ .free → sc.names.lookup x = some k → X.env.scope.names.lookup x = some k) (hN : X.N.Nodup) (hf : ∀ x, sc.names.lookup x = some .cell → X.fn x = true) (h : okNm X.N sc i e = true) : PG X e (gName i) := by
  unfold okNm at h
  split at h
  · rw [Bool.and_eq_true] at h
    have hi := of_decide_eq_true h.1
    have h2 := h.2
    split at h2
    · rename_i e
      have e := hs _ _ (by decide) e
      exact pg_name hN hi (.inl e) (.inr e)
    · rename_i e
      have e2 := hs _ _ (by decide) e
      exact pg_name hN hi (.inr e2) (.inl (hf _ e))
    · cases h2
  · cases h
theorem tg_ok {X : Cx} {sc : Scope} {tg : Tg} {t : Expr} (hs : ∀ x k, k ≠ .free → sc.names.lookup x = some k → X.env.scope.names.lookup x = some k) (hN : X.N.Nodup) (hc : X.calm = true) (hf : ∀ x, sc.names.lookup x = some .cell → X.fn x = true) (h : okTg X.N sc tg t = true) : PG X t (gOf X.K tg) := by
  cases tg with
  | nm i => exact nm_ok hs hN hf h
  | tup is =>
    simp only [okTg] at h
    split at h
    · rename_i es k pos
      have all : ∀ (is : List Nat) (es : List Expr), okNms X.N sc is es = true → PGs X es (gNames is) ∧ (assignEach es X.env).length = is.length ∧ (assignEach es X.env).findIdx? (·.1) = none := by
        intro is
        induction is with
        | nil =>
          intro es h
          cases es with
          | nil => exact ⟨pgs_nil, rfl, rfl⟩
          | cons e es => simp [okNms] at h
        | cons i is ih =>
          intro es h
          cases es with
          | nil => simp [okNms] at h
          | cons e es =>
            simp only [okNms, Bool.and_eq_true] at h
            obtain ⟨z1, z2, z3⟩ := ih es h.2
            have st : assignEach (e :: es) X.env = (false, assign e X.env) :: assignEach es X.env := by
              have q := h.1.2
              cases e <;> first | rfl | cases q
            refine ⟨pgs_cons (nm_ok hs hN hf h.1.1) z1 (by rw [st]; rfl), ?_, ?_⟩
            · rw [st]
              show (assignEach es X.env).length + 1 = is.length + 1
              rw [z2]
            · rw [st, List.findIdx?_cons]
              simp [z3]
      obtain ⟨z1, z2, z3⟩ := all is es h
      exact pg_tup hc z1 z2 z3
    · cases h
end
end Py

set_option Elab.async false
set_option linter.all false
set_option maxRecDepth 100000
namespace Py
open PySem PySem.Spec
open PyProof.Rows L2

/-! ### slots wiped and brought back -/
theorem wipe_in (σ : L2.St) (j : Nat) : ∀ vs : List Nat, j ∈ vs → (wipe σ vs)[j]? = if j < σ.length then some none else none
  | [], h => by cases h
  | v :: vs, h => by
    unfold wipe
    by_cases q : v = j
    · subst q
      by_cases l : v < (wipe σ vs).length
      · rw [List.getElem?_set_self l, if_pos (by rwa [wipe_length] at l)]
      · rw [List.getElem?_eq_none (by rw [List.length_set]; omega), if_neg (by rwa [wipe_length] at l)]
    · rw [List.getElem?_set_ne q]
      rcases List.mem_cons.mp h with z | z
      · exact absurd z.symm q
      · exact wipe_in σ j vs z
theorem wipe_out (σ : L2.St) (j : Nat) : ∀ vs : List Nat, j ∉ vs → (wipe σ vs)[j]? = σ[j]?
  | [], _ => rfl
  | v :: vs, h => by
    rw [List.mem_cons, not_or] at h
    unfold wipe
    rw [List.getElem?_set_ne (Ne.symm h.1)]
    exact wipe_out σ j vs h.2
theorem wipe_same {σ σ' : L2.St} {vs : List Nat} (hl : σ'.length = σ.length) (h : ∀ j, j ∉ vs → σ'[j]? = σ[j]?) : wipe σ' vs = wipe σ vs := by
  apply List.ext_getElem?
  intro j
  by_cases q : j ∈ vs
  · rw [wipe_in σ' j vs q, wipe_in σ j vs q, hl]
  · rw [wipe_out σ' j vs q, wipe_out σ j vs q, h j q]
theorem wipeE_length (ρ : Env) : ∀ vs : List Nat, (wipeE ρ vs).length = ρ.length
  | [] => rfl
  | v :: vs => by unfold wipeE; rw [List.length_set, wipeE_length ρ vs]
theorem wipeE_in (ρ : Env) (j : Nat) : ∀ vs : List Nat, j ∈ vs → (wipeE ρ vs)[j]? = if j < ρ.length then some .no else none
  | [], h => by cases h
  | v :: vs, h => by
    unfold wipeE
    by_cases q : v = j
    · subst q
      by_cases l : v < (wipeE ρ vs).length
      · rw [List.getElem?_set_self l, if_pos (by rwa [wipeE_length] at l)]
      · rw [List.getElem?_eq_none (by rw [List.length_set]; omega), if_neg (by rwa [wipeE_length] at l)]
    · rw [List.getElem?_set_ne q]
      rcases List.mem_cons.mp h with z | z
      · exact absurd z.symm q
      · exact wipeE_in ρ j vs z
theorem wipeE_out (ρ : Env) (j : Nat) : ∀ vs : List Nat, j ∉ vs → (wipeE ρ vs)[j]? = ρ[j]?
  | [], _ => rfl
  | v :: vs, h => by
    rw [List.mem_cons, not_or] at h
    unfold wipeE
    rw [List.getElem?_set_ne (Ne.symm h.1)]
    exact wipeE_out ρ j vs h.2
theorem backE_length (ρ ρ0 : Env) : ∀ vs : List Nat, (backE ρ ρ0 vs).length = ρ.length
  | [] => rfl
  | v :: vs => by unfold backE; rw [List.length_set, backE_length ρ ρ0 vs]
theorem backE_in (ρ ρ0 : Env) (hl : ρ.length = ρ0.length) (j : Nat) : ∀ vs : List Nat, j ∈ vs → (backE ρ ρ0 vs)[j]? = ρ0[j]?
  | [], h => by cases h
  | v :: vs, h => by
    unfold backE
    by_cases q : v = j
    · subst q
      by_cases l : v < ρ0.length
      · rw [List.getElem?_set_self (by rw [backE_length, hl]; exact l), List.getElem?_eq_getElem l, List.getD_eq_getElem?_getD, List.getElem?_eq_getElem l]
        rfl
      · rw [List.getElem?_eq_none (by rw [List.length_set, backE_length, hl]; omega), List.getElem?_eq_none (by omega)]
    · rw [List.getElem?_set_ne q]
      rcases List.mem_cons.mp h with z | z
      · exact absurd z.symm q
      · exact backE_in ρ ρ0 hl j vs z
theorem backE_out (ρ ρ0 : Env) (j : Nat) : ∀ vs : List Nat, j ∉ vs → (backE ρ ρ0 vs)[j]? = ρ[j]?
  | [], _ => rfl
  | v :: vs, h => by
    rw [List.mem_cons, not_or] at h
    unfold backE
    rw [List.getElem?_set_ne (Ne.symm h.1)]
    exact backE_out ρ ρ0 j vs h.2
section
variable {G : Gt} {W : WX} {M M' M0 M1 : Ms} {ρ ρ' ρ0 ρ1 ρL : Env} {σ σ' σ2 : L2.St} {H H' H1 : Hp} {own : List Nat}
theorem own_wipe {j : Nat} {a : Addr} (h : OwnAt (wipeE ρ own) (wipe σ own) j a) : j ∉ own ∧ OwnAt ρ σ j a := by
  obtain ⟨⟨k, d, e⟩, e2⟩ := h
  have n : j ∉ own := fun q => by
    rw [wipeE_in ρ j own q] at e
    split at e <;> cases e
  rw [wipeE_out ρ j own n] at e
  rw [wipe_out σ j own n] at e2
  exact ⟨n, ⟨k, d, e⟩, e2⟩
theorem StRel.wiped (R : StRel G M0 ρ σ H) (own : List Nat) : StRel G M0 (wipeE ρ own) (wipe σ own) H ∧ Mov (MM ρ σ M0) (MM (wipeE ρ own) (wipe σ own) M0) H H := by
  have sub : ∀ b, MM (wipeE ρ own) (wipe σ own) M0 b → MM ρ σ M0 b := fun b q => by
    rcases q with ⟨j, q⟩ | q
    · exact .inl ⟨j, (own_wipe q).2⟩
    · exact .inr q
  have mv : Mov (MM ρ σ M0) (MM (wipeE ρ own) (wipe σ own) M0) H H := .same R.mo sub
  refine ⟨⟨by rw [wipeE_length, wipe_length]; exact R.len, fun i j a p q => R.inj i j a (own_wipe p).2 (own_wipe q).2, fun i a p => R.dis i a (own_wipe p).2, fun a q => R.mo a (sub a q), fun j t ej => ?_⟩, mv⟩
  by_cases q : j ∈ own
  · rw [wipeE_in ρ j own q] at ej
    split at ej
    · rename_i l
      cases ej
      exact ⟨none, by rw [wipe_in σ j own q, if_pos (by rw [← R.len]; exact l)], trivial⟩
    · cases ej
  · rw [wipeE_out ρ j own q] at ej
    obtain ⟨w, ew, h⟩ := R.sl j t ej
    refine ⟨w, by rw [wipe_out σ j own q]; exact ew, ?_⟩
    cases t with
    | no => trivial
    | val d2 =>
      cases w with
      | none => exact h.elim
      | some w => exact Rep.mov mv _ _ h
    | own kk d2 =>
      cases w with
      | none => exact h.elim
      | some w =>
        cases w with
        | ref b => exact Root.mov mv h rfl
        | _ => exact h.elim
theorem ext_wiped {σw : L2.St} (e : Ext ρL σ H1 ρ σ2 H) (hw : wipe σ2 own = σw) (no : ∀ j ∈ own, notOwn ρL j = true) : Ext ρL σ H1 (wipeE ρ own) σw H := by
  subst hw
  refine ⟨e.st, e.tr, fun i a q => e.fr i a (own_wipe q).2, fun i k d ei nk => ?_⟩
  have n : i ∉ own := fun q => by
    have := no i q
    unfold notOwn at this
    rw [ei] at this
    cases this
  obtain ⟨z1, d', z2, z3⟩ := e.kp i k d ei nk
  exact ⟨by rw [wipe_out _ _ _ n]; exact z1, d', by rw [wipeE_out _ _ _ n]; exact z2, z3⟩
/-- the block is left -/
theorem back_ok {σw : L2.St} (RL : StRel G M0 ρL σ H1) (Rn : StRel G M1 ρ σw H) (e : Ext ρL σ H1 ρ σw H) (hw : σw = wipe σ own) (no : ∀ j ∈ own, notOwn ρL j = true) (hM : ∀ b, M1 b → M0 b ∨ H1 b = none) :
    StRel G M1 (backE ρ ρL own) σ H ∧ Ext ρL σ H1 (backE ρ ρL own) σ H ∧ (∀ j a, OwnAt (backE ρ ρL own) σ j a → OwnAt ρ σw j a) := by
  have ll : ρ.length = ρL.length := by rw [Rn.len, RL.len, hw, wipe_length]
  have own_b : ∀ j a, OwnAt (backE ρ ρL own) σ j a → j ∉ own ∧ OwnAt ρ σw j a := fun j a h => by
    obtain ⟨⟨k, d, e1⟩, e2⟩ := h
    have n : j ∉ own := fun q => by
      rw [backE_in ρ ρL ll j own q] at e1
      have := no j q
      unfold notOwn at this
      rw [e1] at this
      cases this
    rw [backE_out ρ ρL j own n] at e1
    exact ⟨n, ⟨k, d, e1⟩, by rw [hw, wipe_out σ j own n]; exact e2⟩
  have sub : ∀ b, MM (backE ρ ρL own) σ M1 b → MM ρ σw M1 b := fun b q => by
    rcases q with ⟨j, q⟩ | q
    · exact .inl ⟨j, (own_b j b q).2⟩
    · exact .inr q
  have mv : Mov (MM ρ σw M1) (MM (backE ρ ρL own) σ M1) H H := .same Rn.mo sub
  have mvL : Mov (MM ρL σ M0) (MM (backE ρ ρL own) σ M1) H1 H := ⟨RL.mo, fun b o h n => e.st b o h fun i q => n (.inl ⟨i, q⟩), fun b q => by
    rcases q with ⟨j, q⟩ | q
    · rcases e.fr j b (own_b j b q).2 with z | z
      · exact .inl (.inl z)
      · exact .inr z
    · rcases hM b q with z | z
      · exact .inl (.inr z)
      · exact .inr z⟩
  refine ⟨⟨by rw [backE_length, ll]; exact RL.len, fun i j a p q => Rn.inj i j a (own_b i a p).2 (own_b j a q).2, fun i a p => Rn.dis i a (own_b i a p).2, fun a q => Rn.mo a (sub a q), fun j t ej => ?_⟩, ⟨e.st, e.tr, fun i a q => e.fr i a (own_b i a q).2, fun i k d ei nk => ?_⟩, fun j a q => (own_b j a q).2⟩
  · by_cases q : j ∈ own
    · rw [backE_in ρ ρL ll j own q] at ej
      obtain ⟨w, ew, h⟩ := RL.sl j t ej
      refine ⟨w, ew, ?_⟩
      cases t with
      | no => trivial
      | val d2 =>
        cases w with
        | none => exact h.elim
        | some w => exact Rep.mov mvL _ _ h
      | own kk d2 =>
        have := no j q
        unfold notOwn at this
        rw [ej] at this
        cases this
    · rw [backE_out ρ ρL j own q] at ej
      obtain ⟨w, ew, h⟩ := Rn.sl j t ej
      rw [hw, wipe_out σ j own q] at ew
      refine ⟨w, ew, ?_⟩
      cases t with
      | no => trivial
      | val d2 =>
        cases w with
        | none => exact h.elim
        | some w => exact Rep.mov mv _ _ h
      | own kk d2 =>
        cases w with
        | none => exact h.elim
        | some w =>
          cases w with
          | ref b => exact Root.mov mv h rfl
          | _ => exact h.elim
  · have n : i ∉ own := fun q => by
      have := no i q
      unfold notOwn at this
      rw [ei] at this
      cases this
    obtain ⟨z1, d', z2, z3⟩ := e.kp i k d ei nk
    exact ⟨rfl, d', by rw [backE_out _ _ _ _ n]; exact z2, z3⟩
theorem unlock_ok {l : Option (Nat × OwnK)} {σ' : L2.St} (hl : LockOf ρ1 ρL l) (R : StRel G M1 ρ σ' H) (e : Ext ρL σ H1 ρ σ' H) : StRel G M1 (unlock ρ l) σ' H ∧ Ext ρ1 σ H1 (unlock ρ l) σ' H ∧ (∀ j a, OwnAt (unlock ρ l) σ' j a ↔ OwnAt ρ σ' j a) := by
  cases l with
  | none =>
    have hl : ρL = ρ1 := hl
    subst hl
    exact ⟨R, e, fun _ _ => .rfl⟩
  | some p =>
    obtain ⟨i, k⟩ := p
    obtain ⟨d, e1, e2⟩ := hl
    subst e2
    have hi := (List.getElem?_eq_some_iff.mp e1).1
    obtain ⟨s1, d', a1, a2⟩ := e.kp i .lck d (by rw [List.getElem?_set_self hi]) (by decide)
    have a2 := a2 rfl
    subst a2
    have un : unlock ρ (some (i, k)) = ρ.set i (.own k d') := by
      unfold unlock
      dsimp only
      rw [a1]
    rw [un]
    have hi2 := (List.getElem?_eq_some_iff.mp a1).1
    have own_eq : ∀ j a, OwnAt (ρ.set i (.own k d')) σ' j a ↔ OwnAt ρ σ' j a := fun j a => by
      by_cases q : j = i
      · subst q
        exact ⟨fun z => ⟨⟨_, d', a1⟩, z.2⟩, fun z => own_set_eq z⟩
      · exact ⟨fun z => by
          rcases own_set z with ⟨w, _⟩ | ⟨_, w⟩
          · exact absurd w q
          · exact w, fun z => own_set_ne z q⟩
    have ownL : ∀ j a, OwnAt (ρ1.set i (.own .lck d')) σ j a ↔ OwnAt ρ1 σ j a := fun j a => by
      by_cases q : j = i
      · subst q
        exact ⟨fun z => ⟨⟨_, d', e1⟩, z.2⟩, fun z => own_set_eq z⟩
      · exact ⟨fun z => by
          rcases own_set z with ⟨w, _⟩ | ⟨_, w⟩
          · exact absurd w q
          · exact w, fun z => own_set_ne z q⟩
    have mm : ∀ b, MM (ρ.set i (.own k d')) σ' M1 b ↔ MM ρ σ' M1 b := fun b => by
      constructor
      · rintro (⟨j, z⟩ | z)
        · exact .inl ⟨j, (own_eq j b).mp z⟩
        · exact .inr z
      · rintro (⟨j, z⟩ | z)
        · exact .inl ⟨j, (own_eq j b).mpr z⟩
        · exact .inr z
    have mv : Mov (MM ρ σ' M1) (MM (ρ.set i (.own k d')) σ' M1) H H := .same R.mo fun b q => (mm b).mp q
    refine ⟨⟨by rw [List.length_set]; exact R.len, fun x y a p q => R.inj x y a ((own_eq x a).mp p) ((own_eq y a).mp q), fun x a p => R.dis x a ((own_eq x a).mp p), fun a q => R.mo a ((mm a).mp q), fun j t ej => ?_⟩, ⟨fun b o h n => e.st b o h fun x q => n x ((ownL x b).mp q), e.tr, fun x a q => ?_, fun x kk dd ex nk => ?_⟩, own_eq⟩
    · by_cases q : j = i
      · subst q
        rw [List.getElem?_set_self hi2] at ej
        cases ej
        obtain ⟨w, ew, h⟩ := R.sl j _ a1
        refine ⟨w, ew, ?_⟩
        cases w with
        | none => exact h.elim
        | some w =>
          cases w with
          | ref b => exact Root.mov mv h rfl
          | _ => exact h.elim
      · rw [List.getElem?_set_ne (Ne.symm q)] at ej
        obtain ⟨w, ew, h⟩ := R.sl j t ej
        refine ⟨w, ew, ?_⟩
        cases t with
        | no => trivial
        | val d2 =>
          cases w with
          | none => exact h.elim
          | some w => exact Rep.mov mv _ _ h
        | own kk d2 =>
          cases w with
          | none => exact h.elim
          | some w =>
            cases w with
            | ref b => exact Root.mov mv h rfl
            | _ => exact h.elim
    · rcases e.fr x a ((own_eq x a).mp q) with ⟨y, z⟩ | z
      · exact .inl ⟨y, (ownL y a).mp z⟩
      · exact .inr z
    · by_cases q : x = i
      · subst q
        rw [e1] at ex
        cases ex
        exact ⟨s1, _, List.getElem?_set_self hi2, fun _ => rfl⟩
      · obtain ⟨z1, d2, z2, z3⟩ := e.kp x kk dd (by rw [List.getElem?_set_ne (Ne.symm q)]; exact ex) nk
        exact ⟨z1, d2, by rw [List.getElem?_set_ne (Ne.symm q)]; exact z2, z3⟩
end
end Py

set_option Elab.async false
set_option linter.all false
set_option maxRecDepth 100000
namespace Py
open PySem PySem.Spec
open PyProof.Rows L2

/-- a comprehension over readings -/
def compR (ri : Env → R (List D × Option (Nat × OwnK))) (tg : Tg) (rc : Env → R Bool) (re : Env → R T) (own : List Nat) : Env → R T := fun ρ => (ri ρ).bind fun p ρ1 =>
  if own.all (notOwn ρ1) then
    (match compLoop own tg rc re p.1 [] (wipeE ρ1 own) with
    | .ok ds ρ2 => .ok (.own (.lst ds)) (unlock (backE ρ2 ρ1 own) p.2)
    | _ => .bad)
  else .bad
abbrev WF : WX := fun _ _ _ _ => False
section
variable {G : Gt} {W : WX} {M M' M0 M1 : Ms} {ρ ρ' ρ0 ρ1 ρL : Env} {σ σ' σ2 : L2.St} {H H' H1 : Hp} {own : List Nat}
/-- an outer owned object is written -/
theorem StRel.outw {a : Addr} {o : HO} (R : StRel G M0 ρ σ H) (ha : M0 a) (mo : MutO (some o)) : StRel G M0 ρ σ (upd H a o) ∧ Mov (MM ρ σ M0) (MM ρ σ M0) H (upd H a o) := by
  have mv : Mov (MM ρ σ M0) (MM ρ σ M0) H (upd H a o) := ⟨R.mo, fun b u h n => by
    rw [upd_ne (fun z => n (by rw [z]; exact .inr ha))]
    exact h, fun b q => .inl q⟩
  refine ⟨⟨R.len, R.inj, R.dis, fun b q => ?_, fun j t ej => R.slots mv (fun i b q => ?_) ej⟩, mv⟩
  · by_cases z : b = a
    · rw [z, upd_same]; exact mo
    · rw [upd_ne z]; exact R.mo b q
  · exact upd_ne fun z => R.dis i b q (by rw [z]; exact ha)
theorem lc_read {K : PySem.W.Frag} (hK : G.K = K) {ri : Env → R (List D × Option (Nat × OwnK))} {tg : Tg} {rc : Env → R Bool} {re : Env → R T} (hin : ∀ j ∈ tgs tg, j ∈ own) {Q : VK} (h : EvT G W (compR ri tg rc re own) σ H Q) :
    tLc (EvI G W ri) (gOf K tg) (EvB G WF rc) (EvT G WF re) own σ H Q := by
  obtain ⟨M0, ρ, R0, h⟩ := h
  refine ⟨M0, ρ, R0, (Fin.bind (post1 := PostI G M0 ρ σ H) h).mono fun _ _ J H1 _ _ => ?_⟩
  rintro ⟨p, ρL, ep, pi, f⟩ D nD
  obtain ⟨ρ1, R1, ex1, lk, RL⟩ := pi.ex
  have wk := pi.wk
  split at f
  · rename_i hown
    have no : ∀ j ∈ own, notOwn ρL j = true := fun j hj => List.all_eq_true.mp hown j hj
    split at f
    · rename_i ds ρn eloop
      -- the invariant
      let Inv : Nat → Hp → Prop := fun i H => ∃ ρi accd acc, StRel G (fun b => b = D ∨ M0 b) ρi (wipe σ own) H ∧ Ext ρL σ H1 ρi (wipe σ own) H ∧ H D = some (.lst acc) ∧ Reps G (MM ρi (wipe σ own) fun b => b = D ∨ M0 b) H accd acc ∧
        compLoop own tg rc re (p.1.drop i) accd ρi = .ok ds ρn
      have hM1 : ∀ b, M0 b → (fun b => b = D ∨ M0 b) b := fun b q => .inr q
      have hM2 : ∀ b, (fun b => b = D ∨ M0 b) b → M0 b ∨ H1 b = none := fun b q => by
        rcases q with q | q
        · exact .inr (by rw [q]; exact nD)
        · exact .inl q
      have ew : Ext ρL σ H1 (wipeE ρL own) (wipe σ own) H1 := ext_wiped .refl rfl no
      have start : Inv 0 (upd H1 D (.lst [])) := by
        have Rw := (RL.wiped own).1
        obtain ⟨_, eg⟩ := Rw.grow (o := .lst []) nD
        exact ⟨wipeE ρL own, [], [], Rw.fresh nD trivial, ew.trans eg, upd_same, .nil, by simpa using eloop⟩
      refine ⟨fun i m H => m = p.1.length - i ∧ i ≤ p.1.length ∧ Inv i H, ⟨_, rfl, Nat.zero_le _, start⟩, ?_⟩
      rintro i m H ⟨rfl, hi, ρi, accd, acc, Ri, exi, hD, hA, el⟩
      by_cases hlt : i < p.1.length
      · refine .inr ⟨wk.go _ ρi _ H i hM1 hM2 Ri exi hlt, Inv (i + 1), fun H' q => ⟨p.1.length - (i + 1), by omega, rfl, hlt, q⟩, fun x H' y => ?_⟩
        have ed : p.1[i]? = some p.1[i] := List.getElem?_eq_getElem hlt
        obtain ⟨R', e', rx⟩ := wk.yld _ ρi _ H i x H' _ hM1 hM2 Ri exi ed y
        rw [List.drop_eq_getElem_cons hlt] at el
        unfold compLoop at el
        split at el
        · cases el
        · rename_i ρ2 eb
          have A' : Reps G (MM ρi (wipe σ own) fun b => b = D ∨ M0 b) H' accd acc := Reps.mov (Ri.mov e') _ _ hA
          have nDi : ∀ {ρx : Env} {σx : L2.St} {Hx : Hp}, StRel G (fun b => b = D ∨ M0 b) ρx σx Hx → ∀ l, ¬ OwnAt ρx σx l D := fun {ρx σx Hx} Rx l q => Rx.dis l D q (.inl rfl)
          have hD' : H' D = some (.lst acc) := e'.st D _ hD (nDi Ri)
          refine bind_ok hK R' rx eb fun σ3 R3 e3 hσ hl3 => ⟨?_, ?_⟩
          · have q := wipe_same (vs := own) hl3 (fun j hj => (hσ j fun z => hj (hin j z)).1)
            rw [q]
            refine wipe_same (by rw [wipe_length]) fun j hj => wipe_out σ j own hj
          · have w3 : wipe σ3 own = wipe σ own := by
              have q := wipe_same (vs := own) hl3 (fun j hj => (hσ j fun z => hj (hin j z)).1)
              rw [q]
              exact wipe_same (by rw [wipe_length]) fun j hj => wipe_out σ j own hj
            have A3 := Reps.mov (R'.mov e3) _ _ A'
            have hD3 : H' D = some (.lst acc) := hD'
            have ex3 := (exi.trans e').trans e3
            refine ⟨_, ρ2, R3, ?_⟩
            split at el
            · rename_i ρ4 ec
              rw [ec]
              rintro b H4 ⟨R4, eb4, e4⟩
              subst eb4
              show if (false : Bool) = true then _ else _
              rw [if_neg Bool.false_ne_true]
              refine ⟨wipeE ρ4 own, accd, acc, ?_, ?_, e4.st D _ hD3 (nDi R3), ?_, el⟩
              · have := (R4.wiped own).1
                rw [w3] at this
                exact this
              · exact ext_wiped (ex3.trans e4) w3 no
              · have := Reps.mov ((R4.wiped own).2) _ _ (Reps.mov (R3.mov e4) _ _ A3)
                rw [w3] at this
                exact this
            · rename_i ρ4 ec
              rw [ec]
              rintro b H4 ⟨R4, eb4, e4⟩
              subst eb4
              show if (true : Bool) = true then _ else _
              rw [if_pos rfl]
              have hD4 := e4.st D _ hD3 (nDi R3)
              have A4 := Reps.mov (R3.mov e4) _ _ A3
              refine ⟨_, ρ4, R4, ?_⟩
              split at el
              · rename_i t ρ5 ee
                rw [ee]
                split at el
                · rename_i dd ρ6 efz
                  split at el
                  · rename_i hlen
                    intro y H5 p5
                    obtain ⟨R6, r6, e6⟩ := p5.fz R4 efz
                    have hD5 := e6.st D _ hD4 (nDi R4)
                    have A5 := Reps.mov (R4.mov e6) _ _ A4
                    refine ⟨acc, hD5, by rw [hA.length]; exact small6' hlen, ?_⟩
                    obtain ⟨R7, m7⟩ := R6.outw (a := D) (o := .lst (acc ++ [y])) (.inl rfl) trivial
                    have ex6 := (ex3.trans e4).trans e6
                    have ex7 : Ext ρL σ H1 ρ6 σ3 (upd H5 D (.lst (acc ++ [y]))) := ⟨fun b o hb n => by
                        rw [upd_ne (ne_of_none hb nD)]
                        exact ex6.st b o hb n, fun b hb => ex6.tr b (by
                        by_cases z : b = D
                        · rw [z, upd_same] at hb; cases hb
                        · rw [upd_ne z] at hb; exact hb), ex6.fr, ex6.kp⟩
                    refine ⟨wipeE ρ6 own, accd ++ [dd], acc ++ [y], ?_, ext_wiped ex7 w3 no, upd_same, ?_, el⟩
                    · have := (R7.wiped own).1
                      rw [w3] at this
                      exact this
                    · have := Reps.mov ((R7.wiped own).2) _ _ (Reps.mov m7 _ _ (A5.append (.one r6)))
                      rw [w3] at this
                      exact this
                  · cases el
                · cases el
              · cases el
            · cases el
      · have ei : i = p.1.length := by omega
        subst ei
        refine .inl ⟨wk.stop _ ρi _ H hM1 hM2 Ri exi, ?_⟩
        rw [List.drop_length] at el
        unfold compLoop at el
        cases el
        obtain ⟨Rb, exb, ob⟩ := back_ok RL Ri exi rfl no hM2
        obtain ⟨Ru, exu, ou⟩ := unlock_ok lk Rb exb
        refine f (.ref D) H ⟨Ru, ⟨D, rfl, acc, hD, ?_⟩, fun a q => ?_, ex1.trans exu⟩
        · refine Reps.mov (.same Ri.mo fun b q => ?_) _ _ hA
          rcases q with ⟨j, q⟩ | q
          · exact .inl ⟨j, ob j b ((ou j b).mp q)⟩
          · exact .inr q
        · have q : a = D := q
          rw [q]
          exact ex1.tr D nD
    · exact f.elim
  · exact f.elim
end
end Py

set_option Elab.async false
set_option linter.all false
set_option maxRecDepth 100000
namespace Py
open PySem PySem.Spec
open PyProof.Rows L2

section
variable {G : Gt} {W : WX} {M M' M0 M1 : Ms} {ρ ρ' ρ0 ρ1 ρL : Env} {σ σ' σ0 : L2.St} {H H' H0 : Hp} {own : List Nat} {X : Cx}
theorem PI_or {tg it : Expr} {w1 w2 : TI} (h1 : PI X tg it w1) (h2 : PI X tg it w2) : PI X tg it (fun σ H R => w1 σ H R ∨ w2 σ H R) := ⟨fun pins s σ H R I h => by
  rcases h with h | h
  · exact h1.run pins s σ H R I h
  · exact h2.run pins s σ H R I h⟩
theorem PI_imp {tg it : Expr} {w1 w2 : TI} (h1 : PI X tg it w1) (k : ∀ σ H R, w2 σ H R → w1 σ H R) : PI X tg it w2 := ⟨fun pins s σ H R I h => h1.run pins s σ H R I (k σ H R h)⟩
theorem later (R0 : StRel G M0 ρ0 σ0 H0) (e : Ext ρ0 σ0 H0 ρ σ H) (hM : ∀ b, M1 b → M0 b ∨ H0 b = none) : Mov (MM ρ0 σ0 M0) (MM ρ σ M1) H0 H := ⟨R0.mo, fun b o h n => e.st b o h fun i q => n (.inl ⟨i, q⟩), fun b q => by
  rcases q with ⟨j, q⟩ | q
  · rcases e.fr j b q with z | z
    · exact .inl (.inl z)
    · exact .inr z
  · rcases hM b q with z | z
    · exact .inl (.inr z)
    · exact .inr z⟩
theorem wk_list {a : Addr} {xs : List D} {vs : List V} (R0 : StRel G M0 ρ0 σ0 H0) (n : ¬ MM ρ0 σ0 M0 a) (ha : H0 a = some (.lst vs)) (hr : Reps G (MM ρ0 σ0 M0) H0 xs vs) : Wk G M0 ρ0 σ0 H0 xs (Itl G.K a) := by
  have at_ : ∀ {ρ : Env} {σ : L2.St} {H : Hp}, Ext ρ0 σ0 H0 ρ σ H → SqL G.K H a vs := fun {ρ σ H} e => .of (e.st a _ ha fun i q => n (.inl ⟨i, q⟩))
  refine ⟨fun M1 ρ σ H i _ _ R e hi => ?_, fun M1 ρ σ H _ _ R e => ⟨vs, at_ e, by rw [hr.length]; exact Nat.le_refl _⟩, fun M1 ρ σ H i x H' d _ hM R e ed y => ?_⟩
  · have hi : i < vs.length := by rw [hr.length]; exact hi
    exact ⟨vs, vs[i], at_ e, List.getElem?_eq_getElem hi⟩
  · obtain ⟨rfl, y⟩ := y
    obtain ⟨w, ew, rw'⟩ := hr.get ed
    have := y vs (at_ e)
    rw [ew] at this
    cases this
    exact ⟨R, .refl, Rep.mov (later R0 e hM) _ _ rw'⟩
theorem wk_tup {a : Addr} {xs : List D} {vs : List V} (R0 : StRel G M0 ρ0 σ0 H0) (ha : SqT G.K H0 a vs) (hr : Reps G (MM ρ0 σ0 M0) H0 xs vs) : Wk G M0 ρ0 σ0 H0 xs (Itt G.K a) := by
  have at_ : ∀ {M1 : Ms} {ρ : Env} {σ : L2.St} {H : Hp}, (∀ b, M1 b → M0 b ∨ H0 b = none) → Ext ρ0 σ0 H0 ρ σ H → SqT G.K H a vs := fun {M1 ρ σ H} hM e => (later (M1 := M1) R0 e hM).sqT ha
  refine ⟨fun M1 ρ σ H i _ hM R e hi => ?_, fun M1 ρ σ H _ hM R e => ⟨vs, at_ hM e, by rw [hr.length]; exact Nat.le_refl _⟩, fun M1 ρ σ H i x H' d _ hM R e ed y => ?_⟩
  · have hi : i < vs.length := by rw [hr.length]; exact hi
    exact ⟨vs, vs[i], at_ hM e, List.getElem?_eq_getElem hi⟩
  · obtain ⟨rfl, y⟩ := y
    obtain ⟨w, ew, rw'⟩ := hr.get ed
    have := y vs (at_ hM e)
    rw [ew] at this
    cases this
    exact ⟨R, .refl, Rep.mov (later R0 e hM) _ _ rw'⟩
theorem wk_lock {a : Addr} {xs : List D} {i0 : Nat} (R0 : StRel G M0 ρ0 σ0 H0) (e0 : ρ0[i0]? = some (.own .lck (.lst xs))) (oa : OwnAt ρ0 σ0 i0 a) : Wk G M0 ρ0 σ0 H0 xs (Itl G.K a) := by
  have at_ : ∀ {M1 : Ms} {ρ : Env} {σ : L2.St} {H : Hp}, StRel G M1 ρ σ H → Ext ρ0 σ0 H0 ρ σ H → ∃ vs, SqL G.K H a vs ∧ Reps G (MM ρ σ M1) H xs vs := fun {M1 ρ σ H} R e => by
    obtain ⟨s1, d', a1, a2⟩ := e.kp i0 .lck _ e0 (by decide)
    rw [a2 rfl] at a1
    obtain ⟨b, ob, rt⟩ := R.own a1
    have : b = a := by
      have q := ob.2
      rw [s1, oa.2] at q
      cases q
      rfl
    subst this
    obtain ⟨vs, h1, h2⟩ := rt
    exact ⟨vs, .of h1, h2⟩
  refine ⟨fun M1 ρ σ H i _ _ R e hi => ?_, fun M1 ρ σ H _ _ R e => ?_, fun M1 ρ σ H i x H' d _ hM R e ed y => ?_⟩
  · obtain ⟨vs, h1, h2⟩ := at_ R e
    have hi : i < vs.length := by rw [h2.length]; exact hi
    exact ⟨vs, vs[i], h1, List.getElem?_eq_getElem hi⟩
  · obtain ⟨vs, h1, h2⟩ := at_ R e
    exact ⟨vs, h1, by rw [h2.length]; exact Nat.le_refl _⟩
  · obtain ⟨rfl, y⟩ := y
    obtain ⟨vs, h1, h2⟩ := at_ R e
    obtain ⟨w, ew, rw'⟩ := h2.get ed
    have := y vs h1
    rw [ew] at this
    cases this
    exact ⟨R, .refl, rw'⟩
theorem lock_ok {i : Nat} {k : OwnK} {d : D} (R : StRel G M0 ρ σ H) (e : ρ[i]? = some (.own k d)) : StRel G M0 (ρ.set i (.own .lck d)) σ H := by
  have hi := (List.getElem?_eq_some_iff.mp e).1
  have own_eq : ∀ j a, OwnAt (ρ.set i (.own .lck d)) σ j a ↔ OwnAt ρ σ j a := fun j a => by
    by_cases q : j = i
    · subst q
      exact ⟨fun z => ⟨⟨_, d, e⟩, z.2⟩, fun z => own_set_eq z⟩
    · exact ⟨fun z => by
        rcases own_set z with ⟨w, _⟩ | ⟨_, w⟩
        · exact absurd w q
        · exact w, fun z => own_set_ne z q⟩
  have sub : ∀ b, MM (ρ.set i (.own .lck d)) σ M0 b → MM ρ σ M0 b := fun b q => by
    rcases q with ⟨j, z⟩ | z
    · exact .inl ⟨j, (own_eq j b).mp z⟩
    · exact .inr z
  have mv : Mov (MM ρ σ M0) (MM (ρ.set i (.own .lck d)) σ M0) H H := .same R.mo sub
  refine ⟨by rw [List.length_set]; exact R.len, fun x y a p q => R.inj x y a ((own_eq x a).mp p) ((own_eq y a).mp q), fun x a p => R.dis x a ((own_eq x a).mp p), fun a q => R.mo a (sub a q), fun j t ej => ?_⟩
  by_cases q : j = i
  · subst q
    rw [List.getElem?_set_self hi] at ej
    cases ej
    obtain ⟨w, ew, h⟩ := R.sl j _ e
    refine ⟨w, ew, ?_⟩
    cases w with
    | none => exact h.elim
    | some w =>
      cases w with
      | ref b => exact Root.mov mv h rfl
      | _ => exact h.elim
  · rw [List.getElem?_set_ne (Ne.symm q)] at ej
    obtain ⟨w, ew, h⟩ := R.sl j t ej
    refine ⟨w, ew, ?_⟩
    cases t with
    | no => trivial
    | val d2 =>
      cases w with
      | none => exact h.elim
      | some w => exact Rep.mov mv _ _ h
    | own kk d2 =>
      cases w with
      | none => exact h.elim
      | some w =>
        cases w with
        | ref b => exact Root.mov mv h rfl
        | _ => exact h.elim
def itE (r : Env → R T) : Env → R (List D × Option (Nat × OwnK)) := fun ρ => (r ρ).bind fun t ρ1 => match lock ρ1 t with
  | some (xs, ρ2, l) => .ok (xs, l) ρ2
  | none => .bad
theorem seq_cases {d : D} {xs : List D} (e : seqOf d = some xs) : d = .lst xs ∨ d = .tup xs := by
  cases d with
  | lst ys => cases e; exact .inl rfl
  | tup ys => cases e; exact .inr rfl
  | _ => cases e
theorem it_e (hK : G.K = X.K) {tg e : Expr} {r : Env → R T} (he : PE X e (EvT G W r)) : PI X tg e (EvI G W (itE r)) := by
  refine PI_imp (PI_or (pi_list he) (pi_tup he)) fun σ H R h => ?_
  obtain ⟨M0, ρ, R0, h⟩ := h
  unfold itE at h
  cases er : r ρ with
  | bad => rw [er] at h; exact h.elim
  | exc x ρ1 =>
    rw [er] at h
    refine .inl ⟨M0, ρ, R0, ?_⟩
    rw [er]
    exact h
  | ok t ρ1 =>
    rw [er] at h
    have h : Fin G W M0 ρ σ H (PostI G M0 ρ σ H) (match lock ρ1 t with
      | some (xs, ρ2, l) => Py.R.ok (xs, l) ρ2
      | none => .bad) R := h
    -- a value that stays as it is
    have frozen : ∀ {d : D} {xs : List D}, t.weak = .val d → seqOf d = some xs → (∀ J H', PostI G M0 ρ σ H (xs, none) ρ1 J H' → R J H') → iList X.K (EvT G W r) σ H R ∨ iTup X.K (EvT G W r) σ H R := fun {d xs} ew es k => by
      rcases seq_cases es with z | z
      · subst z
        refine .inl ⟨M0, ρ, R0, ?_⟩
        rw [er]
        intro v H1 p
        obtain ⟨R1, w⟩ := p.weak R0
        rw [ew] at w
        have w : Rep G _ H1 (.lst xs) v := w
        simp only [Rep] at w
        obtain ⟨a, vs, rfl, n, h1, h2⟩ := w
        refine ⟨a, rfl, ⟨vs, .of h1⟩, ?_⟩
        rw [← hK]
        exact k _ _ ⟨⟨ρ1, R1, p.ex, rfl, R1⟩, wk_list R1 n h1 h2⟩
      · subst z
        refine .inr ⟨M0, ρ, R0, ?_⟩
        rw [er]
        intro v H1 p
        obtain ⟨R1, w⟩ := p.weak R0
        rw [ew] at w
        have w : Rep G _ H1 (.tup xs) v := w
        simp only [Rep] at w
        obtain ⟨a, vs, rfl, h1, h2⟩ := w
        refine ⟨a, rfl, ⟨vs, hK ▸ h1⟩, ?_⟩
        rw [← hK]
        exact k _ _ ⟨⟨ρ1, R1, p.ex, rfl, R1⟩, wk_tup R1 h1 h2⟩
    cases t with
    | val d =>
      unfold lock at h
      dsimp only at h
      cases es : seqOf d with
      | none => rw [es] at h; exact h.elim
      | some xs =>
        rw [es] at h
        exact frozen rfl es h
    | own d =>
      unfold lock at h
      dsimp only at h
      cases es : seqOf d with
      | none => rw [es] at h; exact h.elim
      | some xs =>
        rw [es] at h
        exact frozen rfl es h
    | slot i =>
      unfold lock at h
      dsimp only at h
      split at h
      · rename_i xs ρ2 l e2
        split at e2
        · rename_i k d q
          cases es : seqOf d with
          | none => rw [es] at e2; cases e2
          | some ys =>
            rw [es] at e2
            cases e2
            rcases seq_cases es with z | z
            · subst z
              refine .inl ⟨M0, ρ, R0, ?_⟩
              rw [er]
              intro v H1 p
              obtain ⟨R1, w⟩ := p.weak R0
              have w : σ[i]? = some (some v) := w
              obtain ⟨a, oa, rt⟩ := R1.own q
              have ev := oa.2
              rw [w] at ev
              cases ev
              obtain ⟨vs, h1, h2⟩ := rt
              have hi := (List.getElem?_eq_some_iff.mp q).1
              refine ⟨a, rfl, ⟨vs, .of h1⟩, ?_⟩
              rw [← hK]
              have RL := lock_ok R1 q
              exact h _ _ ⟨⟨ρ1, R1, p.ex, ⟨_, q, rfl⟩, RL⟩, wk_lock RL (List.getElem?_set_self hi) (own_set_eq oa)⟩
            · subst z
              refine .inr ⟨M0, ρ, R0, ?_⟩
              rw [er]
              intro v H1 p
              obtain ⟨R1, w⟩ := p.weak R0
              obtain ⟨a, oa, rt⟩ := R1.own q
              exact rt.elim
        · rename_i d q
          cases es : seqOf d with
          | none => rw [es] at e2; cases e2
          | some ys =>
            rw [es] at e2
            cases e2
            rcases seq_cases es with z | z
            · subst z
              refine .inl ⟨M0, ρ, R0, ?_⟩
              rw [er]
              intro v H1 p
              obtain ⟨R1, w⟩ := p.weak R0
              have w : σ[i]? = some (some v) := w
              obtain ⟨v', ev, rp⟩ := R1.val q
              rw [w] at ev
              cases ev
              simp only [Rep] at rp
              obtain ⟨a, vs, rfl, n, h1, h2⟩ := rp
              refine ⟨a, rfl, ⟨vs, .of h1⟩, ?_⟩
              rw [← hK]
              exact h _ _ ⟨⟨ρ1, R1, p.ex, rfl, R1⟩, wk_list R1 n h1 h2⟩
            · subst z
              refine .inr ⟨M0, ρ, R0, ?_⟩
              rw [er]
              intro v H1 p
              obtain ⟨R1, w⟩ := p.weak R0
              have w : σ[i]? = some (some v) := w
              obtain ⟨v', ev, rp⟩ := R1.val q
              rw [w] at ev
              cases ev
              simp only [Rep] at rp
              obtain ⟨a, vs, rfl, h1, h2⟩ := rp
              refine ⟨a, rfl, ⟨vs, hK ▸ h1⟩, ?_⟩
              rw [← hK]
              exact h _ _ ⟨⟨ρ1, R1, p.ex, rfl, R1⟩, wk_tup R1 h1 h2⟩
        · cases e2
      · exact h.elim
def itR (r : Env → R (List D)) : Env → R (List D × Option (Nat × OwnK)) := fun ρ => (r ρ).bind fun ds ρ1 => Py.R.opt ((rngD ds).map fun xs => (xs, none)) ρ1
theorem wk_range {lo : Int} {n : Nat} (R0 : StRel G M0 ρ0 σ0 H0) (xs : List D) (hx : xs = (List.range n).map fun (i : Nat) => .int (lo + (i : Int))) : Wk G M0 ρ0 σ0 H0 xs (Itr lo n) := by
  subst hx
  refine ⟨fun M1 ρ σ H i _ _ R e hi => (show i < n by simpa using hi), fun M1 ρ σ H _ _ R e => by show n ≤ _; simp, fun M1 ρ σ H i x H' d _ hM R e ed y => ?_⟩
  obtain ⟨rfl, rfl⟩ := y
  refine ⟨R, .refl, ?_⟩
  rw [List.getElem?_map] at ed
  cases q : (List.range n)[i]? with
  | none => rw [q] at ed; cases ed
  | some j =>
    rw [q] at ed
    cases ed
    rw [List.getElem?_eq_some_iff] at q
    obtain ⟨_, q⟩ := q
    rw [List.getElem_range] at q
    subst q
    simp only [Rep]
theorem it_rng {tg : Expr} {es : List Expr} {p pos : Pos} {r : Env → R (List D)} (hg : Gl X "range") (hm : X.mg "range" = none) (ha : PA X es (EvF G W r)) (hs : ∀ e ∈ es, notStar e = true) (hl : es.length = 1 ∨ es.length = 2)
    (hlen : ∀ ρ ds ρ', r ρ = .ok ds ρ' → ds.length = es.length) : PI X tg (.Call (.Name "range" p) es [] pos) (EvI G W (itR r)) := by
  have base : ∀ (σ : L2.St) (H : Hp) (R : L2.It → Hp → Prop), EvI G W (itR r) σ H R → EvF G W r σ H (fun vs H1 => ∃ M0 ρ ρ1 ds xs, PostF G M0 ρ σ H ds ρ1 vs H1 ∧ ds.length = es.length ∧ rngD ds = some xs ∧ (∀ J, Wk G M0 ρ1 σ H1 xs J → R J H1)) := fun σ H R h => by
    obtain ⟨M0, ρ, R0, h⟩ := h
    refine ⟨M0, ρ, R0, (Fin.bind (post1 := PostF G M0 ρ σ H) h).mono fun _ _ vs H1 _ _ => ?_⟩
    rintro ⟨ds, ρ1, er, p, f⟩
    cases e : rngD ds with
    | none => rw [e] at f; exact f.elim
    | some xs =>
      rw [e] at f
      exact ⟨M0, ρ, ρ1, ds, xs, p, hlen _ _ _ er, e, fun J w => f J H1 ⟨⟨ρ1, p.R, p.ex, rfl, p.R⟩, w⟩⟩
  match es, ha, hs, hl, hlen, base with
  | [a], ha, hs, _, _, base =>
    have s1 := star_ok (hs a List.mem_cons_self) [] X.env
    refine PI_imp (pi_range1 hg hm ha s1) fun σ H R h => ?_
    obtain ⟨M0, ρ, R0, h⟩ := base σ H R h
    refine ⟨M0, ρ, R0, h.mono fun ds' ρ1' vs H1 er' p' => ?_⟩
    rintro ⟨M0', ρ', ρ1, ds, xs, p, l, e, k⟩
    match ds, l, p, e with
    | [d], _, p, e =>
      obtain ⟨v, q, rfl, h1, h2⟩ : ∃ v q, vs = v :: q ∧ Rep G (MM ρ1 σ M0') H1 d v ∧ Reps G (MM ρ1 σ M0') H1 [] q := by have := p.tw; simpa only [Reps] using this
      have h2 : q = [] := by simpa only [Reps] using h2
      cases d with
      | int j =>
        have e2 : (if j < 2 ^ 62 ∧ -(2 ^ 62) ≤ j then some (rangeD 0 j) else none) = some xs := e
        by_cases hb : j < 2 ^ 62 ∧ -(2 ^ 62) ≤ j
        · rw [if_pos hb] at e2
          have e3 : xs = rangeD 0 j := (Option.some.inj e2).symm
          simp only [Rep] at h1
          rw [h1, h2]
          refine ⟨j, rfl, hb.2, hb.1, k _ (wk_range p.R _ ?_)⟩
          rw [e3]
          unfold rangeD
          rw [Int.sub_zero]
        · rw [if_neg hb] at e2
          cases e2
      | _ => simp [rngD] at e
  | [a, b], ha, hs, _, _, base =>
    have s2 := star_ok (hs b (List.mem_cons_of_mem _ List.mem_cons_self)) [] X.env
    have s1 := star_ok (hs a List.mem_cons_self) [b] X.env
    refine PI_imp (pi_range2 hg hm ha (by rw [s1, s2]; rfl) s2) fun σ H R h => ?_
    obtain ⟨M0, ρ, R0, h⟩ := base σ H R h
    refine ⟨M0, ρ, R0, h.mono fun ds' ρ1' vs H1 er' p' => ?_⟩
    rintro ⟨M0', ρ', ρ1, ds, xs, p, l, e, k⟩
    match ds, l, p, e with
    | [d, d'], _, p, e =>
      obtain ⟨v, q, rfl, h1, w, q2, rfl, h3, h2⟩ : ∃ v q, vs = v :: q ∧ Rep G (MM ρ1 σ M0') H1 d v ∧ ∃ w q2, q = w :: q2 ∧ Rep G (MM ρ1 σ M0') H1 d' w ∧ Reps G (MM ρ1 σ M0') H1 [] q2 := by have := p.tw; simpa only [Reps] using this
      have h2 : q2 = [] := by simpa only [Reps] using h2
      cases d with
      | int i =>
        cases d' with
        | int j =>
          have e2 : (if i < 2 ^ 62 ∧ -(2 ^ 62) ≤ i ∧ j < 2 ^ 62 ∧ -(2 ^ 62) ≤ j then some (rangeD i j) else none) = some xs := e
          by_cases hb : i < 2 ^ 62 ∧ -(2 ^ 62) ≤ i ∧ j < 2 ^ 62 ∧ -(2 ^ 62) ≤ j
          · rw [if_pos hb] at e2
            have e3 : xs = rangeD i j := (Option.some.inj e2).symm
            simp only [Rep] at h1 h3
            rw [h1, h2, h3]
            exact ⟨i, j, rfl, ⟨hb.2.1, hb.1, hb.2.2.2, hb.2.2.1⟩, k _ (wk_range p.R _ e3)⟩
          · rw [if_neg hb] at e2
            cases e2
        | _ => simp [rngD] at e
      | _ => simp [rngD] at e
  | [], _, _, hl, _, _ => simp at hl
  | _ :: _ :: _ :: _, _, _, hl, _, _ => simp at hl
end
end Py

set_option Elab.async false
set_option linter.all false
set_option maxRecDepth 100000
namespace Py
open PySem PySem.Spec
open PyProof.Rows L2

structure Both (G : Gt) (X : Cx) (W : WX) (e : Expr) (r : Env → R T) : Prop where
  pe : PE X e (EvT G W r)
  pt : PT X e (EvB G W fun ρ => (r ρ).bl)
section
variable {G : Gt} {W : WX} {M M' M0 M1 : Ms} {ρ ρ' ρ0 ρ1 ρL : Env} {σ σ' σ0 : L2.St} {H H' H0 : Hp} {own : List Nat} {X : Cx} {e : Expr}
theorem evB_evT {r : Env → R T} {Q : Bool → Hp → Prop} (h : EvB G W (fun ρ => (r ρ).bl) σ H Q) : EvT G W r σ H (fun x H1 => ∃ k, x = .bl k ∧ Q k H1) := by
  obtain ⟨M0, ρ, R0, h⟩ := h
  refine ⟨M0, ρ, R0, (FinB.thenT R0 h).mono fun _ _ v H1 _ _ => ?_⟩
  rintro ⟨t, ρ1, R1, w, p, f⟩
  cases eb : asBl t with
  | none => rw [eb] at f; exact f.elim
  | some b =>
    rw [eb] at f
    have et := asBl_eq eb
    subst et
    have w2 : Rep G (MM ρ1 σ M0) H1 (.bl b) v := w
    simp only [Rep] at w2
    exact ⟨b, w2, f b H1 ⟨R1, rfl, .refl⟩⟩
theorem both_of {r : Env → R T} {t : TE} (hp : PE X e t) (ht : PT X e (fun σ H Q => t σ H fun x H' => ∃ k, x = .bl k ∧ Q k H')) (imp : ∀ σ H Q, EvT G W r σ H Q → t σ H Q) : Both G X W e r :=
  ⟨PE_imp hp imp, PT_imp ht fun σ H Q h => imp σ H _ (evB_evT h)⟩
theorem both_plain {r : Env → R T} (hp : PE X e (EvT G W r)) (he : ∀ whole, isTrue e X.env whole = (do let v ← whole; standAt e.pos; holding [v] (truthy v))) : Both G X W e r :=
  ⟨hp, PT_imp (pt_val hp he) fun σ H Q h => evB_evT h⟩
/-- a list of expressions -/
structure Alls (G : Gt) (X : Cx) (W : WX) (es : List Expr) (rF : Env → R (List D)) (rA : Env → R (List T)) (rAnd rOr : Env → R T) : Prop where
  f : PA X es (EvF G W rF)
  a : PA X es (EvA G W rA)
  len : ∀ ρ ds ρ', rF ρ = .ok ds ρ' → ds.length = es.length
  star : ∀ e ∈ es, notStar e = true
  and : es ≠ [] → ∀ pos, PE X (.BoolOp .And es pos) (EvT G W rAnd) ∧ PW X (.BoolOp .And es pos) (EvB G W fun ρ => (rAnd ρ).bl)
  or : es ≠ [] → ∀ pos, PE X (.BoolOp .Or es pos) (EvT G W rOr) ∧ PW X (.BoolOp .Or es pos) (EvB G W fun ρ => (rOr ρ).bl)
theorem backTo_plain {pos : Pos} {env : PySem.Env} : ∀ {es : List Expr}, (∀ e ∈ es, notStar e = true) → (backTo pos (starEach es env)).any (·.1) = false
  | [], _ => rfl
  | e :: es, h => by
    rw [star_ok (h e List.mem_cons_self)]
    show (false || (backTo pos (starEach es env)).any (·.1)) = false
    rw [backTo_plain fun e he => h e (List.mem_cons_of_mem _ he)]
    rfl
theorem few_ok {pos : Pos} {env : PySem.Env} {es : List Expr} (h : ∀ e ∈ es, notStar e = true) (hl : es.length < 29) : ((backTo pos (starEach es env)).all (fun x => !x.1) && (backToKw pos (keywordEach [] env)).all (fun x => x.1.isSome)
      && decide (es.length + ([] : List Keyword).length + (if ([] : List Keyword).isEmpty then 0 else 1) < 30)) = true := by
  have e1 : (backTo pos (starEach es env)).all (fun x => !x.1) = true := by
    have := backTo_plain (pos := pos) (env := env) h
    rw [List.all_eq_true]
    intro x hx
    rw [List.any_eq_false] at this
    simpa using this x hx
  rw [e1]
  have e2 : (backToKw pos (keywordEach [] env)).all (fun x => x.1.isSome) = true := rfl
  rw [e2]
  simp
  omega
theorem sameC_eq {c d : D} (h : sameC c d = true) : c = d := by
  cases c <;> cases d <;> simp [sameC] at h <;> first | (subst h; rfl) | skip
theorem cst_ok {d : D} {c : Const} {j : Nat} {pos : Pos} (h : cstB d c = true) : PE X (.Constant c j pos) (EvT G W fun ρ => .ok (.val d) ρ) := by
  cases d with
  | non =>
    cases c with
    | none => exact PE_imp pe_non fun σ H Q ⟨M0, ρ, R0, h⟩ => FinT.val R0 h (by simp only [Rep])
    | _ => cases h
  | bl b =>
    cases c with
    | bool b' =>
      have e : b = b' := by simpa [cstB] using h
      subst e
      exact PE_imp pe_bl fun σ H Q ⟨M0, ρ, R0, h⟩ => FinT.val R0 h (by simp only [Rep])
    | _ => cases h
  | int b =>
    cases c with
    | int b' =>
      have e : b = b' := by simpa [cstB] using h
      subst e
      exact PE_imp pe_int fun σ H Q ⟨M0, ρ, R0, h⟩ => FinT.val R0 h (by simp only [Rep])
    | _ => cases h
  | str b =>
    cases c with
    | str b' =>
      have e : b = b' := by simpa [cstB] using h
      subst e
      exact PE_imp pe_str fun σ H Q ⟨M0, ρ, R0, h⟩ => FinT.val R0 h (by simp only [Rep])
    | _ => cases h
  | _ => cases h
theorem slot_post {i : Nat} {k : OwnK} {d : D} {a : Addr} (R0 : StRel G M0 ρ σ H) (e : ρ[i]? = some (.own k d)) (o : OwnAt ρ σ i a) : Post G M0 ρ σ H (.slot i) ρ (.ref a) H :=
  ⟨R0.out fun b q => by
    rcases q with q | q
    · exact q.elim
    · exact q, ⟨a, rfl, o⟩, fun b q => q.elim, .refl⟩
theorem bi_ok {tab : Tab} {k : Nat} {Φ : Nat → List D → FR} (g : Good G tab k Φ W X) (b : Bi) {es : List Expr} {r : Env → R (List T)} {p pos : Pos} (hg : Gl X b.nm) (hm : X.mg b.nm = none) (hne : es ≠ []) (ha : PA X es (EvA G W r)) (hs : ∀ e ∈ es, notStar e = true) :
    PE X (.Call (.Name b.nm p) es [] pos) (EvT G W fun ρ => (r ρ).bind fun ts ρ1 => match T.bs ρ1 ts with
      | some ds => Py.R.opt (biD b ds) ρ1
      | none => .bad) := by
  match es, hne, ha, hs with
  | a :: es, _, ha, hs =>
    have s1 := star_ok (hs a List.mem_cons_self) es X.env
    have s2 := backTo_plain (pos := pos) (env := X.env) fun e he => hs e (List.mem_cons_of_mem _ he)
    have imp : ∀ σ H Q, EvT G W (fun ρ => (r ρ).bind fun ts ρ1 => match T.bs ρ1 ts with
      | some ds => Py.R.opt (biD b ds) ρ1
      | none => .bad) σ H Q → tCB (rDs G (biD b)) (EvA G W r) σ H Q := fun σ H Q h => by
      obtain ⟨M0, ρ, R0, h⟩ := h
      refine ⟨M0, ρ, R0, (FinT.thenA h).mono fun _ _ vs H1 _ _ => ?_⟩
      rintro ⟨ts, ρ1, p, f⟩
      cases eb : T.bs ρ1 ts with
      | none => rw [eb] at f; exact f.elim
      | some ds =>
        rw [eb] at f
        obtain ⟨t, e2, f2⟩ := FinT.made p.R f
        exact ⟨_, ds, t, TWs.bors p.R p.tw eb, e2, f2⟩
    cases b with
    | len => exact PE_imp (pe_callB (call_lenD g.hK) hg hm (by decide +kernel) ha (by decide) (by decide) s1 s2) imp
    | abs => exact PE_imp (pe_callB call_absD hg hm (by decide +kernel) ha (by decide) (by decide) s1 s2) imp
    | max2 => exact PE_imp (pe_callB (call_max2D g.calm) hg hm (by decide +kernel) ha (by decide) (by decide) s1 s2) imp
    | min2 => exact PE_imp (pe_callB (call_min2D g.calm) hg hm (by decide +kernel) ha (by decide) (by decide) s1 s2) imp
    | int1 => exact PE_imp (pe_callTy call_intD hg hm (by decide +kernel) ha (by decide) (by decide) s1 s2) imp
    | str1 => exact PE_imp (pe_callTy call_strD hg hm (by decide +kernel) ha (by decide) (by decide) s1 s2) imp
    | list1 => exact PE_imp (pe_callTy (call_listD g.hK) hg hm (by decide +kernel) ha (by decide) (by decide) s1 s2) imp
    | tuple1 => exact PE_imp (pe_callTy (call_tupleD g.hK) hg hm (by decide +kernel) ha (by decide) (by decide) s1 s2) imp
    | sum1 => exact PE_imp (pe_callB (call_sumD g.calm) hg hm (by decide +kernel) ha (by decide) (by decide) s1 s2) imp
    | all1 => exact PE_imp (pe_callB (call_allD g.calm) hg hm (by decide +kernel) ha (by decide) (by decide) s1 s2) imp
    | any1 => exact PE_imp (pe_callB (call_anyD g.calm) hg hm (by decide +kernel) ha (by decide) (by decide) s1 s2) imp
    | sorted1 => exact PE_imp (pe_callB (call_sortedD g.hK) hg hm (by decide +kernel) ha (by decide) (by decide) s1 s2) imp
theorem call_okP {tab : Tab} {k : Nat} {Φ : Nat → List D → FR} (g : Good G tab k Φ W X) (f : Nat) {es : List Expr} {r : Env → R (List T)} {p pos : Pos} {d : FnDef} (ht : tab f = some d) (hg : Gl X (G.nm f)) (hd : (G.nm f == ("__debug__" : Str)) = false)
    (ha : PA X es (EvA G W r)) (hs : ∀ e ∈ es, notStar e = true) (hn : es = [] → r = fun ρ => .ok [] ρ) : PE X (.Call (.Name (G.nm f) p) es [] pos) (EvT G W fun ρ => (r ρ).bind fun ts ρ1 => callR (ioOf tab f) (Φ f) ts ρ1) := by
  obtain ⟨hm, hk, fd, ps, hps, hb, F⟩ := g.fns f d ht
  have eio : ioOf tab f = d.io := by unfold ioOf; rw [ht]
  rw [eio]
  have imp : ∀ σ H Q, EvT G W (fun ρ => (r ρ).bind fun ts ρ1 => callR d.io (Φ f) ts ρ1) σ H Q → tCallS (spOf G d.io (Φ f)) (WE W) (EvA G W r) σ H Q := fun σ H Q h => by
    obtain ⟨M0, ρ, R0, h⟩ := h
    refine ⟨M0, ρ, R0, (FinT.thenA h).mono fun _ _ vs H1 _ _ => ?_⟩
    rintro ⟨ts, ρ1, p, f2⟩
    exact call_fin p.R p.tw f2
  match es, ha, hs, hn with
  | a :: es, ha, hs, _ =>
    have s1 := star_ok (hs a List.mem_cons_self) es X.env
    have s2 := backTo_plain (pos := pos) (env := X.env) fun e he => hs e (List.mem_cons_of_mem _ he)
    exact PE_imp (pe_callS F (g.hr.mono (Nat.le_succ _)) hg hm hk hb (fun σ => passAt g.tk σ) ha hd s1 s2) imp
  | [], _, _, hn =>
    have hn := hn rfl
    subst hn
    refine ⟨fun pins s σ H Q I h => ?_⟩
    obtain ⟨M0, ρ, R0, h⟩ := h
    have sp := call_fin (ts := []) (vs := []) R0 rfl h
    refine wpAny_Call_Name_kw (ld_glob I hg hm ?_ hd)
    exact PySem.W.callWith_K0 I.kIn hk (run_fnS (us := []) F (g.hr.mono (Nat.le_succ _)) hb (passAt g.tk σ) I .nil sp)
end
end Py

set_option Elab.async false
set_option linter.all false
set_option maxRecDepth 100000
namespace Py
open PySem PySem.Spec
open PyProof.Rows L2

theorem and2 {a b : Bool} (h : (a && b) = true) : a = true ∧ b = true := Bool.and_eq_true_iff.mp h
theorem prg_es {X : Cx} {es : List Expr} {ta : TA} {p pos : Pos} (hg : Gl X "range") (hm : X.mg "range" = none) (ha : PA X es ta) (hs : ∀ e ∈ es, notStar e = true) (hl : es.length = 1 ∨ es.length = 2) :
    PRg X (.Call (.Name "range" p) es [] pos) (fun σ H Q => ta σ H fun vs H1 => ∃ a b, ((vs = [.int b] ∧ a = 0) ∨ vs = [.int a, .int b]) ∧ vs.length = es.length ∧ Q a b H1) := by
  intro pins s σ H Q I h
  match es, ha, hs, hl, h with
  | [x], ha, hs, _, h =>
    have s1 := star_ok (hs x List.mem_cons_self) [] X.env
    refine Call_ (ld_blt I hg hm boot_range (PyProof.Rows.callWith_type1 (thn (ha.run pos pins s σ H _ I h) fun us s1 ⟨vs, H1, I1, r1, q1⟩ => ?_) s1 rfl))
    obtain ⟨a, b, (⟨rfl, rfl⟩ | rfl), l, q⟩ := q1
    · cases r1 with
      | cons r rr =>
        cases rr
        obtain ⟨t, rfl⟩ := r
        exact call_range_1 ⟨_, 0, b, _, _, _, H1, rfl, IsRange.new _ _ _ _ _ _ _, I1.kept fun b u e => Heap.get?_push_of_some _ e, q⟩
    · cases l
  | [x, y], ha, hs, _, h =>
    have s2 := star_ok (hs y (List.mem_cons_of_mem _ List.mem_cons_self)) [] X.env
    have s1 := star_ok (hs x List.mem_cons_self) [y] X.env
    refine Call_ (ld_blt I hg hm boot_range (PyProof.Rows.callWith_type1 (thn (ha.run pos pins s σ H _ I h) fun us s1 ⟨vs, H1, I1, r1, q1⟩ => ?_) (by rw [s1, s2]) (by rw [s2]; rfl)))
    obtain ⟨a, b, (⟨rfl, rfl⟩ | rfl), l, q⟩ := q1
    · cases l
    · cases r1 with
      | cons r rr =>
        cases rr with
        | cons r' rr =>
          cases rr
          obtain ⟨t, rfl⟩ := r
          obtain ⟨t', rfl⟩ := r'
          exact call_range_2 ⟨_, a, b, _, _, _, H1, rfl, IsRange.new _ _ _ _ _ _ _, I1.kept fun b u e => Heap.get?_push_of_some _ e, q⟩
  | [], _, _, hl, _ => simp at hl
  | _ :: _ :: _ :: _, _, _, hl, _ => simp at hl
section
variable {G : Gt} {W : WX} {M0 : Ms} {ρ : Env} {σ : L2.St} {H : Hp} {X : Cx}
theorem rangeD_rg {M : Ms} (i j : Int) : Reps G M H (rangeD i j) (rgV i j) := by
  unfold rangeD rgV
  generalize List.range (j - i).toNat = l
  induction l with
  | nil => exact .nil
  | cons n l ih => exact .cons (by simp only [Rep]) ih
theorem lrng_pe {t : Bool} {es : List Expr} {p p2 pos pos2 : Pos} {r : Env → R (List D)} (hc : X.calm = true) (hg : Gl X "range") (hm : X.mg "range" = none) (hg2 : Gl X (if t then "tuple" else "list")) (hm2 : X.mg (if t then "tuple" else "list") = none)
    (ha : PA X es (EvF G W r)) (hs : ∀ e ∈ es, notStar e = true) (hl : es.length = 1 ∨ es.length = 2) (hlen : ∀ ρ ds ρ', r ρ = .ok ds ρ' → ds.length = es.length) :
    PE X (.Call (.Name (if t then "tuple" else "list") p) [.Call (.Name "range" p2) es [] pos2] [] pos) (EvT G W fun ρ => (r ρ).bind fun ds ρ1 => Py.R.opt (lrngD t ds) ρ1) := by
  have hr := prg_es (p := p2) (pos := pos2) hg hm ha hs hl
  have core : ∀ (σ : L2.St) (H : Hp) (Q : VK), EvT G W (fun ρ => (r ρ).bind fun ds ρ1 => Py.R.opt (lrngD t ds) ρ1) σ H Q →
      EvF G W r σ H fun vs H1 => ∃ a b, ((vs = [.int b] ∧ a = 0) ∨ vs = [.int a, .int b]) ∧ vs.length = es.length ∧ RgOk a b ∧ ∀ q, H1 q = none → Q (.ref q) (upd H1 q (if t then .tup (rgV a b) else .lst (rgV a b))) := fun σ H Q h => by
    obtain ⟨M0, ρ, R0, h⟩ := h
    refine ⟨M0, ρ, R0, (Fin.bind (post1 := PostF G M0 ρ σ H) h).mono fun _ _ vs H1 _ _ => ?_⟩
    rintro ⟨ds, ρ1, er, p, f⟩
    have hln := hlen _ _ _ er
    have fin : ∀ a b, lrngD t ds = some (mkSeq t (rangeD a b)) → ∀ q, H1 q = none → Q (.ref q) (upd H1 q (if t then .tup (rgV a b) else .lst (rgV a b))) := fun a b e q n => by
      rw [e] at f
      have f : ∀ v H', Post G M0 ρ σ H (mkSeq t (rangeD a b)) ρ1 v H' → Q v H' := f
      cases t with
      | true => exact f _ _ (Post.pre p.ex (Made.post p.R (made_tup (rangeD_rg a b) n)))
      | false => exact f _ _ (Post.pre p.ex (Made.post p.R (made_lst (rangeD_rg a b) n)))
    have tw := p.tw
    have lv := tw.length
    match ds, tw, fin, f, hln, lv with
    | [d], tw, fin, f, hln, lv =>
      cases d with
      | int j =>
        obtain ⟨v, q, rfl, h1, h2⟩ : ∃ v q, vs = v :: q ∧ Rep G (MM ρ1 σ M0) H1 (.int j) v ∧ Reps G (MM ρ1 σ M0) H1 [] q := by simpa only [Reps] using tw
        have h2 : q = [] := by simpa only [Reps] using h2
        simp only [Rep] at h1
        subst h1 h2
        by_cases hb : j ≤ 16777216 ∧ -(2 ^ 62) ≤ j
        · exact ⟨0, j, .inl ⟨rfl, rfl⟩, hln, ⟨by omega, by omega, hb.2, by omega, by omega⟩, fin 0 j (if_pos hb)⟩
        · have e2 : lrngD t [.int j] = none := if_neg hb
          rw [e2] at f
          exact f.elim
      | _ => exact f.elim
    | [d, d'], tw, fin, f, hln, lv =>
      cases d with
      | int i =>
        cases d' with
        | int j =>
          obtain ⟨v, q, rfl, h1, w, q2, rfl, h3, h2⟩ : ∃ v q, vs = v :: q ∧ Rep G (MM ρ1 σ M0) H1 (.int i) v ∧ ∃ w q2, q = w :: q2 ∧ Rep G (MM ρ1 σ M0) H1 (.int j) w ∧ Reps G (MM ρ1 σ M0) H1 [] q2 := by simpa only [Reps] using tw
          have h2 : q2 = [] := by simpa only [Reps] using h2
          simp only [Rep] at h1 h3
          subst h1 h2 h3
          by_cases hb : i < 2 ^ 62 ∧ -(2 ^ 62) ≤ i ∧ j < 2 ^ 62 ∧ -(2 ^ 62) ≤ j ∧ (j - i).toNat ≤ 16777216
          · exact ⟨i, j, .inr rfl, hln, ⟨hb.2.1, hb.1, hb.2.2.2.1, hb.2.2.1, hb.2.2.2.2⟩, fin i j (if_pos hb)⟩
          · have e2 : lrngD t [.int i, .int j] = none := if_neg hb
            rw [e2] at f
            exact f.elim
        | _ => exact f.elim
      | _ => exact f.elim
    | [], tw, fin, f, hln, lv => exact f.elim
    | d :: e :: g :: l, tw, fin, f, hln, lv => exact absurd hln (by rcases hl with q | q <;> rw [q] <;> simp)
  cases t with
  | true =>
    refine PE_imp (pe_tupRg hc hg2 hm2 hr) fun σ H Q h => ?_
    obtain ⟨M0, ρ, R0, h⟩ := core σ H Q h
    exact ⟨M0, ρ, R0, h.mono fun _ _ vs H1 _ _ ⟨a, b, x, l, y, z⟩ => ⟨a, b, x, l, y, z⟩⟩
  | false =>
    refine PE_imp (pe_listRg hc hg2 hm2 hr) fun σ H Q h => ?_
    obtain ⟨M0, ρ, R0, h⟩ := core σ H Q h
    exact ⟨M0, ρ, R0, h.mono fun _ _ vs H1 _ _ ⟨a, b, x, l, y, z⟩ => ⟨a, b, x, l, y, z⟩⟩
end
end Py

set_option Elab.async false
set_option linter.all false
set_option maxRecDepth 100000
namespace Py
open PySem PySem.Spec
open PyProof.Rows L2

theorem Post.ofVal {G : Gt} {M0 : Ms} {ρ ρ' : Env} {σ : L2.St} {H H' : Hp} {d : D} {v : V} (R : StRel G M0 ρ' σ H') (e : Ext ρ σ H ρ' σ H') (h : Rep G (MM ρ' σ M0) H' d v) : Post G M0 ρ σ H (.val d) ρ' v H' := by
  have q : (fun a => Tm (.val d) v a ∨ M0 a) = M0 := by
    funext b
    exact propext ⟨fun q => q.elim (fun z => z.elim) id, .inr⟩
  exact ⟨by rw [q]; exact R, by rw [q]; exact h, fun a z => z.elim, e⟩
theorem TW.fz {G : Gt} {M0 : Ms} {ρ ρ2 : Env} {σ : L2.St} {H : Hp} {t : T} {v : V} {d : D} (w : TW G (MM ρ σ M0) σ H t.weak v) (R : StRel G M0 ρ σ H) (e : t.fz ρ = some (d, ρ2)) : StRel G M0 ρ2 σ H ∧ Rep G (MM ρ2 σ M0) H d v ∧ Ext ρ σ H ρ2 σ H := by
  cases t with
  | val d' => cases e; exact ⟨R, w, .refl⟩
  | own d' => cases e; exact ⟨R, w, .refl⟩
  | slot i =>
    have w : σ[i]? = some (some v) := w
    dsimp only [T.fz] at e
    split at e
    · rename_i d' q
      cases e
      obtain ⟨a, o, _⟩ := R.own q
      have ev := o.2
      rw [w] at ev
      cases ev
      obtain ⟨z1, z2, z3, _⟩ := R.loose q (.inr rfl) o
      exact ⟨z1, z2, z3⟩
    · rename_i d' q
      cases e
      obtain ⟨w', e1, r⟩ := R.val q
      rw [w] at e1
      cases e1
      exact ⟨R, r, .refl⟩
    · cases e
theorem ownOf_snd (N : List Str) (own : List Nat) : (ownOf N own).map (·.2) = own := by
  unfold ownOf
  rw [List.map_map]
  exact List.map_id _
theorem tgIn_ok {own : List Nat} {tg : Tg} (h : tgIn own tg = true) : ∀ j ∈ tgs tg, j ∈ own := by
  cases tg with
  | nm i =>
    intro j hj
    have : j = i := by simpa [tgs] using hj
    subst this
    simpa [tgIn] using h
  | tup is =>
    intro j hj
    unfold tgIn at h
    rw [List.all_eq_true] at h
    simpa using h j hj
theorem notSet_ok {e : Expr} (h : notSet e = true) (env : PySem.Env) (x : Value) : foldedSetIterable e env x = pure x := by
  cases e <;> first | rfl | cases h
theorem comp_pe {G : Gt} {tab : Tab} {k : Nat} {Φ : Nat → List D → FR} {W : WX} {X : Cx} (g : Good G tab k Φ W X) {it : Env → R (List D × Option (Nat × OwnK))} {rc : Env → R Bool} {re : Env → R T} {r : Env → R T} {tg : Tg} {own : List Nat} {scope : Scope} {e0 tg' it' : Expr} {ifs : List Expr} {pos : Pos}
    (hi : PI X tg' it' (EvI G W it)) (hb : blkC X.N X.env.scope scope (ownOf X.N own) = true) (ht : okTg X.N scope tg tg' = true) (hin : tgIn own tg = true) (hns : notSet it' = true)
    (hc : ∀ (s : Shared) (H : Hp) (C : Addr) (cl : List (Str × Addr)) (fp : List Addr), PTs (X.blk s H scope (compEnvC scope cl C X.env) fp) ifs (EvB G WF rc)) (he : ∀ (s : Shared) (H : Hp) (C : Addr) (cl : List (Str × Addr)) (fp : List Addr), PE (X.blk s H scope (compEnvC scope cl C X.env) fp) e0 (EvT G WF re))
    (hr : ∀ ρ, r ρ = compR it tg rc re own ρ) : PE X (.ListComp e0 [⟨tg', it', ifs, 0⟩] scope pos) (EvT G W r) := by
  have hg : ∀ (s : Shared) (H : Hp) (C : Addr) (cl : List (Str × Addr)) (fp : List Addr), PG (X.blk s H scope (compEnvC scope cl C X.env) fp) tg' (gOf X.K tg) := fun s H C cl fp => by
    refine tg_ok (X := X.blk s H scope (compEnvC scope cl C X.env) fp) (sc := scope) (fun x k hk hl => ?_) g.nd g.calm (fun x hx => ?_) ht
    · exact lookup_relS_keep (sc := X.env.scope) hk hl
    · show (scope.names.lookup x == some NameKind.cell) = true
      rw [hx]
      rfl
  have er : r = compR it tg rc re own := funext hr
  subst er
  refine PE_imp (pe_lc (own := ownOf X.N own) g.calm g.nd hi (blkOk_by hb) hg hc he (fun x => notSet_ok hns X.env x)) fun σ H Q hh => ?_
  rw [ownOf_snd]
  exact lc_read g.hK (tgIn_ok hin) hh
theorem non_dec {G : Gt} {M : Ms} {H : Hp} {d : D} {v : V} (r : Rep G M H d v) : decide (v = .non) = isNonD d := by
  have no : ∀ {a : Addr}, decide (V.ref a = .non) = false := fun {a} => decide_eq_false (by intro q; cases q)
  cases d with
  | non => simp only [Rep] at r; subst r; rfl
  | bl b => simp only [Rep] at r; subst r; exact decide_eq_false (by intro q; cases q)
  | int b => simp only [Rep] at r; subst r; exact decide_eq_false (by intro q; cases q)
  | str b => simp only [Rep] at r; subst r; exact decide_eq_false (by intro q; cases q)
  | fn b => simp only [Rep] at r; subst r; exact no
  | tup xs => simp only [Rep] at r; obtain ⟨a, _, e, _⟩ := r; subst e; exact no
  | lst xs => simp only [Rep] at r; obtain ⟨a, _, e, _⟩ := r; subst e; exact no
  | dct xs => simp only [Rep] at r; obtain ⟨a, _, e, _⟩ := r; subst e; exact no
  | scr xs => simp only [Rep] at r; obtain ⟨a, e, _⟩ := r; subst e; exact no
  | ins _ _ => simp only [Rep] at r
theorem pt_ite {X : Cx} {c a b : Expr} {pos : Pos} {tc ta tb : TT} (hc : PT X c tc) (ha : PT X a ta) (hb : PT X b tb) : PT X (.IfExp c a b pos) (fun σ H Q => tc σ H fun d H1 => if d = true then ta σ H1 Q else tb σ H1 Q) := by
  refine ⟨fun pins s σ H Q I h => isTrue_IfExp (thn (hc.run pins s σ H _ I h) fun d s1 ⟨H1, I1, q1⟩ => ?_)⟩
  cases d with
  | true => exact ha.run pins s1 σ H1 Q I1 q1
  | false => exact hb.run pins s1 σ H1 Q I1 q1
section
variable {G : Gt} {tab : Tab} {k : Nat} {Φ : Nat → List D → FR}
abbrev npOf (tab : Tab) (f : Nat) : Option Nat := (tab f).map (·.np)
theorem relS_keep {sc scope : Scope} {x : Str} {k : NameKind} (hk : k ≠ .free) (h : scope.names.lookup x = some k) : (relS scope sc).names.lookup x = some k := lookup_relS_keep hk h
mutual
theorem ev_ok : ∀ (ie : IE) (X : Cx) (W : WX) (e : Expr), Good G tab k Φ W X → okE G (npOf tab) X.N X.env.scope ie e = true → Both G X W e (ev (ioOf tab) Φ ie)
  | .var i, X, W, e, g, h => by
    simp only [okE] at h
    split at h
    · rename_i x pos
      obtain ⟨h, h3⟩ := and2 h
      obtain ⟨h1, h2⟩ := and2 h
      obtain ⟨p1, p2, _⟩ := plain_ok h3
      refine both_plain (PE_imp (pe_var (of_decide_eq_true h1) (vis_ok h2) p1 p2) fun σ H Q hh => ?_) (fun _ => rfl)
      obtain ⟨M0, ρ, R0, hh⟩ := hh
      simp only [ev] at hh
      split at hh
      · rename_i d q
        obtain ⟨v, ev, rp⟩ := R0.val q
        exact ⟨v, ev, FinT.val R0 hh rp⟩
      · rename_i k d q
        obtain ⟨a, o, rt⟩ := R0.own q
        exact ⟨.ref a, o.2, hh _ H (slot_post R0 q o)⟩
      · exact hh.elim
    · cases h
  | .cst d, X, W, e, g, h => by
    simp only [okE] at h
    split at h
    · exact both_plain (cst_ok h) (fun _ => rfl)
    · cases h
  | .glo y d, X, W, e, g, h => by
    simp only [okE] at h
    split at h
    · rename_i x pos
      obtain ⟨h, h4⟩ := and2 h
      obtain ⟨h, h3⟩ := and2 h
      obtain ⟨h1, h2⟩ := and2 h
      rw [List.any_eq_true] at h4
      obtain ⟨p, hp, hq⟩ := h4
      obtain ⟨q1, q2⟩ := and2 hq
      have q1 := of_decide_eq_true q1
      have q2 := sameC_eq q2
      obtain ⟨u, v, m1, m2, m3⟩ := g.con p hp
      rw [q1] at m1
      refine both_plain (PE_imp (pe_glob (gl_ok rfl h2) m1 m2 (plain_ok h3).1) fun σ H Q hh => ?_) (fun _ => rfl)
      obtain ⟨M0, ρ, R0, hh⟩ := hh
      simp only [ev] at hh
      exact FinT.val R0 hh (q2 ▸ m3 _ _)
    · cases h
  | .bin o a b, X, W, e, g, h => by
    simp only [okE] at h
    split at h
    · rename_i l o' r pos
      obtain ⟨h, h3⟩ := and2 h
      obtain ⟨h1, h2⟩ := and2 h
      have h1 := of_decide_eq_true h1
      subst h1
      refine both_plain (PE_imp (pe_op (op_bin g.hK o) (ev_ok a X W l g h2).pe (ev_ok b X W r g h3).pe) fun σ H Q hh => ?_) (fun _ => rfl)
      obtain ⟨M0, ρ, R0, hh⟩ := hh
      simp only [ev] at hh
      refine ⟨M0, ρ, R0, (FinT.thenT R0 hh).mono fun _ _ v H1 _ _ => ?_⟩
      rintro ⟨t, ρ1, R1, w1, p1, hh⟩
      refine ⟨M0, ρ1, R1, (FinT.thenT R1 hh).mono fun _ _ u H2 _ _ => ?_⟩
      rintro ⟨t2, ρ2, R2, w2, p2, hh⟩
      split at hh
      · rename_i d e q1 q2
        obtain ⟨t3, e3, f3⟩ := FinT.made R2 hh
        exact ⟨_, d, e, t3, TW.bor R2 (w1.mov R1 p2.ex) (by rw [T.weak_b]; exact q1), w2.bor R2 (by rw [T.weak_b]; exact q2), e3, R2.mo, f3⟩
      · exact hh.elim
    · cases h
  | .neg a, X, W, e, g, h => by
    simp only [okE] at h
    split at h
    · rename_i l pos
      refine both_plain (PE_imp (pe_un un_neg (ev_ok a X W l g h).pe) fun σ H Q hh => ?_) (fun _ => rfl)
      obtain ⟨M0, ρ, R0, hh⟩ := hh
      simp only [ev] at hh
      refine ⟨M0, ρ, R0, (FinT.thenT R0 hh).mono fun _ _ v H1 _ _ => ?_⟩
      rintro ⟨t, ρ1, R1, w1, p1, hh⟩
      split at hh
      · rename_i i
        have w2 : Rep G (MM ρ1 σ M0) H1 (.int i) v := w1
        simp only [Rep] at w2
        exact ⟨i, w2, FinT.val R1 hh (by simp only [Rep])⟩
      · exact hh.elim
    · cases h
  | .inv a, X, W, e, g, h => by
    simp only [okE] at h
    split at h
    · rename_i l pos
      refine both_plain (PE_imp (pe_un un_inv (ev_ok a X W l g h).pe) fun σ H Q hh => ?_) (fun _ => rfl)
      obtain ⟨M0, ρ, R0, hh⟩ := hh
      simp only [ev] at hh
      refine ⟨M0, ρ, R0, (FinT.thenT R0 hh).mono fun _ _ v H1 _ _ => ?_⟩
      rintro ⟨t, ρ1, R1, w1, p1, hh⟩
      split at hh
      · rename_i i
        have w2 : Rep G (MM ρ1 σ M0) H1 (.int i) v := w1
        simp only [Rep] at w2
        exact ⟨i, w2, FinT.val R1 hh (by simp only [Rep])⟩
      · exact hh.elim
    · cases h
  | .not a, X, W, e, g, h => by
    simp only [okE] at h
    split at h
    · rename_i l pos
      have b := ev_ok a X W l g h
      have imp : ∀ {M0 : Ms} {ρ : Env} {σ : L2.St} {H : Hp} {Q : VK}, StRel G M0 ρ σ H → FinT G W M0 ρ σ H (ev (ioOf tab) Φ (.not a) ρ) Q → FinT G W M0 ρ σ H (ev (ioOf tab) Φ a ρ) (fun x H1 => ∃ c, x = .bl c ∧ Q (.bl (!c)) H1) := fun {M0 ρ σ H Q} R0 hh => by
        simp only [ev] at hh
        refine (FinT.thenT R0 hh).mono fun _ _ v H1 _ _ => ?_
        rintro ⟨t, ρ1, R1, w1, p1, hh⟩
        split at hh
        · rename_i i
          have w2 : Rep G (MM ρ1 σ M0) H1 (.bl i) v := w1
          simp only [Rep] at w2
          exact ⟨i, w2, FinT.val R1 hh (by simp only [Rep])⟩
        · exact hh.elim
      refine ⟨PE_imp (pe_not b.pe) fun σ H Q hh => ?_, PT_imp (pt_not b.pt) fun σ H Q hh => ?_⟩
      · obtain ⟨M0, ρ, R0, hh⟩ := hh
        exact ⟨M0, ρ, R0, imp R0 hh⟩
      · obtain ⟨M0, ρ, R0, hh⟩ := hh
        refine ⟨M0, ρ, R0, ?_⟩
        have hh : FinB G W M0 ρ σ H ((ev (ioOf tab) Φ (.not a) ρ).bl) Q := hh
        show FinB G W M0 ρ σ H ((ev (ioOf tab) Φ a ρ).bl) (fun c H1 => Q (!c) H1)
        simp only [ev] at hh
        cases ea : ev (ioOf tab) Φ a ρ with
        | bad => rw [ea] at hh; exact hh
        | exc x ρ1 => rw [ea] at hh; exact hh
        | ok t ρ1 =>
          rw [ea] at hh
          cases t with
          | val d =>
            cases d with
            | bl c =>
              intro b' H' p
              have := p.eq
              subst this
              exact hh _ H' ⟨p.R, rfl, p.ex⟩
            | _ => exact hh.elim
          | _ => exact hh.elim
    · cases h
  | .and xs, X, W, e, g, h => by
    simp only [okE] at h
    split at h
    · rename_i es pos
      have al := evs_ok xs X W es g h
      by_cases hne : es = []
      · subst hne
        refine ⟨⟨fun pins s σ H Q I hh => ?_⟩, ⟨fun pins s σ H Q I hh => ?_⟩⟩
        · obtain ⟨M0, ρ, R0, hh⟩ := hh
          cases xs with
          | nil => simp only [ev, evAnd] at hh; exact hh.elim
          | cons _ _ => simp [okEs] at h
        · obtain ⟨M0, ρ, R0, hh⟩ := hh
          cases xs with
          | nil => simp only [ev, evAnd] at hh; exact hh.elim
          | cons _ _ => simp [okEs] at h
      · obtain ⟨z1, z2⟩ := al.and hne pos
        exact ⟨PE_imp z1 fun σ H Q hh => by obtain ⟨M0, ρ, R0, hh⟩ := hh; simp only [ev] at hh; exact ⟨M0, ρ, R0, hh⟩,
          PT_imp z2.pt fun σ H Q hh => by obtain ⟨M0, ρ, R0, hh⟩ := hh; simp only [ev] at hh; exact ⟨M0, ρ, R0, hh⟩⟩
    · cases h
  | .or xs, X, W, e, g, h => by
    simp only [okE] at h
    split at h
    · rename_i es pos
      have al := evs_ok xs X W es g h
      by_cases hne : es = []
      · subst hne
        refine ⟨⟨fun pins s σ H Q I hh => ?_⟩, ⟨fun pins s σ H Q I hh => ?_⟩⟩
        · obtain ⟨M0, ρ, R0, hh⟩ := hh
          cases xs with
          | nil => simp only [ev, evOr] at hh; exact hh.elim
          | cons _ _ => simp [okEs] at h
        · obtain ⟨M0, ρ, R0, hh⟩ := hh
          cases xs with
          | nil => simp only [ev, evOr] at hh; exact hh.elim
          | cons _ _ => simp [okEs] at h
      · obtain ⟨z1, z2⟩ := al.or hne pos
        exact ⟨PE_imp z1 fun σ H Q hh => by obtain ⟨M0, ρ, R0, hh⟩ := hh; simp only [ev] at hh; exact ⟨M0, ρ, R0, hh⟩,
          PT_imp z2.pt fun σ H Q hh => by obtain ⟨M0, ρ, R0, hh⟩ := hh; simp only [ev] at hh; exact ⟨M0, ρ, R0, hh⟩⟩
    · cases h
  | .cmp o a b, X, W, e, g, h => by
    simp only [okE] at h
    split at h
    · rename_i l o' r pos
      obtain ⟨h, h4⟩ := and2 h
      obtain ⟨h, h3⟩ := and2 h
      obtain ⟨h1, h2⟩ := and2 h
      have h1 := of_decide_eq_true h1
      subst h1
      have h4 : behindInMarks o r = false := by simpa using h4
      have b1 := (ev_ok a X W l g h2).pe
      have b2 := (ev_ok b X W r g h3).pe
      have ru := op_cmp (X := X) g.hK g.hr.units o
      refine both_of (pe_cmpR ru b1 b2 h4) (pt_cmpR ru b1 b2 h4) fun σ H Q hh => ?_
      obtain ⟨M0, ρ, R0, hh⟩ := hh
      simp only [ev] at hh
      refine ⟨M0, ρ, R0, (FinT.thenT R0 hh).mono fun _ _ v H1 _ _ => ?_⟩
      rintro ⟨t, ρ1, R1, w1, p1, hh⟩
      refine ⟨M0, ρ1, R1, (FinT.thenT R1 hh).mono fun _ _ u H2 _ _ => ?_⟩
      rintro ⟨t2, ρ2, R2, w2, p2, hh⟩
      split at hh
      · rename_i d e q1 q2
        obtain ⟨t3, e3, f3⟩ := FinT.made R2 hh
        rw [Option.map_eq_some_iff] at e3
        obtain ⟨c, e4, e5⟩ := e3
        subst e5
        exact ⟨_, d, e, c, TW.bor R2 (w1.mov R1 p2.ex) (by rw [T.weak_b]; exact q1), w2.bor R2 (by rw [T.weak_b]; exact q2), e4, f3 _ _ made_bl⟩
      · exact hh.elim
    · cases h
  | .chain o p a b c, X, W, e, g, h => by
    simp only [okE] at h
    split at h
    · rename_i l o' p' m r pos
      obtain ⟨h, h6⟩ := and2 h
      obtain ⟨h, h5⟩ := and2 h
      obtain ⟨h, h4⟩ := and2 h
      obtain ⟨h, h3⟩ := and2 h
      obtain ⟨h1, h2⟩ := and2 h
      have h1 := of_decide_eq_true h1
      have h2 := of_decide_eq_true h2
      subst h1 h2
      have h6 : lastMarks [o, p] [m, r] = false := by simpa using h6
      have b1 := (ev_ok a X W l g h3).pe
      have b2 := (ev_ok b X W m g h4).pe
      have b3 := (ev_ok c X W r g h5).pe
      have ru := op_cmp (X := X) g.hK g.hr.units o
      have ru' := op_cmp (X := X) g.hK g.hr.units p
      refine both_of (pe_chain ru ru' b1 b2 b3 h6) (pt_chain ru ru' b1 b2 b3 h6) fun σ H Q hh => ?_
      obtain ⟨M0, ρ, R0, hh⟩ := hh
      simp only [ev] at hh
      refine ⟨M0, ρ, R0, (FinT.thenT R0 hh).mono fun _ _ v H1 _ _ => ?_⟩
      rintro ⟨t, ρ1, R1, w1, p1, hh⟩
      refine ⟨M0, ρ1, R1, (FinT.thenT R1 hh).mono fun _ _ u H2 _ _ => ?_⟩
      rintro ⟨t2, ρ2, R2, w2, p2, hh⟩
      cases t with
      | val d =>
        cases t2 with
        | val e =>
          have w1' := w1.mov R1 p2.ex
          have r1 : Rep G (MM ρ2 σ M0) H2 d v := w1'
          have r2 : Rep G (MM ρ2 σ M0) H2 e u := w2
          dsimp only at hh
          split at hh
          · rename_i q
            exact ⟨_, d, e, false, r1.bor, r2.bor, q, false, rfl, by
              rw [if_neg Bool.false_ne_true]
              exact FinT.val R2 hh (by simp only [Rep])⟩
          · rename_i q
            refine ⟨_, d, e, true, r1.bor, r2.bor, q, true, rfl, ?_⟩
            rw [if_pos rfl]
            refine ⟨M0, ρ2, R2, (FinT.thenT R2 hh).mono fun _ _ z H3 _ _ => ?_⟩
            rintro ⟨t3, ρ3, R3, w3, p3, hh⟩
            cases t3 with
            | val f =>
              have r3 : Rep G (MM ρ3 σ M0) H3 f z := w3
              obtain ⟨t4, e4, f4⟩ := FinT.made R3 hh
              rw [Option.map_eq_some_iff] at e4
              obtain ⟨c', e5, e6⟩ := e4
              subst e6
              exact ⟨_, e, f, c', (Rep.mov (R2.mov p3.ex) _ _ r2).bor, r3.bor, e5, f4 _ _ made_bl⟩
            | _ => exact hh.elim
          · exact hh.elim
        | _ => exact hh.elim
      | _ => exact hh.elim
    · cases h
  | .isN a, X, W, e, g, h => by
    simp only [okE] at h
    split at h
    · rename_i l j pos' pos
      have b1 := (ev_ok a X W l g h).pe
      refine both_of (pe_cmpR op_isN b1 pe_non (nomark _)) (pt_cmpR op_isN b1 pe_non (nomark _)) fun σ H Q hh => ?_
      obtain ⟨M0, ρ, R0, hh⟩ := hh
      simp only [ev] at hh
      refine ⟨M0, ρ, R0, (FinT.thenT R0 hh).mono fun _ _ v H1 _ _ => ?_⟩
      rintro ⟨t, ρ1, R1, w1, p1, hh⟩
      split at hh
      · rename_i d
        have r1 : Rep G (MM ρ1 σ M0) H1 d v := w1
        refine ⟨rfl, ?_⟩
        rw [non_dec r1]
        exact FinT.val R1 hh (by simp only [Rep])
      · exact hh.elim
    · cases h
  | .notN a, X, W, e, g, h => by
    simp only [okE] at h
    split at h
    · rename_i l j pos' pos
      have b1 := (ev_ok a X W l g h).pe
      refine both_of (pe_cmpR op_notN b1 pe_non (nomark _)) (pt_cmpR op_notN b1 pe_non (nomark _)) fun σ H Q hh => ?_
      obtain ⟨M0, ρ, R0, hh⟩ := hh
      simp only [ev] at hh
      refine ⟨M0, ρ, R0, (FinT.thenT R0 hh).mono fun _ _ v H1 _ _ => ?_⟩
      rintro ⟨t, ρ1, R1, w1, p1, hh⟩
      split at hh
      · rename_i d
        have r1 : Rep G (MM ρ1 σ M0) H1 d v := w1
        refine ⟨rfl, ?_⟩
        rw [non_dec r1]
        exact FinT.val R1 hh (by simp only [Rep])
      · exact hh.elim
    · cases h
  | .isi a t, X, W, e, g, h => by
    simp only [okE] at h
    split at h
    · rename_i f p1 e ty p2 pos
      obtain ⟨h, h8⟩ := and2 h
      obtain ⟨h, h7⟩ := and2 h
      obtain ⟨h, h6⟩ := and2 h
      obtain ⟨h, h5⟩ := and2 h
      obtain ⟨h, h4⟩ := and2 h
      obtain ⟨h, h3⟩ := and2 h
      obtain ⟨h1, h2⟩ := and2 h
      have h1 := of_decide_eq_true h1
      have h4 := of_decide_eq_true h4
      subst h1 h4
      have b1 := (ev_ok a X W e g h7).pe
      have hv : bootBuiltins (Str.ofString t.nm) = some (.type t.nm) := by cases t <;> decide +kernel
      have hn : (Str.ofString t.nm) ≠ "__name__" := by cases t <;> decide +kernel
      have hd : ((Str.ofString t.nm) == ("__debug__" : Str)) = false := by cases t <;> decide +kernel
      have b2 : PE X (.Name (Str.ofString t.nm) p2) (tC (.ty t.nm)) := pe_bltn (gl_ok rfl h5) (g.free _ h6) hv rfl hn hd
      have pa : PA X [e, .Name (Str.ofString t.nm) p2] (tCons (EvT G W (ev (ioOf tab) Φ a)) (tCons (tC (.ty t.nm)) tNil)) := pa_cons b1 (pa_cons b2 pa_nil) (star_ok h8 _ _)
      have s1 := star_ok h8 [.Name (Str.ofString t.nm) p2] X.env
      refine both_plain (PE_imp (pe_callB (call_isiD g.hK t) (gl_ok rfl h2) (g.free _ h3) boot_isinstance pa (by decide) (by decide) s1 rfl) fun σ H Q hh => ?_) (fun _ => rfl)
      obtain ⟨M0, ρ, R0, hh⟩ := hh
      simp only [ev] at hh
      refine ⟨M0, ρ, R0, (FinT.thenT R0 hh).mono fun _ _ v H1 _ _ => ?_⟩
      rintro ⟨t1, ρ1, R1, w1, p1, hh⟩
      split at hh
      · rename_i d q
        obtain ⟨t3, e3, f3⟩ := FinT.made R1 hh
        rw [Option.map_eq_some_iff] at e3
        obtain ⟨c, e4, e5⟩ := e3
        subst e5
        exact ⟨_, d, v, c, rfl, w1.bor R1 (by rw [T.weak_b]; exact q), e4, f3 _ _ made_bl⟩
      · exact hh.elim
    · cases h
  | .ite c a b, X, W, e, g, h => by
    simp only [okE] at h
    split at h
    · rename_i t x y pos
      obtain ⟨h, h3⟩ := and2 h
      obtain ⟨h1, h2⟩ := and2 h
      have bc := ev_ok c X W t g h1
      have ba := ev_ok a X W x g h2
      have bb := ev_ok b X W y g h3
      have imp : ∀ {M0 : Ms} {ρ : Env} {σ : L2.St} {H : Hp} {Q : VK}, StRel G M0 ρ σ H → FinT G W M0 ρ σ H (ev (ioOf tab) Φ (.ite c a b) ρ) Q → FinB G W M0 ρ σ H ((ev (ioOf tab) Φ c ρ).bl) (fun d H1 => if d = true then EvT G W (ev (ioOf tab) Φ a) σ H1 Q else EvT G W (ev (ioOf tab) Φ b) σ H1 Q) := fun {M0 ρ σ H Q} R0 hh => by
        simp only [ev] at hh
        cases ec : ev (ioOf tab) Φ c ρ with
        | bad => rw [ec] at hh; exact hh
        | exc z ρ1 => rw [ec] at hh; exact hh
        | ok t ρ1 =>
          rw [ec] at hh
          have hh : FinT G W M0 ρ σ H (match asBl t with
            | some true => ev (ioOf tab) Φ a ρ1
            | some false => ev (ioOf tab) Φ b ρ1
            | none => .bad) Q := hh
          show FinB G W M0 ρ σ H (match asBl t with
            | some b => .ok b ρ1
            | none => .bad) _
          cases eb : asBl t with
          | none => rw [eb] at hh; exact hh.elim
          | some d =>
            rw [eb] at hh
            intro b' H' p
            have := p.eq
            subst this
            cases b' with
            | true => rw [if_pos rfl]; exact ⟨M0, ρ1, p.R, FinT.pre hh p.ex⟩
            | false => rw [if_neg Bool.false_ne_true]; exact ⟨M0, ρ1, p.R, FinT.pre hh p.ex⟩
      have impB : ∀ {M0 : Ms} {ρ : Env} {σ : L2.St} {H : Hp} {Q : Bool → Hp → Prop}, StRel G M0 ρ σ H → FinB G W M0 ρ σ H ((ev (ioOf tab) Φ (.ite c a b) ρ).bl) Q → FinB G W M0 ρ σ H ((ev (ioOf tab) Φ c ρ).bl) (fun d H1 => if d = true then EvB G W (fun ρ => (ev (ioOf tab) Φ a ρ).bl) σ H1 Q else EvB G W (fun ρ => (ev (ioOf tab) Φ b ρ).bl) σ H1 Q) := fun {M0 ρ σ H Q} R0 hh => by
        simp only [ev] at hh
        cases ec : ev (ioOf tab) Φ c ρ with
        | bad => rw [ec] at hh; exact hh
        | exc z ρ1 => rw [ec] at hh; exact hh
        | ok t ρ1 =>
          rw [ec] at hh
          have hh : FinB G W M0 ρ σ H (Py.R.bl (match asBl t with
            | some true => ev (ioOf tab) Φ a ρ1
            | some false => ev (ioOf tab) Φ b ρ1
            | none => .bad)) Q := hh
          show FinB G W M0 ρ σ H (match asBl t with
            | some b => .ok b ρ1
            | none => .bad) _
          cases eb : asBl t with
          | none => rw [eb] at hh; exact hh.elim
          | some d =>
            rw [eb] at hh
            intro b' H' p
            have := p.eq
            subst this
            cases b' with
            | true => rw [if_pos rfl]; exact ⟨M0, ρ1, p.R, FinB.pre hh p.ex⟩
            | false => rw [if_neg Bool.false_ne_true]; exact ⟨M0, ρ1, p.R, FinB.pre hh p.ex⟩
      refine ⟨PE_imp (pe_ifExp bc.pt ba.pe bb.pe) fun σ H Q hh => ?_, PT_imp (pt_ite bc.pt ba.pt bb.pt) fun σ H Q hh => ?_⟩
      · obtain ⟨M0, ρ, R0, hh⟩ := hh
        exact ⟨M0, ρ, R0, imp R0 hh⟩
      · obtain ⟨M0, ρ, R0, hh⟩ := hh
        exact ⟨M0, ρ, R0, impB R0 hh⟩
    · cases h
  | .tup xs, X, W, e, g, h => by
    simp only [okE] at h
    split at h
    · rename_i es j pos
      have al := evs_ok xs X W es g h
      refine both_plain (PE_imp (pe_tup al.f) fun σ H Q hh => ?_) (fun _ => rfl)
      obtain ⟨M0, ρ, R0, hh⟩ := hh
      simp only [ev] at hh
      refine ⟨M0, ρ, R0, (FinT.thenF hh).mono fun _ _ vs H1 _ _ => ?_⟩
      rintro ⟨ds, ρ1, p, hh⟩
      split at hh
      · rename_i hl
        exact ⟨by rw [p.tw.length]; exact small6 hl, fun q n => hh _ _ (Made.post p.R (made_tup p.tw n))⟩
      · exact hh.elim
    · cases h
  | .lst xs, X, W, e, g, h => by
    simp only [okE] at h
    split at h
    · rename_i es pos
      have al := evs_ok xs X W es g h
      refine both_plain (PE_imp (pe_lst al.f) fun σ H Q hh => ?_) (fun _ => rfl)
      obtain ⟨M0, ρ, R0, hh⟩ := hh
      simp only [ev] at hh
      refine ⟨M0, ρ, R0, (FinT.thenF hh).mono fun _ _ vs H1 _ _ => ?_⟩
      rintro ⟨ds, ρ1, p, hh⟩
      split at hh
      · rename_i hl
        exact ⟨by rw [p.tw.length]; exact small6 hl, fun q n => hh _ _ (Made.post p.R (made_lst p.tw n))⟩
      · exact hh.elim
    · cases h
  | .dct0, X, W, e, g, h => by
    simp only [okE] at h
    split at h
    · refine both_plain (PE_imp pe_dnewK fun σ H Q hh => ?_) (fun _ => rfl)
      obtain ⟨M0, ρ, R0, hh⟩ := hh
      simp only [ev] at hh
      intro q n
      exact hh _ _ (Made.post R0 ⟨q, _, rfl, n, rfl, trivial, fun M' m => ⟨[], upd_same, by simp only [Repk]⟩⟩)
    · cases h
  | .sub a i, X, W, e, g, h => by
    simp only [okE] at h
    split at h
    · rename_i l r pos
      obtain ⟨h, h3⟩ := and2 h
      obtain ⟨h1, h2⟩ := and2 h
      refine both_plain (PE_imp (pe_ix (ix_D g.hK) (ev_ok a X W l g h1).pe (ev_ok i X W r g h2).pe (plainIx_ok h3)) fun σ H Q hh => ?_) (fun _ => rfl)
      obtain ⟨M0, ρ, R0, hh⟩ := hh
      simp only [ev] at hh
      refine ⟨M0, ρ, R0, (FinT.thenT R0 hh).mono fun _ _ v H1 _ _ => ?_⟩
      rintro ⟨t, ρ1, R1, w1, p1, hh⟩
      refine ⟨M0, ρ1, R1, (FinT.thenT R1 hh).mono fun _ _ u H2 _ _ => ?_⟩
      rintro ⟨t2, ρ2, R2, w2, p2, hh⟩
      cases t2 with
      | val e =>
        cases q1 : t.b ρ2 with
        | none => rw [q1] at hh; exact hh.elim
        | some d =>
          rw [q1] at hh
          dsimp only at hh
          have w2 : Rep G (MM ρ2 σ M0) H2 e u := w2
          cases es : subD d e with
          | none => rw [es] at hh; exact hh.elim
          | some c =>
            rw [es] at hh
            exact ⟨_, d, e, c, TW.bor R2 (w1.mov R1 p2.ex) (by rw [T.weak_b]; exact q1), w2.bor, es, fun z rz => FinT.val R2 hh rz⟩
      | _ => cases q1 : t.b ρ2 <;> (rw [q1] at hh; exact hh.elim)
    · cases h
  | .slc a lo hi, X, W, e, g, h => by
    simp only [okE] at h
    split at h
    · rename_i l lo' hi' p2 pos
      obtain ⟨h, h3⟩ := and2 h
      obtain ⟨h1, h2⟩ := and2 h
      have po : ∀ (b : IE) (o : Option Expr), (match o with
          | none => isAbs b
          | some x => okE G (npOf tab) X.N X.env.scope b x) = true → (∀ x, okE G (npOf tab) X.N X.env.scope b x = true → Both G X W x (ev (ioOf tab) Φ b)) → PO X o (EvO G W (optE (isAbs b) (ev (ioOf tab) Φ b))) := fun b o hb bb => by
        cases o with
        | none =>
          refine ⟨fun pins s σ H Q I hh => po_none.run pins s σ H Q I ?_⟩
          obtain ⟨M0, ρ, R0, hh⟩ := hh
          have hb : isAbs b = true := hb
          unfold optE at hh
          rw [if_pos hb] at hh
          exact hh _ _ ⟨R0, rfl, .refl⟩
        | some x =>
          have hb : okE G (npOf tab) X.N X.env.scope b x = true := hb
          refine ⟨fun pins s σ H Q I hh => (po_some (bb x hb).pe).run pins s σ H Q I ?_⟩
          obtain ⟨M0, ρ, R0, hh⟩ := hh
          have nb : isAbs b = false := by
            cases b <;> first | rfl | simp [okE] at hb
          unfold optE at hh
          rw [if_neg (by rw [nb]; decide)] at hh
          refine ⟨M0, ρ, R0, (FinO.thenT R0 hh).mono fun _ _ v H1 _ _ => ?_⟩
          rintro ⟨t, ρ1, R1, w1, p1, hh⟩
          unfold optI at hh
          split at hh
          · rename_i i
            have w2 : Rep G (MM ρ1 σ M0) H1 (.int i) v := w1
            simp only [Rep] at w2
            exact ⟨i, w2, hh _ _ ⟨R1, rfl, .refl⟩⟩
          · exact hh.elim
      have plo := po lo lo' h2 fun x hx => ev_ok lo X W x g hx
      have phi := po hi hi' h3 fun x hx => ev_ok hi X W x g hx
      refine both_plain (PE_imp (pe_slice (sl_D g.hK) (ev_ok a X W l g h1).pe plo phi) fun σ H Q hh => ?_) (fun _ => rfl)
      obtain ⟨M0, ρ, R0, hh⟩ := hh
      simp only [ev] at hh
      refine ⟨M0, ρ, R0, (FinT.thenT R0 hh).mono fun _ _ v H1 _ _ => ?_⟩
      rintro ⟨t, ρ1, R1, w1, p1, hh⟩
      refine ⟨M0, ρ1, R1, (FinT.thenO hh).mono fun _ _ o H2 _ _ => ?_⟩
      rintro ⟨o2, ρ2, p2, hh⟩
      have := p2.eq
      subst this
      refine ⟨M0, ρ2, p2.R, (FinT.thenO hh).mono fun _ _ o H3 _ _ => ?_⟩
      rintro ⟨o3, ρ3, p3, hh⟩
      have := p3.eq
      subst this
      cases q1 : t.b ρ3 with
      | none => rw [q1] at hh; exact hh.elim
      | some d =>
        rw [q1] at hh
        obtain ⟨t3, e3, f3⟩ := FinT.made p3.R hh
        exact ⟨_, d, t3, TW.bor p3.R ((w1.mov R1 p2.ex).mov p2.R p3.ex) (by rw [T.weak_b]; exact q1), e3, f3⟩
    · cases h
  | .absent, X, W, e, g, h => by simp [okE] at h
  | .rev a, X, W, e, g, h => by
    simp only [okE] at h
    split at h
    · rename_i l i j q1 q2 q3 pos
      obtain ⟨h1, h2⟩ := and2 h
      have h1 := of_decide_eq_true h1
      subst h1
      have b := (ev_ok a X W l g h2).pe
      refine both_plain ⟨fun pins s σ H Q I hh => ?_⟩ (fun _ => rfl)
      obtain ⟨M0, ρ, R0, hh⟩ := hh
      simp only [ev] at hh
      have hh2 := FinT.thenT R0 hh
      cases ea : ev (ioOf tab) Φ a ρ with
      | bad => rw [ea] at hh; exact hh.elim
      | exc x ρ1 =>
        rw [ea] at hh
        refine (pe_revL (k := j) (p1 := q1) (p2 := q2) (p3 := q3) (pos := pos) b).run pins s σ H Q I ⟨M0, ρ, R0, ?_⟩
        rw [ea]
        exact hh
      | ok t ρ1 =>
        rw [ea] at hh2
        cases eb : t.b ρ1 with
        | none =>
          rw [ea] at hh
          have hh : FinT G W M0 ρ σ H (match t.b ρ1 with
            | some d => Py.R.opt (revD d) ρ1
            | none => .bad) Q := hh
          rw [eb] at hh
          exact hh.elim
        | some d =>
          cases d with
          | lst xs =>
            refine (pe_revL (k := j) (p1 := q1) (p2 := q2) (p3 := q3) (pos := pos) b).run pins s σ H Q I ⟨M0, ρ, R0, ?_⟩
            rw [ea]
            intro v H1 p
            obtain ⟨R1, w⟩ := p.weak R0
            obtain ⟨a', vs, rfl, h1, h2⟩ := (w.bor R1 (d := .lst xs) (by rw [T.weak_b]; exact eb)).lst
            refine ⟨a', vs, rfl, .of h1, fun q n => ?_⟩
            rw [ea] at hh
            have hh : FinT G W M0 ρ σ H (match t.b ρ1 with
              | some d => Py.R.opt (revD d) ρ1
              | none => .bad) Q := hh
            rw [eb] at hh
            exact hh _ _ (Post.pre p.ex (Made.post R1 (made_lst h2.reverse n)))
          | tup xs =>
            refine (pe_revT (k := j) (p1 := q1) (p2 := q2) (p3 := q3) (pos := pos) b).run pins s σ H Q I ⟨M0, ρ, R0, ?_⟩
            rw [ea]
            intro v H1 p
            obtain ⟨R1, w⟩ := p.weak R0
            obtain ⟨a', vs, rfl, h1, h2⟩ := (w.bor R1 (d := .tup xs) (by rw [T.weak_b]; exact eb)).tup
            refine ⟨a', vs, rfl, g.hK ▸ h1, fun q n => ?_⟩
            rw [ea] at hh
            have hh : FinT G W M0 ρ σ H (match t.b ρ1 with
              | some d => Py.R.opt (revD d) ρ1
              | none => .bad) Q := hh
            rw [eb] at hh
            exact hh _ _ (Post.pre p.ex (Made.post R1 (made_tup h2.reverse n)))
          | _ =>
            rw [ea] at hh
            have hh : FinT G W M0 ρ σ H (match t.b ρ1 with
              | some d => Py.R.opt (revD d) ρ1
              | none => .bad) Q := hh
            rw [eb] at hh
            exact hh.elim
    · cases h
  | .call f y xs, X, W, e, g, h => by
    simp only [okE] at h
    split at h
    · rename_i x p es pos
      obtain ⟨h, h6⟩ := and2 h
      obtain ⟨h, h5⟩ := and2 h
      obtain ⟨h, h4⟩ := and2 h
      obtain ⟨h, h3⟩ := and2 h
      obtain ⟨h1, h2⟩ := and2 h
      have h2 := of_decide_eq_true h2
      have h6 := of_decide_eq_true h6
      subst h2
      have al := evs_ok xs X W es g h5
      unfold npOf at h6
      rw [Option.map_eq_some_iff] at h6
      obtain ⟨d, hd, _⟩ := h6
      refine both_plain (PE_imp (call_okP g f hd (gl_ok rfl h3) (plain_ok h4).1 al.a al.star (fun e => ?_)) fun σ H Q hh => ?_) (fun _ => rfl)
      · subst e
        cases xs with
        | nil => funext ρ; simp only [evA]
        | cons _ _ => simp [okEs] at h5
      · obtain ⟨M0, ρ, R0, hh⟩ := hh
        simp only [ev] at hh
        exact ⟨M0, ρ, R0, hh⟩
    · cases h
  | .lrng t xs, X, W, e, g, h => by
    simp only [okE] at h
    split at h
    · rename_i x p y p2 es pos2 pos
      obtain ⟨h, h8⟩ := and2 h
      obtain ⟨h, h7⟩ := and2 h
      obtain ⟨h, h6⟩ := and2 h
      obtain ⟨h, h5⟩ := and2 h
      obtain ⟨h, h4⟩ := and2 h
      obtain ⟨h, h3⟩ := and2 h
      obtain ⟨h1, h2⟩ := and2 h
      have h1 := of_decide_eq_true h1
      have h4 := of_decide_eq_true h4
      subst h1
      subst h4
      have al := evs_ok xs X W es g h7
      have hl : es.length = 1 ∨ es.length = 2 := by
        match es, h8 with
        | [_], _ => exact .inl rfl
        | [_, _], _ => exact .inr rfl
      cases t with
      | true =>
        refine both_plain (PE_imp (lrng_pe (t := true) g.calm (gl_ok rfl h5) (g.free _ h6) (gl_ok rfl h2) (g.free _ h3) al.f al.star hl al.len) fun σ H Q hh => ?_) (fun _ => rfl)
        obtain ⟨M0, ρ, R0, hh⟩ := hh
        simp only [ev] at hh
        exact ⟨M0, ρ, R0, hh⟩
      | false =>
        refine both_plain (PE_imp (lrng_pe (t := false) g.calm (gl_ok rfl h5) (g.free _ h6) (gl_ok rfl h2) (g.free _ h3) al.f al.star hl al.len) fun σ H Q hh => ?_) (fun _ => rfl)
        obtain ⟨M0, ρ, R0, hh⟩ := hh
        simp only [ev] at hh
        exact ⟨M0, ρ, R0, hh⟩
    · cases h
  | .bi b xs, X, W, e, g, h => by
    simp only [okE] at h
    split at h
    · rename_i x p es pos
      obtain ⟨h, h5⟩ := and2 h
      obtain ⟨h, h4⟩ := and2 h
      obtain ⟨h, h3⟩ := and2 h
      obtain ⟨h1, h2⟩ := and2 h
      have h1 := of_decide_eq_true h1
      subst h1
      have al := evs_ok xs X W es g h4
      refine both_plain (PE_imp (bi_ok g b (gl_ok rfl h2) (g.free _ h3) (fun e => by subst e; simp at h5) al.a al.star) fun σ H Q hh => ?_) (fun _ => rfl)
      obtain ⟨M0, ρ, R0, hh⟩ := hh
      simp only [ev] at hh
      exact ⟨M0, ρ, R0, hh⟩
    · cases h
  | .mut m i xs, X, W, e, g, h => by
    simp only [okE] at h
    split at h
    · rename_i x p0 at_ ap es cp
      obtain ⟨h, h8⟩ := and2 h
      obtain ⟨h, h7⟩ := and2 h
      obtain ⟨h, h6⟩ := and2 h
      obtain ⟨h, h5⟩ := and2 h
      obtain ⟨h, h4⟩ := and2 h
      obtain ⟨h, h3⟩ := and2 h
      obtain ⟨h1, h2⟩ := and2 h
      have h1 := of_decide_eq_true h1
      have h4 := of_decide_eq_true h4
      have h7 := of_decide_eq_true h7
      subst h4
      obtain ⟨q1, q2, _⟩ := plain_ok h3
      have al := evs_ok xs X W es g h5
      have pn : PE X (.Name x p0) (tVar i) := pe_var h1 (vis_ok h2) q1 q2
      have imp : ∀ σ H Q, EvT G W (ev (ioOf tab) Φ (.mut m i xs)) σ H Q → tBM X.K "list" (rMu G m) (tVar i) (EvF G W (evF (ioOf tab) Φ xs)) σ H Q := fun σ H Q hh => by
        obtain ⟨M0, ρ, R0, hh⟩ := hh
        simp only [ev] at hh
        split at hh
        · rename_i k0 ys e0
          obtain ⟨a, o, rt⟩ := R0.own e0
          obtain ⟨vs, hv, _⟩ := rt
          refine ⟨.ref a, o.2, .inl ⟨rfl, vs, .of hv⟩, M0, ρ, R0, (FinT.thenF hh).mono fun _ _ us H1 _ _ => ?_⟩
          rintro ⟨ds, ρ1, p, hh⟩
          split at hh
          · rename_i k d e1
            split at hh
            · exact hh.elim
            · rename_i nk
              cases em : muD m d ds with
              | none => rw [em] at hh; exact hh.elim
              | some rd =>
                obtain ⟨r, d'⟩ := rd
                rw [em] at hh
                obtain ⟨a', o', rt'⟩ := p.R.own e1
                have ea : a' = a := by
                  have z := o'.2.symm.trans o.2
                  exact V.ref.inj (Option.some.inj (Option.some.inj z))
                subst ea
                cases d with
                | lst zs =>
                  obtain ⟨vs', hv', hr'⟩ := rt'
                  refine ⟨_, a', _, zs, r, d', vs', rfl, rfl, hv', hr', ⟨ds, p.tw, em⟩, fun v us' ds' e2 rv ru => ?_⟩
                  subst e2
                  obtain ⟨z1, z2, z3⟩ := p.R.put (d' := .lst ds') (o := .lst us') e1 nk o' trivial fun M' mv => ⟨us', upd_same, Reps.mov mv _ _ ru⟩
                  exact hh v _ (Post.ofVal z1 z2 (Rep.mov z3 _ _ rv))
                | _ => cases m <;> simp [muD] at em
          · exact hh.elim
        · exact hh.elim
      cases es with
      | nil =>
        cases m with
        | pop0 =>
          refine both_plain (PE_imp (pe_bm0 PySem.F.plainAttrs_list PySem.F.slot_list_pop PySem.F.type_list_pop (mt_mu (G := G) .pop0) pn rfl h6) fun σ H Q hh => ?_) (fun _ => rfl)
          obtain ⟨v, e1, e2, hF⟩ := imp σ H Q hh
          obtain ⟨M0, ρ, R0, hF⟩ := hF
          cases xs with
          | nil =>
            simp only [evF] at hF
            exact ⟨v, e1, e2, hF [] H ⟨R0, .nil, .refl⟩⟩
          | cons _ _ => simp [okEs] at h5
        | _ => simp at h8
      | cons e0 es =>
        have s1 := star_ok (al.star e0 List.mem_cons_self) es X.env
        have s2 := backTo_plain (pos := cp) (env := X.env) fun e he => al.star e (List.mem_cons_of_mem _ he)
        have s3 := few_ok (pos := cp) (env := X.env) al.star h7
        cases m with
        | append => exact both_plain (PE_imp (pe_bm PySem.F.plainAttrs_list PySem.F.slot_list_append PySem.F.type_list_append (mt_mu (G := G) .append) pn al.f rfl s3 h6 s1 s2) imp) (fun _ => rfl)
        | pop0 => simp at h8
        | pop1 => exact both_plain (PE_imp (pe_bm PySem.F.plainAttrs_list PySem.F.slot_list_pop PySem.F.type_list_pop (mt_mu (G := G) .pop1) pn al.f rfl s3 h6 s1 s2) imp) (fun _ => rfl)
        | extend => exact both_plain (PE_imp (pe_bm PySem.F.plainAttrs_list PySem.F.slot_list_extend PySem.F.type_list_extend (mt_mu (G := G) .extend) pn al.f rfl s3 h6 s1 s2) imp) (fun _ => rfl)
    · cases h
  | .comp elt tg it conds own, X, W, e, g, h => by
    simp only [okE] at h
    split at h
    · rename_i e0 tg' it' ifs a scope pos
      obtain ⟨h, h9⟩ := and2 h
      obtain ⟨h, h8⟩ := and2 h
      obtain ⟨h, h7⟩ := and2 h
      obtain ⟨h, h6⟩ := and2 h
      obtain ⟨h, h5⟩ := and2 h
      obtain ⟨h, h4⟩ := and2 h
      obtain ⟨h, h3⟩ := and2 h
      obtain ⟨h1, h2⟩ := and2 h
      have h1 := of_decide_eq_true h1
      subst h1
      refine both_plain (comp_pe g (it := evIt (ioOf tab) Φ it) (rc := evC (ioOf tab) Φ conds) (re := ev (ioOf tab) Φ elt) (evit_ok it X W tg' it' g h2) h6 h3 h8 h9 (fun s H C cl fp => evc_ok conds _ _ ifs (g.blk s H scope _ fp) h5) (fun s H C cl fp => (ev_ok elt _ _ e0 (g.blk s H scope _ fp) h4).pe) fun ρ => by simp only [ev]; rfl) (fun _ => rfl)
    · cases h
theorem evs_ok : ∀ (xs : IEs) (X : Cx) (W : WX) (es : List Expr), Good G tab k Φ W X → okEs G (npOf tab) X.N X.env.scope xs es = true → Alls G X W es (evF (ioOf tab) Φ xs) (evA (ioOf tab) Φ xs) (evAnd (ioOf tab) Φ xs) (evOr (ioOf tab) Φ xs)
  | .nil, X, W, es, g, h => by
    simp only [okEs] at h
    split at h
    · refine ⟨PA_imp pa_nil fun σ H Q hh => ?_, PA_imp pa_nil fun σ H Q hh => ?_, fun ρ ds ρ' e => ?_, fun e he => (by cases he), fun n => absurd rfl n, fun n => absurd rfl n⟩
      · obtain ⟨M0, ρ, R0, hh⟩ := hh
        simp only [evF] at hh
        exact hh [] H ⟨R0, .nil, .refl⟩
      · obtain ⟨M0, ρ, R0, hh⟩ := hh
        simp only [evA] at hh
        exact hh [] H ⟨R0, rfl, .refl⟩
      · simp only [evF] at e
        cases e
        rfl
    · cases h
  | .cons a r, X, W, es, g, h => by
    simp only [okEs] at h
    split at h
    · rename_i e0 es
      obtain ⟨h, h3⟩ := and2 h
      obtain ⟨h1, h2⟩ := and2 h
      have b := ev_ok a X W e0 g h1
      have al := evs_ok r X W es g h3
      have st := star_ok h2 es X.env
      refine ⟨PA_imp (pa_cons b.pe al.f st) fun σ H Q hh => ?_, PA_imp (pa_cons b.pe al.a st) fun σ H Q hh => ?_, fun ρ ds ρ' e => ?_, fun e he => ?_, fun _ pos => ?_, fun _ pos => ?_⟩
      · obtain ⟨M0, ρ, R0, hh⟩ := hh
        simp only [evF] at hh
        refine ⟨M0, ρ, R0, (FinF.thenT R0 hh).mono fun _ _ v H1 _ _ => ?_⟩
        rintro ⟨t, ρ1, R1, w1, p1, hh⟩
        cases ef : t.fz ρ1 with
        | none => rw [ef] at hh; exact hh.elim
        | some dr =>
          obtain ⟨d, ρ2⟩ := dr
          rw [ef] at hh
          obtain ⟨R2, rp, e2⟩ := w1.fz R1 ef
          refine ⟨M0, ρ2, R2, (FinF.thenF (FinF.pre hh e2)).mono fun _ _ vs H2 _ _ => ?_⟩
          rintro ⟨ds, ρ3, p3, hh⟩
          exact hh (v :: vs) H2 ⟨p3.R, .cons (Rep.mov (R2.mov p3.ex) _ _ rp) p3.tw, .refl⟩
      · obtain ⟨M0, ρ, R0, hh⟩ := hh
        simp only [evA] at hh
        refine ⟨M0, ρ, R0, (FinA.thenT R0 hh).mono fun _ _ v H1 _ _ => ?_⟩
        rintro ⟨t, ρ1, R1, w1, p1, hh⟩
        refine ⟨M0, ρ1, R1, (FinA.thenA hh).mono fun _ _ vs H2 _ _ => ?_⟩
        rintro ⟨ts, ρ2, p2, hh⟩
        exact hh (v :: vs) H2 ⟨p2.R, ⟨v, vs, rfl, w1.mov R1 p2.ex, p2.tw⟩, .refl⟩
      · simp only [evF] at e
        cases ea : ev (ioOf tab) Φ a ρ with
        | bad => rw [ea] at e; cases e
        | exc _ _ => rw [ea] at e; cases e
        | ok t ρ1 =>
          rw [ea] at e
          have e : (match t.fz ρ1 with
            | some (d, ρ2) => (evF (ioOf tab) Φ r ρ2).bind fun ds ρ3 => Py.R.ok (d :: ds) ρ3
            | none => .bad) = .ok ds ρ' := e
          cases ef : t.fz ρ1 with
          | none => rw [ef] at e; cases e
          | some dr =>
            obtain ⟨d, ρ2⟩ := dr
            rw [ef] at e
            have e : ((evF (ioOf tab) Φ r ρ2).bind fun ds ρ3 => Py.R.ok (d :: ds) ρ3) = .ok ds ρ' := e
            cases er : evF (ioOf tab) Φ r ρ2 with
            | bad => rw [er] at e; cases e
            | exc _ _ => rw [er] at e; cases e
            | ok ds' ρ3 =>
              rw [er] at e
              cases e
              rw [List.length_cons, List.length_cons, al.len _ _ _ er]
      · rcases List.mem_cons.mp he with rfl | he
        · exact h2
        · exact al.star e he
      · cases r with
        | nil =>
          cases es with
          | nil => exact ⟨PE_imp (pe_one b.pe) fun σ H Q hh => by obtain ⟨M0, ρ, R0, hh⟩ := hh; simp only [evAnd] at hh; exact ⟨M0, ρ, R0, hh⟩, ⟨fun wh pins s σ H Q I hh => (pw_and1 b.pt).run wh pins s σ H Q I (by obtain ⟨M0, ρ, R0, hh⟩ := hh; simp only [evAnd] at hh; exact ⟨M0, ρ, R0, hh⟩)⟩⟩
          | cons _ _ => simp [okEs] at h3
        | cons a2 r2 =>
          cases es with
          | nil => simp [okEs] at h3
          | cons e2 es2 =>
            obtain ⟨z1, z2⟩ := al.and (by intro q; cases q) pos
            refine ⟨PE_imp (pe_and b.pe z1) fun σ H Q hh => ?_, ⟨fun wh pins s σ H Q I hh => (pw_and b.pt z2).run wh pins s σ H Q I ?_⟩⟩
            · obtain ⟨M0, ρ, R0, hh⟩ := hh
              simp only [evAnd] at hh
              refine ⟨M0, ρ, R0, (FinT.thenT R0 hh).mono fun _ _ v H1 _ _ => ?_⟩
              rintro ⟨t, ρ1, R1, w1, p1, hh⟩
              cases eb : asBl t with
              | none => rw [eb] at hh; exact hh.elim
              | some c =>
                rw [eb] at hh
                have et := asBl_eq eb
                subst et
                have w2 : Rep G (MM ρ1 σ M0) H1 (.bl c) v := w1
                simp only [Rep] at w2
                refine ⟨c, w2, ?_⟩
                cases c with
                | true => rw [if_pos rfl]; exact ⟨M0, ρ1, R1, hh⟩
                | false => rw [if_neg Bool.false_ne_true]; exact FinT.val R1 hh (by simp only [Rep])
            · obtain ⟨M0, ρ, R0, hh⟩ := hh
              simp only [evAnd] at hh
              refine ⟨M0, ρ, R0, ?_⟩
              show FinB G W M0 ρ σ H ((ev (ioOf tab) Φ a ρ).bl) _
              cases ea : ev (ioOf tab) Φ a ρ with
              | bad => rw [ea] at hh; exact hh
              | exc z ρ1 => rw [ea] at hh; exact hh
              | ok t ρ1 =>
                rw [ea] at hh
                have hh : FinB G W M0 ρ σ H (Py.R.bl (match asBl t with
                  | some true => evAnd (ioOf tab) Φ (.cons a2 r2) ρ1
                  | some false => .ok (.val (.bl false)) ρ1
                  | none => .bad)) Q := hh
                show FinB G W M0 ρ σ H (match asBl t with
                  | some b => .ok b ρ1
                  | none => .bad) _
                cases eb : asBl t with
                | none => rw [eb] at hh; exact hh.elim
                | some d =>
                  rw [eb] at hh
                  intro b' H' p
                  have := p.eq
                  subst this
                  cases b' with
                  | true => rw [if_pos rfl]; exact ⟨M0, ρ1, p.R, FinB.pre hh p.ex⟩
                  | false => rw [if_neg Bool.false_ne_true]; exact hh _ H' p
      · cases r with
        | nil =>
          cases es with
          | nil => exact ⟨PE_imp (pe_one b.pe) fun σ H Q hh => by obtain ⟨M0, ρ, R0, hh⟩ := hh; simp only [evOr] at hh; exact ⟨M0, ρ, R0, hh⟩, ⟨fun wh pins s σ H Q I hh => (pw_or1 b.pt).run wh pins s σ H Q I (by obtain ⟨M0, ρ, R0, hh⟩ := hh; simp only [evOr] at hh; exact ⟨M0, ρ, R0, hh⟩)⟩⟩
          | cons _ _ => simp [okEs] at h3
        | cons a2 r2 =>
          cases es with
          | nil => simp [okEs] at h3
          | cons e2 es2 =>
            obtain ⟨z1, z2⟩ := al.or (by intro q; cases q) pos
            refine ⟨PE_imp (pe_or b.pe z1) fun σ H Q hh => ?_, ⟨fun wh pins s σ H Q I hh => (pw_or b.pt z2).run wh pins s σ H Q I ?_⟩⟩
            · obtain ⟨M0, ρ, R0, hh⟩ := hh
              simp only [evOr] at hh
              refine ⟨M0, ρ, R0, (FinT.thenT R0 hh).mono fun _ _ v H1 _ _ => ?_⟩
              rintro ⟨t, ρ1, R1, w1, p1, hh⟩
              cases eb : asBl t with
              | none => rw [eb] at hh; exact hh.elim
              | some c =>
                rw [eb] at hh
                have et := asBl_eq eb
                subst et
                have w2 : Rep G (MM ρ1 σ M0) H1 (.bl c) v := w1
                simp only [Rep] at w2
                refine ⟨c, w2, ?_⟩
                cases c with
                | false => rw [if_neg Bool.false_ne_true]; exact ⟨M0, ρ1, R1, hh⟩
                | true => rw [if_pos rfl]; exact FinT.val R1 hh (by simp only [Rep])
            · obtain ⟨M0, ρ, R0, hh⟩ := hh
              simp only [evOr] at hh
              refine ⟨M0, ρ, R0, ?_⟩
              show FinB G W M0 ρ σ H ((ev (ioOf tab) Φ a ρ).bl) _
              cases ea : ev (ioOf tab) Φ a ρ with
              | bad => rw [ea] at hh; exact hh
              | exc z ρ1 => rw [ea] at hh; exact hh
              | ok t ρ1 =>
                rw [ea] at hh
                have hh : FinB G W M0 ρ σ H (Py.R.bl (match asBl t with
                  | some false => evOr (ioOf tab) Φ (.cons a2 r2) ρ1
                  | some true => .ok (.val (.bl true)) ρ1
                  | none => .bad)) Q := hh
                show FinB G W M0 ρ σ H (match asBl t with
                  | some b => .ok b ρ1
                  | none => .bad) _
                cases eb : asBl t with
                | none => rw [eb] at hh; exact hh.elim
                | some d =>
                  rw [eb] at hh
                  intro b' H' p
                  have := p.eq
                  subst this
                  cases b' with
                  | false => rw [if_neg Bool.false_ne_true]; exact ⟨M0, ρ1, p.R, FinB.pre hh p.ex⟩
                  | true => rw [if_pos rfl]; exact hh _ H' p
    · cases h
theorem evc_ok : ∀ (xs : IEs) (X : Cx) (W : WX) (es : List Expr), Good G tab k Φ W X → okC G (npOf tab) X.N X.env.scope xs es = true → PTs X es (EvB G W (evC (ioOf tab) Φ xs))
  | .nil, X, W, es, g, h => by
    simp only [okC] at h
    split at h
    · refine ⟨fun pins s σ H Q I hh => pts_nil.run pins s σ H Q I ?_⟩
      obtain ⟨M0, ρ, R0, hh⟩ := hh
      simp only [evC] at hh
      exact hh true H ⟨R0, rfl, .refl⟩
    · cases h
  | .cons a r, X, W, es, g, h => by
    simp only [okC] at h
    split at h
    · rename_i e0
      have b := ev_ok a X W e0 g h
      refine ⟨fun pins s σ H Q I hh => (pts_one b.pt).run pins s σ H Q I ?_⟩
      obtain ⟨M0, ρ, R0, hh⟩ := hh
      simp only [evC] at hh
      refine ⟨M0, ρ, R0, ?_⟩
      show FinB G W M0 ρ σ H ((ev (ioOf tab) Φ a ρ).bl) _
      cases ea : ev (ioOf tab) Φ a ρ with
      | bad => rw [ea] at hh; exact hh
      | exc z ρ1 => rw [ea] at hh; exact hh
      | ok t ρ1 =>
        rw [ea] at hh
        have hh : FinB G W M0 ρ σ H (match asBl t with
          | some true => .ok true ρ1
          | some false => .ok false ρ1
          | none => .bad) Q := hh
        show FinB G W M0 ρ σ H (match asBl t with
          | some b => .ok b ρ1
          | none => .bad) Q
        cases eb : asBl t with
        | none => rw [eb] at hh; exact hh
        | some c => rw [eb] at hh; cases c <;> exact hh
    · cases h
theorem evit_ok : ∀ (it : It) (X : Cx) (W : WX) (tg e : Expr), Good G tab k Φ W X → okIt G (npOf tab) X.N X.env.scope it e = true → PI X tg e (EvI G W (evIt (ioOf tab) Φ it))
  | .e a, X, W, tg, e, g, h => by
    simp only [okIt] at h
    refine PI_imp (it_e g.hK (ev_ok a X W e g h).pe) fun σ H R hh => ?_
    obtain ⟨M0, ρ, R0, hh⟩ := hh
    simp only [evIt] at hh
    exact ⟨M0, ρ, R0, hh⟩
  | .rng xs, X, W, tg, e, g, h => by
    simp only [okIt] at h
    split at h
    · rename_i x p es pos
      obtain ⟨h, h5⟩ := and2 h
      obtain ⟨h, h4⟩ := and2 h
      obtain ⟨h, h3⟩ := and2 h
      obtain ⟨h1, h2⟩ := and2 h
      have h1 := of_decide_eq_true h1
      subst h1
      have al := evs_ok xs X W es g h4
      refine PI_imp (it_rng (gl_ok rfl h2) (g.free _ h3) al.f al.star ?_ al.len) fun σ H R hh => ?_
      · match es, h5 with
        | [_], _ => exact .inl rfl
        | [_, _], _ => exact .inr rfl
      · obtain ⟨M0, ρ, R0, hh⟩ := hh
        simp only [evIt] at hh
        exact ⟨M0, ρ, R0, hh⟩
    · cases h
  | .enum _, X, W, tg, e, g, h => by simp [okIt] at h
  | .zip _ _, X, W, tg, e, g, h => by simp [okIt] at h
end
end
end Py

set_option Elab.async false
set_option linter.all false
set_option maxRecDepth 100000
namespace Py
open PySem PySem.Spec
open PyProof.Rows L2

theorem PS_imp {X : Cx} {st : Stmt} {t t' : TS} (h : PS X st t) (k : ∀ D σ H, t' D σ H → t D σ H) : PS X st t' := ⟨fun pins s σ H D I hw => h.run pins s σ H D I (k D σ H hw)⟩
theorem PSs_imp {X : Cx} {st : List Stmt} {t t' : TS} (h : PSs X st t) (k : ∀ D σ H, t' D σ H → t D σ H) : PSs X st t' := ⟨fun pins s σ H D I hw => h.run pins s σ H D I (k D σ H hw)⟩
section
variable {G : Gt} {W : WX} {M0 : Ms} {ρ ρ1 ρ2 ρ' : Env} {σ σ1 σ2 σ' : L2.St} {H H1 H2 H' : Hp}
/-- the temp that a return hands on -/
def rtT (o : Bool) (d : D) : T := if o then .own d else .val d
structure PostR (G : Gt) (M0 : Ms) (ρ : Env) (σ : L2.St) (H : Hp) (o : Bool) (d : D) (ρ' : Env) (σ' : L2.St) (v : V) (H' : Hp) : Prop where
  R : StRel G (fun a => Tm (rtT o d) v a ∨ M0 a) ρ' σ' H'
  tr : TRel G (MM ρ' σ' fun a => Tm (rtT o d) v a ∨ M0 a) ρ' σ' H' (rtT o d) v
  fr : ∀ a, Tm (rtT o d) v a → (∃ i, OwnAt ρ σ i a) ∨ H a = none
  ex : Ext ρ σ H ρ' σ' H'
/-- what a statement asks -/
def FinS (G : Gt) (W : WX) (M0 : Ms) (ρ : Env) (σ : L2.St) (H : Hp) (r : O) (D : Ends) : Prop := match r with
  | .nx ρ' => ∀ σ' H', StRel G M0 ρ' σ' H' → Ext ρ σ H ρ' σ' H' → D.nx σ' H'
  | .bk ρ' => ∀ σ' H', StRel G M0 ρ' σ' H' → Ext ρ σ H ρ' σ' H' → D.bk σ' H'
  | .ct ρ' => ∀ σ' H', StRel G M0 ρ' σ' H' → Ext ρ σ H ρ' σ' H' → D.ct σ' H'
  | .rt o d ρ' => ∀ σ' v H', PostR G M0 ρ σ H o d ρ' σ' v H' → D.rt v H'
  | .exc x ρ' => ∀ σ' cls d H', XPost G M0 ρ σ H x ρ' σ' cls d H' → W cls d σ' H'
  | .bad => False
def EvS (G : Gt) (W : WX) (r : Env → O) : TS := fun D σ H => ∃ M0 ρ, StRel G M0 ρ σ H ∧ FinS G W M0 ρ σ H (r ρ) D
theorem PostR.pre {o : Bool} {d : D} {v : V} (e : Ext ρ σ H ρ1 σ1 H1) (p : PostR G M0 ρ1 σ1 H1 o d ρ2 σ2 v H2) : PostR G M0 ρ σ H o d ρ2 σ2 v H2 :=
  ⟨p.R, p.tr, fun a q => by
    rcases p.fr a q with ⟨i, z⟩ | z
    · exact e.fr i a z
    · exact .inr (e.tr a z), e.trans p.ex⟩
theorem FinS.pre {r : O} {D : Ends} (h : FinS G W M0 ρ σ H r D) (e : Ext ρ σ H ρ1 σ1 H1) : FinS G W M0 ρ1 σ1 H1 r D := by
  cases r with
  | nx ρ' => exact fun σ' H' R x => h σ' H' R (e.trans x)
  | bk ρ' => exact fun σ' H' R x => h σ' H' R (e.trans x)
  | ct ρ' => exact fun σ' H' R x => h σ' H' R (e.trans x)
  | rt o d ρ' => exact fun σ' v H' p => h σ' v H' (p.pre e)
  | exc x ρ' => exact fun σ' c d H' p => h σ' c d H' (p.pre e)
  | bad => exact h
/-- an expression, then the rest of the statement -/
theorem FinS.then {r : R T} {k : T → Env → O} {D : Ends} (h : FinS G W M0 ρ σ H (r.thenO k) D) :
    FinT G W M0 ρ σ H r (fun v H1 => ∃ t ρ1, r = .ok t ρ1 ∧ Post G M0 ρ σ H t ρ1 v H1 ∧ FinS G W M0 ρ σ H (k t ρ1) D) := by
  cases r with
  | ok t ρ1 => exact fun v H1 p => ⟨t, ρ1, rfl, p, h⟩
  | exc x ρ1 => exact fun c d H' p => h σ c d H' p
  | bad => exact h
theorem Post.own {t : T} {d : D} {v : V} (p : Post G M0 ρ σ H (.own d) ρ' v H') : ∃ a, v = .ref a ∧ StRel G (fun b => b = a ∨ M0 b) ρ' σ H' ∧ Root G (MM ρ' σ fun b => b = a ∨ M0 b) H' d a ∧ H a = none := by
  obtain ⟨a, rfl, rt⟩ := p.tr
  exact ⟨a, rfl, p.R, rt, p.fr a rfl⟩
theorem tm_val {d : D} {v : V} : (fun a => Tm (.val d) v a ∨ M0 a) = M0 := by
  funext b
  exact propext ⟨fun q => q.elim (fun z => z.elim) id, .inr⟩
theorem tm_slot {i : Nat} {v : V} : (fun a => Tm (.slot i) v a ∨ M0 a) = M0 := by
  funext b
  exact propext ⟨fun q => q.elim (fun z => z.elim) id, .inr⟩
/-- a value is stored to a name -/
theorem put_ok {i : Nat} {t : T} {v : V} {ρ0 : Env} {σ0 : L2.St} {H0 : Hp} (R : StRel G (fun b => Tm t v b ∨ M0 b) ρ σ H) (tr : TRel G (MM ρ σ fun b => Tm t v b ∨ M0 b) ρ σ H t v) (fr : ∀ a, Tm t v a → H0 a = none) (nm : ∀ a, Tm t v a → ¬ M0 a)
    (ex : Ext ρ0 σ0 H0 ρ σ H) (e : putT ρ i t = some ρ') :
    StRel G M0 ρ' (σ.set i (some v)) H ∧ Ext ρ0 σ0 H0 ρ' (σ.set i (some v)) H ∧ Mov (MM ρ σ fun b => Tm t v b ∨ M0 b) (MM ρ' (σ.set i (some v)) M0) H H := by
  cases t with
  | val d =>
    rw [tm_val] at R tr ⊢
    unfold putT at e
    dsimp only at e
    split at e
    · rename_i f
      cases e
      obtain ⟨z1, z2, z3⟩ := R.putVal f tr
      exact ⟨z1, ex.trans z2, z3⟩
    · cases e
  | own d =>
    obtain ⟨a, rfl, rt⟩ := tr
    unfold putT at e
    dsimp only at e
    split at e
    · rename_i f
      cases e
      have hm : ∀ b, (Tm (.own d) (.ref a) b ∨ M0 b) ↔ (b = a ∨ M0 b) := fun b => Iff.rfl
      obtain ⟨z1, z2, z3⟩ := R.store (M0 := M0) f (fun _ q => .inr q) (.inr ⟨d, a, rfl, rfl, hm, nm a rfl, rt⟩)
      refine ⟨z1, ⟨ex.st, ex.tr, fun j b q => ?_, fun j k d2 ej nk => ?_⟩, z3⟩
      · rcases z2 j b q with ⟨_, z⟩ | ⟨_, z, n⟩
        · exact ex.fr j b z
        · rcases z with z | z
          · exact .inr (fr b z)
          · exact absurd z n
      · obtain ⟨h1, d', h2, h3⟩ := ex.kp j k d2 ej nk
        have n : j ≠ i := fun q => by
          subst q
          exact nk (free_own f h2)
        exact ⟨by rw [List.getElem?_set_ne (Ne.symm n)]; exact h1, d', by rw [List.getElem?_set_ne (Ne.symm n)]; exact h2, h3⟩
    · cases e
  | slot j =>
    rw [tm_slot] at R tr ⊢
    obtain ⟨a, rfl, oa⟩ := tr
    unfold putT at e
    dsimp only at e
    split at e
    · rename_i d q
      split at e
      · rename_i f
        cases e
        obtain ⟨z1, z2, z3, z4⟩ := R.loose q (.inr rfl) oa
        have f' : free (ρ.set j (.val d)) i = true := by
          unfold free at f ⊢
          by_cases q2 : j = i
          · subst q2
            rw [List.getElem?_set_self (List.getElem?_eq_some_iff.mp q).1]
          · rw [List.getElem?_set_ne q2]
            exact f
        obtain ⟨y1, y2, y3⟩ := z1.putVal f' z2
        refine ⟨y1, (ex.trans z3).trans y2, ?_⟩
        exact ⟨R.mo, fun b o h n => h, fun b q => by
          rcases y3.sub b q with z | z
          · rcases (R.mov z3).sub b z with w | w
            · exact .inl w
            · exact .inr w
          · exact .inr z⟩
      · cases e
    · rename_i d q
      obtain ⟨⟨k, d', q'⟩, _⟩ := oa
      rw [q] at q'
      cases q'
    · cases e
end
end Py

set_option Elab.async false
set_option linter.all false
set_option maxRecDepth 100000
namespace Py
open PySem PySem.Spec
open PyProof.Rows L2

/-! ### the text of statements -/
def locN (N : List Str) (sc : Scope) (i : Nat) (x : Str) : Bool := decide (N[i]? = some x) && decide (sc.names.lookup x = some .local)
def noComp : Expr → Bool
  | .ListComp _ _ _ _ => false
  | .SetComp _ _ _ _ => false
  | .DictComp _ _ _ _ _ => false
  | _ => true
/-- a name is stored to; a comprehension on the same line -/
def swOk (x : Str) (py : Pos) : Expr → Bool
  | .ListComp _ _ s p => (py.line == p.line) && !(s.names.any fun (n, k) => n == x && (k == .local || k == .cell))
  | .SetComp _ _ _ _ => false
  | .DictComp _ _ _ _ _ => false
  | _ => true
/-- a tuple is stored in order -/
def unpOk (ts : List Expr) : Expr → Bool
  | .Tuple vs _ _ => !(ts.length == 2 || ts.length == 3) || vs.length != ts.length || vs.all (foldedForSure 8)
  | _ => true
def parOk (x y : Str) (px py : Pos) (a b : Expr) : Bool := decide (x ≠ y) && (px.line == py.line) && notStar a && notStar b && !([a, b].all (foldedForSure 8)) && !([a, b].all (constantsAlone 8))
def isIp : Operator → Bool
  | .Add => true
  | .Sub => true
  | _ => false
section
variable (G : Gt) (np : Nat → Option Nat) (N : List Str) (sc : Scope)
mutual
def okS : IS → Stmt → Bool
  | .asg i a => fun st => match st with
    | .Assign [.Name x py] e _ => locN N sc i x && okE G np N sc a e && swOk x py e
    | _ => false
  | .unp is a => fun st => match st with
    | .Assign [.Tuple ts _ _] e _ => okNms N sc is ts && okE G np N sc a e && unpOk ts e && (ts.all fun t => match t with
        | .Name x _ => decide (sc.names.lookup x = some .local)
        | _ => false)
    | _ => false
  | .par i j a b => fun st => match st with
    | .Assign [.Tuple [.Name x px, .Name y py] _ _] (.Tuple [e, f] _ _) _ => locN N sc i x && locN N sc j y && okE G np N sc a e && okE G np N sc b f && parOk x y px py e f
    | _ => false
  | .setIx i ix a => fun st => match st with
    | .Assign [.Subscript (.Name x _) z _] e _ => decide (N[i]? = some x) && vis sc x && plainN x && okE G np N sc a e && okE G np N sc ix z && plainIx z
    | _ => false
  | .aug i o a => fun st => match st with
    | .AugAssign (.Name x _) o' e _ => locN N sc i x && decide (o = o') && isIp o && okE G np N sc a e
    | _ => false
  | .exp a => fun st => match st with
    | .Expr e _ => okE G np N sc a e && noComp e
    | _ => false
  | .ret a => fun st => match st with
    | .Return (some e) _ => okE G np N sc a e
    | _ => false
  | .retN => fun st => match st with
    | .Return none _ => true
    | _ => false
  | .iff c a b => fun st => match st with
    | .If t p q _ => okE G np N sc c t && okSs a p && okSs b q
    | _ => false
  | .for tg it body => fun st => match st with
    | .For t e b [] _ => okTg N sc tg t && okIt G np N sc it e && okSs body b && notSet e
    | _ => false
  | .while c body => fun st => match st with
    | .While t b [] _ => okE G np N sc c t && okSs body b
    | _ => false
  | .pass => fun st => match st with
    | .Pass _ => true
    | .Expr (.Constant (.str _) _ _) _ => true
    | _ => false
  | .brk => fun st => match st with
    | .Break _ => true
    | _ => false
  | .cont => fun st => match st with
    | .Continue _ => true
    | _ => false
  | .never => fun _ => true
termination_by structural e => e
def okSs : ISs → List Stmt → Bool
  | .nil => fun sts => match sts with
    | [] => true
    | _ => false
  | .cons a r => fun sts => match sts with
    | st :: sts => okS a st && okSs r sts
    | _ => false
termination_by structural e => e
end
end
theorem swOk_sw {x : Str} {py : Pos} {e : Expr} {l : Nat} {env : PySem.Env} (h : swOk x py e = true) (n : noComp e = true) : swapsWith e (some (.Name x py)) l env = pure false := by
  cases e <;> first | rfl | cases n
theorem noComp_sw {t : Option Expr} {e : Expr} {l : Nat} {env : PySem.Env} (n : noComp e = true) : swapsWith e t l env = pure false := by
  cases e <;> first | rfl | cases n
theorem sole_tup {ts : List Expr} {k : Nat} {p : Pos} {e : Expr} {l : Nat} {env : PySem.Env} : swapsWithSole [.Tuple ts k p] e l env = pure false := by
  cases e <;> rfl
theorem sole_sub {o i : Expr} {p : Pos} {e : Expr} {l : Nat} {env : PySem.Env} : swapsWithSole [.Subscript o i p] e l env = pure false := by
  cases e <;> rfl
theorem stores_sub {o i : Expr} {p : Pos} {e : Expr} {env : PySem.Env} : swappedStores [.Subscript o i p] e env = pure none := by
  cases e <;> rfl
theorem stores_unp {ts : List Expr} {k : Nat} {p : Pos} {e : Expr} {env : PySem.Env} (h : unpOk ts e = true) : swappedStores [.Tuple ts k p] e env = pure none := by
  cases e <;> try rfl
  rename_i vs kk pp
  unfold unpOk at h
  dsimp only at h
  simp only [Bool.or_eq_true] at h
  unfold swappedStores
  simp only
  rcases h with (h | h) | h
  · simp [h]
  · simp [h]
  · simp only [h]
    repeat' split
    all_goals first | rfl | simp_all
theorem stores_par {x y : Str} {px py pt pu : Pos} {k1 k2 : Nat} {a b : Expr} {env : PySem.Env} (hk : env.scope.kind = .function) (hx : env.scope.names.lookup x = some .local) (hy : env.scope.names.lookup y = some .local) (h : parOk x y px py a b = true) :
    swappedStores [.Tuple [.Name x px, .Name y py] k1 pt] (.Tuple [a, b] k2 pu) env = pure (some [x, y]) := by
  unfold parOk at h
  simp only [Bool.and_eq_true, Bool.not_eq_true', decide_eq_true_eq] at h
  obtain ⟨⟨⟨⟨⟨h1, h2⟩, h3⟩, h4⟩, h5⟩, h6⟩ := h
  have kx : env.kindOf x = some .local := hx
  have ky : env.kindOf y = some .local := hy
  have hb : env.blockKind = .function := by unfold Env.blockKind; rw [hk]; rfl
  have st : ([a, b].any fun | .Starred .. => true | _ => false) = false := by
    cases a <;> cases b <;> first | rfl | (cases h3; done) | (cases h4; done)
  have h2' : py.line = px.line := (eq_of_beq h2).symm
  have nd : ([x, y] : List Str).eraseDups.length = 2 := by
    have e1 : (y == x) = false := beq_eq_false_iff_ne.mpr (Ne.symm h1)
    simp [List.eraseDups_cons, e1]
  unfold swappedStores
  simp only [hb, kx, ky, h5, h6, Expr.pos, h2', List.head?, Option.map, Option.getD, List.filterMap_cons, List.filterMap_nil, beq_self_eq_true, Bool.and_self, if_true, List.length_cons, List.length_nil, nd]
  refine (if_neg (by decide)).trans ((if_neg fun hh => ?_).trans ?_)
  · exact absurd (st.symm.trans hh) (by decide)
  · rfl
end Py

set_option Elab.async false
set_option linter.all false
set_option maxRecDepth 100000
namespace Py
open PySem PySem.Spec
open PyProof.Rows L2

structure GoodS (G : Gt) (tab : Tab) (k : Nat) (Φ : Nat → List D → FR) (W : WX) (X : Cx) : Prop extends Good G tab k Φ W X where
  kind : X.env.scope.kind = .function
  fn : ∀ x, X.fn x = true
  pass : PassesOwn (model X.prog X.w) X.A X.env X.xe
theorem loc_ok {N : List Str} {sc : Scope} {i : Nat} {x : Str} (h : locN N sc i x = true) : N[i]? = some x ∧ sc.names.lookup x = some .local := by
  obtain ⟨a, b⟩ := and2 h
  exact ⟨of_decide_eq_true a, of_decide_eq_true b⟩
section
variable {G : Gt} {W : WX} {M0 : Ms} {ρ ρ1 ρ2 ρ' ρL : Env} {σ σ1 σ2 σ' : L2.St} {H H1 H2 H' : Hp} {D : Ends}
theorem Post.nm {t : T} {v : V} (R : StRel G M0 ρ σ H) (p : Post G M0 ρ σ H t ρ' v H') : ∀ a, Tm t v a → ¬ M0 a := fun a h q => p.tm R h (.inr q)
theorem set_read {i : Nat} {r : Env → R T} (h : EvS G W (fun ρ => (r ρ).thenO fun t ρ1 => match putT ρ1 i t with
    | some ρ2 => .nx ρ2
    | none => .bad) D σ H) : tAsg (EvT G W r) (gName i) D σ H := by
  obtain ⟨M0, ρ, R0, h⟩ := h
  refine ⟨M0, ρ, R0, (FinS.then h).mono fun _ _ v H1 _ _ => ?_⟩
  rintro ⟨t, ρ1, er, p, f⟩
  split at f
  · rename_i ρ2 e
    obtain ⟨z1, z2, _⟩ := put_ok p.R p.tr p.fr (p.nm R0) p.ex e
    exact f _ _ z1 z2
  · exact f.elim
theorem sub_read {i : Nat} {r ri : Env → R T} (h : EvS G W (fun ρ => (r ρ).thenO fun t ρ1 => match t.fz ρ1 with
    | some (d, ρ2) => if (ρ2[i]?).any isOwn then (ri ρ2).thenO fun y ρ3 => setAt ρ3 i d y else .bad
    | none => .bad) D σ H) : tAsg (EvT G W r) (gSub (tVar i) (EvT G W ri) rSetL) D σ H := by
  obtain ⟨M0, ρ, R0, h⟩ := h
  refine ⟨M0, ρ, R0, (FinS.then h).mono fun _ _ v H1 _ _ => ?_⟩
  rintro ⟨t, ρ1, er, p, f⟩
  split at f
  · rename_i d ρ2 e
    obtain ⟨R2, r2, e2⟩ := p.fz R0 e
    have f := FinS.pre f e2
    split at f
    · rename_i hown
      obtain ⟨kk, c, eo⟩ : ∃ k c, ρ2[i]? = some (.own k c) := by
        cases q : ρ2[i]? with
        | none => rw [q] at hown; cases hown
        | some s =>
          rw [q] at hown
          cases s with
          | own k c => exact ⟨k, c, rfl⟩
          | _ => cases hown
      obtain ⟨a, oa, _⟩ := R2.own eo
      refine ⟨.ref a, oa.2, M0, ρ2, R2, (FinS.then f).mono fun _ _ y H2 _ _ => ?_⟩
      rintro ⟨u, ρ3, eu, p3, f⟩
      have w3 := (p3.weak R2).2
      have R3 := (p3.weak R2).1
      have rv := Rep.mov (R2.mov p3.ex) _ _ r2
      unfold setAt at f
      split at f
      · rename_i kd
        split at f
        · rename_i k3 c3 e3
          split at f
          · exact f.elim
          · rename_i nk
            split at f
            · rename_i c' es
              obtain ⟨a3, o3, rt3⟩ := R3.own e3
              have ea : a3 = a := by
                have := o3.2
                rw [oa.2] at this
                cases this
                rfl
              subst ea
              have rk : Rep G (MM ρ3 σ M0) H2 kd y := w3
              unfold setD at es
              split at es
              · rename_i xs z
                rw [Option.map_eq_some_iff] at es
                obtain ⟨j, ej, rfl⟩ := es
                simp only [Rep] at rk
                subst rk
                obtain ⟨vs, ha, hr⟩ := rt3
                refine ⟨a3, vs, z, j, rfl, rfl, ha, by rw [hr.length]; exact ej, ?_⟩
                obtain ⟨R4, e4, m4⟩ := R3.put (d' := .lst (xs.set j d)) (o := .lst (vs.set j v)) e3 nk o3 trivial fun M' m => ⟨_, upd_same, (Reps.mov m _ _ hr).set j (Rep.mov m _ _ rv)⟩
                exact f _ _ R4 (p3.ex.trans e4)
              · cases es
            · exact f.elim
        · exact f.elim
      · exact f.elim
    · exact f.elim
  · exact f.elim
theorem aug_read {i : Nat} {o : Operator} {r : Env → R T} {g : Int → Int → Int} (hg : ∀ x y d, binD o (.int x) (.int y) = some (.val d) → d = .int (g x y)) (h : EvS G W (fun ρ => match ρ[i]? with
    | some (.val (.int x)) => (r ρ).thenO fun t ρ1 => augAt ρ1 i o x t
    | _ => .bad) D σ H) : tAug i (EvT G W r) (ipI g) D σ H := by
  obtain ⟨M0, ρ, R0, h⟩ := h
  dsimp only at h
  split at h
  · rename_i x e
    obtain ⟨v, ev, rv⟩ := R0.val e
    simp only [Rep] at rv
    subst rv
    refine ⟨.int x, ev, M0, ρ, R0, (FinS.then h).mono fun _ _ v H1 _ _ => ?_⟩
    rintro ⟨t, ρ1, er, p, f⟩
    obtain ⟨R1, w1⟩ := p.weak R0
    unfold augAt at f
    split at f
    · rename_i y
      have w1 : Rep G (MM ρ1 σ M0) H1 (.int y) v := w1
      simp only [Rep] at w1
      subst w1
      refine ⟨x, y, rfl, rfl, ?_⟩
      split at f
      · rename_i d ed
        have := hg _ _ _ ed
        subst this
        split at f
        · rename_i ff
          obtain ⟨z1, z2, _⟩ := R1.putVal (d := Py.D.int (g x y)) (v := V.int (g x y)) ff (by simp only [Rep])
          exact f _ _ z1 (p.ex.trans z2)
        · exact f.elim
      · exact f.elim
    · exact f.elim
  · exact h.elim
end
end Py

set_option Elab.async false
set_option linter.all false
set_option maxRecDepth 100000
namespace Py
open PySem PySem.Spec
open PyProof.Rows L2

section
variable {G : Gt} {W : WX} {M0 : Ms} {ρ ρ1 ρ2 ρ' ρL : Env} {σ σ1 σ2 σ' : L2.St} {H H1 H2 H' : Hp} {D : Ends}
theorem ret_read {r : Env → R T} (h : EvS G W (fun ρ => (r ρ).thenO fun t ρ1 => rtAt ρ1 t) D σ H) : tRet (EvT G W r) D σ H := by
  obtain ⟨M0, ρ, R0, h⟩ := h
  refine ⟨M0, ρ, R0, (FinS.then h).mono fun _ _ v H1 _ _ => ?_⟩
  rintro ⟨t, ρ1, er, p, f⟩
  unfold rtAt at f
  split at f
  · exact f σ v H1 ⟨p.R, p.tr, fun a q => .inr (p.fr a q), p.ex⟩
  · exact f σ v H1 ⟨p.R, p.tr, fun a q => .inr (p.fr a q), p.ex⟩
  · rename_i i
    obtain ⟨R1, w1⟩ := p.weak R0
    obtain ⟨a, rfl, oa⟩ := p.tr
    have R1' := p.R
    rw [tm_slot] at R1'
    split at f
    · rename_i d e
      obtain ⟨a2, oa2, rt⟩ := R1'.own e
      have ea : a2 = a := by
        have := oa2.2
        rw [oa.2] at this
        cases this
        rfl
      subst ea
      obtain ⟨z1, z2, z3, z4⟩ := R1'.loose e (.inl rfl) oa
      have no : ∀ l, ¬ OwnAt (ρ1.set i .no) σ l a2 := fun l q => by
        rcases own_set q with ⟨_, ⟨k, d2, q2⟩, _⟩ | ⟨ne, q2⟩
        · cases q2
        · exact ne (R1'.inj l i a2 q2 oa)
      have nm : ¬ M0 a2 := R1'.dis i a2 oa
      refine f σ (.ref a2) H1 ⟨?_, ?_, ?_, p.ex.trans z3⟩
      · show StRel G (fun b => b = a2 ∨ M0 b) _ _ _
        have sub : ∀ b, MM ρ1 σ M0 b ↔ MM (ρ1.set i .no) σ (fun b => b = a2 ∨ M0 b) b := fun b => by
          constructor
          · rintro (⟨j, q⟩ | q)
            · by_cases hj : j = i
              · subst hj
                have : b = a2 := by
                  have := q.2
                  rw [oa.2] at this
                  cases this
                  rfl
                exact .inr (.inl this)
              · exact .inl ⟨j, own_set_ne q hj⟩
            · exact .inr (.inr q)
          · rintro (⟨j, q⟩ | q | q)
            · rcases own_set q with ⟨_, ⟨k, d2, q2⟩, _⟩ | ⟨ne, q2⟩
              · cases q2
              · exact .inl ⟨j, q2⟩
            · exact .inl ⟨i, q ▸ oa⟩
            · exact .inr q
        have mv : Mov (MM ρ1 σ M0) (MM (ρ1.set i .no) σ (fun b => b = a2 ∨ M0 b)) H1 H1 := .same R1'.mo fun b q => (sub b).mpr q
        refine ⟨z1.len, z1.inj, fun l b q => ?_, fun b q => R1'.mo b ((sub b).mpr q), fun j s ej => ?_⟩
        · rintro (q2 | q2)
          · subst q2; exact no l q
          · exact z1.dis l b q q2
        · by_cases hj : j = i
          · subst hj
            obtain ⟨w, ew, _⟩ := R1'.sl j _ e
            rw [List.getElem?_set_self (List.getElem?_eq_some_iff.mp e).1] at ej
            cases ej
            exact ⟨w, ew, trivial⟩
          · rw [List.getElem?_set_ne (Ne.symm hj)] at ej
            obtain ⟨w, ew, h⟩ := R1'.sl j s ej
            refine ⟨w, ew, ?_⟩
            cases s with
            | no => trivial
            | val d2 =>
              cases w with
              | none => exact h.elim
              | some w => exact Rep.mov mv _ _ h
            | own kk d2 =>
              cases w with
              | none => exact h.elim
              | some w =>
                cases w with
                | ref b => exact Root.mov mv h rfl
                | _ => exact h.elim
      · refine ⟨a2, rfl, ?_⟩
        show Root G (MM (ρ1.set i .no) σ (fun b => b = a2 ∨ M0 b)) H1 d a2
        refine Root.mov (M := MM ρ1 σ M0) (.same R1'.mo fun b q => ?_) rt rfl
        rcases q with ⟨j, q⟩ | q | q
        · rcases own_set q with ⟨_, ⟨k, d2, q2⟩, _⟩ | ⟨ne, q2⟩
          · cases q2
          · exact .inl ⟨j, q2⟩
        · exact .inl ⟨i, q ▸ oa⟩
        · exact .inr q
      · intro b q
        have q : b = a2 := q
        subst q
        exact p.ex.fr i b oa
    · rename_i d e
      obtain ⟨w, ew, rp⟩ := R1'.val e
      rw [oa.2] at ew
      cases ew
      refine f σ (.ref a) H1 ⟨?_, ?_, fun _ q => q.elim, p.ex⟩
      · show StRel G (fun b => Tm (.val d) (.ref a) b ∨ M0 b) _ _ _
        rw [tm_val]; exact R1'
      · show Rep G (MM ρ1 σ fun b => Tm (.val d) (.ref a) b ∨ M0 b) H1 d (.ref a)
        rw [tm_val]; exact rp
    · exact f.elim
theorem FinS.thenX {M1 : Ms} {r : R T} {k : T → Env → O} {D : Ends} (h : FinS G W M0 ρ σ H (r.thenO k) D) (sub : ∀ b, M0 b → M1 b) (ex : Ext ρ σ H ρ1 σ1 H1) :
    FinT G W M1 ρ1 σ1 H1 r (fun v H2 => ∃ t ρ2, r = .ok t ρ2 ∧ Post G M1 ρ1 σ1 H1 t ρ2 v H2 ∧ FinS G W M0 ρ σ H (k t ρ2) D) := by
  cases r with
  | ok t ρ1 => exact fun v H1 p => ⟨t, ρ1, rfl, p, h⟩
  | exc x ρ' => exact fun c d H' p => h σ1 c d H' ⟨p.R.out sub, p.x, ex.trans p.ex⟩
  | bad => exact h
theorem par_read {i j : Nat} {ra rb : Env → R T} (h : EvS G W (fun ρ => (ra ρ).thenO fun t ρ1 => (rb ρ1).thenO fun u ρ2 => parAt ρ2 i j t u) D σ H) : tPar i j (tCons (EvT G W ra) (tCons (EvT G W rb) tNil)) D σ H := by
  obtain ⟨M0, ρ, R0, h⟩ := h
  refine ⟨M0, ρ, R0, (FinS.then h).mono fun _ _ v H1 _ _ => ?_⟩
  rintro ⟨t, ρ1, er, p, f⟩
  refine ⟨_, ρ1, p.R, (FinS.thenX (M1 := fun b => Tm t v b ∨ M0 b) f (fun _ q => .inr q) p.ex).mono fun _ _ w H2 _ _ => ?_⟩
  rintro ⟨u, ρ2, eu, p2, f⟩
  refine ⟨v, w, rfl, ?_⟩
  have mv1 : StRel G (fun b => Tm t v b ∨ M0 b) ρ1 σ H1 := p.R
  have key : (∀ i, t ≠ .slot i) → (∀ i, u ≠ .slot i) → FinS G W M0 ρ σ H (if i = j then .bad else (match putT ρ2 j u with
    | some ρ1 => (match putT ρ1 i t with
      | some ρ2 => O.nx ρ2
      | none => .bad)
    | none => .bad)) D → D.nx ((σ.set i (some v)).set j (some w)) H2 := fun n1 n2 f => by
    split at f
    · exact f.elim
    rename_i ne
    split at f
    · rename_i ρ3 e3
      obtain ⟨z1, z2, z3⟩ := put_ok p2.R p2.tr p2.fr (fun a q => (p2.nm mv1) a q) p2.ex e3
      split at f
      · rename_i ρ4 e4
        -- the first value, behind the second and its store
        have tr : TRel G (MM ρ3 (σ.set j (some w)) fun b => Tm t v b ∨ M0 b) ρ3 (σ.set j (some w)) H2 t v := by
          have mA := mv1.mov z2
          have tr0 := p.tr
          cases t with
          | val d => exact Rep.mov mA _ _ tr0
          | own d =>
            obtain ⟨a, rfl, rt⟩ := tr0
            refine ⟨a, rfl, Root.mov mA rt ?_⟩
            obtain ⟨o, eo⟩ : ∃ o, H1 a = some o := by
              cases q : H1 a with
              | none => exact absurd q rt.some
              | some o => exact ⟨o, rfl⟩
            rw [eo]
            exact z2.st a o eo fun l q => mv1.dis l a q (.inl rfl)
          | slot i => exact absurd rfl (n1 i)
        obtain ⟨y1, y2, _⟩ := put_ok z1 tr p.fr (p.nm R0) (p.ex.trans z2) e4
        rw [List.set_comm _ _ ne]
        exact f _ _ y1 y2
      · exact f.elim
    · exact f.elim
  cases t with
  | slot l => exact f.elim
  | val d => cases u with
    | slot l => exact f.elim
    | val e => exact key (fun _ q => by cases q) (fun _ q => by cases q) f
    | own e => exact key (fun _ q => by cases q) (fun _ q => by cases q) f
  | own d => cases u with
    | slot l => exact f.elim
    | val e => exact key (fun _ q => by cases q) (fun _ q => by cases q) f
    | own e => exact key (fun _ q => by cases q) (fun _ q => by cases q) f
theorem unp_read {K : PySem.W.Frag} (hK : G.K = K) {is : List Nat} {r : Env → R T} (h : EvS G W (fun ρ => (r ρ).thenO fun t ρ1 => match t.fz ρ1 with
    | some (.tup ds, ρ2) => (match bindTg (.tup is) (.tup ds) ρ2 with
      | some ρ3 => .nx ρ3
      | none => .bad)
    | _ => .bad) D σ H) : tAsg (EvT G W r) (gOf K (.tup is)) D σ H := by
  obtain ⟨M0, ρ, R0, h⟩ := h
  refine ⟨M0, ρ, R0, (FinS.then h).mono fun _ _ v H1 _ _ => ?_⟩
  rintro ⟨t, ρ1, er, p, f⟩
  split at f
  · rename_i ds ρ2 e
    obtain ⟨R2, r2, e2⟩ := p.fz R0 e
    split at f
    · rename_i ρ3 eb
      exact bind_ok hK R2 r2 eb fun σ' R3 e3 _ _ => f σ' H1 R3 (e2.trans e3)
    · exact f.elim
  · exact f.elim
theorem if_read {rc : Env → R T} {ra rb : Env → O} (h : EvS G W (fun ρ => (rc ρ).thenO fun t ρ1 => match asBl t with
    | some true => ra ρ1
    | some false => rb ρ1
    | none => .bad) D σ H) : tIfS (EvB G W fun ρ => (rc ρ).bl) (EvS G W ra) (EvS G W rb) D σ H := by
  obtain ⟨M0, ρ, R0, h⟩ := h
  dsimp only at h
  refine ⟨M0, ρ, R0, ?_⟩
  show FinB G W M0 ρ σ H ((rc ρ).bl) _
  cases ec : rc ρ with
  | bad => rw [ec] at h; exact h.elim
  | exc x ρ1 => rw [ec] at h; exact fun c d H' p => h σ c d H' p
  | ok t ρ1 =>
    rw [ec] at h
    have h : FinS G W M0 ρ σ H (match asBl t with
      | some true => ra ρ1
      | some false => rb ρ1
      | none => .bad) D := h
    show FinB G W M0 ρ σ H (match asBl t with
      | some b => .ok b ρ1
      | none => .bad) _
    cases eb : asBl t with
    | none => rw [eb] at h; exact h.elim
    | some d =>
      rw [eb] at h
      intro b H' p
      have := p.eq
      subst this
      cases b with
      | true => rw [if_pos rfl]; exact ⟨M0, ρ1, p.R, FinS.pre h p.ex⟩
      | false => rw [if_neg Bool.false_ne_true]; exact ⟨M0, ρ1, p.R, FinS.pre h p.ex⟩
/-! ### loops -/
theorem while_read {rc : Env → R T} {rb : Env → O} {n : Nat} (h : EvS G W (fun ρ => whileLoop rc rb n ρ) D σ H) : tWhile (EvB G W fun ρ => (rc ρ).bl) (EvS G W rb) D σ H := by
  obtain ⟨M0, ρ, R0, h⟩ := h
  refine ⟨fun m σi Hi => ∃ ρi, StRel G M0 ρi σi Hi ∧ Ext ρ σ H ρi σi Hi ∧ FinS G W M0 ρ σ H (whileLoop rc rb m ρi) D, ⟨n, ρ, R0, .refl, h⟩, ?_⟩
  rintro m σi Hi ⟨ρi, Ri, ei, f⟩
  cases m with
  | zero => exact f.elim
  | succ m =>
    unfold whileLoop at f
    refine ⟨M0, ρi, Ri, ?_⟩
    show FinB G W M0 ρi σi Hi ((rc ρi).bl) _
    cases ec : rc ρi with
    | bad => rw [ec] at f; exact f.elim
    | exc x ρ1 => rw [ec] at f; exact fun c d H' p => f σi c d H' ⟨p.R, p.x, ei.trans p.ex⟩
    | ok t ρ1 =>
      rw [ec] at f
      have f : FinS G W M0 ρ σ H (match asBl t with
        | some false => .nx ρ1
        | some true => (match rb ρ1 with
          | .nx ρ2 => whileLoop rc rb m ρ2
          | .ct ρ2 => whileLoop rc rb m ρ2
          | .bk ρ2 => .nx ρ2
          | .rt o d ρ2 => .rt o d ρ2
          | .exc x ρ2 => .exc x ρ2
          | .bad => .bad)
        | none => .bad) D := f
      show FinB G W M0 ρi σi Hi (match asBl t with
        | some b => .ok b ρ1
        | none => .bad) _
      cases eb : asBl t with
      | none => rw [eb] at f; exact f.elim
      | some d =>
        rw [eb] at f
        intro b H' p
        have := p.eq
        subst this
        cases b with
        | false => rw [if_neg Bool.false_ne_true]; exact f _ _ p.R (ei.trans p.ex)
        | true =>
          rw [if_pos rfl]
          refine ⟨fun σ' H' => ∃ ρi, StRel G M0 ρi σ' H' ∧ Ext ρ σ H ρi σ' H' ∧ FinS G W M0 ρ σ H (whileLoop rc rb m ρi) D, fun σ' H' q => ⟨m, Nat.lt_succ_self _, q⟩, M0, ρ1, p.R, ?_⟩
          have e1 := ei.trans p.ex
          cases er : rb ρ1 with
          | nx ρ2 => rw [er] at f; exact fun σ' H' R e => ⟨ρ2, R, e1.trans e, f⟩
          | ct ρ2 => rw [er] at f; exact fun σ' H' R e => ⟨ρ2, R, e1.trans e, f⟩
          | bk ρ2 => rw [er] at f; exact fun σ' H' R e => f σ' H' R (e1.trans e)
          | rt o d ρ2 => rw [er] at f; exact fun σ' v H' q => f σ' v H' (q.pre e1)
          | exc x ρ2 => rw [er] at f; exact fun σ' c d H' q => f σ' c d H' (q.pre e1)
          | bad => rw [er] at f; exact f.elim
theorem own_lock {l : Option (Nat × OwnK)} (hl : LockOf ρ1 ρL l) {i : Nat} {a : Addr} (h : OwnAt ρL σ i a) : OwnAt ρ1 σ i a := by
  cases l with
  | none =>
    have hl : ρL = ρ1 := hl
    rw [← hl]; exact h
  | some p =>
    obtain ⟨j, k⟩ := p
    obtain ⟨d, e1, e2⟩ := hl
    subst e2
    rcases own_set h with ⟨e, _, q⟩ | ⟨_, q⟩
    · subst e; exact ⟨⟨k, d, e1⟩, q⟩
    · exact q
theorem for_read {K : PySem.W.Frag} (hK : G.K = K) {ri : Env → R (List Py.D × Option (Nat × OwnK))} {tg : Tg} {rb : Env → O}
    (h : EvS G W (fun ρ => (ri ρ).thenO fun p ρ1 => (forLoop tg rb p.1 ρ1).unlock p.2) D σ H) : tFor (EvI G W ri) (gOf K tg) (EvS G W rb) D σ H := by
  obtain ⟨M0, ρ, R0, h⟩ := h
  dsimp only at h
  refine ⟨M0, ρ, R0, ?_⟩
  cases er : ri ρ with
  | bad => rw [er] at h; exact h.elim
  | exc x ρ1 => rw [er] at h; exact fun c d H' p => h σ c d H' p
  | ok p ρL =>
    rw [er] at h
    have h : FinS G W M0 ρ σ H ((forLoop tg rb p.1 ρL).unlock p.2) D := h
    intro J H1 pi
    obtain ⟨ρ1, R1, ex1, lk, RL⟩ := pi.ex
    have wk := pi.wk
    let Inv : Nat → L2.St → Hp → Prop := fun i σi Hi => ∃ ρi, StRel G M0 ρi σi Hi ∧ Ext ρL σ H1 ρi σi Hi ∧ FinS G W M0 ρ σ H ((forLoop tg rb (p.1.drop i) ρi).unlock p.2) D
    refine ⟨fun i m σi Hi => m = p.1.length - i ∧ i ≤ p.1.length ∧ Inv i σi Hi, ⟨_, rfl, Nat.zero_le _, ρL, RL, .refl, h⟩, ?_⟩
    rintro i m σi Hi ⟨rfl, hi, ρi, Ri, ei, f⟩
    have hM1 : ∀ b, M0 b → M0 b := fun b q => q
    have hM2 : ∀ b, M0 b → M0 b ∨ H1 b = none := fun b q => .inl q
    -- the end of the walk, with the lock undone
    have done : ∀ {ρ2 : Env} {σ2 : L2.St} {H2 : Hp}, FinS G W M0 ρ σ H (.nx (unlock ρ2 p.2)) D → StRel G M0 ρ2 σ2 H2 → Ext ρL σ H1 ρ2 σ2 H2 → D.nx σ2 H2 := fun {ρ2 σ2 H2} f R e => by
      obtain ⟨z1, z2, _⟩ := unlock_ok lk R e
      exact f _ _ z1 (ex1.trans z2)
    by_cases hlt : i < p.1.length
    · refine .inr ⟨wk.go _ ρi _ Hi i hM1 hM2 Ri ei hlt, Inv (i + 1), fun σ' H' q => ⟨p.1.length - (i + 1), by omega, rfl, hlt, q⟩, fun x H' y => ?_⟩
      have ed : p.1[i]? = some p.1[i] := List.getElem?_eq_getElem hlt
      obtain ⟨R', e', rx⟩ := wk.yld _ ρi _ Hi i x H' _ hM1 hM2 Ri ei ed y
      rw [List.drop_eq_getElem_cons hlt] at f
      unfold forLoop at f
      split at f
      · exact f.elim
      · rename_i ρ2 eb
        refine bind_ok hK R' rx eb fun σ3 R3 e3 _ _ => ⟨M0, ρ2, R3, ?_⟩
        have e4 := (ei.trans e').trans e3
        cases er : rb ρ2 with
        | nx ρ5 => rw [er] at f; exact fun σ' H' R e => ⟨ρ5, R, e4.trans e, f⟩
        | ct ρ5 => rw [er] at f; exact fun σ' H' R e => ⟨ρ5, R, e4.trans e, f⟩
        | bk ρ5 => rw [er] at f; exact fun σ' H' R e => done f R (e4.trans e)
        | rt o d ρ5 =>
          rw [er] at f
          intro σ' v H' q
          have q := q.pre e4
          obtain ⟨z1, z2, z3⟩ := unlock_ok lk q.R q.ex
          have mm : Mov (MM ρ5 σ' fun a => Tm (rtT o d) v a ∨ M0 a) (MM (unlock ρ5 p.2) σ' fun a => Tm (rtT o d) v a ∨ M0 a) H' H' := .same q.R.mo fun b w => by
            rcases w with ⟨j, w⟩ | w
            · exact .inl ⟨j, (z3 j b).mp w⟩
            · exact .inr w
          refine f σ' v H' ⟨z1, ?_, fun a w => ?_, ex1.trans z2⟩
          · have tr := q.tr
            cases o with
            | false => exact Rep.mov mm _ _ tr
            | true =>
              obtain ⟨a, e, rt⟩ := tr
              exact ⟨a, e, Root.mov mm rt rfl⟩
          · rcases q.fr a w with ⟨j, w⟩ | w
            · exact ex1.fr j a (own_lock lk w)
            · exact .inr (ex1.tr a w)
        | exc x ρ5 =>
          rw [er] at f
          intro σ' c d H' q
          have q := q.pre e4
          obtain ⟨z1, z2, z3⟩ := unlock_ok lk q.R q.ex
          exact f σ' c d H' ⟨z1, q.x, ex1.trans z2⟩
        | bad => rw [er] at f; exact f.elim
    · have e : i = p.1.length := by omega
      subst e
      refine .inl ⟨wk.stop _ ρi _ Hi hM1 hM2 Ri ei, ?_⟩
      rw [List.drop_length] at f
      exact done f Ri ei
end
end Py

set_option Elab.async false
set_option linter.all false
set_option maxRecDepth 100000
namespace Py
open PySem PySem.Spec
open PyProof.Rows L2

section
variable {G : Gt} {tab : Tab} {k : Nat} {Φ : Nat → List D → FR}
/-- name = [..] -/
theorem setComp_ok {X : Cx} {W : WX} (g : GoodS G tab k Φ W X) {i : Nat} {x : Str} {px pos spos : Pos} {a : IE} {e0 : Expr} {gs : List Comprehension} {scope : Scope}
    (hl : locN X.N X.env.scope i x = true) (h : okE G (npOf tab) X.N X.env.scope a (.ListComp e0 gs scope pos) = true) (hsw : swOk x px (.ListComp e0 gs scope pos) = true) :
    PS X (.Assign [.Name x px] (.ListComp e0 gs scope pos) spos) (EvS G W (ss (ioOf tab) Φ (.asg i a))) := by
  obtain ⟨l1, l2⟩ := loc_ok hl
  cases a with
  | comp elt tg it conds own =>
    simp only [okE] at h
    split at h
    · rename_i q e0 tg' it' ifs a scope pos eq
      cases eq
      obtain ⟨h, h9⟩ := and2 h
      obtain ⟨h, h8⟩ := and2 h
      obtain ⟨h, h7⟩ := and2 h
      obtain ⟨h, h6⟩ := and2 h
      obtain ⟨h, h5⟩ := and2 h
      obtain ⟨h, h4⟩ := and2 h
      obtain ⟨h, h3⟩ := and2 h
      obtain ⟨h1, h2⟩ := and2 h
      have h1 := of_decide_eq_true h1
      subst h1
      unfold swOk at hsw
      dsimp only at hsw
      obtain ⟨w1, w2⟩ := and2 hsw
      have hg : ∀ (s : Shared) (H : Hp) (C : Addr) (cl : List (Str × Addr)) (fp : List Addr), PG (X.blk s H scope (compEnvC scope cl C X.env) fp) tg' (gOf X.K tg) := fun s H C cl fp => by
        refine tg_ok (X := X.blk s H scope (compEnvC scope cl C X.env) fp) (sc := scope) (fun x k hk hl => ?_) g.nd g.calm (fun x hx => ?_) h3
        · exact lookup_relS_keep (sc := X.env.scope) hk hl
        · show (scope.names.lookup x == some NameKind.cell) = true
          rw [hx]
          rfl
      refine PS_imp (ps_setLc (own := ownOf X.N own) g.calm g.nd l1 l2 (sw_true g.kind l2 w1 (by simpa using w2)) (evit_ok it X W tg' it' g.toGood h2) (blkOk_by h6) hg
        (fun s H C cl fp => evc_ok conds _ (fun _ _ _ _ => False) ifs (g.toGood.blk s H scope _ fp) h5) (fun s H C cl fp => (ev_ok elt _ (fun _ _ _ _ => False) e0 (g.toGood.blk s H scope _ fp) h4).pe) (fun x => notSet_ok h9 X.env x)) fun D σ H hh => ?_
      rw [ownOf_snd]
      have hh2 : EvS G W (fun ρ => (compR (evIt (ioOf tab) Φ it) tg (evC (ioOf tab) Φ conds) (ev (ioOf tab) Φ elt) own ρ).thenO fun t ρ1 => match putT ρ1 i t with
        | some ρ2 => .nx ρ2
        | none => .bad) D σ H := by
        obtain ⟨M0, ρ, R0, hh⟩ := hh
        refine ⟨M0, ρ, R0, ?_⟩
        simp only [ss, ev] at hh
        exact hh
      exact lc_read g.hK (tgIn_ok h8) (set_read hh2)
    · cases h
  | _ => simp [okE] at h
theorem ip_ok {X : Cx} {o : Operator} (h : isIp o = true) : ∃ g : Int → Int → Int, PIp X o (ipI g) ∧ ∀ x y d, binD o (.int x) (.int y) = some (.val d) → d = .int (g x y) := by
  cases o with
  | Add => exact ⟨_, ip_add, fun x y d e => by simp only [binD, Option.some.injEq, T.val.injEq] at e; exact e.symm⟩
  | Sub => exact ⟨_, ip_sub, fun x y d e => by simp only [binD, Option.some.injEq, T.val.injEq] at e; exact e.symm⟩
  | _ => cases h
mutual
theorem ss_ok : ∀ (ie : IS) (X : Cx) (W : WX) (st : Stmt), GoodS G tab k Φ W X → okS G (npOf tab) X.N X.env.scope ie st = true → PS X st (EvS G W (ss (ioOf tab) Φ ie))
  | .asg i a, X, W, st, g, h => by
    simp only [okS] at h
    split at h
    · rename_i x px e sp
      obtain ⟨h, h3⟩ := and2 h
      obtain ⟨h1, h2⟩ := and2 h
      by_cases nc : noComp e = true
      · obtain ⟨l1, l2⟩ := loc_ok h1
        refine PS_imp (ps_set g.nd l1 (.inl l2) (ev_ok a X W e g.toGood h2).pe (swOk_sw h3 nc) (.inr l2)) fun D σ H hh => ?_
        refine set_read ?_
        simp only [ss] at hh
        exact hh
      · cases e with
        | ListComp e0 gs scope pos => exact setComp_ok g h1 h2 h3
        | SetComp _ _ _ _ => cases h3
        | DictComp _ _ _ _ _ => cases h3
        | _ => exact absurd rfl nc
    · cases h
  | .unp is a, X, W, st, g, h => by
    simp only [okS] at h
    split at h
    · rename_i ts kk pt e sp
      obtain ⟨h, h4⟩ := and2 h
      obtain ⟨h, h3⟩ := and2 h
      obtain ⟨h1, h2⟩ := and2 h
      have hg : PG X (.Tuple ts kk pt) (gOf X.K (.tup is)) := by
        exact tg_ok (X := X) (sc := X.env.scope) (fun x k hk hl => hl) g.nd g.calm (fun x _ => g.fn x) (tg := .tup is) (by simpa only [okTg] using h1)
      refine PS_imp (ps_asg (ev_ok a X W e g.toGood h2).pe hg sole_tup (stores_unp h3)) fun D σ H hh => ?_
      refine unp_read g.hK ?_
      simp only [ss] at hh
      exact hh
    · cases h
  | .par i j a b, X, W, st, g, h => by
    simp only [okS] at h
    split at h
    · rename_i x px y py kt pt e f k2 pt2 sp
      obtain ⟨h, h5⟩ := and2 h
      obtain ⟨h, h4⟩ := and2 h
      obtain ⟨h, h3⟩ := and2 h
      obtain ⟨h1, h2⟩ := and2 h
      obtain ⟨l1, l2⟩ := loc_ok h1
      obtain ⟨m1, m2⟩ := loc_ok h2
      have hq := h5
      unfold parOk at hq
      simp only [Bool.and_eq_true, Bool.not_eq_true', decide_eq_true_eq] at hq
      obtain ⟨⟨⟨⟨⟨q1, q2⟩, q3⟩, q4⟩, q5⟩, q6⟩ := hq
      have ne : i ≠ j := fun z => by
        subst z
        rw [l1] at m1
        exact q1 (Option.some.inj m1)
      refine PS_imp (ps_par g.calm g.nd l1 m1 ne l2 m2 (pa_cons (ev_ok a X W e g.toGood h3).pe (pa_cons (ev_ok b X W f g.toGood h4).pe pa_nil (star_ok q4 _ _)) (star_ok q3 _ _)) (stores_par g.kind l2 m2 h5) sole_tup) fun D σ H hh => ?_
      refine par_read ?_
      simp only [ss] at hh
      exact hh
    · cases h
  | .setIx i ix a, X, W, st, g, h => by
    simp only [okS] at h
    split at h
    · rename_i x px z pz e sp
      obtain ⟨h, h6⟩ := and2 h
      obtain ⟨h, h5⟩ := and2 h
      obtain ⟨h, h4⟩ := and2 h
      obtain ⟨h, h3⟩ := and2 h
      obtain ⟨h1, h2⟩ := and2 h
      obtain ⟨p1, p2, _⟩ := plain_ok h3
      refine PS_imp (ps_asg (ev_ok a X W e g.toGood h4).pe (pg_sub (pe_var (of_decide_eq_true h1) (vis_ok h2) p1 p2) (ev_ok ix X W z g.toGood h5).pe set_list (fun v => ?_)) sole_sub stores_sub) fun D σ H hh => ?_
      · cases z <;> first | rfl | cases h6
      · refine sub_read ?_
        simp only [ss] at hh
        exact hh
    · cases h
  | .aug i o a, X, W, st, g, h => by
    simp only [okS] at h
    split at h
    · rename_i x px o' e sp
      obtain ⟨h, h4⟩ := and2 h
      obtain ⟨h, h3⟩ := and2 h
      obtain ⟨h1, h2⟩ := and2 h
      have h2 := of_decide_eq_true h2
      subst h2
      obtain ⟨l1, l2⟩ := loc_ok h1
      obtain ⟨gg, ho, hv⟩ := ip_ok (X := X) h3
      refine PS_imp (ps_aug g.nd l1 (.inl l2) (ev_ok a X W e g.toGood h4).pe ho (.inr l2)) fun D σ H hh => ?_
      refine aug_read hv ?_
      simp only [ss] at hh
      exact hh
    · cases h
  | .exp a, X, W, st, g, h => by
    simp only [okS] at h
    split at h
    · rename_i e sp
      obtain ⟨h1, h2⟩ := and2 h
      refine PS_imp (ps_expr (ev_ok a X W e g.toGood h1).pe (noComp_sw h2)) fun D σ H hh => ?_
      obtain ⟨M0, ρ, R0, hh⟩ := hh
      simp only [ss] at hh
      refine ⟨M0, ρ, R0, (FinS.then hh).mono fun _ _ v H1 _ _ => ?_⟩
      rintro ⟨t, ρ1, er, p, f⟩
      exact f _ _ (p.weak R0).1 p.ex
    · cases h
  | .ret a, X, W, st, g, h => by
    simp only [okS] at h
    split at h
    · rename_i e sp
      refine PS_imp (ps_ret (ev_ok a X W e g.toGood h).pe) fun D σ H hh => ?_
      refine ret_read ?_
      simp only [ss] at hh
      exact hh
    · cases h
  | .retN, X, W, st, g, h => by
    simp only [okS] at h
    split at h
    · refine PS_imp ps_retN fun D σ H hh => ?_
      obtain ⟨M0, ρ, R0, hh⟩ := hh
      simp only [ss] at hh
      refine hh σ .non H ⟨?_, ?_, fun _ q => q.elim, .refl⟩
      · show StRel G (fun b => Tm (.val .non) .non b ∨ M0 b) _ _ _
        rw [tm_val]; exact R0
      · show Rep G (MM ρ σ fun b => Tm (.val .non) .non b ∨ M0 b) H .non .non
        simp only [Rep]
    · cases h
  | .iff c a b, X, W, st, g, h => by
    simp only [okS] at h
    split at h
    · rename_i t p q sp
      obtain ⟨h, h3⟩ := and2 h
      obtain ⟨h1, h2⟩ := and2 h
      refine PS_imp (ps_if (ev_ok c X W t g.toGood h1).pt (sss_ok a X W p g h2) (sss_ok b X W q g h3)) fun D σ H hh => ?_
      refine if_read ?_
      simp only [ss] at hh
      exact hh
    · cases h
  | .for tg it body, X, W, st, g, h => by
    simp only [okS] at h
    split at h
    · rename_i t e b sp
      obtain ⟨h, h4⟩ := and2 h
      obtain ⟨h, h3⟩ := and2 h
      obtain ⟨h1, h2⟩ := and2 h
      have hg : PG X t (gOf X.K tg) := tg_ok (X := X) (sc := X.env.scope) (fun x k hk hl => hl) g.nd g.calm (fun x _ => g.fn x) h1
      refine PS_imp (ps_for g.pass g.calm (evit_ok it X W t e g.toGood h2) hg (sss_ok body X W b g h3) (fun x => notSet_ok h4 X.env x)) fun D σ H hh => ?_
      refine for_read g.hK ?_
      simp only [ss] at hh
      exact hh
    · cases h
  | .while c body, X, W, st, g, h => by
    simp only [okS] at h
    split at h
    · rename_i t b sp
      obtain ⟨h1, h2⟩ := and2 h
      refine PS_imp (ps_while g.pass (ev_ok c X W t g.toGood h1).pt (sss_ok body X W b g h2)) fun D σ H hh => ?_
      refine while_read (n := most) ?_
      simp only [ss] at hh
      exact hh
    · cases h
  | .pass, X, W, st, g, h => by
    simp only [okS] at h
    split at h
    · refine PS_imp ps_pass fun D σ H hh => ?_
      obtain ⟨M0, ρ, R0, hh⟩ := hh
      simp only [ss] at hh
      exact hh _ _ R0 .refl
    · refine PS_imp ps_doc fun D σ H hh => ?_
      obtain ⟨M0, ρ, R0, hh⟩ := hh
      simp only [ss] at hh
      exact hh _ _ R0 .refl
    · cases h
  | .brk, X, W, st, g, h => by
    simp only [okS] at h
    split at h
    · refine PS_imp ps_break fun D σ H hh => ?_
      obtain ⟨M0, ρ, R0, hh⟩ := hh
      simp only [ss] at hh
      exact hh _ _ R0 .refl
    · cases h
  | .cont, X, W, st, g, h => by
    simp only [okS] at h
    split at h
    · refine PS_imp ps_continue fun D σ H hh => ?_
      obtain ⟨M0, ρ, R0, hh⟩ := hh
      simp only [ss] at hh
      exact hh _ _ R0 .refl
    · cases h
  | .never, X, W, st, g, h => PS_imp ps_never fun D σ H hh => by
      obtain ⟨M0, ρ, R0, hh⟩ := hh
      simp only [ss] at hh
      exact hh
theorem sss_ok : ∀ (ie : ISs) (X : Cx) (W : WX) (sts : List Stmt), GoodS G tab k Φ W X → okSs G (npOf tab) X.N X.env.scope ie sts = true → PSs X sts (EvS G W (sss (ioOf tab) Φ ie))
  | .nil, X, W, sts, g, h => by
    simp only [okSs] at h
    split at h
    · refine PSs_imp pss_nil fun D σ H hh => ?_
      obtain ⟨M0, ρ, R0, hh⟩ := hh
      simp only [sss] at hh
      exact hh _ _ R0 .refl
    · cases h
  | .cons a r, X, W, sts, g, h => by
    simp only [okSs] at h
    split at h
    · rename_i st sts
      obtain ⟨h1, h2⟩ := and2 h
      refine PSs_imp (pss_cons (ss_ok a X W st g h1) (sss_ok r X W sts g h2)) fun D σ H hh => ?_
      obtain ⟨M0, ρ, R0, hh⟩ := hh
      simp only [sss] at hh
      refine ⟨M0, ρ, R0, ?_⟩
      cases ea : ss (ioOf tab) Φ a ρ with
      | nx ρ1 => rw [ea] at hh; exact fun σ' H' R e => ⟨M0, ρ1, R, FinS.pre hh e⟩
      | bk ρ1 => rw [ea] at hh; exact hh
      | ct ρ1 => rw [ea] at hh; exact hh
      | rt o d ρ1 => rw [ea] at hh; exact hh
      | exc x ρ1 => rw [ea] at hh; exact hh
      | bad => rw [ea] at hh; exact hh
    · cases h
end
end
end Py

set_option Elab.async false
set_option linter.all false
set_option maxRecDepth 100000
namespace Py
open PySem PySem.Spec
open PyProof.Rows L2

section
variable {G : Gt} {M M0 M' : Ms} {H H' : Hp} {io : List Bool} {ds : List D} {vs : List V} {as : List Addr}
theorem ArgsRel.lens (r : ArgsRel G M H io ds vs as) : ds.length = io.length ∧ vs.length = io.length := by
  induction r with
  | nil => exact ⟨rfl, rfl⟩
  | io _ _ ih => exact ⟨congrArg (· + 1) ih.1, congrArg (· + 1) ih.2⟩
  | val _ _ ih => exact ⟨congrArg (· + 1) ih.1, congrArg (· + 1) ih.2⟩
theorem own_cons {s : Slot} {ρ : Env} {x : Option V} {σ : L2.St} {i : Nat} {a : Addr} : OwnAt (s :: ρ) (x :: σ) i a ↔ (i = 0 ∧ (∃ k d, s = .own k d) ∧ x = some (.ref a)) ∨ ∃ j, i = j + 1 ∧ OwnAt ρ σ j a := by
  constructor
  · rintro ⟨⟨k, d, e⟩, e2⟩
    cases i with
    | zero => exact .inl ⟨rfl, ⟨k, d, by simpa using e⟩, by simpa using e2⟩
    | succ j => exact .inr ⟨j, rfl, ⟨k, d, by simpa using e⟩, by simpa using e2⟩
  · rintro (⟨rfl, ⟨k, d, e⟩, e2⟩ | ⟨j, rfl, ⟨k, d, e⟩, e2⟩)
    · subst e e2
      exact ⟨⟨k, d, rfl⟩, rfl⟩
    · exact ⟨⟨k, d, by simpa using e⟩, by simpa using e2⟩
theorem no_own {ns : Nat} {σ : L2.St} {i : Nat} {a : Addr} : ¬ OwnAt (List.replicate ns .no) σ i a := fun ⟨⟨k, d, e⟩, _⟩ => by
  rw [List.getElem?_replicate] at e
  split at e <;> cases e
theorem init_own (r : ArgsRel G M H io ds vs as) : ∀ {ns : Nat} {rest : L2.St} {i : Nat} {a : Addr}, OwnAt (initE ns io ds) (vs.map some ++ rest) i a → a ∈ as := by
  induction r with
  | nil =>
    intro ns rest i a h
    exact absurd h no_own
  | io r t ih =>
    intro ns rest i a h
    rcases own_cons.mp h with ⟨_, _, e⟩ | ⟨j, _, h⟩
    · cases e; exact List.mem_cons_self
    · exact List.mem_cons_of_mem _ (ih h)
  | val r t ih =>
    intro ns rest i a h
    rcases own_cons.mp h with ⟨_, ⟨k, d, e⟩, _⟩ | ⟨j, _, h⟩
    · cases e
    · exact ih h
theorem own_init (r : ArgsRel G M H io ds vs as) : ∀ {ns : Nat} {rest : L2.St} {a : Addr}, a ∈ as → ∃ (i : Nat) (d : D), (initE ns io ds)[i]? = some (Slot.own OwnK.io d) ∧ (vs.map some ++ rest)[i]? = some (some (V.ref a)) := by
  induction r with
  | nil => intro ns rest a h; cases h
  | @io b d ds vs a0 as r t ih =>
    intro ns rest a h
    rcases List.mem_cons.mp h with e | h
    · subst e; exact ⟨0, d, rfl, rfl⟩
    · obtain ⟨i, d, e1, e2⟩ := ih (ns := ns - 1) (rest := rest) h
      exact ⟨i + 1, d, by simpa [initE] using e1, by simpa using e2⟩
  | val r t ih =>
    intro ns rest a h
    obtain ⟨i, d, e1, e2⟩ := ih (ns := ns - 1) (rest := rest) h
    exact ⟨i + 1, d, by simpa [initE] using e1, by simpa using e2⟩
theorem init_inj (r : ArgsRel G M H io ds vs as) (nd : as.Nodup) : ∀ {ns : Nat} {rest : L2.St} {i j : Nat} {a : Addr}, OwnAt (initE ns io ds) (vs.map some ++ rest) i a → OwnAt (initE ns io ds) (vs.map some ++ rest) j a → i = j := by
  induction r with
  | nil =>
    intro ns rest i j a h
    exact absurd h no_own
  | io r t ih =>
    intro ns rest i j a h k
    obtain ⟨nd1, nd2⟩ := List.nodup_cons.mp nd
    rcases own_cons.mp h with ⟨e0, _, e⟩ | ⟨i', e0, h⟩
    · rcases own_cons.mp k with ⟨f0, _, f⟩ | ⟨j', f0, k⟩
      · rw [e0, f0]
      · cases e
        exact absurd (init_own t k) nd1
    · rcases own_cons.mp k with ⟨f0, _, f⟩ | ⟨j', f0, k⟩
      · cases f
        exact absurd (init_own t h) nd1
      · rw [e0, f0, ih nd2 h k]
  | val r t ih =>
    intro ns rest i j a h k
    rcases own_cons.mp h with ⟨e0, ⟨_, _, q⟩, e⟩ | ⟨i', e0, h⟩
    · cases q
    · rcases own_cons.mp k with ⟨f0, ⟨_, _, q⟩, f⟩ | ⟨j', f0, k⟩
      · cases q
      · rw [e0, f0, ih nd h k]
theorem init_len (r : ArgsRel G M H io ds vs as) : ∀ {ns : Nat}, io.length ≤ ns → (initE ns io ds).length = ns := by
  induction r with
  | nil => intro ns _; exact List.length_replicate
  | io r t ih =>
    intro ns h
    have h : _ + 1 ≤ ns := h
    show (initE (ns - 1) _ _).length + 1 = ns
    rw [ih (by omega)]
    omega
  | val r t ih =>
    intro ns h
    have h : _ + 1 ≤ ns := h
    show (initE (ns - 1) _ _).length + 1 = ns
    rw [ih (by omega)]
    omega
theorem init_sl (r : ArgsRel G M H io ds vs as) : ∀ {ns : Nat} {rest : L2.St}, ns = io.length + rest.length → ∀ (i : Nat) (s : Slot), (initE ns io ds)[i]? = some s → ∃ v, (vs.map some ++ rest)[i]? = some v ∧ SlotRel G M H s v := by
  induction r with
  | nil =>
    intro ns rest h i s e
    have e : (List.replicate ns Slot.no)[i]? = some s := e
    rw [List.getElem?_replicate] at e
    split at e
    · rename_i hi
      cases e
      have : i < rest.length := by simpa [h] using hi
      exact ⟨rest[i], by simp [this], trivial⟩
    · cases e
  | io r t ih =>
    intro ns rest h i s e
    have h : ns = _ + 1 + rest.length := h
    cases i with
    | zero => cases e; exact ⟨_, rfl, r⟩
    | succ i => exact ih (by omega) i s e
  | val r t ih =>
    intro ns rest h i s e
    have h : ns = _ + 1 + rest.length := h
    cases i with
    | zero => cases e; exact ⟨_, rfl, r⟩
    | succ i => exact ih (by omega) i s e
theorem init_ok {rest : L2.St} {ns : Nat} (r : ArgsRel G (fun a => M0 a ∨ a ∈ as) H io ds vs as) (nd : as.Nodup) (nm : ∀ a ∈ as, ¬ M0 a) (mo : ∀ a, (M0 a ∨ a ∈ as) → MutO (H a)) (hn : ns = io.length + rest.length) :
    StRel G M0 (initE ns io ds) (vs.map some ++ rest) H := by
  have mm : ∀ a, MM (initE ns io ds) (vs.map some ++ rest) M0 a → M0 a ∨ a ∈ as := fun a q => by
    rcases q with ⟨i, q⟩ | q
    · exact .inr (init_own r q)
    · exact .inl q
  have mv : Mov (fun a => M0 a ∨ a ∈ as) (MM (initE ns io ds) (vs.map some ++ rest) M0) H H := .same mo mm
  refine ⟨?_, fun i j a => init_inj r nd, fun i a q => nm a (init_own r q), fun a q => mo a (mm a q), fun i s e => ?_⟩
  · rw [init_len r (by omega), List.length_append, List.length_map, r.lens.2, hn]
  · obtain ⟨v, ev, h⟩ := init_sl r hn i s e
    refine ⟨v, ev, ?_⟩
    cases s with
    | no => trivial
    | val d2 =>
      cases v with
      | none => exact h.elim
      | some w => exact Rep.mov mv _ _ h
    | own kk d2 =>
      cases v with
      | none => exact h.elim
      | some w =>
        cases w with
        | ref b => exact Root.mov mv h rfl
        | _ => exact h.elim
theorem outs_ok (r : ArgsRel G M H io ds vs as) : ∀ {ns : Nat} {rest : L2.St} {ρ' : Env} {σ' : L2.St} {outs : List D},
    (∀ (i : Nat) (d : D) (a : Addr), (initE ns io ds)[i]? = some (Slot.own OwnK.io d) → (vs.map some ++ rest)[i]? = some (some (V.ref a)) → σ'[i]? = some (some (V.ref a)) ∧ ∃ d', ρ'[i]? = some (Slot.own OwnK.io d')) →
    (∀ (i : Nat) (k : OwnK) (d : D) (a : Addr), ρ'[i]? = some (Slot.own k d) → σ'[i]? = some (some (V.ref a)) → Root G M' H' d a) → outsE io ρ' = some outs → ∃ l : List (D × Addr), l.map (·.1) = outs ∧ l.map (·.2) = as ∧ ∀ p ∈ l, Root G M' H' p.1 p.2 := by
  induction r with
  | nil =>
    intro ns rest ρ' σ' outs hk hr e
    cases e
    exact ⟨[], rfl, rfl, fun p hp => by cases hp⟩
  | @io b d ds vs a as r t ih =>
    intro ns rest ρ' σ' outs hk hr e
    obtain ⟨h1, d', h2⟩ := hk 0 d a rfl rfl
    cases ρ' with
    | nil => cases h2
    | cons s ρ' =>
      cases σ' with
      | nil => cases h1
      | cons x σ' =>
        cases h2
        cases h1
        unfold outsE at e
        rw [Option.map_eq_some_iff] at e
        obtain ⟨os, e, rfl⟩ := e
        obtain ⟨l, l1, l2, l3⟩ := ih (ns := ns - 1) (rest := rest) (ρ' := ρ') (σ' := σ') (outs := os) (fun i d a e1 e2 => hk (i + 1) d a e1 e2) (fun i k d a e1 e2 => hr (i + 1) k d a e1 e2) e
        refine ⟨(d', a) :: l, by rw [List.map_cons, l1], by rw [List.map_cons, l2], fun p hp => ?_⟩
        rcases List.mem_cons.mp hp with rfl | hp
        · exact hr 0 .io d' a rfl rfl
        · exact l3 p hp
  | @val b d ds v vs as r t ih =>
    intro ns rest ρ' σ' outs hk hr e
    cases ρ' with
    | nil => cases e
    | cons s ρ' =>
      cases σ' with
      | nil =>
        refine ih (ns := ns - 1) (rest := rest) (ρ' := ρ') (σ' := []) (outs := outs) (fun i d a e1 e2 => ?_) (fun i k d a e1 e2 => by cases e2) e
        have := (hk (i + 1) d a e1 e2).1
        cases this
      | cons x σ' =>
        exact ih (ns := ns - 1) (rest := rest) (ρ' := ρ') (σ' := σ') (outs := outs) (fun i d a e1 e2 => hk (i + 1) d a e1 e2) (fun i k d a e1 e2 => hr (i + 1) k d a e1 e2) e
end
end Py

set_option Elab.async false
set_option linter.all false
set_option maxRecDepth 100000
namespace Py
open PySem PySem.Spec
open PyProof.Rows L2

section
variable {P : Program} {w : World} {K : PySem.W.Frag} {mg : Str → Option Value} {base : Heap} {G : Gt} {tab : Tab}
/-- what is known of a def of the table -/
structure DefF (G : Gt) (tab : Tab) (K : PySem.W.Frag) (mg : Str → Option Value) (f : Nat) (d : FnDef) : Prop where
  mg : mg (G.nm f) = some (.ref (G.fa f))
  kp : PySem.W.keepIn K (.ref (G.fa f)) = true
  ex : ∃ (x qual : Str) (st : Stmt) (fd : FuncData) (N ps : List Str), Fun K x qual st (G.fa f) fd ∧ FnScope N ps (defScope st) ∧ ps.length = d.np ∧ N.length = d.ns ∧ d.np ≤ d.ns ∧ L2.Binds K fd ps [] ∧ (∀ (s : Shared) (us : List Value), us.length = ps.length → BindsTo s fd ⟨us, []⟩ (ps.zip us)) ∧ okSs G (npOf tab) N (defScope st) d.body (defBody st) = true
structure World0 (G : Gt) (tab : Tab) (K : PySem.W.Frag) (mg : Str → Option Value) : Prop where
  hK : G.K = K
  free : ∀ x, G.free.contains x = true → mg x = none
  con : ∀ p ∈ G.con, ∃ u v, mg p.1 = some u ∧ RelV v u ∧ ∀ M H, Rep G M H p.2 v
  defs : ∀ f d, tab f = some d → DefF G tab K mg f d
theorem FnOk.never {k : Nat} {f : Addr} {fd : FuncData} {ps : List Str} {sp : Sp} (h : ∀ vs H Q E, ¬ sp vs H Q E) {CX : CXT} : FnOk P w K mg base CX k f fd ps sp :=
  ⟨fun vs H Q E q => absurd q (h vs H Q E), fun A outer s H args us vs Q E _ _ _ _ q => absurd q (h vs H Q E)⟩
theorem spOf_len {io : List Bool} {f : List D → FR} {vs : List V} {H : Hp} {Q : VK} {E : XK} (h : spOf G io f vs H Q E) : vs.length = io.length := by
  obtain ⟨M0, ds, as, r, _⟩ := h
  exact r.lens.2
/-- the end of a def's body -/
theorem end_ok {W : WX} {M0 : Ms} {io : List Bool} {ds : List D} {vs : List V} {as : List Addr} {H : Hp} {Q : VK} {E : XK} {ns : Nat} {rest : L2.St} {o : O} (hW : ∀ cls d σ H, E cls d H → W cls d σ H) (r : ArgsRel G (fun a => M0 a ∨ a ∈ as) H io ds vs as)
    (h : match endR io o with
      | .ok o d outs => ∀ v H', PostC G M0 as H o d outs v H' → Q v H'
      | .exc x outs => ∀ cls dd H', PostX G M0 as H x outs cls dd H' → E cls dd H'
      | .bad => False) : FinS G W M0 (initE ns io ds) (vs.map some ++ rest) H o { nx := fun _ H' => Q .non H', rt := Q } := by
  have keep : ∀ {ρ' : Env} {σ' : L2.St} {H' : Hp}, Ext (initE ns io ds) (vs.map some ++ rest) H ρ' σ' H' → ∀ (i : Nat) (d : D) (a : Addr), (initE ns io ds)[i]? = some (Slot.own OwnK.io d) → (vs.map some ++ rest)[i]? = some (some (V.ref a)) → σ'[i]? = some (some (V.ref a)) ∧ ∃ d', ρ'[i]? = some (Slot.own OwnK.io d') :=
    fun {ρ' σ' H'} e i d a e1 e2 => by
      obtain ⟨h1, d', h2, _⟩ := e.kp i .io d e1 (by decide)
      exact ⟨h1.trans e2, d', h2⟩
  have inas : ∀ {ρ' : Env} {σ' : L2.St} {H' : Hp}, Ext (initE ns io ds) (vs.map some ++ rest) H ρ' σ' H' → ∀ a ∈ as, ∃ i, OwnAt ρ' σ' i a := fun {ρ' σ' H'} e a ha => by
    obtain ⟨i, d, e1, e2⟩ := own_init r (ns := ns) (rest := rest) ha
    obtain ⟨h1, d', h2⟩ := keep e i d a e1 e2
    exact ⟨i, ⟨.io, d', h2⟩, h1⟩
  -- the outs and the rest of an end
  have fin : ∀ {T0 : Ms} {ρ' : Env} {σ' : L2.St} {H' : Hp} {outs : List D}, StRel G (fun a => T0 a ∨ M0 a) ρ' σ' H' → Ext (initE ns io ds) (vs.map some ++ rest) H ρ' σ' H' → outsE io ρ' = some outs →
      (∀ a, (M0 a ∨ a ∈ as) → MutO (H' a)) ∧ (∃ l : List (D × Addr), l.map (·.1) = outs ∧ l.map (·.2) = as ∧ ∀ p ∈ l, Root G (fun a => T0 a ∨ M0 a ∨ a ∈ as) H' p.1 p.2) ∧ (∀ b o, H b = some o → b ∉ as → H' b = some o) ∧
      Mov (MM ρ' σ' fun a => T0 a ∨ M0 a) (fun a => T0 a ∨ M0 a ∨ a ∈ as) H' H' := fun {T0 ρ' σ' H' outs} R e eo => by
    have sub : ∀ a, (T0 a ∨ M0 a ∨ a ∈ as) → MM ρ' σ' (fun a => T0 a ∨ M0 a) a := fun a q => by
      rcases q with q | q | q
      · exact .inr (.inl q)
      · exact .inr (.inr q)
      · exact .inl (inas e a q)
    have mv : Mov (MM ρ' σ' fun a => T0 a ∨ M0 a) (fun a => T0 a ∨ M0 a ∨ a ∈ as) H' H' := .same R.mo sub
    refine ⟨fun a q => R.mo a (sub a (.inr q)), outs_ok r (keep e) (fun i k d a e1 e2 => ?_) eo, fun b o hb nb => e.st b o hb fun i q => nb (init_own r q), mv⟩
    obtain ⟨a2, o2, rt⟩ := R.own e1
    have : a2 = a := by
      have := o2.2
      rw [e2] at this
      cases this
      rfl
    subst this
    exact Root.mov mv rt rfl
  have zero : (fun a => False ∨ M0 a) = M0 := funext fun a => propext ⟨fun q => q.elim (fun z => z.elim) id, .inr⟩
  have zero2 : (fun a => False ∨ M0 a ∨ a ∈ as) = (fun a => M0 a ∨ a ∈ as) := funext fun a => propext ⟨fun q => q.elim (fun z => z.elim) id, .inr⟩
  cases o with
  | nx ρ' =>
    unfold endR at h
    dsimp only at h
    split at h
    · rename_i o d outs eo
      split at eo
      · rename_i outs' eo'
        cases eo
        intro σ' H' R e
        obtain ⟨z1, z2, z3, z4⟩ := fin (T0 := fun _ => False) (by rw [zero]; exact R) e eo'
        refine h .non H' ⟨z1, ?_, ?_, z3, e.tr⟩
        · exact z2
        · show Rep G (fun a => M0 a ∨ a ∈ as) H' .non .non
          simp only [Rep]
      · cases eo
    · rename_i x outs eo
      split at eo <;> cases eo
    · exact h.elim
  | rt o d ρ' =>
    unfold endR at h
    dsimp only at h
    split at h
    · rename_i o d outs eo
      split at eo
      · rename_i outs' eo'
        cases eo
        intro σ' v H' p
        obtain ⟨z1, z2, z3, z4⟩ := fin p.R p.ex eo'
        refine h v H' ⟨z1, z2, ?_, z3, p.ex.tr⟩
        cases o with
        | false =>
          have tr : Rep G (MM ρ' σ' fun a => Tm (rtT false d) v a ∨ M0 a) H' d v := p.tr
          have := Rep.mov z4 _ _ tr
          show Rep G (fun a => M0 a ∨ a ∈ as) H' d v
          have e2 : (fun a => Tm (rtT false d) v a ∨ M0 a ∨ a ∈ as) = (fun a => M0 a ∨ a ∈ as) := zero2
          rw [e2] at this
          exact this
        | true =>
          obtain ⟨a, rfl, rt⟩ := p.tr
          refine ⟨a, rfl, Root.mov z4 rt rfl, ?_, p.R.mo a (.inr (.inl rfl))⟩
          rcases p.fr a rfl with ⟨i, q⟩ | q
          · obtain ⟨j, o2⟩ := inas p.ex a (init_own r q)
            exact absurd (.inl rfl) (p.R.dis j a o2)
          · exact q
      · cases eo
    · rename_i x outs eo
      split at eo <;> cases eo
    · exact h.elim
  | exc x ρ' =>
    unfold endR at h
    dsimp only at h
    split at h
    · rename_i o d outs eo
      split at eo <;> cases eo
    · rename_i x outs eo
      split at eo
      · rename_i outs' eo'
        cases eo
        intro σ' cls dd H' p
        obtain ⟨z1, z2, z3, z4⟩ := fin (T0 := fun _ => False) (by rw [zero]; exact p.R) p.ex eo'
        rw [zero2] at z2
        exact hW _ _ _ _ (h cls dd H' ⟨z1, z2, p.x, z3, p.ex.tr⟩)
      · cases eo
    · exact h.elim
  | bk ρ' => exact h.elim
  | ct ρ' => exact h.elim
  | bad => exact h.elim
/-- every def of the table, at every fuel -/
theorem sound (Z : World0 G tab K mg) : ∀ (k f : Nat) (d : FnDef), tab f = some d → ∃ (fd : FuncData) (ps : List Str), ps.length = d.np ∧ L2.Binds K fd ps [] ∧ (∀ (s : Shared) (us : List Value), us.length = ps.length → BindsTo s fd ⟨us, []⟩ (ps.zip us)) ∧ ∀ base : Heap, FnOk P w K mg base (L2.CX P w) (2 * k) (G.fa f) fd ps (spOf G d.io (phi tab k f))
  | 0, f, d, e => by
    obtain ⟨x, qual, st, fd, N, ps, F, S, l1, l2, l3, b, bb, ok⟩ := (Z.defs f d e).ex
    refine ⟨fd, ps, l1, b, bb, fun base => FnOk.never fun vs H Q E q => ?_⟩
    obtain ⟨M0, ds, as, _, _, _, _, q⟩ := q
    exact q
  | k + 1, f, d, e => by
    obtain ⟨x, qual, st, fd, N, ps, F, S, l1, l2, l3, b, bb, ok⟩ := (Z.defs f d e).ex
    by_cases hio : d.io.length = d.np
    · refine ⟨fd, ps, l1, b, bb, fun base => Fun.okX F S (fun vs H Q E q => ?_) fun cdv A outer s H vs Q E hr hsp => ?_⟩
      · rw [spOf_len q, hio, l1]
      · let X := cxOf (L2.CX P w) P w K mg base N qual (defScope st) (G.fa f) cdv A outer s H E
        have g : GoodS G tab (2 * k) (phi tab k) (fun cls d _ H => E cls d H) X :=
          { hK := Z.hK, nd := S.nd, calm := rfl, tk := takes_of rfl rfl rfl rfl, hr := hr, free := Z.free, con := Z.con,
            fns := fun f' d' e' => ⟨(Z.defs f' d' e').mg, (Z.defs f' d' e').kp, (let ⟨fd, ps, q1, q2, _, q3⟩ := sound Z k f' d' e'; ⟨fd, ps, q1, q2, q3 base⟩)⟩, kind := S.kind, fn := fun _ => rfl, pass := passes_of rfl }
        refine ⟨_, sss_ok d.body X _ (defBody st) g ok, ?_⟩
        obtain ⟨M0, ds, as, r, nd, nm, mo, h⟩ := hsp
        have hl := r.lens
        have hns : d.ns = d.io.length + (N.length - vs.length) := by omega
        have hrest : (start N vs) = vs.map some ++ List.replicate (N.length - vs.length) none := rfl
        refine ⟨M0, initE d.ns d.io ds, ?_, ?_⟩
        · rw [hrest]
          exact init_ok r nd nm mo (by rw [List.length_replicate]; exact hns)
        · rw [hrest]
          refine end_ok (fun _ _ _ _ h => h) r ?_
          have ep : phi tab (k + 1) f ds = endR d.io (sss (ioOf tab) (phi tab k) d.body (initE d.ns d.io ds)) := by
            show (match tab f with
              | some d => if ds.length = d.np ∧ d.io.length = d.np then endR d.io (sss (ioOf tab) (phi tab k) d.body (initE d.ns d.io ds)) else .bad
              | none => .bad) = _
            rw [e]
            exact if_pos ⟨hl.1.trans hio, hio⟩
          rw [ep] at h
          exact h
    · refine ⟨fd, ps, l1, b, bb, fun base => FnOk.never fun vs H Q E q => ?_⟩
      obtain ⟨M0, ds, as, _, _, _, _, q⟩ := q
      have ep : phi tab (k + 1) f ds = .bad := by
        show (match tab f with
          | some d => if ds.length = d.np ∧ d.io.length = d.np then endR d.io (sss (ioOf tab) (phi tab k) d.body (initE d.ns d.io ds)) else .bad
          | none => .bad) = _
        rw [e]
        exact if_neg fun z => hio z.2
      rw [ep] at q
      exact q
end
end Py

set_option Elab.async false
set_option linter.all false
set_option maxRecDepth 100000
namespace Py
open PySem PySem.Spec
open PyProof.Rows L2

/-- a def of the text: its name, what it is in the IR, its slots' names, its parameters, the statement -/
structure Ent where
  nm : Str
  d : FnDef
  N : List Str
  ps : List Str
  st : Stmt
def Ent.dd (e : Ent) : He.DefD := ⟨(e.nm, none), e.nm, e.nm, defArgs e.st, defBody e.st, defScope e.st, [], []⟩
def scopeB (N ps : List Str) (sc : Scope) : Bool := (match sc.kind with
    | .function => true
    | _ => false) && !sc.isCoroutine && !sc.isGenerator && decide N.Nodup && decide (N.take ps.length = ps) && (ps.all fun x => match sc.names.lookup x with
    | some .local => true
    | some .cell => true
    | _ => false) && sc.names.all fun y => decide (y.2 ≠ .free)
theorem scope_ok {N ps : List Str} {sc : Scope} (h : scopeB N ps sc = true) : FnScope N ps sc := by
  unfold scopeB at h
  obtain ⟨h, h7⟩ := and2 h
  obtain ⟨h, h6⟩ := and2 h
  obtain ⟨h, h5⟩ := and2 h
  obtain ⟨h, h4⟩ := and2 h
  obtain ⟨h, h3⟩ := and2 h
  obtain ⟨h1, h2⟩ := and2 h
  refine ⟨?_, by simpa using h2, by simpa using h3, of_decide_eq_true h4, of_decide_eq_true h5, fun x hx => ?_, fun y hy => ?_⟩
  · split at h1
    · assumption
    · cases h1
  · have := List.all_eq_true.mp h6 x hx
    split at this
    · rename_i q; exact .inl q
    · rename_i q; exact .inr q
    · cases this
  · exact of_decide_eq_true (List.all_eq_true.mp h7 y hy)
def tabOf (L : List Ent) : Tab := fun f => (L[f]?).map (·.d)
def nmOf (L : List Ent) (f : Nat) : Str := match L[f]? with
  | some e => e.nm
  | none => Str.empty
def gtOf (K : PySem.W.Frag) (L : List Ent) (free : List Str) (con : List (Str × D)) : Gt := { K := K, nm := nmOf L, fa := fun f => He.ga K (nmOf L f), free := free, con := con }
def Ent.ok (G : Gt) (tab : Tab) (e : Ent) : Bool := okSs G (npOf tab) e.N (defScope e.st) e.d.body (defBody e.st) && scopeB e.N e.ps (defScope e.st) && decide (e.ps.length = e.d.np) && decide (e.N.length = e.d.ns) && decide (e.d.np ≤ e.d.ns)
def conF (p : Str × D) : He.Fa := match p.2 with
  | .int i => .int p.1 i
  | .str z => .str p.1 z
  | _ => .free p.1
def conB (p : Str × D) : Bool := match p.2 with
  | .int _ => true
  | .str _ => true
  | _ => false
def factsOf (L : List Ent) (free : List Str) (con : List (Str × D)) : List He.Fa := L.map (fun e => .glo e.nm) ++ (free.map .free ++ con.map conF)
def Ent.Binds (e : Ent) : Prop := ∀ (kV doc pm : Value) (an : Option Addr) (cdv ct : Value) (us : List Value), us.length = e.ps.length → bindArgs (PySem.W.fnOf e.nm e.nm (defArgs e.st) (defBody e.st) (defScope e.st) .none kV doc pm an cdv ct) ⟨us, []⟩ = pure (e.ps.zip us)
def BindsAll : List Ent → Prop
  | [] => True
  | e :: l => e.Binds ∧ BindsAll l
theorem BindsAll.to : ∀ {l : List Ent}, BindsAll l → ∀ e ∈ l, e.Binds
  | [], _, e, he => by cases he
  | a :: l, h, e, he => by
    rcases List.mem_cons.mp he with rfl | he
    · exact h.1
    · exact BindsAll.to h.2 e he
section
variable {K : PySem.W.Frag} {h : Heap} {mg : Str → Option Value} {L : List Ent} {free : List Str} {con : List (Str × D)}
theorem fun_of {e : Ent} {f : Addr} {fd : FuncData} (F : FunD K e.nm e.nm (defArgs e.st) (defBody e.st) (defScope e.st) [] [] f fd) : Fun K e.nm e.nm e.st f fd := by
  obtain ⟨oc, od, dV, kV, doc, pm, an, cdv, ct, osl, rfl, lk, hcd, hD, hK⟩ := F.ex
  rcases hD with ⟨_, rfl⟩ | ⟨z, _⟩
  · exact ⟨⟨oc, od, kV, doc, pm, an, cdv, ct, osl, rfl, lk, hcd⟩, F.kp⟩
  · exact absurd rfl z
theorem world0 (X : K.In h) (Gh : h.Ns mainGlobals mg) (c : He.SaysD (factsOf L free con) (L.map Ent.dd) K) (ok : (L.all (Ent.ok (gtOf K L free con) (tabOf L))) = true) (hc : con.all conB = true) (bind : ∀ e ∈ L, e.Binds) :
    World0 (gtOf K L free con) (tabOf L) K mg := by
  refine ⟨rfl, fun x hx => ?_, fun p hp => ?_, fun f d e => ?_⟩
  · have hx : x ∈ free := by simpa using (show free.contains x = true from hx)
    exact He.free_ok X Gh (c.facts (f := .free x) (List.mem_append_right _ (List.mem_append_left _ (List.mem_map.mpr ⟨x, hx, rfl⟩))))
  · have hp : p ∈ con := hp
    have b := List.all_eq_true.mp hc p hp
    have m := c.facts (f := conF p) (List.mem_append_right _ (List.mem_append_right _ (List.mem_map.mpr ⟨p, hp, rfl⟩)))
    obtain ⟨x, dd⟩ := p
    cases dd with
    | int i =>
      obtain ⟨t, e⟩ := He.int_ok X Gh m
      exact ⟨_, .int i, e, ⟨t, rfl⟩, fun M H => by simp only [Rep]⟩
    | str z =>
      obtain ⟨t, e⟩ := He.str_ok X Gh m
      exact ⟨_, .str z, e, ⟨t, rfl⟩, fun M H => by simp only [Rep]⟩
    | _ => cases b
  · unfold tabOf at e
    rw [Option.map_eq_some_iff] at e
    obtain ⟨en, e1, rfl⟩ := e
    have hm := List.mem_of_getElem? e1
    have en_nm : nmOf L f = en.nm := by unfold nmOf; rw [e1]
    have g := He.glo_ok X Gh (c.facts (f := .glo en.nm) (List.mem_append_left _ (List.mem_map.mpr ⟨en, hm, rfl⟩)))
    obtain ⟨fd, F⟩ := c.defs (d := en.dd) (List.mem_map.mpr ⟨en, hm, rfl⟩)
    have F : FunD K en.nm en.nm (defArgs en.st) (defBody en.st) (defScope en.st) [] [] (He.ga K en.nm) fd := F
    have b := List.all_eq_true.mp ok en hm
    unfold Ent.ok at b
    obtain ⟨b, b5⟩ := and2 b
    obtain ⟨b, b4⟩ := and2 b
    obtain ⟨b, b3⟩ := and2 b
    obtain ⟨b1, b2⟩ := and2 b
    have efa : (gtOf K L free con).fa f = He.ga K en.nm := by show He.ga K (nmOf L f) = _; rw [en_nm]
    refine ⟨?_, ?_, en.nm, en.nm, en.st, fd, en.N, en.ps, ?_, scope_ok b2, of_decide_eq_true b3, of_decide_eq_true b4, of_decide_eq_true b5, F.bindsN (bind en hm), F.bindsA (bind en hm), b1⟩
    · show mg (nmOf L f) = _
      rw [efa, en_nm]; exact g
    · rw [efa]; exact F.kp
    · rw [efa]; exact fun_of F
end
/-- what the law's walk ends in -/
theorem walk_D {l : PySem.W.OpenLaw} {n k : Nat} {q : Program} {loose : List Str} {XP : (Str → Option Value) → Heap → Prop} {YP : World → Heap → Prop} {d : DefRec} {L : List Ent} {free : List Str} {con : List (Str × D)} {e : Ent} {f : Nat}
    (hn : l.most = some n) (hn2 : n ≤ sizeLine) (hdf : d.params.defaults = []) (hr : Room (2 * k) callerA) (hY : ∀ w h, YP w h → ∃ K : PySem.W.Frag, K.In h ∧ He.SaysD (factsOf L free con) (L.map Ent.dd) K)
    (ok : ∀ K, (L.all (Ent.ok (gtOf K L free con) (tabOf L))) = true) (hc : con.all conB = true) (bind : ∀ e ∈ L, e.Binds)
    (ef : L[f]? = some e) (en : d.name = e.nm) (ep : ∃ x, e.ps = [x]) (eio : e.d.io = [false])
    (T : ∀ ns : List Int, ns.length ≤ n → ∃ o, phi (tabOf L) k f [.scr ns] = .ok o (.bl true) []) :
    PySem.W.WalkO q loose XP YP l.row.toRowW d [] (fun f vs => PySem.call f vs) := by
  refine Att.attach_call hn hdf fun w s₀ s₁ mg mb fa o pm cd doc a vs ns G Y ho hd hcd hmg hobj hints hlen hg => ?_
  obtain ⟨K, KX, c⟩ := hY w _ Y
  have Z := world0 KX G.T.g c (ok K) hc bind
  have et : tabOf L f = some e.d := by unfold tabOf; rw [ef]; rfl
  have hnm : (gtOf K L free con).nm f = e.nm := by show nmOf L f = _; unfold nmOf; rw [ef]
  have hfa : (gtOf K L free con).fa f = fa := by
    have q := (Z.defs f e.d et).mg
    rw [hnm, ← en, hmg] at q
    cases q
    rfl
  obtain ⟨x, ep⟩ := ep
  have Zf := Z.defs f e.d et
  have hnp : e.d.np = 1 := by
    have b := List.all_eq_true.mp (ok K) e (List.mem_of_getElem? ef)
    unfold Ent.ok at b
    obtain ⟨b, _⟩ := and2 b
    obtain ⟨b, _⟩ := and2 b
    obtain ⟨b, b3⟩ := and2 b
    have := of_decide_eq_true b3
    rw [ep] at this
    exact this.symm
  obtain ⟨fd, ps, l1, _, bb, hF⟩ : ∃ (fd : FuncData) (ps : List Str), ps.length = e.d.np ∧ L2.Binds K fd ps [] ∧ (∀ (s : Shared) (us : List Value), us.length = ps.length → BindsTo s fd ⟨us, []⟩ (ps.zip us)) ∧
      ∀ base : Heap, FnOk l.prog w K mg base (L2.CX l.prog w) (2 * k) fa fd ps (spOf (gtOf K L free con) e.d.io (phi (tabOf L) k f)) := by
    obtain ⟨fd, ps, q1, q2, q3⟩ := sound (P := l.prog) (w := w) Z k f e.d et
    exact ⟨fd, ps, q1, q2, q3.1, fun base => hfa ▸ q3.2 base⟩
  obtain ⟨y, rfl⟩ : ∃ y, ps = [y] := List.length_eq_one_iff.mp (l1.trans hnp)
  refine law_call (CX := L2.CX l.prog w) (k := 2 * k) (x := y) (sp := spOf (gtOf K L free con) e.d.io (phi (tabOf L) k f)) (fd := fd) KX G.T.g G.T.b G.T.builtins G.T.nolimit hg hobj hints (Nat.le_trans hlen hn2) hr (fun base _ hns => hF base) (fun s u => bb s [u] rfl) (fun H hO hS => ?_) (fun H e s' z => ?_)
  · obtain ⟨o, eT⟩ := T ns hlen
    refine ⟨fun _ => False, [.scr ns], [], ?_, .nil, (fun a h => by cases h), (fun a h => ?_), ?_⟩
    · rw [eio]
      refine .val ?_ .nil
      simp only [Rep]
      refine ⟨a, rfl, ?_⟩
      rcases hS with (hS | ⟨o, hS⟩) | hS
      · rcases hO a with z | ⟨o, xs, z⟩
        · rw [z] at hS; cases hS
        · rw [z] at hS; cases hS
      · exact .inl ⟨o, hS⟩
      · exact .inr fun H' => .inr hS
    · rcases h with h | h
      · exact h.elim
      · cases h
    · rw [eT]
      intro v H' p
      have := p.val
      cases o with
      | true =>
        obtain ⟨b, _, r, _⟩ := this
        exact r.elim
      | false =>
        have this : Rep (gtOf K L free con) (fun a => False ∨ a ∈ []) H' (.bl true) v := this
        simpa only [Rep] using this
  · obtain ⟨_, _, _, _, _, _, _, _, _, _, _, _, z⟩ := z
    exact z.elim
end Py

set_option Elab.async false
set_option linter.all false
set_option maxRecDepth 100000
namespace Py
open PySem PySem.Spec
open PyProof.Rows L2

/-! ### evaluation by rewriting -/
theorem ok_bind {α β : Type} (a : α) (ρ : Env) (f : α → Env → R β) : (R.ok a ρ).bind f = f a ρ := rfl
theorem ok_then {α : Type} (a : α) (ρ : Env) (f : α → Env → O) : (R.ok a ρ).thenO f = f a ρ := rfl
theorem opt_some {α : Type} (a : α) (ρ : Env) : R.opt (some a) ρ = R.ok a ρ := rfl
def seqO (o : O) (k : Env → O) : O := match o with
  | .nx ρ => k ρ
  | o => o
theorem seq_nx (ρ : Env) (k : Env → O) : seqO (.nx ρ) k = k ρ := rfl
theorem seq_rt (o : Bool) (d : D) (ρ : Env) (k : Env → O) : seqO (.rt o d ρ) k = .rt o d ρ := rfl
theorem seq_bk (ρ : Env) (k : Env → O) : seqO (.bk ρ) k = .bk ρ := rfl
theorem seq_ct (ρ : Env) (k : Env → O) : seqO (.ct ρ) k = .ct ρ := rfl
section
variable {io : Nat → List Bool} {Φ : Nat → List D → FR} {ρ : Env}
/-- what a name gives -/
def rdV (ρ : Env) (i : Nat) : Option Slot → R T
  | some (.val d) => .ok (.val d) ρ
  | some (.own _ _) => .ok (.slot i) ρ
  | _ => .bad
theorem rdV_v (i : Nat) (d : D) : rdV ρ i (some (.val d)) = .ok (.val d) ρ := rfl
theorem rdV_o (i : Nat) (k : OwnK) (d : D) : rdV ρ i (some (.own k d)) = .ok (.slot i) ρ := rfl
theorem ev_var (i : Nat) : ev io Φ (.var i) ρ = rdV ρ i ρ[i]? := by
  simp only [ev]
  cases ρ[i]? with
  | none => rfl
  | some s => cases s <;> rfl
theorem ev_cst (d : D) : ev io Φ (.cst d) ρ = .ok (.val d) ρ := by simp only [ev]
theorem ev_glo (x : Str) (d : D) : ev io Φ (.glo x d) ρ = .ok (.val d) ρ := by simp only [ev]
def k2 (ρ : Env) (f : D → D → Option T) : Option D → Option D → R T
  | some d, some e => R.opt (f d e) ρ
  | _, _ => .bad
theorem k2_s (f : D → D → Option T) (d e : D) : k2 ρ f (some d) (some e) = R.opt (f d e) ρ := rfl
theorem ev_bin0 (o : Operator) (a b : IE) : ev io Φ (.bin o a b) ρ = (ev io Φ a ρ).bind fun x ρ1 => (ev io Φ b ρ1).bind fun y ρ2 => k2 ρ2 (binD o) (x.b ρ2) (y.b ρ2) := by
  simp only [ev]
  congr 1
def ev_bin_2 (io : Nat → List Bool) (Φ : Nat → List D → FR) (o : Operator) (a b : IE) (x : T) (ρ1 : Env) (y : T) (ρ2 : Env) : R T := k2 ρ2 (binD o) (x.b ρ2) (y.b ρ2)
theorem ev_bin_2e (io : Nat → List Bool) (Φ : Nat → List D → FR) (o : Operator) (a b : IE) (x : T) (ρ1 : Env) (y : T) (ρ2 : Env) : ev_bin_2 io Φ o a b x ρ1 y ρ2 = k2 ρ2 (binD o) (x.b ρ2) (y.b ρ2) := rfl
def ev_bin_1 (io : Nat → List Bool) (Φ : Nat → List D → FR) (o : Operator) (a b : IE) (x : T) (ρ1 : Env) : R T := (ev io Φ b ρ1).bind (ev_bin_2 io Φ o a b x ρ1)
theorem ev_bin_1e (io : Nat → List Bool) (Φ : Nat → List D → FR) (o : Operator) (a b : IE) (x : T) (ρ1 : Env) : ev_bin_1 io Φ o a b x ρ1 = (ev io Φ b ρ1).bind (ev_bin_2 io Φ o a b x ρ1) := rfl
theorem ev_bin (o : Operator) (a b : IE) : ev io Φ (.bin o a b) ρ = (ev io Φ a ρ).bind (ev_bin_1 io Φ o a b) := ev_bin0 o a b
def T.v : T → Option D
  | .val d => some d
  | _ => none
def negT (ρ : Env) : T → R T
  | .val (.int i) => .ok (.val (.int (-i))) ρ
  | _ => .bad
theorem negT_i (i : Int) : negT ρ (.val (.int i)) = .ok (.val (.int (-i))) ρ := rfl
theorem ev_neg0 (a : IE) : ev io Φ (.neg a) ρ = (ev io Φ a ρ).bind fun x ρ1 => negT ρ1 x := by
  simp only [ev]
  congr 1
def ev_neg_1 (io : Nat → List Bool) (Φ : Nat → List D → FR) (a : IE) (x : T) (ρ1 : Env) : R T := negT ρ1 x
theorem ev_neg_1e (io : Nat → List Bool) (Φ : Nat → List D → FR) (a : IE) (x : T) (ρ1 : Env) : ev_neg_1 io Φ a x ρ1 = negT ρ1 x := rfl
theorem ev_neg (a : IE) : ev io Φ (.neg a) ρ = (ev io Φ a ρ).bind (ev_neg_1 io Φ a) := ev_neg0 a
def notT (ρ : Env) : T → R T
  | .val (.bl b) => .ok (.val (.bl (!b))) ρ
  | _ => .bad
theorem notT_b (b : Bool) : notT ρ (.val (.bl b)) = .ok (.val (.bl (!b))) ρ := rfl
theorem ev_not0 (a : IE) : ev io Φ (.not a) ρ = (ev io Φ a ρ).bind fun x ρ1 => notT ρ1 x := by
  simp only [ev]
  congr 1
def ev_not_1 (io : Nat → List Bool) (Φ : Nat → List D → FR) (a : IE) (x : T) (ρ1 : Env) : R T := notT ρ1 x
theorem ev_not_1e (io : Nat → List Bool) (Φ : Nat → List D → FR) (a : IE) (x : T) (ρ1 : Env) : ev_not_1 io Φ a x ρ1 = notT ρ1 x := rfl
theorem ev_not (a : IE) : ev io Φ (.not a) ρ = (ev io Φ a ρ).bind (ev_not_1 io Φ a) := ev_not0 a
theorem ev_and (xs : IEs) : ev io Φ (.and xs) ρ = evAnd io Φ xs ρ := by simp only [ev]
theorem ev_or (xs : IEs) : ev io Φ (.or xs) ρ = evOr io Φ xs ρ := by simp only [ev]
theorem ev_cmp0 (o : CmpOp) (a b : IE) : ev io Φ (.cmp o a b) ρ = (ev io Φ a ρ).bind fun x ρ1 => (ev io Φ b ρ1).bind fun y ρ2 => k2 ρ2 (fun d e => (cmpD o d e).map fun b => .val (.bl b)) (x.b ρ2) (y.b ρ2) := by
  simp only [ev]
  congr 1
def ev_cmp_2 (io : Nat → List Bool) (Φ : Nat → List D → FR) (o : CmpOp) (a b : IE) (x : T) (ρ1 : Env) (y : T) (ρ2 : Env) : R T := k2 ρ2 (fun d e => (cmpD o d e).map fun b => .val (.bl b)) (x.b ρ2) (y.b ρ2)
theorem ev_cmp_2e (io : Nat → List Bool) (Φ : Nat → List D → FR) (o : CmpOp) (a b : IE) (x : T) (ρ1 : Env) (y : T) (ρ2 : Env) : ev_cmp_2 io Φ o a b x ρ1 y ρ2 = k2 ρ2 (fun d e => (cmpD o d e).map fun b => .val (.bl b)) (x.b ρ2) (y.b ρ2) := rfl
def ev_cmp_1 (io : Nat → List Bool) (Φ : Nat → List D → FR) (o : CmpOp) (a b : IE) (x : T) (ρ1 : Env) : R T := (ev io Φ b ρ1).bind (ev_cmp_2 io Φ o a b x ρ1)
theorem ev_cmp_1e (io : Nat → List Bool) (Φ : Nat → List D → FR) (o : CmpOp) (a b : IE) (x : T) (ρ1 : Env) : ev_cmp_1 io Φ o a b x ρ1 = (ev io Φ b ρ1).bind (ev_cmp_2 io Φ o a b x ρ1) := rfl
theorem ev_cmp (o : CmpOp) (a b : IE) : ev io Φ (.cmp o a b) ρ = (ev io Φ a ρ).bind (ev_cmp_1 io Φ o a b) := ev_cmp0 o a b
def chB (io : Nat → List Bool) (Φ : Nat → List D → FR) (c : IE) (o' : CmpOp) (e : D) (ρ2 : Env) : Option Bool → R T
  | some true => (ev io Φ c ρ2).bind fun z ρ3 => k2 ρ3 (fun d e => (cmpD o' d e).map fun b => .val (.bl b)) (some e) z.v
  | some false => .ok (.val (.bl false)) ρ2
  | none => .bad
theorem chB_t0 (c : IE) (o' : CmpOp) (e : D) (ρ2 : Env) : chB io Φ c o' e ρ2 (some true) = (ev io Φ c ρ2).bind fun z ρ3 => k2 ρ3 (fun d e => (cmpD o' d e).map fun b => .val (.bl b)) (some e) z.v := rfl
def chB_t_1 (io : Nat → List Bool) (Φ : Nat → List D → FR) (c : IE) (o' : CmpOp) (e : D) (ρ2 : Env) (z : T) (ρ3 : Env) : R T := k2 ρ3 (fun d e => (cmpD o' d e).map fun b => .val (.bl b)) (some e) z.v
theorem chB_t_1e (io : Nat → List Bool) (Φ : Nat → List D → FR) (c : IE) (o' : CmpOp) (e : D) (ρ2 : Env) (z : T) (ρ3 : Env) : chB_t_1 io Φ c o' e ρ2 z ρ3 = k2 ρ3 (fun d e => (cmpD o' d e).map fun b => .val (.bl b)) (some e) z.v := rfl
theorem chB_t (c : IE) (o' : CmpOp) (e : D) (ρ2 : Env) : chB io Φ c o' e ρ2 (some true) = (ev io Φ c ρ2).bind (chB_t_1 io Φ c o' e ρ2) := chB_t0 c o' e ρ2
theorem chB_f (c : IE) (o' : CmpOp) (e : D) (ρ2 : Env) : chB io Φ c o' e ρ2 (some false) = .ok (.val (.bl false)) ρ2 := rfl
def chA (io : Nat → List Bool) (Φ : Nat → List D → FR) (c : IE) (o o' : CmpOp) (ρ2 : Env) : Option D → Option D → R T
  | some d, some e => chB io Φ c o' e ρ2 (cmpD o d e)
  | _, _ => .bad
theorem chA_s (c : IE) (o o' : CmpOp) (ρ2 : Env) (d e : D) : chA io Φ c o o' ρ2 (some d) (some e) = chB io Φ c o' e ρ2 (cmpD o d e) := rfl
theorem ev_chain0 (o o' : CmpOp) (a b c : IE) : ev io Φ (.chain o o' a b c) ρ = (ev io Φ a ρ).bind fun x ρ1 => (ev io Φ b ρ1).bind fun y ρ2 => chA io Φ c o o' ρ2 x.v y.v := by
  simp only [ev]
  congr 1; funext x ρ1; congr 1; funext y ρ2
  cases x with
  | val d => cases y with
    | val e =>
      dsimp only [T.v, chA]
      cases cmpD o d e with
      | none => rfl
      | some r => cases r with
        | false => rfl
        | true =>
          show R.bind _ _ = R.bind _ _
          congr 1; funext z ρ3
          cases z <;> rfl
    | _ => rfl
  | _ => cases y <;> rfl
def ev_chain_2 (io : Nat → List Bool) (Φ : Nat → List D → FR) (o o' : CmpOp) (a b c : IE) (x : T) (ρ1 : Env) (y : T) (ρ2 : Env) : R T := chA io Φ c o o' ρ2 x.v y.v
theorem ev_chain_2e (io : Nat → List Bool) (Φ : Nat → List D → FR) (o o' : CmpOp) (a b c : IE) (x : T) (ρ1 : Env) (y : T) (ρ2 : Env) : ev_chain_2 io Φ o o' a b c x ρ1 y ρ2 = chA io Φ c o o' ρ2 x.v y.v := rfl
def ev_chain_1 (io : Nat → List Bool) (Φ : Nat → List D → FR) (o o' : CmpOp) (a b c : IE) (x : T) (ρ1 : Env) : R T := (ev io Φ b ρ1).bind (ev_chain_2 io Φ o o' a b c x ρ1)
theorem ev_chain_1e (io : Nat → List Bool) (Φ : Nat → List D → FR) (o o' : CmpOp) (a b c : IE) (x : T) (ρ1 : Env) : ev_chain_1 io Φ o o' a b c x ρ1 = (ev io Φ b ρ1).bind (ev_chain_2 io Φ o o' a b c x ρ1) := rfl
theorem ev_chain (o o' : CmpOp) (a b c : IE) : ev io Φ (.chain o o' a b c) ρ = (ev io Φ a ρ).bind (ev_chain_1 io Φ o o' a b c) := ev_chain0 o o' a b c
def k1 (ρ : Env) (f : D → Option T) : Option D → R T
  | some d => R.opt (f d) ρ
  | none => .bad
theorem k1_s (f : D → Option T) (d : D) : k1 ρ f (some d) = R.opt (f d) ρ := rfl
theorem ev_isN0 (a : IE) : ev io Φ (.isN a) ρ = (ev io Φ a ρ).bind fun x ρ1 => k1 ρ1 (fun d => some (.val (.bl (isNonD d)))) x.v := by
  simp only [ev]
  congr 1; funext x ρ1
  cases x <;> rfl
def ev_isN_1 (io : Nat → List Bool) (Φ : Nat → List D → FR) (a : IE) (x : T) (ρ1 : Env) : R T := k1 ρ1 (fun d => some (.val (.bl (isNonD d)))) x.v
theorem ev_isN_1e (io : Nat → List Bool) (Φ : Nat → List D → FR) (a : IE) (x : T) (ρ1 : Env) : ev_isN_1 io Φ a x ρ1 = k1 ρ1 (fun d => some (.val (.bl (isNonD d)))) x.v := rfl
theorem ev_isN (a : IE) : ev io Φ (.isN a) ρ = (ev io Φ a ρ).bind (ev_isN_1 io Φ a) := ev_isN0 a
theorem ev_notN0 (a : IE) : ev io Φ (.notN a) ρ = (ev io Φ a ρ).bind fun x ρ1 => k1 ρ1 (fun d => some (.val (.bl (!isNonD d)))) x.v := by
  simp only [ev]
  congr 1; funext x ρ1
  cases x <;> rfl
def ev_notN_1 (io : Nat → List Bool) (Φ : Nat → List D → FR) (a : IE) (x : T) (ρ1 : Env) : R T := k1 ρ1 (fun d => some (.val (.bl (!isNonD d)))) x.v
theorem ev_notN_1e (io : Nat → List Bool) (Φ : Nat → List D → FR) (a : IE) (x : T) (ρ1 : Env) : ev_notN_1 io Φ a x ρ1 = k1 ρ1 (fun d => some (.val (.bl (!isNonD d)))) x.v := rfl
theorem ev_notN (a : IE) : ev io Φ (.notN a) ρ = (ev io Φ a ρ).bind (ev_notN_1 io Φ a) := ev_notN0 a
theorem ev_isi0 (a : IE) (t : Ty) : ev io Φ (.isi a t) ρ = (ev io Φ a ρ).bind fun x ρ1 => k1 ρ1 (fun d => (tyIs t d).map fun b => .val (.bl b)) (x.b ρ1) := by
  simp only [ev]
  congr 1
def ev_isi_1 (io : Nat → List Bool) (Φ : Nat → List D → FR) (a : IE) (t : Ty) (x : T) (ρ1 : Env) : R T := k1 ρ1 (fun d => (tyIs t d).map fun b => .val (.bl b)) (x.b ρ1)
theorem ev_isi_1e (io : Nat → List Bool) (Φ : Nat → List D → FR) (a : IE) (t : Ty) (x : T) (ρ1 : Env) : ev_isi_1 io Φ a t x ρ1 = k1 ρ1 (fun d => (tyIs t d).map fun b => .val (.bl b)) (x.b ρ1) := rfl
theorem ev_isi (a : IE) (t : Ty) : ev io Φ (.isi a t) ρ = (ev io Φ a ρ).bind (ev_isi_1 io Φ a t) := ev_isi0 a t
def iteK (ρ : Env) (a b : Env → R T) : Option Bool → R T
  | some true => a ρ
  | some false => b ρ
  | none => .bad
theorem iteK_t (a b : Env → R T) : iteK ρ a b (some true) = a ρ := rfl
theorem iteK_f (a b : Env → R T) : iteK ρ a b (some false) = b ρ := rfl
theorem ev_ite0 (c a b : IE) : ev io Φ (.ite c a b) ρ = (ev io Φ c ρ).bind fun x ρ1 => iteK ρ1 (ev io Φ a) (ev io Φ b) (asBl x) := by
  simp only [ev]
  congr 1
def ev_ite_1 (io : Nat → List Bool) (Φ : Nat → List D → FR) (c a b : IE) (x : T) (ρ1 : Env) : R T := iteK ρ1 (ev io Φ a) (ev io Φ b) (asBl x)
theorem ev_ite_1e (io : Nat → List Bool) (Φ : Nat → List D → FR) (c a b : IE) (x : T) (ρ1 : Env) : ev_ite_1 io Φ c a b x ρ1 = iteK ρ1 (ev io Φ a) (ev io Φ b) (asBl x) := rfl
theorem ev_ite (c a b : IE) : ev io Φ (.ite c a b) ρ = (ev io Φ c ρ).bind (ev_ite_1 io Φ c a b) := ev_ite0 c a b
theorem ev_tup0 (xs : IEs) : ev io Φ (.tup xs) ρ = (evF io Φ xs ρ).bind fun ds ρ1 => if ds.length ≤ 1000000 then .ok (.val (.tup ds)) ρ1 else .bad := by simp only [ev]
def ev_tup_1 (io : Nat → List Bool) (Φ : Nat → List D → FR) (xs : IEs) (ds : List D) (ρ1 : Env) : R T := if ds.length ≤ 1000000 then .ok (.val (.tup ds)) ρ1 else .bad
theorem ev_tup_1e (io : Nat → List Bool) (Φ : Nat → List D → FR) (xs : IEs) (ds : List D) (ρ1 : Env) : ev_tup_1 io Φ xs ds ρ1 = if ds.length ≤ 1000000 then .ok (.val (.tup ds)) ρ1 else .bad := rfl
theorem ev_tup (xs : IEs) : ev io Φ (.tup xs) ρ = (evF io Φ xs ρ).bind (ev_tup_1 io Φ xs) := ev_tup0 xs
theorem ev_lst0 (xs : IEs) : ev io Φ (.lst xs) ρ = (evF io Φ xs ρ).bind fun ds ρ1 => if ds.length ≤ 1000000 then .ok (.own (.lst ds)) ρ1 else .bad := by simp only [ev]
def ev_lst_1 (io : Nat → List Bool) (Φ : Nat → List D → FR) (xs : IEs) (ds : List D) (ρ1 : Env) : R T := if ds.length ≤ 1000000 then .ok (.own (.lst ds)) ρ1 else .bad
theorem ev_lst_1e (io : Nat → List Bool) (Φ : Nat → List D → FR) (xs : IEs) (ds : List D) (ρ1 : Env) : ev_lst_1 io Φ xs ds ρ1 = if ds.length ≤ 1000000 then .ok (.own (.lst ds)) ρ1 else .bad := rfl
theorem ev_lst (xs : IEs) : ev io Φ (.lst xs) ρ = (evF io Φ xs ρ).bind (ev_lst_1 io Φ xs) := ev_lst0 xs
theorem ev_dct0 : ev io Φ .dct0 ρ = .ok (.own (.dct [])) ρ := by simp only [ev]
theorem ev_sub0 (a i : IE) : ev io Φ (.sub a i) ρ = (ev io Φ a ρ).bind fun x ρ1 => (ev io Φ i ρ1).bind fun y ρ2 => k2 ρ2 (fun d e => (subD d e).map .val) (x.b ρ2) y.v := by
  simp only [ev]
  congr 1; funext x ρ1; congr 1; funext y ρ2
  cases x.b ρ2 <;> cases y <;> rfl
def ev_sub_2 (io : Nat → List Bool) (Φ : Nat → List D → FR) (a i : IE) (x : T) (ρ1 : Env) (y : T) (ρ2 : Env) : R T := k2 ρ2 (fun d e => (subD d e).map .val) (x.b ρ2) y.v
theorem ev_sub_2e (io : Nat → List Bool) (Φ : Nat → List D → FR) (a i : IE) (x : T) (ρ1 : Env) (y : T) (ρ2 : Env) : ev_sub_2 io Φ a i x ρ1 y ρ2 = k2 ρ2 (fun d e => (subD d e).map .val) (x.b ρ2) y.v := rfl
def ev_sub_1 (io : Nat → List Bool) (Φ : Nat → List D → FR) (a i : IE) (x : T) (ρ1 : Env) : R T := (ev io Φ i ρ1).bind (ev_sub_2 io Φ a i x ρ1)
theorem ev_sub_1e (io : Nat → List Bool) (Φ : Nat → List D → FR) (a i : IE) (x : T) (ρ1 : Env) : ev_sub_1 io Φ a i x ρ1 = (ev io Φ i ρ1).bind (ev_sub_2 io Φ a i x ρ1) := rfl
theorem ev_sub (a i : IE) : ev io Φ (.sub a i) ρ = (ev io Φ a ρ).bind (ev_sub_1 io Φ a i) := ev_sub0 a i
theorem ev_slc0 (a lo hi : IE) : ev io Φ (.slc a lo hi) ρ = (ev io Φ a ρ).bind fun x ρ1 => (optE (isAbs lo) (ev io Φ lo) ρ1).bind fun l ρ2 => (optE (isAbs hi) (ev io Φ hi) ρ2).bind fun h ρ3 => k1 ρ3 (fun d => slcD d l h) (x.b ρ3) := by
  simp only [ev]
  congr 1
def ev_slc_3 (io : Nat → List Bool) (Φ : Nat → List D → FR) (a lo hi : IE) (x : T) (ρ1 : Env) (l : Option Int) (ρ2 : Env) (h : Option Int) (ρ3 : Env) : R T := k1 ρ3 (fun d => slcD d l h) (x.b ρ3)
theorem ev_slc_3e (io : Nat → List Bool) (Φ : Nat → List D → FR) (a lo hi : IE) (x : T) (ρ1 : Env) (l : Option Int) (ρ2 : Env) (h : Option Int) (ρ3 : Env) : ev_slc_3 io Φ a lo hi x ρ1 l ρ2 h ρ3 = k1 ρ3 (fun d => slcD d l h) (x.b ρ3) := rfl
def ev_slc_2 (io : Nat → List Bool) (Φ : Nat → List D → FR) (a lo hi : IE) (x : T) (ρ1 : Env) (l : Option Int) (ρ2 : Env) : R T := (optE (isAbs hi) (ev io Φ hi) ρ2).bind (ev_slc_3 io Φ a lo hi x ρ1 l ρ2)
theorem ev_slc_2e (io : Nat → List Bool) (Φ : Nat → List D → FR) (a lo hi : IE) (x : T) (ρ1 : Env) (l : Option Int) (ρ2 : Env) : ev_slc_2 io Φ a lo hi x ρ1 l ρ2 = (optE (isAbs hi) (ev io Φ hi) ρ2).bind (ev_slc_3 io Φ a lo hi x ρ1 l ρ2) := rfl
def ev_slc_1 (io : Nat → List Bool) (Φ : Nat → List D → FR) (a lo hi : IE) (x : T) (ρ1 : Env) : R T := (optE (isAbs lo) (ev io Φ lo) ρ1).bind (ev_slc_2 io Φ a lo hi x ρ1)
theorem ev_slc_1e (io : Nat → List Bool) (Φ : Nat → List D → FR) (a lo hi : IE) (x : T) (ρ1 : Env) : ev_slc_1 io Φ a lo hi x ρ1 = (optE (isAbs lo) (ev io Φ lo) ρ1).bind (ev_slc_2 io Φ a lo hi x ρ1) := rfl
theorem ev_slc (a lo hi : IE) : ev io Φ (.slc a lo hi) ρ = (ev io Φ a ρ).bind (ev_slc_1 io Φ a lo hi) := ev_slc0 a lo hi
theorem optE_abs (r : Env → R T) : optE (isAbs .absent) r ρ = .ok none ρ := rfl
theorem optE_f0 (r : Env → R T) : optE false r ρ = (r ρ).bind fun x ρ1 => R.opt (optI x) ρ1 := rfl
def optE_f_1 (r : Env → R T) (x : T) (ρ1 : Env) : R (Option Int) := R.opt (optI x) ρ1
theorem optE_f_1e (r : Env → R T) (x : T) (ρ1 : Env) : optE_f_1 r x ρ1 = R.opt (optI x) ρ1 := rfl
theorem optE_f (r : Env → R T) : optE false r ρ = (r ρ).bind (optE_f_1 r) := optE_f0 r
theorem ev_rev0 (a : IE) : ev io Φ (.rev a) ρ = (ev io Φ a ρ).bind fun x ρ1 => k1 ρ1 revD (x.b ρ1) := by
  simp only [ev]
  congr 1
def ev_rev_1 (io : Nat → List Bool) (Φ : Nat → List D → FR) (a : IE) (x : T) (ρ1 : Env) : R T := k1 ρ1 revD (x.b ρ1)
theorem ev_rev_1e (io : Nat → List Bool) (Φ : Nat → List D → FR) (a : IE) (x : T) (ρ1 : Env) : ev_rev_1 io Φ a x ρ1 = k1 ρ1 revD (x.b ρ1) := rfl
theorem ev_rev (a : IE) : ev io Φ (.rev a) ρ = (ev io Φ a ρ).bind (ev_rev_1 io Φ a) := ev_rev0 a
theorem ev_call0 (f : Nat) (x : Str) (xs : IEs) : ev io Φ (.call f x xs) ρ = (evA io Φ xs ρ).bind fun ts ρ1 => callR (io f) (Φ f) ts ρ1 := by simp only [ev]
def ev_call_1 (io : Nat → List Bool) (Φ : Nat → List D → FR) (f : Nat) (x : Str) (xs : IEs) (ts : List T) (ρ1 : Env) : R T := callR (io f) (Φ f) ts ρ1
theorem ev_call_1e (io : Nat → List Bool) (Φ : Nat → List D → FR) (f : Nat) (x : Str) (xs : IEs) (ts : List T) (ρ1 : Env) : ev_call_1 io Φ f x xs ts ρ1 = callR (io f) (Φ f) ts ρ1 := rfl
theorem ev_call (f : Nat) (x : Str) (xs : IEs) : ev io Φ (.call f x xs) ρ = (evA io Φ xs ρ).bind (ev_call_1 io Φ f x xs) := ev_call0 f x xs
theorem ev_lrng0 (t : Bool) (xs : IEs) : ev io Φ (.lrng t xs) ρ = (evF io Φ xs ρ).bind fun ds ρ1 => R.opt (lrngD t ds) ρ1 := by simp only [ev]
def ev_lrng_1 (io : Nat → List Bool) (Φ : Nat → List D → FR) (t : Bool) (xs : IEs) (ds : List D) (ρ1 : Env) : R T := R.opt (lrngD t ds) ρ1
theorem ev_lrng_1e (io : Nat → List Bool) (Φ : Nat → List D → FR) (t : Bool) (xs : IEs) (ds : List D) (ρ1 : Env) : ev_lrng_1 io Φ t xs ds ρ1 = R.opt (lrngD t ds) ρ1 := rfl
theorem ev_lrng (t : Bool) (xs : IEs) : ev io Φ (.lrng t xs) ρ = (evF io Φ xs ρ).bind (ev_lrng_1 io Φ t xs) := ev_lrng0 t xs
def kl (ρ : Env) (f : List D → Option T) : Option (List D) → R T
  | some d => R.opt (f d) ρ
  | none => .bad
theorem kl_s (f : List D → Option T) (d : List D) : kl ρ f (some d) = R.opt (f d) ρ := rfl
theorem ev_bi0 (b : Bi) (xs : IEs) : ev io Φ (.bi b xs) ρ = (evA io Φ xs ρ).bind fun ts ρ1 => kl ρ1 (biD b) (T.bs ρ1 ts) := by
  simp only [ev]
  congr 1
def ev_bi_1 (io : Nat → List Bool) (Φ : Nat → List D → FR) (b : Bi) (xs : IEs) (ts : List T) (ρ1 : Env) : R T := kl ρ1 (biD b) (T.bs ρ1 ts)
theorem ev_bi_1e (io : Nat → List Bool) (Φ : Nat → List D → FR) (b : Bi) (xs : IEs) (ts : List T) (ρ1 : Env) : ev_bi_1 io Φ b xs ts ρ1 = kl ρ1 (biD b) (T.bs ρ1 ts) := rfl
theorem ev_bi (b : Bi) (xs : IEs) : ev io Φ (.bi b xs) ρ = (evA io Φ xs ρ).bind (ev_bi_1 io Φ b xs) := ev_bi0 b xs
theorem bs_nil : T.bs ρ [] = some [] := rfl
def consO : Option D → Option (List D) → Option (List D)
  | some d, some ds => some (d :: ds)
  | _, _ => none
theorem consO_s (d : D) (ds : List D) : consO (some d) (some ds) = some (d :: ds) := rfl
theorem bs_cons (t : T) (r : List T) : T.bs ρ (t :: r) = consO (t.b ρ) (T.bs ρ r) := by
  conv => lhs; unfold T.bs
  cases t.b ρ <;> cases T.bs ρ r <;> rfl
/-- a list's method -/
def muR (ρ : Env) (i : Nat) (k : OwnK) : Option (D × D) → R T
  | some (r, d') => .ok (.val r) (ρ.set i (.own k d'))
  | none => .bad
theorem muR_s (i : Nat) (k : OwnK) (r d' : D) : muR ρ i k (some (r, d')) = .ok (.val r) (ρ.set i (.own k d')) := rfl
def mutK (ρ : Env) (m : Mu) (i : Nat) (ds : List D) : Option Slot → R T
  | some (.own .io d) => muR ρ i .io (muD m d ds)
  | some (.own .loc d) => muR ρ i .loc (muD m d ds)
  | _ => .bad
theorem mutK_i (m : Mu) (i : Nat) (ds : List D) (d : D) : mutK ρ m i ds (some (.own .io d)) = muR ρ i .io (muD m d ds) := rfl
theorem mutK_l (m : Mu) (i : Nat) (ds : List D) (d : D) : mutK ρ m i ds (some (.own .loc d)) = muR ρ i .loc (muD m d ds) := rfl
def mutG (io : Nat → List Bool) (Φ : Nat → List D → FR) (ρ : Env) (m : Mu) (i : Nat) (xs : IEs) : Option Slot → R T
  | some (.own _ (.lst _)) => (evF io Φ xs ρ).bind fun ds ρ1 => mutK ρ1 m i ds ρ1[i]?
  | _ => .bad
theorem mutG_o0 (m : Mu) (i : Nat) (xs : IEs) (k : OwnK) (ys : List D) : mutG io Φ ρ m i xs (some (.own k (.lst ys))) = (evF io Φ xs ρ).bind fun ds ρ1 => mutK ρ1 m i ds ρ1[i]? := rfl
def mutG_o_1 (io : Nat → List Bool) (Φ : Nat → List D → FR) (m : Mu) (i : Nat) (xs : IEs) (k : OwnK) (ys : List D) (ds : List D) (ρ1 : Env) : R T := mutK ρ1 m i ds ρ1[i]?
theorem mutG_o_1e (io : Nat → List Bool) (Φ : Nat → List D → FR) (m : Mu) (i : Nat) (xs : IEs) (k : OwnK) (ys : List D) (ds : List D) (ρ1 : Env) : mutG_o_1 io Φ m i xs k ys ds ρ1 = mutK ρ1 m i ds ρ1[i]? := rfl
theorem mutG_o (m : Mu) (i : Nat) (xs : IEs) (k : OwnK) (ys : List D) : mutG io Φ ρ m i xs (some (.own k (.lst ys))) = (evF io Φ xs ρ).bind (mutG_o_1 io Φ m i xs k ys) := mutG_o0 m i xs k ys
theorem ev_mut (m : Mu) (i : Nat) (xs : IEs) : ev io Φ (.mut m i xs) ρ = mutG io Φ ρ m i xs ρ[i]? := by
  have key : ∀ (ρ1 : Env) (ds : List D), (match ρ1[i]? with
      | some (.own k d) => if k = .lck then .bad else (match muD m d ds with
        | some (r, d') => .ok (.val r) (ρ1.set i (.own k d'))
        | none => .bad)
      | _ => .bad : R T) = mutK ρ1 m i ds ρ1[i]? := fun ρ1 ds => by
    cases ρ1[i]? with
    | none => rfl
    | some s => cases s with
      | own k d => cases k <;> first | rfl | (dsimp only [mutK, muR]; cases muD m d ds <;> rfl)
      | _ => rfl
  simp only [ev]
  cases ρ[i]? with
  | none => rfl
  | some s => cases s with
    | own k d => cases d <;> first | rfl | exact congrArg (R.bind _) (funext fun ds => funext fun ρ1 => key ρ1 ds)
    | _ => rfl
theorem mu_app {xs : List D} {d : D} (h : xs.length < 1000000) : muD .append (.lst xs) [d] = some (.non, .lst (xs ++ [d])) := if_pos h
theorem mu_pop1 {xs : List D} {i : Int} {j : Nat} {d : D} (h : i = (j : Int)) (hl : xs.length < 1000000) (e : xs[j]? = some d) : muD .pop1 (.lst xs) [.int i] = some (d, .lst (xs.eraseIdx j)) := by
  subst h
  have hj := (List.getElem?_eq_some_iff.mp e).1
  have q : seqIndex? (j : Int) xs.length = some j := by
    unfold seqIndex?
    have n : ¬ ((j : Int) < 0) := by omega
    simp only [if_neg n]
    rw [if_pos (by simp; omega)]
    simp
  simp only [muD, q]
  rw [if_pos (by omega), e]
  rfl
theorem evF_nil : evF io Φ .nil ρ = .ok [] ρ := by simp only [evF]
def fzK (r : IEs) (io : Nat → List Bool) (Φ : Nat → List D → FR) : Option (D × Env) → R (List D)
  | some (d, ρ2) => (evF io Φ r ρ2).bind fun ds ρ3 => .ok (d :: ds) ρ3
  | none => .bad
theorem fzK_s0 (r : IEs) (d : D) (ρ2 : Env) : fzK r io Φ (some (d, ρ2)) = (evF io Φ r ρ2).bind fun ds ρ3 => .ok (d :: ds) ρ3 := rfl
def fzK_s_1 (io : Nat → List Bool) (Φ : Nat → List D → FR) (r : IEs) (d : D) (ρ2 : Env) (ds : List D) (ρ3 : Env) : R (List D) := .ok (d :: ds) ρ3
theorem fzK_s_1e (io : Nat → List Bool) (Φ : Nat → List D → FR) (r : IEs) (d : D) (ρ2 : Env) (ds : List D) (ρ3 : Env) : fzK_s_1 io Φ r d ρ2 ds ρ3 = .ok (d :: ds) ρ3 := rfl
theorem fzK_s (r : IEs) (d : D) (ρ2 : Env) : fzK r io Φ (some (d, ρ2)) = (evF io Φ r ρ2).bind (fzK_s_1 io Φ r d ρ2) := fzK_s0 r d ρ2
theorem evF_cons0 (a : IE) (r : IEs) : evF io Φ (.cons a r) ρ = (ev io Φ a ρ).bind fun t ρ1 => fzK r io Φ (t.fz ρ1) := by
  simp only [evF]
  congr 1
def evF_cons_1 (io : Nat → List Bool) (Φ : Nat → List D → FR) (a : IE) (r : IEs) (t : T) (ρ1 : Env) : R (List D) := fzK r io Φ (t.fz ρ1)
theorem evF_cons_1e (io : Nat → List Bool) (Φ : Nat → List D → FR) (a : IE) (r : IEs) (t : T) (ρ1 : Env) : evF_cons_1 io Φ a r t ρ1 = fzK r io Φ (t.fz ρ1) := rfl
theorem evF_cons (a : IE) (r : IEs) : evF io Φ (.cons a r) ρ = (ev io Φ a ρ).bind (evF_cons_1 io Φ a r) := evF_cons0 a r
theorem evA_nil : evA io Φ .nil ρ = .ok [] ρ := by simp only [evA]
theorem evA_cons0 (a : IE) (r : IEs) : evA io Φ (.cons a r) ρ = (ev io Φ a ρ).bind fun t ρ1 => (evA io Φ r ρ1).bind fun ts ρ2 => .ok (t.weak :: ts) ρ2 := by simp only [evA]
def evA_cons_2 (io : Nat → List Bool) (Φ : Nat → List D → FR) (a : IE) (r : IEs) (t : T) (ρ1 : Env) (ts : List T) (ρ2 : Env) : R (List T) := .ok (t.weak :: ts) ρ2
theorem evA_cons_2e (io : Nat → List Bool) (Φ : Nat → List D → FR) (a : IE) (r : IEs) (t : T) (ρ1 : Env) (ts : List T) (ρ2 : Env) : evA_cons_2 io Φ a r t ρ1 ts ρ2 = .ok (t.weak :: ts) ρ2 := rfl
def evA_cons_1 (io : Nat → List Bool) (Φ : Nat → List D → FR) (a : IE) (r : IEs) (t : T) (ρ1 : Env) : R (List T) := (evA io Φ r ρ1).bind (evA_cons_2 io Φ a r t ρ1)
theorem evA_cons_1e (io : Nat → List Bool) (Φ : Nat → List D → FR) (a : IE) (r : IEs) (t : T) (ρ1 : Env) : evA_cons_1 io Φ a r t ρ1 = (evA io Φ r ρ1).bind (evA_cons_2 io Φ a r t ρ1) := rfl
theorem evA_cons (a : IE) (r : IEs) : evA io Φ (.cons a r) ρ = (ev io Φ a ρ).bind (evA_cons_1 io Φ a r) := evA_cons0 a r
theorem evAnd_1 (a : IE) : evAnd io Φ (.cons a .nil) ρ = ev io Φ a ρ := by simp only [evAnd]
theorem evAnd_20 (a b : IE) (r : IEs) : evAnd io Φ (.cons a (.cons b r)) ρ = (ev io Φ a ρ).bind fun x ρ1 => iteK ρ1 (evAnd io Φ (.cons b r)) (fun ρ1 => .ok (.val (.bl false)) ρ1) (asBl x) := by
  conv => lhs; simp only [evAnd]
  congr 1
def evAnd_2_1 (io : Nat → List Bool) (Φ : Nat → List D → FR) (a b : IE) (r : IEs) (x : T) (ρ1 : Env) : R T := iteK ρ1 (evAnd io Φ (.cons b r)) (fun ρ1 => .ok (.val (.bl false)) ρ1) (asBl x)
theorem evAnd_2_1e (io : Nat → List Bool) (Φ : Nat → List D → FR) (a b : IE) (r : IEs) (x : T) (ρ1 : Env) : evAnd_2_1 io Φ a b r x ρ1 = iteK ρ1 (evAnd io Φ (.cons b r)) (fun ρ1 => .ok (.val (.bl false)) ρ1) (asBl x) := rfl
theorem evAnd_2 (a b : IE) (r : IEs) : evAnd io Φ (.cons a (.cons b r)) ρ = (ev io Φ a ρ).bind (evAnd_2_1 io Φ a b r) := evAnd_20 a b r
theorem evOr_1 (a : IE) : evOr io Φ (.cons a .nil) ρ = ev io Φ a ρ := by simp only [evOr]
theorem evOr_20 (a b : IE) (r : IEs) : evOr io Φ (.cons a (.cons b r)) ρ = (ev io Φ a ρ).bind fun x ρ1 => iteK ρ1 (fun ρ1 => .ok (.val (.bl true)) ρ1) (evOr io Φ (.cons b r)) (asBl x) := by
  conv => lhs; simp only [evOr]
  congr 1; funext x ρ1
  cases asBl x with
  | none => rfl
  | some b => cases b <;> rfl
def evOr_2_1 (io : Nat → List Bool) (Φ : Nat → List D → FR) (a b : IE) (r : IEs) (x : T) (ρ1 : Env) : R T := iteK ρ1 (fun ρ1 => .ok (.val (.bl true)) ρ1) (evOr io Φ (.cons b r)) (asBl x)
theorem evOr_2_1e (io : Nat → List Bool) (Φ : Nat → List D → FR) (a b : IE) (r : IEs) (x : T) (ρ1 : Env) : evOr_2_1 io Φ a b r x ρ1 = iteK ρ1 (fun ρ1 => .ok (.val (.bl true)) ρ1) (evOr io Φ (.cons b r)) (asBl x) := rfl
theorem evOr_2 (a b : IE) (r : IEs) : evOr io Φ (.cons a (.cons b r)) ρ = (ev io Φ a ρ).bind (evOr_2_1 io Φ a b r) := evOr_20 a b r
theorem evC_nil : evC io Φ .nil ρ = .ok true ρ := by simp only [evC]
def bK (ρ : Env) (k : Env → R Bool) : Option Bool → R Bool
  | some true => k ρ
  | some false => .ok false ρ
  | none => .bad
theorem bK_t (k : Env → R Bool) : bK ρ k (some true) = k ρ := rfl
theorem bK_f (k : Env → R Bool) : bK ρ k (some false) = .ok false ρ := rfl
theorem evC_cons0 (a : IE) (r : IEs) : evC io Φ (.cons a r) ρ = (ev io Φ a ρ).bind fun x ρ1 => bK ρ1 (evC io Φ r) (asBl x) := by
  simp only [evC]
  congr 1
def evC_cons_1 (io : Nat → List Bool) (Φ : Nat → List D → FR) (a : IE) (r : IEs) (x : T) (ρ1 : Env) : R Bool := bK ρ1 (evC io Φ r) (asBl x)
theorem evC_cons_1e (io : Nat → List Bool) (Φ : Nat → List D → FR) (a : IE) (r : IEs) (x : T) (ρ1 : Env) : evC_cons_1 io Φ a r x ρ1 = bK ρ1 (evC io Φ r) (asBl x) := rfl
theorem evC_cons (a : IE) (r : IEs) : evC io Φ (.cons a r) ρ = (ev io Φ a ρ).bind (evC_cons_1 io Φ a r) := evC_cons0 a r
theorem evIt_rng0 (xs : IEs) : evIt io Φ (.rng xs) ρ = (evF io Φ xs ρ).bind fun ds ρ1 => R.opt ((rngD ds).map fun xs => (xs, none)) ρ1 := by simp only [evIt]
def evIt_rng_1 (io : Nat → List Bool) (Φ : Nat → List D → FR) (xs : IEs) (ds : List D) (ρ1 : Env) : R (List D × Option (Nat × OwnK)) := R.opt ((rngD ds).map fun xs => (xs, none)) ρ1
theorem evIt_rng_1e (io : Nat → List Bool) (Φ : Nat → List D → FR) (xs : IEs) (ds : List D) (ρ1 : Env) : evIt_rng_1 io Φ xs ds ρ1 = R.opt ((rngD ds).map fun xs => (xs, none)) ρ1 := rfl
theorem evIt_rng (xs : IEs) : evIt io Φ (.rng xs) ρ = (evF io Φ xs ρ).bind (evIt_rng_1 io Φ xs) := evIt_rng0 xs
def lkK : Option (List D × Env × Option (Nat × OwnK)) → R (List D × Option (Nat × OwnK))
  | some (xs, ρ2, l) => .ok (xs, l) ρ2
  | none => .bad
theorem lkK_s (xs : List D) (ρ2 : Env) (l : Option (Nat × OwnK)) : lkK (some (xs, ρ2, l)) = .ok (xs, l) ρ2 := rfl
theorem evIt_e0 (a : IE) : evIt io Φ (.e a) ρ = (ev io Φ a ρ).bind fun t ρ1 => lkK (lock ρ1 t) := by
  simp only [evIt]
  congr 1
def evIt_e_1 (io : Nat → List Bool) (Φ : Nat → List D → FR) (a : IE) (t : T) (ρ1 : Env) : R (List D × Option (Nat × OwnK)) := lkK (lock ρ1 t)
theorem evIt_e_1e (io : Nat → List Bool) (Φ : Nat → List D → FR) (a : IE) (t : T) (ρ1 : Env) : evIt_e_1 io Φ a t ρ1 = lkK (lock ρ1 t) := rfl
theorem evIt_e (a : IE) : evIt io Φ (.e a) ρ = (ev io Φ a ρ).bind (evIt_e_1 io Φ a) := evIt_e0 a
/-! statements -/
def putK : Option Env → O
  | some ρ => .nx ρ
  | none => .bad
theorem putK_s (ρ : Env) : putK (some ρ) = .nx ρ := rfl
theorem ss_asg0 (i : Nat) (e : IE) : ss io Φ (.asg i e) ρ = (ev io Φ e ρ).thenO fun t ρ1 => putK (putT ρ1 i t) := by
  simp only [ss]
  congr 1
def ss_asg_1 (io : Nat → List Bool) (Φ : Nat → List D → FR) (i : Nat) (e : IE) (t : T) (ρ1 : Env) : O := putK (putT ρ1 i t)
theorem ss_asg_1e (io : Nat → List Bool) (Φ : Nat → List D → FR) (i : Nat) (e : IE) (t : T) (ρ1 : Env) : ss_asg_1 io Φ i e t ρ1 = putK (putT ρ1 i t) := rfl
theorem ss_asg (i : Nat) (e : IE) : ss io Φ (.asg i e) ρ = (ev io Φ e ρ).thenO (ss_asg_1 io Φ i e) := ss_asg0 i e
theorem ss_par0 (i j : Nat) (a b : IE) : ss io Φ (.par i j a b) ρ = (ev io Φ a ρ).thenO fun t ρ1 => (ev io Φ b ρ1).thenO fun u ρ2 => parAt ρ2 i j t u := by simp only [ss]
def ss_par_2 (io : Nat → List Bool) (Φ : Nat → List D → FR) (i j : Nat) (a b : IE) (t : T) (ρ1 : Env) (u : T) (ρ2 : Env) : O := parAt ρ2 i j t u
theorem ss_par_2e (io : Nat → List Bool) (Φ : Nat → List D → FR) (i j : Nat) (a b : IE) (t : T) (ρ1 : Env) (u : T) (ρ2 : Env) : ss_par_2 io Φ i j a b t ρ1 u ρ2 = parAt ρ2 i j t u := rfl
def ss_par_1 (io : Nat → List Bool) (Φ : Nat → List D → FR) (i j : Nat) (a b : IE) (t : T) (ρ1 : Env) : O := (ev io Φ b ρ1).thenO (ss_par_2 io Φ i j a b t ρ1)
theorem ss_par_1e (io : Nat → List Bool) (Φ : Nat → List D → FR) (i j : Nat) (a b : IE) (t : T) (ρ1 : Env) : ss_par_1 io Φ i j a b t ρ1 = (ev io Φ b ρ1).thenO (ss_par_2 io Φ i j a b t ρ1) := rfl
theorem ss_par (i j : Nat) (a b : IE) : ss io Φ (.par i j a b) ρ = (ev io Φ a ρ).thenO (ss_par_1 io Φ i j a b) := ss_par0 i j a b
def stS (io : Nat → List Bool) (Φ : Nat → List D → FR) (ρ : Env) (i : Nat) (ix : IE) (d : D) : Option Slot → O
  | some (.own _ _) => (ev io Φ ix ρ).thenO fun y ρ3 => setAt ρ3 i d y
  | _ => .bad
theorem stS_o0 (i : Nat) (ix : IE) (d : D) (k : OwnK) (c : D) : stS io Φ ρ i ix d (some (.own k c)) = (ev io Φ ix ρ).thenO fun y ρ3 => setAt ρ3 i d y := rfl
def stS_o_1 (io : Nat → List Bool) (Φ : Nat → List D → FR) (i : Nat) (ix : IE) (d : D) (k : OwnK) (c : D) (y : T) (ρ3 : Env) : O := setAt ρ3 i d y
theorem stS_o_1e (io : Nat → List Bool) (Φ : Nat → List D → FR) (i : Nat) (ix : IE) (d : D) (k : OwnK) (c : D) (y : T) (ρ3 : Env) : stS_o_1 io Φ i ix d k c y ρ3 = setAt ρ3 i d y := rfl
theorem stS_o (i : Nat) (ix : IE) (d : D) (k : OwnK) (c : D) : stS io Φ ρ i ix d (some (.own k c)) = (ev io Φ ix ρ).thenO (stS_o_1 io Φ i ix d k c) := stS_o0 i ix d k c
def stK (io : Nat → List Bool) (Φ : Nat → List D → FR) (i : Nat) (ix : IE) : Option (D × Env) → O
  | some (d, ρ2) => stS io Φ ρ2 i ix d ρ2[i]?
  | none => .bad
theorem stK_s (i : Nat) (ix : IE) (d : D) (ρ2 : Env) : stK io Φ i ix (some (d, ρ2)) = stS io Φ ρ2 i ix d ρ2[i]? := rfl
theorem ss_setIx0 (i : Nat) (ix e : IE) : ss io Φ (.setIx i ix e) ρ = (ev io Φ e ρ).thenO fun t ρ1 => stK io Φ i ix (t.fz ρ1) := by
  simp only [ss]
  congr 1; funext t ρ1
  cases t.fz ρ1 with
  | none => rfl
  | some p =>
    obtain ⟨d, ρ2⟩ := p
    dsimp only [stK]
    cases ρ2[i]? with
    | none => rfl
    | some s => cases s <;> rfl
def ss_setIx_1 (io : Nat → List Bool) (Φ : Nat → List D → FR) (i : Nat) (ix e : IE) (t : T) (ρ1 : Env) : O := stK io Φ i ix (t.fz ρ1)
theorem ss_setIx_1e (io : Nat → List Bool) (Φ : Nat → List D → FR) (i : Nat) (ix e : IE) (t : T) (ρ1 : Env) : ss_setIx_1 io Φ i ix e t ρ1 = stK io Φ i ix (t.fz ρ1) := rfl
theorem ss_setIx (i : Nat) (ix e : IE) : ss io Φ (.setIx i ix e) ρ = (ev io Φ e ρ).thenO (ss_setIx_1 io Φ i ix e) := ss_setIx0 i ix e
theorem ss_exp0 (e : IE) : ss io Φ (.exp e) ρ = (ev io Φ e ρ).thenO fun _ ρ1 => .nx ρ1 := by simp only [ss]
def ss_exp_1 (io : Nat → List Bool) (Φ : Nat → List D → FR) (e : IE) (z : T) (ρ1 : Env) : O := .nx ρ1
theorem ss_exp_1e (io : Nat → List Bool) (Φ : Nat → List D → FR) (e : IE) (z : T) (ρ1 : Env) : ss_exp_1 io Φ e z ρ1 = .nx ρ1 := rfl
theorem ss_exp (e : IE) : ss io Φ (.exp e) ρ = (ev io Φ e ρ).thenO (ss_exp_1 io Φ e) := ss_exp0 e
theorem ss_ret0 (e : IE) : ss io Φ (.ret e) ρ = (ev io Φ e ρ).thenO fun t ρ1 => rtAt ρ1 t := by simp only [ss]
def ss_ret_1 (io : Nat → List Bool) (Φ : Nat → List D → FR) (e : IE) (t : T) (ρ1 : Env) : O := rtAt ρ1 t
theorem ss_ret_1e (io : Nat → List Bool) (Φ : Nat → List D → FR) (e : IE) (t : T) (ρ1 : Env) : ss_ret_1 io Φ e t ρ1 = rtAt ρ1 t := rfl
theorem ss_ret (e : IE) : ss io Φ (.ret e) ρ = (ev io Φ e ρ).thenO (ss_ret_1 io Φ e) := ss_ret0 e
theorem ss_retN : ss io Φ .retN ρ = .rt false .non ρ := by simp only [ss]
def oK (ρ : Env) (a b : Env → O) : Option Bool → O
  | some true => a ρ
  | some false => b ρ
  | none => .bad
theorem oK_t (a b : Env → O) : oK ρ a b (some true) = a ρ := rfl
theorem oK_f (a b : Env → O) : oK ρ a b (some false) = b ρ := rfl
theorem ss_iff0 (c : IE) (a b : ISs) : ss io Φ (.iff c a b) ρ = (ev io Φ c ρ).thenO fun t ρ1 => oK ρ1 (sss io Φ a) (sss io Φ b) (asBl t) := by
  simp only [ss]
  congr 1
def ss_iff_1 (io : Nat → List Bool) (Φ : Nat → List D → FR) (c : IE) (a b : ISs) (t : T) (ρ1 : Env) : O := oK ρ1 (sss io Φ a) (sss io Φ b) (asBl t)
theorem ss_iff_1e (io : Nat → List Bool) (Φ : Nat → List D → FR) (c : IE) (a b : ISs) (t : T) (ρ1 : Env) : ss_iff_1 io Φ c a b t ρ1 = oK ρ1 (sss io Φ a) (sss io Φ b) (asBl t) := rfl
theorem ss_iff (c : IE) (a b : ISs) : ss io Φ (.iff c a b) ρ = (ev io Φ c ρ).thenO (ss_iff_1 io Φ c a b) := ss_iff0 c a b
theorem ss_for0 (tg : Tg) (it : Py.It) (body : ISs) : ss io Φ (.for tg it body) ρ = (evIt io Φ it ρ).thenO fun p ρ1 => (forLoop tg (sss io Φ body) p.1 ρ1).unlock p.2 := by simp only [ss]
def ss_for_1 (io : Nat → List Bool) (Φ : Nat → List D → FR) (tg : Tg) (it : Py.It) (body : ISs) (p : List D × Option (Nat × OwnK)) (ρ1 : Env) : O := (forLoop tg (sss io Φ body) p.1 ρ1).unlock p.2
theorem ss_for_1e (io : Nat → List Bool) (Φ : Nat → List D → FR) (tg : Tg) (it : Py.It) (body : ISs) (p : List D × Option (Nat × OwnK)) (ρ1 : Env) : ss_for_1 io Φ tg it body p ρ1 = (forLoop tg (sss io Φ body) p.1 ρ1).unlock p.2 := rfl
theorem ss_for (tg : Tg) (it : Py.It) (body : ISs) : ss io Φ (.for tg it body) ρ = (evIt io Φ it ρ).thenO (ss_for_1 io Φ tg it body) := ss_for0 tg it body
theorem ss_while (c : IE) (body : ISs) : ss io Φ (.while c body) ρ = whileLoop (ev io Φ c) (sss io Φ body) most ρ := by simp only [ss]
theorem ss_pass : ss io Φ .pass ρ = .nx ρ := by simp only [ss]
theorem ss_brk : ss io Φ .brk ρ = .bk ρ := by simp only [ss]
theorem ss_cont : ss io Φ .cont ρ = .ct ρ := by simp only [ss]
theorem sss_nil : sss io Φ .nil ρ = .nx ρ := by simp only [sss]
theorem sss_cons (a : IS) (r : ISs) : sss io Φ (.cons a r) ρ = seqO (ss io Φ a ρ) (sss io Φ r) := by
  simp only [sss]
  cases ss io Φ a ρ <;> rfl
/-! values -/
theorem b_val (d : D) : T.b ρ (.val d) = some d := rfl
theorem b_own (d : D) : T.b ρ (.own d) = some d := rfl
def slD : Option Slot → Option D
  | some (.own _ d) => some d
  | some (.val d) => some d
  | _ => none
theorem slD_o (k : OwnK) (d : D) : slD (some (.own k d)) = some d := rfl
theorem slD_v (d : D) : slD (some (.val d)) = some d := rfl
theorem b_slot (i : Nat) : T.b ρ (.slot i) = slD ρ[i]? := by
  unfold T.b
  dsimp only
  cases ρ[i]? with
  | none => rfl
  | some s => cases s <;> rfl
theorem fz_val (d : D) : T.fz ρ (.val d) = some (d, ρ) := rfl
theorem fz_own (d : D) : T.fz ρ (.own d) = some (d, ρ) := rfl
theorem weak_val (d : D) : T.weak (.val d) = .val d := rfl
theorem weak_own (d : D) : T.weak (.own d) = .val d := rfl
theorem weak_slot (i : Nat) : T.weak (.slot i) = .slot i := rfl
theorem v_val (d : D) : T.v (.val d) = some d := rfl
theorem asBl_b (b : Bool) : asBl (.val (.bl b)) = some b := rfl
theorem optI_i (i : Int) : optI (.val (.int i)) = some (some i) := rfl
theorem add_ii (i j : Int) : binD .Add (.int i) (.int j) = some (.val (.int (i + j))) := rfl
theorem sub_ii (i j : Int) : binD .Sub (.int i) (.int j) = some (.val (.int (i - j))) := rfl
theorem mul_ii {i j : Int} (h : mulOk i j = true) : binD .Mult (.int i) (.int j) = some (.val (.int (i * j))) := by simp only [binD, h, if_true]
theorem div_ii {i j : Int} (h : 0 < j ∧ j.natAbs.log2 < 9000) : binD .FloorDiv (.int i) (.int j) = some (.val (.int (i / j))) := if_pos h
theorem mod_ii {i j : Int} (h : 0 < j) : binD .Mod (.int i) (.int j) = some (.val (.int (i % j))) := if_pos h
theorem pow_ii {i j : Int} (h : 0 ≤ j ∧ j ≤ 1000 ∧ i.natAbs < 2 ^ 1000) : binD .Pow (.int i) (.int j) = some (.val (.int (i ^ j.toNat))) := if_pos h
theorem lt_ii (i j : Int) : cmpD .Lt (.int i) (.int j) = some (decide (i < j)) := rfl
theorem le_ii (i j : Int) : cmpD .LtE (.int i) (.int j) = some (decide (i ≤ j)) := rfl
theorem gt_ii (i j : Int) : cmpD .Gt (.int i) (.int j) = some (decide (j < i)) := rfl
theorem ge_ii (i j : Int) : cmpD .GtE (.int i) (.int j) = some (decide (j ≤ i)) := rfl
theorem eq_dd (a b : D) : cmpD .Eq a b = eqD a b := rfl
theorem ne_dd (a b : D) : cmpD .NotEq a b = (eqD a b).map (!·) := rfl
theorem sub_li (xs : List D) (i : Int) : subD (.lst xs) (.int i) = atI xs i := rfl
theorem sub_ti (xs : List D) (i : Int) : subD (.tup xs) (.int i) = atI xs i := rfl
theorem sub_si (ns : List Int) (i : Int) : subD (.scr ns) (.int i) = (atI ns i).map .int := rfl
theorem slc_l (xs : List D) (lo hi : Option Int) : slcD (.lst xs) lo hi = some (.own (.lst (cutD xs lo hi))) := rfl
theorem slc_t (xs : List D) (lo hi : Option Int) : slcD (.tup xs) lo hi = some (.val (.tup (cutD xs lo hi))) := rfl
theorem bi_len (d : D) : biD .len [d] = lenD d := rfl
theorem bi_abs (d : D) : biD .abs [d] = absD d := rfl
theorem bi_max (d e : D) : biD .max2 [d, e] = max2D d e := rfl
theorem bi_min (d e : D) : biD .min2 [d, e] = min2D d e := rfl
theorem bi_int (d : D) : biD .int1 [d] = int1D d := rfl
theorem bi_list (d : D) : biD .list1 [d] = list1D d := rfl
theorem bi_tuple (d : D) : biD .tuple1 [d] = tuple1D d := rfl
theorem bi_sum (d : D) : biD .sum1 [d] = sum1D d := rfl
theorem bi_all (d : D) : biD .all1 [d] = all1D d := rfl
theorem bi_any (d : D) : biD .any1 [d] = any1D d := rfl
theorem bi_sorted (d : D) : biD .sorted1 [d] = sorted1D d := rfl
theorem bi_str (d : D) : biD .str1 [d] = str1D d := rfl
theorem len_s (xs : List Int) : lenD (.scr xs) = some (.val (.int xs.length)) := rfl
theorem len_l (xs : List D) : lenD (.lst xs) = some (.val (.int xs.length)) := rfl
theorem len_t (xs : List D) : lenD (.tup xs) = some (.val (.int xs.length)) := rfl
theorem abs_i (i : Int) : absD (.int i) = some (.val (.int (if i < 0 then -i else i))) := rfl
theorem max_ii (i j : Int) : max2D (.int i) (.int j) = some (.val (.int (if j > i then j else i))) := rfl
theorem min_ii (i j : Int) : min2D (.int i) (.int j) = some (.val (.int (if j < i then j else i))) := rfl
theorem int_i (i : Int) : int1D (.int i) = some (.val (.int i)) := rfl
theorem int_b (b : Bool) : int1D (.bl b) = some (.val (.int (if b then 1 else 0))) := rfl
theorem list_l (xs : List D) : list1D (.lst xs) = some (.own (.lst xs)) := rfl
theorem list_t (xs : List D) : list1D (.tup xs) = some (.own (.lst xs)) := rfl
theorem tuple_l (xs : List D) : tuple1D (.lst xs) = some (.val (.tup xs)) := rfl
theorem tuple_t (xs : List D) : tuple1D (.tup xs) = some (.val (.tup xs)) := rfl
theorem set_li {xs : List D} {k : Int} {d : D} {j : Nat} (h : ixN xs.length k = some j) : setD (.lst xs) (.int k) d = some (.lst (xs.set j d)) := by simp only [setD, h, Option.map_some]
def saR (ρ : Env) (i : Nat) (kd : OwnK) : Option D → O
  | some c' => .nx (ρ.set i (.own kd c'))
  | none => .bad
theorem saR_s (i : Nat) (kd : OwnK) (c : D) : saR ρ i kd (some c) = .nx (ρ.set i (.own kd c)) := rfl
def saK (ρ : Env) (i : Nat) (d k : D) : Option Slot → O
  | some (.own .io c) => saR ρ i .io (setD c k d)
  | some (.own .loc c) => saR ρ i .loc (setD c k d)
  | _ => .bad
theorem saK_i (i : Nat) (d k c : D) : saK ρ i d k (some (.own .io c)) = saR ρ i .io (setD c k d) := rfl
theorem saK_l (i : Nat) (d k c : D) : saK ρ i d k (some (.own .loc c)) = saR ρ i .loc (setD c k d) := rfl
theorem setAt_v (i : Nat) (d k : D) : setAt ρ i d (.val k) = saK ρ i d k ρ[i]? := by
  unfold setAt
  dsimp only
  cases ρ[i]? with
  | none => rfl
  | some s => cases s with
    | own kd c => cases kd <;> rfl
    | _ => rfl
def consM (d : D) : Option (List D) → Option (List D)
  | some ds => some (d :: ds)
  | none => none
theorem consM_s (d : D) (ds : List D) : consM d (some ds) = some (d :: ds) := rfl
theorem outs_t (io : List Bool) (d : D) (ρ : Env) : outsE (true :: io) (.own .io d :: ρ) = consM d (outsE io ρ) := by
  show (outsE io ρ).map (d :: ·) = _
  cases outsE io ρ <;> rfl
theorem outs_f (io : List Bool) (s : Slot) (ρ : Env) : outsE (false :: io) (s :: ρ) = outsE io ρ := rfl
theorem outs_n (ρ : Env) : outsE [] ρ = some [] := by
  cases ρ <;> rfl
def endK (o : Bool) (d : D) : Option (List D) → FR
  | some outs => .ok o d outs
  | none => .bad
theorem endK_s (o : Bool) (d : D) (outs : List D) : endK o d (some outs) = .ok o d outs := rfl
theorem end_rt (io : List Bool) (o : Bool) (d : D) (ρ : Env) : endR io (.rt o d ρ) = endK o d (outsE io ρ) := by
  unfold endR
  dsimp only
  cases outsE io ρ <;> rfl
theorem end_nx (io : List Bool) (ρ : Env) : endR io (.nx ρ) = endK false .non (outsE io ρ) := by
  unfold endR
  dsimp only
  cases outsE io ρ <;> rfl
theorem rt_v (d : D) : rtAt ρ (.val d) = .rt false d ρ := rfl
theorem rt_o (d : D) : rtAt ρ (.own d) = .rt true d ρ := rfl
def rtS (ρ : Env) (i : Nat) : Option Slot → O
  | some (.own .loc d) => .rt true d (ρ.set i .no)
  | some (.val d) => .rt false d ρ
  | _ => .bad
theorem rtS_l (i : Nat) (d : D) : rtS ρ i (some (.own .loc d)) = .rt true d (ρ.set i .no) := rfl
theorem rt_s (i : Nat) : rtAt ρ (.slot i) = rtS ρ i ρ[i]? := by
  unfold rtAt
  dsimp only
  cases ρ[i]? with
  | none => rfl
  | some s => cases s with
    | own k d => cases k <;> rfl
    | _ => rfl
def frB : Option Slot → Bool
  | some .no => true
  | some (.val _) => true
  | some (.own .loc _) => true
  | _ => false
theorem frB_n : frB (some .no) = true := rfl
theorem frB_v (d : D) : frB (some (.val d)) = true := rfl
theorem frB_l (d : D) : frB (some (.own .loc d)) = true := rfl
theorem free_eq (i : Nat) : Py.free ρ i = frB ρ[i]? := by
  unfold Py.free
  cases ρ[i]? with
  | none => rfl
  | some s => cases s with
    | own k d => cases k <;> rfl
    | _ => rfl
theorem putT_v (i : Nat) (d : D) : putT ρ i (.val d) = if frB ρ[i]? then some (ρ.set i (.val d)) else none := by rw [← free_eq]; rfl
theorem putT_o (i : Nat) (d : D) : putT ρ i (.own d) = if frB ρ[i]? then some (ρ.set i (.own .loc d)) else none := by rw [← free_eq]; rfl
theorem par_vv (i j : Nat) (d e : D) : parAt ρ i j (.val d) (.val e) = if i = j then .bad else seqO (putK (putT ρ j (.val e))) fun ρ1 => putK (putT ρ1 i (.val d)) := by
  unfold parAt
  dsimp only
  congr 1
  cases putT ρ j (.val e) with
  | none => rfl
  | some ρ1 =>
    dsimp only [putK, seqO]
    all_goals (cases putT ρ1 i (.val d) <;> rfl)
theorem par_oo (i j : Nat) (d e : D) : parAt ρ i j (.own d) (.own e) = if i = j then .bad else seqO (putK (putT ρ j (.own e))) fun ρ1 => putK (putT ρ1 i (.own d)) := by
  unfold parAt
  dsimp only
  congr 1
  cases putT ρ j (.own e) with
  | none => rfl
  | some ρ1 =>
    dsimp only [putK, seqO]
    all_goals (cases putT ρ1 i (.own d) <;> rfl)
theorem par_ov (i j : Nat) (d e : D) : parAt ρ i j (.own d) (.val e) = if i = j then .bad else seqO (putK (putT ρ j (.val e))) fun ρ1 => putK (putT ρ1 i (.own d)) := by
  unfold parAt
  dsimp only
  congr 1
  cases putT ρ j (.val e) with
  | none => rfl
  | some ρ1 =>
    dsimp only [putK, seqO]
    all_goals (cases putT ρ1 i (.own d) <;> rfl)
theorem par_vo (i j : Nat) (d e : D) : parAt ρ i j (.val d) (.own e) = if i = j then .bad else seqO (putK (putT ρ j (.own e))) fun ρ1 => putK (putT ρ1 i (.val d)) := by
  unfold parAt
  dsimp only
  congr 1
  cases putT ρ j (.own e) with
  | none => rfl
  | some ρ1 =>
    dsimp only [putK, seqO]
    all_goals (cases putT ρ1 i (.val d) <;> rfl)
theorem atI_lt {α : Type} {xs : List α} {i : Int} {j : Nat} {v : α} (h : i = (j : Int)) (e : xs[j]? = some v) : atI xs i = some v := by
  subst h
  exact atI_nat e
end
/-! ### equality of data -/
theorem eqD_ii (i j : Int) : eqD (.int i) (.int j) = some (i == j) := rfl
theorem eqD_bb (i j : Bool) : eqD (.bl i) (.bl j) = some (i == j) := by
  cases i <;> cases j <;> rfl
/-- plain data: neither an instance nor a dict in it, not deep -/
def Pl (n : Nat) (d : D) : Prop := ∃ x, toPD d = some x ∧ x.canLay0 = true ∧ x.depth ≤ n
theorem Pl.int (n : Nat) (i : Int) : Pl n (.int i) := ⟨.int i, rfl, rfl, Nat.zero_le _⟩
theorem Pl.bl (n : Nat) (i : Bool) : Pl n (.bl i) := ⟨.bool i, rfl, rfl, Nat.zero_le _⟩
theorem Pl.non (n : Nat) : Pl n .non := ⟨.none, rfl, rfl, Nat.zero_le _⟩
theorem pls {n : Nat} : ∀ {xs : List D}, (∀ d ∈ xs, Pl n d) → ∃ ys, toPDs xs = some ys ∧ PyData.canLayAll0 ys = true ∧ PyData.depthAll ys ≤ n ∧ ys.length = xs.length
  | [], _ => ⟨[], rfl, rfl, Nat.zero_le _, rfl⟩
  | d :: xs, h => by
    obtain ⟨x, e1, e2, e3⟩ := h d List.mem_cons_self
    obtain ⟨ys, f1, f2, f3, f4⟩ := pls (xs := xs) fun d hd => h d (List.mem_cons_of_mem _ hd)
    refine ⟨x :: ys, by simp only [toPDs, e1, f1], by simp only [PyData.canLayAll0, e2, f2, Bool.and_self], ?_, by simp [f4]⟩
    simp only [PyData.depthAll]
    omega
theorem Pl.tup {n : Nat} {xs : List D} (h : ∀ d ∈ xs, Pl n d) : Pl (n + 1) (.tup xs) := by
  obtain ⟨ys, f1, f2, f3, _⟩ := pls h
  exact ⟨.tuple ys, by simp only [toPD, f1], by simp only [PyData.canLay0, f2], by simp only [PyData.depth]; omega⟩
theorem Pl.lst {n : Nat} {xs : List D} (h : ∀ d ∈ xs, Pl n d) : Pl (n + 1) (.lst xs) := by
  obtain ⟨ys, f1, f2, f3, _⟩ := pls h
  exact ⟨.list ys, by simp only [toPD, f1], by simp only [PyData.canLay0, f2], by simp only [PyData.depth]; omega⟩
theorem eqD_pl {a b : D} {x y : PyData} (ha : toPD a = some x) (hb : toPD b = some y) (c1 : x.canLay0 = true) (c2 : y.canLay0 = true) (d1 : x.depth ≤ 64) (d2 : y.depth ≤ 64) : eqD a b = some (PyData.eqv x y) := by
  have s1 : SeqAt.shaped x = true := by unfold SeqAt.shaped; simp [c1, d1]
  have s2 : SeqAt.shaped y = true := by unfold SeqAt.shaped; simp [c2, d2]
  unfold eqD
  rw [ha, hb]
  simp only [s1, s2, Bool.and_self, if_true]
theorem eqD_nil {xs : List D} (h : ∀ d ∈ xs, Pl 63 d) : eqD (.lst xs) (.lst []) = some xs.isEmpty := by
  obtain ⟨ys, f1, f2, f3, f4⟩ := pls h
  rw [eqD_pl (x := .list ys) (y := .list []) (by simp only [toPD, f1]) rfl (by simp only [PyData.canLay0, f2]) rfl (by simp only [PyData.depth]; omega) (by decide)]
  cases ys with
  | nil =>
    cases xs with
    | nil => rfl
    | cons _ _ => cases f4
  | cons y ys =>
    cases xs with
    | nil => cases f4
    | cons _ _ => rfl
theorem toPDs_map {α : Type} (f : α → D) (g : α → PyData) (h : ∀ a, toPD (f a) = some (g a)) : ∀ xs : List α, toPDs (xs.map f) = some (xs.map g)
  | [] => rfl
  | x :: xs => by
    rw [List.map_cons]
    simp only [toPDs, h, toPDs_map f g h xs]
    rfl
theorem flat_ok (g : α → PyData) (h1 : ∀ a, (g a).canLay0 = true) (h2 : ∀ a, (g a).depth = 0) : ∀ xs : List α, PyData.canLayAll0 (xs.map g) = true ∧ PyData.depthAll (xs.map g) = 0
  | [] => ⟨rfl, rfl⟩
  | x :: xs => by
    obtain ⟨a, b⟩ := flat_ok g h1 h2 xs
    rw [List.map_cons]
    simp only [PyData.canLayAll0, PyData.depthAll, h1, h2, a, b, Bool.and_self, Nat.max_self, and_self]
theorem eqv_ints : ∀ a b : List Int, PyData.eqvAll (a.map .int) (b.map .int) = (a == b)
  | [], [] => rfl
  | [], _ :: _ => rfl
  | _ :: _, [] => rfl
  | x :: a, y :: b => by
    show (PyData.eqv (.int x) (.int y) && PyData.eqvAll (a.map .int) (b.map .int)) = _
    rw [eqv_ints a b]
    rfl
theorem eqv_bls : ∀ a b : List Bool, PyData.eqvAll (a.map .bool) (b.map .bool) = (a == b)
  | [], [] => rfl
  | [], _ :: _ => rfl
  | _ :: _, [] => rfl
  | x :: a, y :: b => by
    show (PyData.eqv (.bool x) (.bool y) && PyData.eqvAll (a.map .bool) (b.map .bool)) = _
    rw [eqv_bls a b]
    rfl
theorem eqD_lints (a b : List Int) : eqD (.lst (a.map .int)) (.lst (b.map .int)) = some (a == b) := by
  obtain ⟨a1, a2⟩ := flat_ok PyData.int (fun _ => rfl) (fun _ => rfl) a
  obtain ⟨b1, b2⟩ := flat_ok PyData.int (fun _ => rfl) (fun _ => rfl) b
  rw [eqD_pl (x := .list (a.map .int)) (y := .list (b.map .int)) (by simp only [toPD, toPDs_map D.int PyData.int (fun _ => rfl)]) (by simp only [toPD, toPDs_map D.int PyData.int (fun _ => rfl)]) a1 b1 (by simp only [PyData.depth, a2]; decide) (by simp only [PyData.depth, b2]; decide)]
  show some (PyData.eqvAll _ _) = _
  rw [eqv_ints]
theorem eqD_lbls (a b : List Bool) : eqD (.lst (a.map .bl)) (.lst (b.map .bl)) = some (a == b) := by
  obtain ⟨a1, a2⟩ := flat_ok PyData.bool (fun _ => rfl) (fun _ => rfl) a
  obtain ⟨b1, b2⟩ := flat_ok PyData.bool (fun _ => rfl) (fun _ => rfl) b
  rw [eqD_pl (x := .list (a.map .bool)) (y := .list (b.map .bool)) (by simp only [toPD, toPDs_map D.bl PyData.bool (fun _ => rfl)]) (by simp only [toPD, toPDs_map D.bl PyData.bool (fun _ => rfl)]) a1 b1 (by simp only [PyData.depth, a2]; decide) (by simp only [PyData.depth, b2]; decide)]
  show some (PyData.eqvAll _ _) = _
  rw [eqv_bls]
end Py

set_option Elab.async false
set_option linter.all false
set_option maxRecDepth 100000
namespace Py
open PySem PySem.Spec
open PyProof.Rows L2

section
variable {io : Nat → List Bool} {Φ : Nat → List D → FR} {ρ : Env}
/-! ### calls -/
theorem args_n : argsIn ρ [] [] = some [] := rfl
theorem args_f (b : List Bool) (t : T) (ts : List T) : argsIn ρ (false :: b) (t :: ts) = consO (t.b ρ) (argsIn ρ b ts) := by
  conv => lhs; unfold argsIn
  cases t.b ρ <;> cases argsIn ρ b ts <;> rfl
def ioA : Option Slot → Option (List D) → Option (List D)
  | some (.own .io d), r => consM d r
  | some (.own .loc d), r => consM d r
  | _, _ => none
theorem ioA_i (d : D) (r : Option (List D)) : ioA (some (.own .io d)) r = consM d r := rfl
theorem ioA_l (d : D) (r : Option (List D)) : ioA (some (.own .loc d)) r = consM d r := rfl
theorem args_t (b : List Bool) (i : Nat) (ts : List T) : argsIn ρ (true :: b) (.slot i :: ts) = ioA ρ[i]? (argsIn ρ b ts) := by
  conv => lhs; unfold argsIn
  cases ρ[i]? with
  | none => rfl
  | some s => cases s with
    | own k d => cases k <;> cases argsIn ρ b ts <;> rfl
    | _ => rfl
theorem ios_n : ioSlots [] [] = [] := rfl
theorem ios_f (b : List Bool) (t : T) (ts : List T) : ioSlots (false :: b) (t :: ts) = ioSlots b ts := by
  cases t <;> rfl
theorem ios_t (b : List Bool) (i : Nat) (ts : List T) : ioSlots (true :: b) (.slot i :: ts) = i :: ioSlots b ts := rfl
def leS (i : Nat) : Option Slot → List Nat
  | some (.own _ _) => [i]
  | _ => []
theorem leS_o (i : Nat) (k : OwnK) (d : D) : leS i (some (.own k d)) = [i] := rfl
theorem leS_v (i : Nat) (d : D) : leS i (some (.val d)) = [] := rfl
theorem lent_n : lent ρ [] [] = [] := rfl
theorem lent_fv (b : List Bool) (d : D) (ts : List T) : lent ρ (false :: b) (.val d :: ts) = lent ρ b ts := rfl
theorem lent_fs (b : List Bool) (i : Nat) (ts : List T) : lent ρ (false :: b) (.slot i :: ts) = leS i ρ[i]? ++ lent ρ b ts := by
  conv => lhs; unfold lent
  cases ρ[i]? with
  | none => rfl
  | some s => cases s <;> rfl
theorem lent_t (b : List Bool) (t : T) (ts : List T) : lent ρ (true :: b) (t :: ts) = lent ρ b ts := by
  cases t <;> rfl
def cK (t : T) : Option Env → R T
  | some ρ => .ok t ρ
  | none => .bad
theorem cK_s (t : T) : cK t (some ρ) = .ok t ρ := rfl
def ret (o : Bool) (d : D) : T := if o then .own d else .val d
theorem ret_t (d : D) : ret true d = .own d := rfl
theorem ret_f (d : D) : ret false d = .val d := rfl
/-- behind the callee -/
def callC (ρ : Env) (is ls : List Nat) : FR → R T
  | .ok o d outs => if (ls = [] ∨ ((if o then d.kids else d.noLst) && outs.all D.kids) = true) then cK (ret o d) (putOuts is outs ρ) else .bad
  | .exc x outs => if (ls = [] ∨ outs.all D.kids = true) then
          (match putOuts is outs ρ with
          | some ρ' => .exc x ρ'
          | none => .bad) else .bad
  | .bad => .bad
theorem callC_n (is : List Nat) (o : Bool) (d : D) (outs : List D) : callC ρ is [] (.ok o d outs) = cK (ret o d) (putOuts is outs ρ) := by
  unfold callC
  exact if_pos (.inl rfl)
theorem callC_l {is ls : List Nat} {o : Bool} {d : D} {outs : List D} (h : ((if o then d.kids else d.noLst) && outs.all D.kids) = true) : callC ρ is ls (.ok o d outs) = cK (ret o d) (putOuts is outs ρ) := by
  unfold callC
  exact if_pos (.inr h)
def callA (ρ : Env) (f : List D → FR) (is ls : List Nat) : Option (List D) → R T
  | some ds => if is.Nodup ∧ (∀ i ∈ is, i ∉ ls) then callC ρ is ls (f ds) else .bad
  | none => .bad
theorem callR_eq (b : List Bool) (f : List D → FR) (ts : List T) : callR b f ts ρ = callA ρ f (ioSlots b ts) (lent ρ b ts) (argsIn ρ b ts) := by
  unfold callR
  cases argsIn ρ b ts with
  | none => rfl
  | some ds =>
    show (if _ then _ else _) = (if _ then _ else _)
    congr 1
theorem callA_0 (f : List D → FR) (ls : List Nat) (ds : List D) : callA ρ f [] ls (some ds) = callC ρ [] ls (f ds) := by
  unfold callA
  exact if_pos ⟨.nil, fun i h => by cases h⟩
theorem callA_1 (f : List D → FR) (i : Nat) (ds : List D) : callA ρ f [i] [] (some ds) = callC ρ [i] [] (f ds) := by
  unfold callA
  exact if_pos ⟨List.pairwise_singleton _ _, fun i h => by simp⟩
theorem callA_11 {f : List D → FR} {i j : Nat} {ds : List D} (h : i ≠ j) : callA ρ f [i] [j] (some ds) = callC ρ [i] [j] (f ds) := by
  unfold callA
  refine if_pos ⟨List.pairwise_singleton _ _, fun x hx => ?_⟩
  have : x = i := by simpa using hx
  subst this
  simpa using h
theorem po_n : putOuts [] [] ρ = some ρ := rfl
def poK (is : List Nat) (ds : List D) (ρ : Env) (i : Nat) (d : D) : Option Slot → Option Env
  | some (.own k _) => putOuts is ds (ρ.set i (.own k d))
  | _ => none
theorem poK_o (is : List Nat) (ds : List D) (i : Nat) (d c : D) (k : OwnK) : poK is ds ρ i d (some (.own k c)) = putOuts is ds (ρ.set i (.own k d)) := rfl
theorem po_c (i : Nat) (is : List Nat) (d : D) (ds : List D) : putOuts (i :: is) (d :: ds) ρ = poK is ds ρ i d ρ[i]? := by
  conv => lhs; unfold putOuts
  cases ρ[i]? with
  | none => rfl
  | some s => cases s <;> rfl
/-! ### loops -/
def wB (c : Env → R T) (b : Env → O) (n : Nat) : O → O
  | .nx ρ2 => whileLoop c b n ρ2
  | .ct ρ2 => whileLoop c b n ρ2
  | .bk ρ2 => .nx ρ2
  | .rt o d ρ2 => .rt o d ρ2
  | .exc x ρ2 => .exc x ρ2
  | .bad => .bad
theorem wB_nx (c : Env → R T) (b : Env → O) (n : Nat) (ρ2 : Env) : wB c b n (.nx ρ2) = whileLoop c b n ρ2 := rfl
theorem wB_ct (c : Env → R T) (b : Env → O) (n : Nat) (ρ2 : Env) : wB c b n (.ct ρ2) = whileLoop c b n ρ2 := rfl
theorem wB_bk (c : Env → R T) (b : Env → O) (n : Nat) (ρ2 : Env) : wB c b n (.bk ρ2) = .nx ρ2 := rfl
theorem wB_rt (c : Env → R T) (b : Env → O) (n : Nat) (o : Bool) (d : D) (ρ2 : Env) : wB c b n (.rt o d ρ2) = .rt o d ρ2 := rfl
def wK (c : Env → R T) (b : Env → O) (n : Nat) (ρ1 : Env) : Option Bool → O
  | some true => wB c b n (b ρ1)
  | some false => .nx ρ1
  | none => .bad
theorem wK_t (c : Env → R T) (b : Env → O) (n : Nat) (ρ1 : Env) : wK c b n ρ1 (some true) = wB c b n (b ρ1) := rfl
theorem wK_f (c : Env → R T) (b : Env → O) (n : Nat) (ρ1 : Env) : wK c b n ρ1 (some false) = .nx ρ1 := rfl
theorem while_s0 (c : Env → R T) (b : Env → O) (n : Nat) : whileLoop c b (n + 1) ρ = (c ρ).thenO fun t ρ1 => wK c b n ρ1 (asBl t) := by
  conv => lhs; unfold whileLoop
  congr 1; funext t ρ1
  cases asBl t with
  | none => rfl
  | some d => cases d with
    | true =>
      show _ = wB c b n (b ρ1)
      cases b ρ1 <;> rfl
    | false => rfl
def while_s_1 (c : Env → R T) (b : Env → O) (n : Nat) (t : T) (ρ1 : Env) : O := wK c b n ρ1 (asBl t)
theorem while_s_1e (c : Env → R T) (b : Env → O) (n : Nat) (t : T) (ρ1 : Env) : while_s_1 c b n t ρ1 = wK c b n ρ1 (asBl t) := rfl
theorem while_s (c : Env → R T) (b : Env → O) (n : Nat) : whileLoop c b (n + 1) ρ = (c ρ).thenO (while_s_1 c b n) := while_s0 c b n
def fB (tg : Tg) (b : Env → O) (xs : List D) : O → O
  | .nx ρ2 => forLoop tg b xs ρ2
  | .ct ρ2 => forLoop tg b xs ρ2
  | .bk ρ2 => .nx ρ2
  | .rt o d ρ2 => .rt o d ρ2
  | .exc x ρ2 => .exc x ρ2
  | .bad => .bad
theorem fB_nx (tg : Tg) (b : Env → O) (xs : List D) (ρ2 : Env) : fB tg b xs (.nx ρ2) = forLoop tg b xs ρ2 := rfl
theorem fB_ct (tg : Tg) (b : Env → O) (xs : List D) (ρ2 : Env) : fB tg b xs (.ct ρ2) = forLoop tg b xs ρ2 := rfl
theorem fB_bk (tg : Tg) (b : Env → O) (xs : List D) (ρ2 : Env) : fB tg b xs (.bk ρ2) = .nx ρ2 := rfl
theorem fB_rt (tg : Tg) (b : Env → O) (xs : List D) (o : Bool) (d : D) (ρ2 : Env) : fB tg b xs (.rt o d ρ2) = .rt o d ρ2 := rfl
def fK (tg : Tg) (b : Env → O) (xs : List D) : Option Env → O
  | some ρ1 => fB tg b xs (b ρ1)
  | none => .bad
theorem fK_s (tg : Tg) (b : Env → O) (xs : List D) (ρ1 : Env) : fK tg b xs (some ρ1) = fB tg b xs (b ρ1) := rfl
theorem for_n (tg : Tg) (b : Env → O) : forLoop tg b [] ρ = .nx ρ := rfl
theorem for_c (tg : Tg) (b : Env → O) (x : D) (xs : List D) : forLoop tg b (x :: xs) ρ = fK tg b xs (bindTg tg x ρ) := by
  conv => lhs; unfold forLoop
  cases bindTg tg x ρ with
  | none => rfl
  | some ρ1 =>
    dsimp only [fK]
    cases b ρ1 <;> rfl
theorem unl_nx (l : Option (Nat × OwnK)) : O.unlock l (.nx ρ) = .nx (Py.unlock ρ l) := rfl
theorem unl_rt (l : Option (Nat × OwnK)) (o : Bool) (d : D) : O.unlock l (.rt o d ρ) = .rt o d (Py.unlock ρ l) := rfl
theorem unlock_n : Py.unlock ρ none = ρ := rfl
def unK (ρ : Env) (i : Nat) (k : OwnK) : Option Slot → Env
  | some (.own _ d) => ρ.set i (.own k d)
  | _ => ρ
theorem unK_o (i : Nat) (k k' : OwnK) (d : D) : unK ρ i k (some (.own k' d)) = ρ.set i (.own k d) := rfl
theorem unlock_s (i : Nat) (k : OwnK) : Py.unlock ρ (some (i, k)) = unK ρ i k ρ[i]? := by
  unfold Py.unlock
  dsimp only
  cases ρ[i]? with
  | none => rfl
  | some s => cases s <;> rfl
theorem lock_vl (xs : List D) : lock ρ (.val (.lst xs)) = some (xs, ρ, none) := rfl
theorem lock_vt (xs : List D) : lock ρ (.val (.tup xs)) = some (xs, ρ, none) := rfl
theorem lock_ol (xs : List D) : lock ρ (.own (.lst xs)) = some (xs, ρ, none) := rfl
def lkS (ρ : Env) (i : Nat) : Option Slot → Option (List D × Env × Option (Nat × OwnK))
  | some (.own k d) => (seqOf d).map fun xs => (xs, ρ.set i (.own .lck d), some (i, k))
  | some (.val d) => (seqOf d).map fun xs => (xs, ρ, none)
  | _ => none
theorem lkS_l (i : Nat) (k : OwnK) (xs : List D) : lkS ρ i (some (.own k (.lst xs))) = some (xs, ρ.set i (.own .lck (.lst xs)), some (i, k)) := rfl
theorem lock_s (i : Nat) : lock ρ (.slot i) = lkS ρ i ρ[i]? := by
  unfold lock
  dsimp only
  cases ρ[i]? with
  | none => rfl
  | some s => cases s <;> rfl
theorem bind_nm (i : Nat) (d : D) : bindTg (.nm i) d ρ = if frB ρ[i]? then some (ρ.set i (.val d)) else none := by
  unfold bindTg
  dsimp only
  rw [free_eq]
theorem bind_2 {i j : Nat} {d e : D} (f1 : frB ρ[i]? = true) (f2 : frB (ρ.set i (.val d))[j]? = true) : bindTg (.tup [i, j]) (.tup [d, e]) ρ = some ((ρ.set i (.val d)).set j (.val e)) := by
  unfold bindTg
  dsimp only
  rw [if_pos (by simp)]
  unfold bindTg.go
  rw [free_eq, f1, if_pos rfl]
  unfold bindTg.go
  rw [free_eq, f2, if_pos rfl]
  rfl
/-! ### comprehensions -/
theorem wipe_n : wipeE ρ [] = ρ := rfl
theorem wipe_c (i : Nat) (is : List Nat) : wipeE ρ (i :: is) = (wipeE ρ is).set i .no := rfl
theorem back_n (ρ0 : Env) : backE ρ ρ0 [] = ρ := rfl
theorem back_c (ρ0 : Env) (i : Nat) (is : List Nat) : backE ρ ρ0 (i :: is) = (backE ρ ρ0 is).set i (ρ0.getD i .no) := rfl
def cR (ρ1 : Env) (own : List Nat) (l : Option (Nat × OwnK)) : R (List D) → R T
  | .ok ds ρ2 => .ok (.own (.lst ds)) (Py.unlock (backE ρ2 ρ1 own) l)
  | _ => .bad
theorem cR_ok (ρ1 : Env) (own : List Nat) (l : Option (Nat × OwnK)) (ds : List D) (ρ2 : Env) : cR ρ1 own l (.ok ds ρ2) = .ok (.own (.lst ds)) (Py.unlock (backE ρ2 ρ1 own) l) := rfl
theorem ev_comp0 (elt : IE) (tg : Tg) (it : Py.It) (conds : IEs) (own : List Nat) : ev io Φ (.comp elt tg it conds own) ρ = (evIt io Φ it ρ).bind fun p ρ1 => if own.all (notOwn ρ1) then cR ρ1 own p.2 (compLoop own tg (evC io Φ conds) (ev io Φ elt) p.1 [] (wipeE ρ1 own)) else .bad := by
  simp only [ev]
  congr 1
def ev_comp_1 (io : Nat → List Bool) (Φ : Nat → List D → FR) (elt : IE) (tg : Tg) (it : Py.It) (conds : IEs) (own : List Nat) (p : List D × Option (Nat × OwnK)) (ρ1 : Env) : R T := if own.all (notOwn ρ1) then cR ρ1 own p.2 (compLoop own tg (evC io Φ conds) (ev io Φ elt) p.1 [] (wipeE ρ1 own)) else .bad
theorem ev_comp_1e (io : Nat → List Bool) (Φ : Nat → List D → FR) (elt : IE) (tg : Tg) (it : Py.It) (conds : IEs) (own : List Nat) (p : List D × Option (Nat × OwnK)) (ρ1 : Env) : ev_comp_1 io Φ elt tg it conds own p ρ1 = if own.all (notOwn ρ1) then cR ρ1 own p.2 (compLoop own tg (evC io Φ conds) (ev io Φ elt) p.1 [] (wipeE ρ1 own)) else .bad := rfl
theorem ev_comp (elt : IE) (tg : Tg) (it : Py.It) (conds : IEs) (own : List Nat) : ev io Φ (.comp elt tg it conds own) ρ = (evIt io Φ it ρ).bind (ev_comp_1 io Φ elt tg it conds own) := ev_comp0 elt tg it conds own
theorem comp_n (own : List Nat) (tg : Tg) (c : Env → R Bool) (e : Env → R T) (acc : List D) : compLoop own tg c e [] acc ρ = .ok acc ρ := rfl
/-- a comprehension that changes no slot but its own -/
theorem comp_all {own : List Nat} {tg : Tg} {c : Env → R Bool} {e : Env → R T} {p : D → Bool} {g : D → D} : ∀ (xs acc : List D), acc.length + xs.length ≤ 1000000 →
    (∀ x ∈ xs, ∃ ρ1, bindTg tg x ρ = some ρ1 ∧ wipeE ρ1 own = ρ ∧ ((p x = false ∧ c ρ1 = .ok false ρ1) ∨ (p x = true ∧ c ρ1 = .ok true ρ1 ∧ (∃ t, e ρ1 = .ok t ρ1 ∧ t.fz ρ1 = some (g x, ρ1))))) →
    compLoop own tg c e xs acc ρ = .ok (acc ++ (xs.filter p).map g) ρ
  | [], acc, _, _ => by simp [compLoop]
  | x :: xs, acc, hl, h => by
    obtain ⟨ρ1, b, w, hc⟩ := h x List.mem_cons_self
    have hl : acc.length + (xs.length + 1) ≤ 1000000 := hl
    unfold compLoop
    rw [b]
    dsimp only
    rcases hc with ⟨hp, hc⟩ | ⟨hp, hc, t, he, hf⟩
    · rw [hc]
      dsimp only
      rw [w, comp_all xs acc (by omega) fun y hy => h y (List.mem_cons_of_mem _ hy), List.filter_cons_of_neg (by rw [hp]; simp)]
    · rw [hc]
      dsimp only
      rw [he]
      dsimp only
      rw [hf]
      dsimp only
      rw [if_pos (by omega), w, comp_all xs (acc ++ [g x]) (by rw [List.length_append, List.length_singleton]; omega) fun y hy => h y (List.mem_cons_of_mem _ hy), List.filter_cons_of_pos hp, List.map_cons]
      simp
end
end Py

set_option Elab.async false
set_option linter.all false
set_option maxRecDepth 100000
set_option maxHeartbeats 400000
namespace Py
open PySem PySem.Spec
open PyProof.Rows L2
theorem at0 (a b c : D) : atI [a, b, c] 0 = some a := rfl
theorem at1 (a b c : D) : atI [a, b, c] 1 = some b := rfl
theorem at2 (a b c : D) : atI [a, b, c] 2 = some c := rfl
theorem st0 (a b c d : D) : setD (.lst [a, b, c]) (.int 0) d = some (.lst [d, b, c]) := rfl
theorem st2 (a b c d : D) : setD (.lst [a, b, c]) (.int 2) d = some (.lst [a, b, d]) := rfl
theorem mulOk_of {i j : Int} {p q : Nat} (h1 : i.natAbs < 2 ^ p) (h2 : j.natAbs < 2 ^ q) (h : p + q ≤ 900000) : mulOk i j = true := by
  unfold mulOk
  have l : ∀ {n r : Nat}, n < 2 ^ r → n.log2 ≤ r := fun {n r} h => by
    by_cases z : n = 0
    · subst z; simp
    · exact Nat.le_of_lt ((Nat.log2_lt z).mpr h)
  have := l h1
  have := l h2
  exact decide_eq_true (by omega)
/-- the draws of a law -/
structure BallC where
  a : Int
  m : Int
  b : Int
  n : Int
  c : Int
  e : Int
structure BallC.Ok (z : BallC) : Prop where
  a : z.a.natAbs < 2 ^ 40
  m : 0 < z.m ∧ z.m < 2 ^ 62
  b : z.b.natAbs < 2 ^ 40
  n : 0 < z.n ∧ z.n < 2 ^ 62
  c : z.c.natAbs < 2 ^ 40
  e : 0 < z.e ∧ z.e.natAbs.log2 < 9000
def ballB (z : BallC) : ISs := .cons (.iff (.cmp .Gt (.sub (.var 0) (.cst (.int 0))) (.cst (.int 0))) (.cons (.asg 4 (.bin .Mod (.bi .int1 (.cons (.sub (.var 0) (.cst (.int 0))) .nil)) (.var 1))) (.cons (.setIx 0 (.cst (.int 0)) (.bin .FloorDiv (.sub (.var 0) (.cst (.int 0))) (.var 1))) (.cons (.ret (.var 4)) .nil))) (.nil)) (.cons (.setIx 0 (.cst (.int 2)) (.bin .Add (.sub (.var 0) (.cst (.int 2))) (.cst (.int 1)))) (.cons (.asg 2 (.bin .Mod (.bi .int1 (.cons (.bin .Add (.sub (.var 0) (.cst (.int 1))) (.bin .Mult (.cst (.int z.a)) (.sub (.var 0) (.cst (.int 2))))) .nil)) (.cst (.int z.m)))) (.cons (.asg 3 (.bin .Add (.bin .Mult (.bin .Mod (.bi .int1 (.cons (.bin .Add (.bin .Mult (.var 2) (.var 2)) (.bin .Mult (.cst (.int z.b)) (.sub (.var 0) (.cst (.int 2))))) .nil)) (.cst (.int z.n))) (.cst (.int z.c))) (.var 2))) (.cons (.ret (.bin .Mod (.bi .int1 (.cons (.bin .FloorDiv (.var 3) (.cst (.int z.e))) .nil)) (.var 1))) .nil))))
/-- the state of the draws: m, the numbers drawn so far at most -/
def Urn (m : Nat) (u : D) : Prop := ∃ a b c : Int, u = .lst [.int a, .int b, .int c] ∧ 0 ≤ a ∧ 0 ≤ c ∧ c ≤ m
theorem Urn.mono {m n : Nat} {u : D} (h : Urn m u) (l : m ≤ n) : Urn n u := by
  obtain ⟨a, b, c, e, h1, h2, h3⟩ := h
  exact ⟨a, b, c, e, h1, h2, by omega⟩
section
variable {io : Nat → List Bool} {Φ : Nat → List D → FR} {z : BallC}
def endB (io : Nat → List Bool) (Φ : Nat → List D → FR) (z : BallC) (u : D) (many : Int) : FR := endR [true, false] (sss io Φ (ballB z) [.own .io u, .val (.int many), .no, .no, .no])
theorem ball1 {a b c many : Int} (ha : 0 < a) (hm : 0 < many) (hm2 : many.natAbs.log2 < 9000) : endB io Φ z (.lst [.int a, .int b, .int c]) many = .ok false (.int (a % many)) [.lst [.int (a / many), .int b, .int c]] := by
  unfold endB
  simp -implicitDefEqProofs only [ballB, ok_bind, ok_then, opt_some, seq_nx, seq_rt, seq_bk, seq_ct, rdV_v, rdV_o, ev_var, ev_cst, ev_glo, k2_s, ev_bin_2e, ev_bin_1e, ev_bin, negT_i, ev_neg_1e, ev_neg, notT_b, ev_not_1e, ev_not, ev_and, ev_or, ev_cmp_2e, ev_cmp_1e, ev_cmp, chB_t_1e, chB_t, chB_f, chA_s, ev_chain_2e, ev_chain_1e, ev_chain, k1_s, ev_isN_1e, ev_isN, ev_notN_1e, ev_notN, ev_isi_1e, ev_isi, iteK_t, iteK_f, ev_ite_1e, ev_ite, ev_tup_1e, ev_tup, ev_lst_1e, ev_lst, ev_dct0, ev_sub_2e, ev_sub_1e, ev_sub, ev_slc_3e, ev_slc_2e, ev_slc_1e, ev_slc, optE_abs, optE_f_1e, optE_f, ev_rev_1e, ev_rev, ev_call_1e, ev_call, ev_lrng_1e, ev_lrng, kl_s, ev_bi_1e, ev_bi, bs_nil, consO_s, bs_cons, muR_s, mutK_i, mutK_l, mutG_o_1e, mutG_o, ev_mut, evF_nil, fzK_s_1e, fzK_s, evF_cons_1e, evF_cons, evA_nil, evA_cons_2e, evA_cons_1e, evA_cons, evAnd_1, evAnd_2_1e, evAnd_2, evOr_1, evOr_2_1e, evOr_2, evC_nil, bK_t, bK_f, evC_cons_1e, evC_cons, evIt_rng_1e, evIt_rng, lkK_s, evIt_e_1e, evIt_e, putK_s, ss_asg_1e, ss_asg, ss_par_2e, ss_par_1e, ss_par, stS_o_1e, stS_o, stK_s, ss_setIx_1e, ss_setIx, ss_exp_1e, ss_exp, ss_ret_1e, ss_ret, ss_retN, oK_t, oK_f, ss_iff_1e, ss_iff, ss_for_1e, ss_for, ss_while, ss_pass, ss_brk, ss_cont, sss_nil, sss_cons, b_val, b_own, slD_o, slD_v, b_slot, fz_val, fz_own, weak_val, weak_own, weak_slot, v_val, asBl_b, optI_i, add_ii, sub_ii, lt_ii, le_ii, gt_ii, ge_ii, eq_dd, ne_dd, sub_li, sub_ti, sub_si, slc_l, slc_t, bi_len, bi_abs, bi_max, bi_min, bi_int, bi_list, bi_tuple, bi_sum, bi_all, bi_any, bi_sorted, bi_str, len_s, len_l, len_t, abs_i, max_ii, min_ii, int_i, int_b, list_l, list_t, tuple_l, tuple_t, saR_s, saK_i, saK_l, setAt_v, consM_s, outs_t, outs_f, outs_n, endK_s, end_rt, end_nx, rt_v, rt_o, rtS_l, rt_s, frB_n, frB_v, frB_l, free_eq, putT_v, putT_o, par_vv, par_oo, par_ov, par_vo, eqD_ii, eqD_bb, args_n, args_f, ioA_i, ioA_l, args_t, ios_n, ios_f, ios_t, leS_o, leS_v, lent_n, lent_fv, lent_fs, lent_t, cK_s, ret_t, ret_f, callC_n, callR_eq, callA_0, callA_1, po_n, poK_o, po_c, wB_nx, wB_ct, wB_bk, wB_rt, wK_t, wK_f, while_s_1e, fB_nx, fB_ct, fB_bk, fB_rt, fK_s, unl_nx, unl_rt, unlock_n, unK_o, unlock_s, lock_vl, lock_vt, lock_ol, lkS_l, lock_s, bind_nm, wipe_n, wipe_c, back_n, back_c, cR_ok, ev_comp_1e, ev_comp, List.getElem?_cons_zero, List.getElem?_cons_succ, List.set_cons_zero, List.set_cons_succ, Option.map_some, if_true, Nat.reduceEqDiff, reduceIte, at0, st0, ha, decide_true, mod_ii hm, div_ii ⟨hm, hm2⟩]
theorem ball2 (Z : z.Ok) {b c many : Int} (hm : 0 < many) (hc : 0 ≤ c) (hc2 : c < 2 ^ 1000) : ∃ x, endB io Φ z (.lst [.int 0, .int b, .int c]) many = .ok false (.int (x % many)) [.lst [.int 0, .int b, .int (c + 1)]] := by
  have h0 : decide ((0 : Int) < 0) = false := rfl
  have hb : (2 : Nat) ^ 40 < 2 ^ 1001 := by decide
  have m1 : mulOk z.a (c + 1) = true := mulOk_of (p := 40) (q := 1001) Z.a (by omega) (by decide)
  have o1 : 0 ≤ (b + z.a * (c + 1)) % z.m ∧ (b + z.a * (c + 1)) % z.m < z.m := ⟨Int.emod_nonneg _ (by have := Z.m; omega), Int.emod_lt_of_pos _ Z.m.1⟩
  generalize hone : (b + z.a * (c + 1)) % z.m = one at o1
  have m2 : mulOk one one = true := mulOk_of (p := 62) (q := 62) (by have := Z.m; omega) (by have := Z.m; omega) (by decide)
  have m3 : mulOk z.b (c + 1) = true := mulOk_of (p := 40) (q := 1001) Z.b (by omega) (by decide)
  have t1 : 0 ≤ (one * one + z.b * (c + 1)) % z.n ∧ (one * one + z.b * (c + 1)) % z.n < z.n := ⟨Int.emod_nonneg _ (by have := Z.n; omega), Int.emod_lt_of_pos _ Z.n.1⟩
  have m4 : mulOk ((one * one + z.b * (c + 1)) % z.n) z.c = true := mulOk_of (p := 62) (q := 40) (by have := Z.n; omega) Z.c (by decide)
  refine ⟨((one * one + z.b * (c + 1)) % z.n * z.c + one) / z.e, ?_⟩
  have r1 : ∀ x : Int, binD .Mod (.int x) (.int z.m) = some (.val (.int (x % z.m))) := fun x => mod_ii Z.m.1
  have r2 : ∀ x : Int, binD .Mod (.int x) (.int z.n) = some (.val (.int (x % z.n))) := fun x => mod_ii Z.n.1
  have r3 : ∀ x : Int, binD .FloorDiv (.int x) (.int z.e) = some (.val (.int (x / z.e))) := fun x => div_ii Z.e
  unfold endB
  simp -implicitDefEqProofs only [ballB, ok_bind, ok_then, opt_some, seq_nx, seq_rt, seq_bk, seq_ct, rdV_v, rdV_o, ev_var, ev_cst, ev_glo, k2_s, ev_bin_2e, ev_bin_1e, ev_bin, negT_i, ev_neg_1e, ev_neg, notT_b, ev_not_1e, ev_not, ev_and, ev_or, ev_cmp_2e, ev_cmp_1e, ev_cmp, chB_t_1e, chB_t, chB_f, chA_s, ev_chain_2e, ev_chain_1e, ev_chain, k1_s, ev_isN_1e, ev_isN, ev_notN_1e, ev_notN, ev_isi_1e, ev_isi, iteK_t, iteK_f, ev_ite_1e, ev_ite, ev_tup_1e, ev_tup, ev_lst_1e, ev_lst, ev_dct0, ev_sub_2e, ev_sub_1e, ev_sub, ev_slc_3e, ev_slc_2e, ev_slc_1e, ev_slc, optE_abs, optE_f_1e, optE_f, ev_rev_1e, ev_rev, ev_call_1e, ev_call, ev_lrng_1e, ev_lrng, kl_s, ev_bi_1e, ev_bi, bs_nil, consO_s, bs_cons, muR_s, mutK_i, mutK_l, mutG_o_1e, mutG_o, ev_mut, evF_nil, fzK_s_1e, fzK_s, evF_cons_1e, evF_cons, evA_nil, evA_cons_2e, evA_cons_1e, evA_cons, evAnd_1, evAnd_2_1e, evAnd_2, evOr_1, evOr_2_1e, evOr_2, evC_nil, bK_t, bK_f, evC_cons_1e, evC_cons, evIt_rng_1e, evIt_rng, lkK_s, evIt_e_1e, evIt_e, putK_s, ss_asg_1e, ss_asg, ss_par_2e, ss_par_1e, ss_par, stS_o_1e, stS_o, stK_s, ss_setIx_1e, ss_setIx, ss_exp_1e, ss_exp, ss_ret_1e, ss_ret, ss_retN, oK_t, oK_f, ss_iff_1e, ss_iff, ss_for_1e, ss_for, ss_while, ss_pass, ss_brk, ss_cont, sss_nil, sss_cons, b_val, b_own, slD_o, slD_v, b_slot, fz_val, fz_own, weak_val, weak_own, weak_slot, v_val, asBl_b, optI_i, add_ii, sub_ii, lt_ii, le_ii, gt_ii, ge_ii, eq_dd, ne_dd, sub_li, sub_ti, sub_si, slc_l, slc_t, bi_len, bi_abs, bi_max, bi_min, bi_int, bi_list, bi_tuple, bi_sum, bi_all, bi_any, bi_sorted, bi_str, len_s, len_l, len_t, abs_i, max_ii, min_ii, int_i, int_b, list_l, list_t, tuple_l, tuple_t, saR_s, saK_i, saK_l, setAt_v, consM_s, outs_t, outs_f, outs_n, endK_s, end_rt, end_nx, rt_v, rt_o, rtS_l, rt_s, frB_n, frB_v, frB_l, free_eq, putT_v, putT_o, par_vv, par_oo, par_ov, par_vo, eqD_ii, eqD_bb, args_n, args_f, ioA_i, ioA_l, args_t, ios_n, ios_f, ios_t, leS_o, leS_v, lent_n, lent_fv, lent_fs, lent_t, cK_s, ret_t, ret_f, callC_n, callR_eq, callA_0, callA_1, po_n, poK_o, po_c, wB_nx, wB_ct, wB_bk, wB_rt, wK_t, wK_f, while_s_1e, fB_nx, fB_ct, fB_bk, fB_rt, fK_s, unl_nx, unl_rt, unlock_n, unK_o, unlock_s, lock_vl, lock_vt, lock_ol, lkS_l, lock_s, bind_nm, wipe_n, wipe_c, back_n, back_c, cR_ok, ev_comp_1e, ev_comp, List.getElem?_cons_zero, List.getElem?_cons_succ, List.set_cons_zero, List.set_cons_succ, Option.map_some, if_true, Nat.reduceEqDiff, reduceIte, at0, at1, at2, st2, h0, mod_ii hm, r1, r2, r3, mul_ii m1, hone, mul_ii m2, mul_ii m3, mul_ii m4]
/-- a draw -/
def BallOk (Φ : Nat → List D → FR) (f : Nat) : Prop := ∀ (m : Nat) (u : D) (many : Int), Urn m u → m < 2 ^ 999 → 0 < many → many.natAbs.log2 < 9000 → ∃ (x : Int) (u' : D), Φ f [u, .int many] = .ok false (.int x) [u'] ∧ 0 ≤ x ∧ x < many ∧ Urn (m + 1) u'
theorem ball_ok (Z : z.Ok) {Ψ : Nat → List D → FR} {f : Nat} (h : ∀ (u : D) (many : Int), Ψ f [u, .int many] = endB io Φ z u many) : BallOk Ψ f := by
  intro m u many hu hm h0 h1
  obtain ⟨a, b, c, rfl, ha, hc, hcm⟩ := hu
  rw [h]
  by_cases hz : a = 0
  · subst hz
    have hc2 : c < 2 ^ 1000 := by
      have q : (2 : Nat) ^ 999 < 2 ^ 1000 := by decide
      omega
    obtain ⟨x, e⟩ := ball2 (io := io) (Φ := Φ) Z (b := b) h0 hc hc2
    exact ⟨_, _, e, Int.emod_nonneg _ (by omega), Int.emod_lt_of_pos _ h0, 0, b, c + 1, rfl, by decide, by omega, by omega⟩
  · have ha' : 0 < a := by omega
    exact ⟨_, _, ball1 ha' h0 h1, Int.emod_nonneg _ (by omega), Int.emod_lt_of_pos _ h0, a / many, b, c, rfl, Int.ediv_nonneg ha (by omega), hc, by omega⟩
end
end Py

set_option Elab.async false
set_option linter.all false
set_option maxRecDepth 100000
set_option maxHeartbeats 400000
namespace Py
open PySem PySem.Spec
open PyProof.Rows L2
def mixW (f : Nat) (x : Str) : IS := .while (.cmp .NotEq (.var 2) (.lst (.nil))) (.cons (.exp (.mut .append 3 (.cons (.mut .pop1 2 (.cons (.call f x (.cons (.var 0) (.cons (.bi .len (.cons (.var 2) .nil)) .nil))) .nil)) .nil))) .nil)
def mixB (f : Nat) (x : Str) : ISs := .cons (.par 2 3 (.bi .list1 (.cons (.var 1) .nil)) (.lst (.nil))) (.cons (mixW f x) (.cons (.ret (.var 3)) .nil))
theorem perm_erase {α : Type} : ∀ (ls : List α) (j : Nat) (h : j < ls.length), (ls[j] :: ls.eraseIdx j).Perm ls
  | [], _, h => by cases h
  | a :: l, 0, h => by simp
  | a :: l, j + 1, h => by
    have q := perm_erase l j (by simpa using h)
    simp only [List.getElem_cons_succ, List.eraseIdx_cons_succ]
    exact (List.Perm.swap _ _ _).trans (List.Perm.cons a q)
section
variable {io : Nat → List Bool} {Φ : Nat → List D → FR}
theorem mix_loop {f : Nat} {x : Str} (hio : io f = [true, false]) (B : BallOk Φ f) (it : D) : ∀ (n : Nat) (ls fs : List D) (m : Nat) (u : D), ls.length = n → (∀ d ∈ ls, Pl 63 d) → ls.length + fs.length < 1000000 → Urn m u → m + n < 2 ^ 999 → ∀ k, n < k →
    ∃ (fs' : List D) (u' : D), whileLoop (ev io Φ (.cmp .NotEq (.var 2) (.lst (.nil)))) (sss io Φ (.cons (.exp (.mut .append 3 (.cons (.mut .pop1 2 (.cons (.call f x (.cons (.var 0) (.cons (.bi .len (.cons (.var 2) .nil)) .nil))) .nil)) .nil))) .nil)) k
      [.own .io u, .val it, .own .loc (.lst ls), .own .loc (.lst fs)] = .nx [.own .io u', .val it, .own .loc (.lst []), .own .loc (.lst fs')] ∧ fs'.Perm (fs ++ ls) ∧ Urn (m + n) u' := by
  intro n
  induction n with
  | zero =>
    intro ls fs m u hl hp hs hu hm k hk
    obtain ⟨k, rfl⟩ : ∃ j, k = j + 1 := ⟨k - 1, by omega⟩
    have : ls = [] := List.length_eq_zero_iff.mp hl
    subst this
    refine ⟨fs, u, ?_, by simp, hu⟩
    rw [while_s]
    simp -implicitDefEqProofs only [ok_bind, ok_then, opt_some, seq_nx, seq_rt, seq_bk, seq_ct, rdV_v, rdV_o, ev_var, ev_cst, ev_glo, k2_s, ev_bin_2e, ev_bin_1e, ev_bin, negT_i, ev_neg_1e, ev_neg, notT_b, ev_not_1e, ev_not, ev_and, ev_or, ev_cmp_2e, ev_cmp_1e, ev_cmp, chB_t_1e, chB_t, chB_f, chA_s, ev_chain_2e, ev_chain_1e, ev_chain, k1_s, ev_isN_1e, ev_isN, ev_notN_1e, ev_notN, ev_isi_1e, ev_isi, iteK_t, iteK_f, ev_ite_1e, ev_ite, ev_tup_1e, ev_tup, ev_lst_1e, ev_lst, ev_dct0, ev_sub_2e, ev_sub_1e, ev_sub, ev_slc_3e, ev_slc_2e, ev_slc_1e, ev_slc, optE_abs, optE_f_1e, optE_f, ev_rev_1e, ev_rev, ev_call_1e, ev_call, ev_lrng_1e, ev_lrng, kl_s, ev_bi_1e, ev_bi, bs_nil, consO_s, bs_cons, muR_s, mutK_i, mutK_l, mutG_o_1e, mutG_o, ev_mut, evF_nil, fzK_s_1e, fzK_s, evF_cons_1e, evF_cons, evA_nil, evA_cons_2e, evA_cons_1e, evA_cons, evAnd_1, evAnd_2_1e, evAnd_2, evOr_1, evOr_2_1e, evOr_2, evC_nil, bK_t, bK_f, evC_cons_1e, evC_cons, evIt_rng_1e, evIt_rng, lkK_s, evIt_e_1e, evIt_e, putK_s, ss_asg_1e, ss_asg, ss_par_2e, ss_par_1e, ss_par, stS_o_1e, stS_o, stK_s, ss_setIx_1e, ss_setIx, ss_exp_1e, ss_exp, ss_ret_1e, ss_ret, ss_retN, oK_t, oK_f, ss_iff_1e, ss_iff, ss_for_1e, ss_for, ss_while, ss_pass, ss_brk, ss_cont, sss_nil, sss_cons, b_val, b_own, slD_o, slD_v, b_slot, fz_val, fz_own, weak_val, weak_own, weak_slot, v_val, asBl_b, optI_i, add_ii, sub_ii, lt_ii, le_ii, gt_ii, ge_ii, eq_dd, ne_dd, sub_li, sub_ti, sub_si, slc_l, slc_t, bi_len, bi_abs, bi_max, bi_min, bi_int, bi_list, bi_tuple, bi_sum, bi_all, bi_any, bi_sorted, bi_str, len_s, len_l, len_t, abs_i, max_ii, min_ii, int_i, int_b, list_l, list_t, tuple_l, tuple_t, saR_s, saK_i, saK_l, setAt_v, consM_s, outs_t, outs_f, outs_n, endK_s, end_rt, end_nx, rt_v, rt_o, rtS_l, rt_s, frB_n, frB_v, frB_l, free_eq, putT_v, putT_o, par_vv, par_oo, par_ov, par_vo, eqD_ii, eqD_bb, args_n, args_f, ioA_i, ioA_l, args_t, ios_n, ios_f, ios_t, leS_o, leS_v, lent_n, lent_fv, lent_fs, lent_t, cK_s, ret_t, ret_f, callC_n, callR_eq, callA_0, callA_1, po_n, poK_o, po_c, wB_nx, wB_ct, wB_bk, wB_rt, wK_t, wK_f, while_s_1e, fB_nx, fB_ct, fB_bk, fB_rt, fK_s, unl_nx, unl_rt, unlock_n, unK_o, unlock_s, lock_vl, lock_vt, lock_ol, lkS_l, lock_s, bind_nm, wipe_n, wipe_c, back_n, back_c, cR_ok, ev_comp_1e, ev_comp, List.getElem?_cons_zero, List.getElem?_cons_succ, List.set_cons_zero, List.set_cons_succ, Option.map_some, if_true, Nat.reduceEqDiff, reduceIte, eqD_nil (xs := []) (by simp), List.length_nil, Nat.zero_le, List.isEmpty_nil, Bool.not_true]
  | succ n ih =>
    intro ls fs m u hl hp hs hu hm k hk
    obtain ⟨k, rfl⟩ : ∃ j, k = j + 1 := ⟨k - 1, by omega⟩
    have hne : ls.isEmpty = false := by
      cases ls with
      | nil => cases hl
      | cons _ _ => rfl
    obtain ⟨y, u', e, h0, h1, hu'⟩ := B m u (ls.length : Int) hu (by omega) (by omega) (by
      have q : ls.length < 2 ^ 20 := by omega
      rw [Int.natAbs_natCast]
      by_cases z : ls.length = 0
      · rw [z]; simp
      · have := (Nat.log2_lt z).mpr q
        omega)
    obtain ⟨j, rfl⟩ := Int.eq_ofNat_of_zero_le h0
    have hj : j < ls.length := by omega
    have hp1 : muD .pop1 (.lst ls) [.int (j : Int)] = some (ls[j], .lst (ls.eraseIdx j)) := mu_pop1 rfl (by omega) (List.getElem?_eq_getElem hj)
    have ha : muD .append (.lst fs) [ls[j]] = some (.non, .lst (fs ++ [ls[j]])) := mu_app (by omega)
    have hel : (ls.eraseIdx j).length = n := by rw [List.length_eraseIdx_of_lt hj]; omega
    obtain ⟨fs', u2, e2, p2, hu2⟩ := ih (ls.eraseIdx j) (fs ++ [ls[j]]) (m + 1) u' hel (fun d hd => hp d (List.mem_of_mem_eraseIdx hd)) (by rw [List.length_append, List.length_singleton]; omega) hu' (by omega) k (by omega)
    refine ⟨fs', u2, ?_, ?_, hu2.mono (by omega)⟩
    · rw [while_s]
      simp -implicitDefEqProofs only [ok_bind, ok_then, opt_some, seq_nx, seq_rt, seq_bk, seq_ct, rdV_v, rdV_o, ev_var, ev_cst, ev_glo, k2_s, ev_bin_2e, ev_bin_1e, ev_bin, negT_i, ev_neg_1e, ev_neg, notT_b, ev_not_1e, ev_not, ev_and, ev_or, ev_cmp_2e, ev_cmp_1e, ev_cmp, chB_t_1e, chB_t, chB_f, chA_s, ev_chain_2e, ev_chain_1e, ev_chain, k1_s, ev_isN_1e, ev_isN, ev_notN_1e, ev_notN, ev_isi_1e, ev_isi, iteK_t, iteK_f, ev_ite_1e, ev_ite, ev_tup_1e, ev_tup, ev_lst_1e, ev_lst, ev_dct0, ev_sub_2e, ev_sub_1e, ev_sub, ev_slc_3e, ev_slc_2e, ev_slc_1e, ev_slc, optE_abs, optE_f_1e, optE_f, ev_rev_1e, ev_rev, ev_call_1e, ev_call, ev_lrng_1e, ev_lrng, kl_s, ev_bi_1e, ev_bi, bs_nil, consO_s, bs_cons, muR_s, mutK_i, mutK_l, mutG_o_1e, mutG_o, ev_mut, evF_nil, fzK_s_1e, fzK_s, evF_cons_1e, evF_cons, evA_nil, evA_cons_2e, evA_cons_1e, evA_cons, evAnd_1, evAnd_2_1e, evAnd_2, evOr_1, evOr_2_1e, evOr_2, evC_nil, bK_t, bK_f, evC_cons_1e, evC_cons, evIt_rng_1e, evIt_rng, lkK_s, evIt_e_1e, evIt_e, putK_s, ss_asg_1e, ss_asg, ss_par_2e, ss_par_1e, ss_par, stS_o_1e, stS_o, stK_s, ss_setIx_1e, ss_setIx, ss_exp_1e, ss_exp, ss_ret_1e, ss_ret, ss_retN, oK_t, oK_f, ss_iff_1e, ss_iff, ss_for_1e, ss_for, ss_while, ss_pass, ss_brk, ss_cont, sss_nil, sss_cons, b_val, b_own, slD_o, slD_v, b_slot, fz_val, fz_own, weak_val, weak_own, weak_slot, v_val, asBl_b, optI_i, add_ii, sub_ii, lt_ii, le_ii, gt_ii, ge_ii, eq_dd, ne_dd, sub_li, sub_ti, sub_si, slc_l, slc_t, bi_len, bi_abs, bi_max, bi_min, bi_int, bi_list, bi_tuple, bi_sum, bi_all, bi_any, bi_sorted, bi_str, len_s, len_l, len_t, abs_i, max_ii, min_ii, int_i, int_b, list_l, list_t, tuple_l, tuple_t, saR_s, saK_i, saK_l, setAt_v, consM_s, outs_t, outs_f, outs_n, endK_s, end_rt, end_nx, rt_v, rt_o, rtS_l, rt_s, frB_n, frB_v, frB_l, free_eq, putT_v, putT_o, par_vv, par_oo, par_ov, par_vo, eqD_ii, eqD_bb, args_n, args_f, ioA_i, ioA_l, args_t, ios_n, ios_f, ios_t, leS_o, leS_v, lent_n, lent_fv, lent_fs, lent_t, cK_s, ret_t, ret_f, callC_n, callR_eq, callA_0, callA_1, po_n, poK_o, po_c, wB_nx, wB_ct, wB_bk, wB_rt, wK_t, wK_f, while_s_1e, fB_nx, fB_ct, fB_bk, fB_rt, fK_s, unl_nx, unl_rt, unlock_n, unK_o, unlock_s, lock_vl, lock_vt, lock_ol, lkS_l, lock_s, bind_nm, wipe_n, wipe_c, back_n, back_c, cR_ok, ev_comp_1e, ev_comp, List.getElem?_cons_zero, List.getElem?_cons_succ, List.set_cons_zero, List.set_cons_succ, Option.map_some, if_true, Nat.reduceEqDiff, reduceIte, eqD_nil hp, hne, List.length_nil, Nat.zero_le, Bool.not_false, hio, e, hp1, ha, e2]
    · refine p2.trans ?_
      have q : (ls[j] :: ls.eraseIdx j).Perm ls := perm_erase ls j hj
      rw [List.append_assoc]
      exact List.Perm.append_left fs q
/-- a mixing -/
def MixOk (Φ : Nat → List D → FR) (f : Nat) : Prop := ∀ (m : Nat) (u : D) (c : D) (xs : List D), (c = .lst xs ∨ c = .tup xs) → (∀ d ∈ xs, Pl 63 d) → xs.length < 1000000 → Urn m u → m + xs.length < 2 ^ 999 →
  ∃ (out : List D) (u' : D), Φ f [u, c] = .ok true (.lst out) [u'] ∧ out.Perm xs ∧ Urn (m + xs.length) u'
theorem mix_ok {f g : Nat} {x : Str} (hio : io f = [true, false]) (B : BallOk Φ f) {Ψ : Nat → List D → FR} (h : ∀ (u c : D), Ψ g [u, c] = endR [true, false] (sss io Φ (mixB f x) [.own .io u, .val c, .no, .no])) : MixOk Ψ g := by
  intro m u c xs hc hp hl hu hm
  obtain ⟨out, u', e, p, hu'⟩ := mix_loop (x := x) hio B c xs.length xs [] m u rfl hp (by simpa using hl) hu hm most hl
  refine ⟨out, u', ?_, by simpa using p, hu'⟩
  rw [h]
  rcases hc with rfl | rfl
  · simp -implicitDefEqProofs only [mixB, mixW, ok_bind, ok_then, opt_some, seq_nx, seq_rt, seq_bk, seq_ct, rdV_v, rdV_o, ev_var, ev_cst, ev_glo, k2_s, ev_bin_2e, ev_bin_1e, ev_bin, negT_i, ev_neg_1e, ev_neg, notT_b, ev_not_1e, ev_not, ev_and, ev_or, ev_cmp_2e, ev_cmp_1e, ev_cmp, chB_t_1e, chB_t, chB_f, chA_s, ev_chain_2e, ev_chain_1e, ev_chain, k1_s, ev_isN_1e, ev_isN, ev_notN_1e, ev_notN, ev_isi_1e, ev_isi, iteK_t, iteK_f, ev_ite_1e, ev_ite, ev_tup_1e, ev_tup, ev_lst_1e, ev_lst, ev_dct0, ev_sub_2e, ev_sub_1e, ev_sub, ev_slc_3e, ev_slc_2e, ev_slc_1e, ev_slc, optE_abs, optE_f_1e, optE_f, ev_rev_1e, ev_rev, ev_call_1e, ev_call, ev_lrng_1e, ev_lrng, kl_s, ev_bi_1e, ev_bi, bs_nil, consO_s, bs_cons, muR_s, mutK_i, mutK_l, mutG_o_1e, mutG_o, ev_mut, evF_nil, fzK_s_1e, fzK_s, evF_cons_1e, evF_cons, evA_nil, evA_cons_2e, evA_cons_1e, evA_cons, evAnd_1, evAnd_2_1e, evAnd_2, evOr_1, evOr_2_1e, evOr_2, evC_nil, bK_t, bK_f, evC_cons_1e, evC_cons, evIt_rng_1e, evIt_rng, lkK_s, evIt_e_1e, evIt_e, putK_s, ss_asg_1e, ss_asg, ss_par_2e, ss_par_1e, ss_par, stS_o_1e, stS_o, stK_s, ss_setIx_1e, ss_setIx, ss_exp_1e, ss_exp, ss_ret_1e, ss_ret, ss_retN, oK_t, oK_f, ss_iff_1e, ss_iff, ss_for_1e, ss_for, ss_while, ss_pass, ss_brk, ss_cont, sss_nil, sss_cons, b_val, b_own, slD_o, slD_v, b_slot, fz_val, fz_own, weak_val, weak_own, weak_slot, v_val, asBl_b, optI_i, add_ii, sub_ii, lt_ii, le_ii, gt_ii, ge_ii, eq_dd, ne_dd, sub_li, sub_ti, sub_si, slc_l, slc_t, bi_len, bi_abs, bi_max, bi_min, bi_int, bi_list, bi_tuple, bi_sum, bi_all, bi_any, bi_sorted, bi_str, len_s, len_l, len_t, abs_i, max_ii, min_ii, int_i, int_b, list_l, list_t, tuple_l, tuple_t, saR_s, saK_i, saK_l, setAt_v, consM_s, outs_t, outs_f, outs_n, endK_s, end_rt, end_nx, rt_v, rt_o, rtS_l, rt_s, frB_n, frB_v, frB_l, free_eq, putT_v, putT_o, par_vv, par_oo, par_ov, par_vo, eqD_ii, eqD_bb, args_n, args_f, ioA_i, ioA_l, args_t, ios_n, ios_f, ios_t, leS_o, leS_v, lent_n, lent_fv, lent_fs, lent_t, cK_s, ret_t, ret_f, callC_n, callR_eq, callA_0, callA_1, po_n, poK_o, po_c, wB_nx, wB_ct, wB_bk, wB_rt, wK_t, wK_f, while_s_1e, fB_nx, fB_ct, fB_bk, fB_rt, fK_s, unl_nx, unl_rt, unlock_n, unK_o, unlock_s, lock_vl, lock_vt, lock_ol, lkS_l, lock_s, bind_nm, wipe_n, wipe_c, back_n, back_c, cR_ok, ev_comp_1e, ev_comp, List.getElem?_cons_zero, List.getElem?_cons_succ, List.set_cons_zero, List.set_cons_succ, Option.map_some, if_true, Nat.reduceEqDiff, reduceIte, List.length_nil, Nat.zero_le, e]
  · simp -implicitDefEqProofs only [mixB, mixW, ok_bind, ok_then, opt_some, seq_nx, seq_rt, seq_bk, seq_ct, rdV_v, rdV_o, ev_var, ev_cst, ev_glo, k2_s, ev_bin_2e, ev_bin_1e, ev_bin, negT_i, ev_neg_1e, ev_neg, notT_b, ev_not_1e, ev_not, ev_and, ev_or, ev_cmp_2e, ev_cmp_1e, ev_cmp, chB_t_1e, chB_t, chB_f, chA_s, ev_chain_2e, ev_chain_1e, ev_chain, k1_s, ev_isN_1e, ev_isN, ev_notN_1e, ev_notN, ev_isi_1e, ev_isi, iteK_t, iteK_f, ev_ite_1e, ev_ite, ev_tup_1e, ev_tup, ev_lst_1e, ev_lst, ev_dct0, ev_sub_2e, ev_sub_1e, ev_sub, ev_slc_3e, ev_slc_2e, ev_slc_1e, ev_slc, optE_abs, optE_f_1e, optE_f, ev_rev_1e, ev_rev, ev_call_1e, ev_call, ev_lrng_1e, ev_lrng, kl_s, ev_bi_1e, ev_bi, bs_nil, consO_s, bs_cons, muR_s, mutK_i, mutK_l, mutG_o_1e, mutG_o, ev_mut, evF_nil, fzK_s_1e, fzK_s, evF_cons_1e, evF_cons, evA_nil, evA_cons_2e, evA_cons_1e, evA_cons, evAnd_1, evAnd_2_1e, evAnd_2, evOr_1, evOr_2_1e, evOr_2, evC_nil, bK_t, bK_f, evC_cons_1e, evC_cons, evIt_rng_1e, evIt_rng, lkK_s, evIt_e_1e, evIt_e, putK_s, ss_asg_1e, ss_asg, ss_par_2e, ss_par_1e, ss_par, stS_o_1e, stS_o, stK_s, ss_setIx_1e, ss_setIx, ss_exp_1e, ss_exp, ss_ret_1e, ss_ret, ss_retN, oK_t, oK_f, ss_iff_1e, ss_iff, ss_for_1e, ss_for, ss_while, ss_pass, ss_brk, ss_cont, sss_nil, sss_cons, b_val, b_own, slD_o, slD_v, b_slot, fz_val, fz_own, weak_val, weak_own, weak_slot, v_val, asBl_b, optI_i, add_ii, sub_ii, lt_ii, le_ii, gt_ii, ge_ii, eq_dd, ne_dd, sub_li, sub_ti, sub_si, slc_l, slc_t, bi_len, bi_abs, bi_max, bi_min, bi_int, bi_list, bi_tuple, bi_sum, bi_all, bi_any, bi_sorted, bi_str, len_s, len_l, len_t, abs_i, max_ii, min_ii, int_i, int_b, list_l, list_t, tuple_l, tuple_t, saR_s, saK_i, saK_l, setAt_v, consM_s, outs_t, outs_f, outs_n, endK_s, end_rt, end_nx, rt_v, rt_o, rtS_l, rt_s, frB_n, frB_v, frB_l, free_eq, putT_v, putT_o, par_vv, par_oo, par_ov, par_vo, eqD_ii, eqD_bb, args_n, args_f, ioA_i, ioA_l, args_t, ios_n, ios_f, ios_t, leS_o, leS_v, lent_n, lent_fv, lent_fs, lent_t, cK_s, ret_t, ret_f, callC_n, callR_eq, callA_0, callA_1, po_n, poK_o, po_c, wB_nx, wB_ct, wB_bk, wB_rt, wK_t, wK_f, while_s_1e, fB_nx, fB_ct, fB_bk, fB_rt, fK_s, unl_nx, unl_rt, unlock_n, unK_o, unlock_s, lock_vl, lock_vt, lock_ol, lkS_l, lock_s, bind_nm, wipe_n, wipe_c, back_n, back_c, cR_ok, ev_comp_1e, ev_comp, List.getElem?_cons_zero, List.getElem?_cons_succ, List.set_cons_zero, List.set_cons_succ, Option.map_some, if_true, Nat.reduceEqDiff, reduceIte, List.length_nil, Nat.zero_le, e]
end
end Py

set_option Elab.async false
set_option linter.all false
set_option maxRecDepth 100000
set_option maxHeartbeats 400000
set_option exponentiation.threshold 2000
namespace Py
open PySem PySem.Spec
open PyProof.Rows L2
structure UrnC where
  a : Int
  b : Int
  p : Int
  q : Int
  m : Int
  c : Int
  d : Int
  e : Int
  g : Int
structure UrnC.Ok (z : UrnC) : Prop where
  a : z.a.natAbs < 2 ^ 40
  p : 0 ≤ z.p ∧ z.p ≤ 100
  q : 0 ≤ z.q ∧ z.q ≤ 100
  m : 0 < z.m ∧ z.m < 2 ^ 62
  c : z.c.natAbs < 2 ^ 40
  d : z.d.natAbs < 2 ^ 40
  e : z.e.natAbs < 2 ^ 40
def urnB (z : UrnC) : ISs := .cons (.asg 2 (.ite (.cmp .Lt (.var 1) (.bi .len (.cons (.var 0) .nil))) (.bi .int1 (.cons (.sub (.var 0) (.var 1)) .nil)) (.bin .Add (.bin .Mult (.cst (.int z.a)) (.var 1)) (.cst (.int z.b))))) (.cons (.asg 3 (.bin .Mod (.bi .int1 (.cons (.bi .abs (.cons (.var 2) .nil)) .nil)) (.bin .Pow (.bin .Pow (.cst (.int 10)) (.cst (.int z.p))) (.cst (.int z.q))))) (.cons (.ret (.lst (.cons (.bi .max2 (.cons (.cst (.int 0)) (.cons (.bin .Sub (.var 3) (.bin .Pow (.cst (.int 10)) (.cst (.int 16)))) .nil))) (.cons (.bin .Add (.bin .Add (.bin .Add (.bin .Mult (.bin .Mod (.bi .int1 (.cons (.var 3) .nil)) (.cst (.int z.m))) (.cst (.int z.c))) (.bin .Mult (.cst (.int z.d)) (.var 1))) (.bin .Mult (.cst (.int z.e)) (.bi .int1 (.cons (.cmp .Lt (.var 2) (.cst (.int 0))) .nil)))) (.cst (.int z.g))) (.cons (.cst (.int 0)) .nil))))) .nil))
def UrnOk (Φ : Nat → List D → FR) (f : Nat) : Prop := ∀ (ns : List Int) (spot : Int), 0 ≤ spot → spot < 2 ^ 40 → ∃ u, Φ f [.scr ns, .int spot] = .ok true u [] ∧ Urn 0 u
theorem urn_ok {io : Nat → List Bool} {Φ Ψ : Nat → List D → FR} {z : UrnC} {f : Nat} (Z : z.Ok) (h : ∀ (a b : D), Ψ f [a, b] = endR [false, false] (sss io Φ (urnB z) [.val a, .val b, .no, .no])) : UrnOk Ψ f := by
  intro ns spot h0 h1
  rw [h]
  have p1 : binD .Pow (.int 10) (.int z.p) = some (.val (.int (10 ^ z.p.toNat))) := pow_ii ⟨Z.p.1, by have := Z.p.2; omega, by decide⟩
  have t100 : (10 : Nat) ^ z.p.toNat < 2 ^ 1000 := by
    have : (10 : Nat) ^ z.p.toNat ≤ 10 ^ 100 := Nat.pow_le_pow_right (by decide) (by have := Z.p; omega)
    exact Nat.lt_of_le_of_lt this (by decide)
  have p2 : binD .Pow (.int (10 ^ z.p.toNat)) (.int z.q) = some (.val (.int ((10 ^ z.p.toNat) ^ z.q.toNat))) := pow_ii ⟨Z.q.1, by have := Z.q.2; omega, by rw [Int.natAbs_pow]; exact t100⟩
  have p3 : binD .Pow (.int 10) (.int 16) = some (.val (.int (10 ^ (16 : Int).toNat))) := pow_ii ⟨by decide, by decide, by decide⟩
  have pos : (0 : Int) < (10 ^ z.p.toNat) ^ z.q.toNat := Int.pow_pos (Int.pow_pos (by decide))
  have r1 : ∀ x : Int, binD .Mod (.int x) (.int ((10 ^ z.p.toNat) ^ z.q.toNat)) = some (.val (.int (x % (10 ^ z.p.toNat) ^ z.q.toNat))) := fun x => mod_ii pos
  have r2 : ∀ x : Int, binD .Mod (.int x) (.int z.m) = some (.val (.int (x % z.m))) := fun x => mod_ii Z.m.1
  have m0 : mulOk z.a spot = true := mulOk_of (p := 40) (q := 40) Z.a (by omega) (by decide)
  have m1 : ∀ x : Int, mulOk (x % z.m) z.c = true := fun x => mulOk_of (p := 62) (q := 40) (by have := Int.emod_nonneg x (show z.m ≠ 0 by have := Z.m; omega); have := Int.emod_lt_of_pos x Z.m.1; have := Z.m; omega) Z.c (by decide)
  have m2 : mulOk z.d spot = true := mulOk_of (p := 40) (q := 40) Z.d (by omega) (by decide)
  have m3 : ∀ b : Bool, mulOk z.e (if b = true then 1 else 0) = true := fun b => mulOk_of (p := 40) (q := 1) Z.e (by cases b <;> decide) (by decide)
  have fin : ∀ x y : Int, Urn 0 (.lst [.int (if x > 0 then x else 0), .int y, .int 0]) := fun x y => ⟨_, y, 0, rfl, by split <;> omega, by decide, by decide⟩
  suffices key : ∃ x y : Int, endR [false, false] (sss io Φ (urnB z) [.val (.scr ns), .val (.int spot), .no, .no]) = .ok true (.lst [.int (if x > 0 then x else 0), .int y, .int 0]) [] by
    obtain ⟨x, y, e⟩ := key
    exact ⟨_, e, fin x y⟩
  by_cases hs : spot < (ns.length : Int)
  · obtain ⟨j, rfl⟩ := Int.eq_ofNat_of_zero_le h0
    have hj : j < ns.length := by omega
    have e1 : atI ns (j : Int) = some ns[j] := atI_nat (List.getElem?_eq_getElem hj)
    simp -implicitDefEqProofs only [urnB, ok_bind, ok_then, opt_some, seq_nx, seq_rt, seq_bk, seq_ct, rdV_v, rdV_o, ev_var, ev_cst, ev_glo, k2_s, ev_bin_2e, ev_bin_1e, ev_bin, negT_i, ev_neg_1e, ev_neg, notT_b, ev_not_1e, ev_not, ev_and, ev_or, ev_cmp_2e, ev_cmp_1e, ev_cmp, chB_t_1e, chB_t, chB_f, chA_s, ev_chain_2e, ev_chain_1e, ev_chain, k1_s, ev_isN_1e, ev_isN, ev_notN_1e, ev_notN, ev_isi_1e, ev_isi, iteK_t, iteK_f, ev_ite_1e, ev_ite, ev_tup_1e, ev_tup, ev_lst_1e, ev_lst, ev_dct0, ev_sub_2e, ev_sub_1e, ev_sub, ev_slc_3e, ev_slc_2e, ev_slc_1e, ev_slc, optE_abs, optE_f_1e, optE_f, ev_rev_1e, ev_rev, ev_call_1e, ev_call, ev_lrng_1e, ev_lrng, kl_s, ev_bi_1e, ev_bi, bs_nil, consO_s, bs_cons, muR_s, mutK_i, mutK_l, mutG_o_1e, mutG_o, ev_mut, evF_nil, fzK_s_1e, fzK_s, evF_cons_1e, evF_cons, evA_nil, evA_cons_2e, evA_cons_1e, evA_cons, evAnd_1, evAnd_2_1e, evAnd_2, evOr_1, evOr_2_1e, evOr_2, evC_nil, bK_t, bK_f, evC_cons_1e, evC_cons, evIt_rng_1e, evIt_rng, lkK_s, evIt_e_1e, evIt_e, putK_s, ss_asg_1e, ss_asg, ss_par_2e, ss_par_1e, ss_par, stS_o_1e, stS_o, stK_s, ss_setIx_1e, ss_setIx, ss_exp_1e, ss_exp, ss_ret_1e, ss_ret, ss_retN, oK_t, oK_f, ss_iff_1e, ss_iff, ss_for_1e, ss_for, ss_while, ss_pass, ss_brk, ss_cont, sss_nil, sss_cons, b_val, b_own, slD_o, slD_v, b_slot, fz_val, fz_own, weak_val, weak_own, weak_slot, v_val, asBl_b, optI_i, add_ii, sub_ii, lt_ii, le_ii, gt_ii, ge_ii, eq_dd, ne_dd, sub_li, sub_ti, sub_si, slc_l, slc_t, bi_len, bi_abs, bi_max, bi_min, bi_int, bi_list, bi_tuple, bi_sum, bi_all, bi_any, bi_sorted, bi_str, len_s, len_l, len_t, abs_i, max_ii, min_ii, int_i, int_b, list_l, list_t, tuple_l, tuple_t, saR_s, saK_i, saK_l, setAt_v, consM_s, outs_t, outs_f, outs_n, endK_s, end_rt, end_nx, rt_v, rt_o, rtS_l, rt_s, frB_n, frB_v, frB_l, free_eq, putT_v, putT_o, par_vv, par_oo, par_ov, par_vo, eqD_ii, eqD_bb, args_n, args_f, ioA_i, ioA_l, args_t, ios_n, ios_f, ios_t, leS_o, leS_v, lent_n, lent_fv, lent_fs, lent_t, cK_s, ret_t, ret_f, callC_n, callR_eq, callA_0, callA_1, po_n, poK_o, po_c, wB_nx, wB_ct, wB_bk, wB_rt, wK_t, wK_f, while_s_1e, fB_nx, fB_ct, fB_bk, fB_rt, fK_s, unl_nx, unl_rt, unlock_n, unK_o, unlock_s, lock_vl, lock_vt, lock_ol, lkS_l, lock_s, bind_nm, wipe_n, wipe_c, back_n, back_c, cR_ok, ev_comp_1e, ev_comp, List.getElem?_cons_zero, List.getElem?_cons_succ, List.set_cons_zero, List.set_cons_succ, Option.map_some, if_true, Nat.reduceEqDiff, reduceIte, hs, decide_true, e1, p1, p2, p3, r1, r2, mul_ii (m1 _), mul_ii m2, mul_ii (m3 _), List.length_cons, List.length_nil]
    exact ⟨_, _, rfl⟩
  · simp -implicitDefEqProofs only [urnB, ok_bind, ok_then, opt_some, seq_nx, seq_rt, seq_bk, seq_ct, rdV_v, rdV_o, ev_var, ev_cst, ev_glo, k2_s, ev_bin_2e, ev_bin_1e, ev_bin, negT_i, ev_neg_1e, ev_neg, notT_b, ev_not_1e, ev_not, ev_and, ev_or, ev_cmp_2e, ev_cmp_1e, ev_cmp, chB_t_1e, chB_t, chB_f, chA_s, ev_chain_2e, ev_chain_1e, ev_chain, k1_s, ev_isN_1e, ev_isN, ev_notN_1e, ev_notN, ev_isi_1e, ev_isi, iteK_t, iteK_f, ev_ite_1e, ev_ite, ev_tup_1e, ev_tup, ev_lst_1e, ev_lst, ev_dct0, ev_sub_2e, ev_sub_1e, ev_sub, ev_slc_3e, ev_slc_2e, ev_slc_1e, ev_slc, optE_abs, optE_f_1e, optE_f, ev_rev_1e, ev_rev, ev_call_1e, ev_call, ev_lrng_1e, ev_lrng, kl_s, ev_bi_1e, ev_bi, bs_nil, consO_s, bs_cons, muR_s, mutK_i, mutK_l, mutG_o_1e, mutG_o, ev_mut, evF_nil, fzK_s_1e, fzK_s, evF_cons_1e, evF_cons, evA_nil, evA_cons_2e, evA_cons_1e, evA_cons, evAnd_1, evAnd_2_1e, evAnd_2, evOr_1, evOr_2_1e, evOr_2, evC_nil, bK_t, bK_f, evC_cons_1e, evC_cons, evIt_rng_1e, evIt_rng, lkK_s, evIt_e_1e, evIt_e, putK_s, ss_asg_1e, ss_asg, ss_par_2e, ss_par_1e, ss_par, stS_o_1e, stS_o, stK_s, ss_setIx_1e, ss_setIx, ss_exp_1e, ss_exp, ss_ret_1e, ss_ret, ss_retN, oK_t, oK_f, ss_iff_1e, ss_iff, ss_for_1e, ss_for, ss_while, ss_pass, ss_brk, ss_cont, sss_nil, sss_cons, b_val, b_own, slD_o, slD_v, b_slot, fz_val, fz_own, weak_val, weak_own, weak_slot, v_val, asBl_b, optI_i, add_ii, sub_ii, lt_ii, le_ii, gt_ii, ge_ii, eq_dd, ne_dd, sub_li, sub_ti, sub_si, slc_l, slc_t, bi_len, bi_abs, bi_max, bi_min, bi_int, bi_list, bi_tuple, bi_sum, bi_all, bi_any, bi_sorted, bi_str, len_s, len_l, len_t, abs_i, max_ii, min_ii, int_i, int_b, list_l, list_t, tuple_l, tuple_t, saR_s, saK_i, saK_l, setAt_v, consM_s, outs_t, outs_f, outs_n, endK_s, end_rt, end_nx, rt_v, rt_o, rtS_l, rt_s, frB_n, frB_v, frB_l, free_eq, putT_v, putT_o, par_vv, par_oo, par_ov, par_vo, eqD_ii, eqD_bb, args_n, args_f, ioA_i, ioA_l, args_t, ios_n, ios_f, ios_t, leS_o, leS_v, lent_n, lent_fv, lent_fs, lent_t, cK_s, ret_t, ret_f, callC_n, callR_eq, callA_0, callA_1, po_n, poK_o, po_c, wB_nx, wB_ct, wB_bk, wB_rt, wK_t, wK_f, while_s_1e, fB_nx, fB_ct, fB_bk, fB_rt, fK_s, unl_nx, unl_rt, unlock_n, unK_o, unlock_s, lock_vl, lock_vt, lock_ol, lkS_l, lock_s, bind_nm, wipe_n, wipe_c, back_n, back_c, cR_ok, ev_comp_1e, ev_comp, List.getElem?_cons_zero, List.getElem?_cons_succ, List.set_cons_zero, List.set_cons_succ, Option.map_some, if_true, Nat.reduceEqDiff, reduceIte, hs, decide_false, p1, p2, p3, r1, r2, mul_ii m0, mul_ii (m1 _), mul_ii m2, mul_ii (m3 _), List.length_cons, List.length_nil]
    exact ⟨_, _, rfl⟩
end Py

set_option Elab.async false
set_option linter.all false
set_option maxRecDepth 100000
set_option maxHeartbeats 1000000
namespace Py
open PySem PySem.Spec
open PyProof.Rows L2
/-! ### plain lists -/
theorem intsOf_map : ∀ ns : List Int, intsOf (ns.map .int) = some ns
  | [] => rfl
  | n :: ns => by
    show (intsOf (ns.map .int)).map (n :: ·) = _
    rw [intsOf_map ns]
    rfl
theorem blsOf_map : ∀ ns : List Bool, blsOf (ns.map .bl) = some ns
  | [] => rfl
  | n :: ns => by
    show (blsOf (ns.map .bl)).map (n :: ·) = _
    rw [blsOf_map ns]
    rfl
def rngI (n : Nat) : List Int := (List.range n).map fun (i : Nat) => (i : Int)
theorem rangeD_0 (n : Nat) : rangeD 0 (n : Int) = (rngI n).map .int := by
  unfold rangeD rngI
  rw [List.map_map, Int.sub_zero, Int.toNat_natCast]
  apply List.map_congr_left
  intro i _
  show D.int (0 + (i : Int)) = D.int (i : Int)
  rw [Int.zero_add]
theorem rngI_length (n : Nat) : (rngI n).length = n := by unfold rngI; rw [List.length_map, List.length_range]
theorem mem_rngI {n : Nat} {i : Int} : i ∈ rngI n ↔ 0 ≤ i ∧ i < n := by
  unfold rngI
  rw [List.mem_map]
  constructor
  · rintro ⟨j, hj, rfl⟩
    have := List.mem_range.mp hj
    omega
  · rintro ⟨h0, h1⟩
    exact ⟨i.toNat, List.mem_range.mpr (by omega), by omega⟩
section
variable {io : Nat → List Bool} {Φ : Nat → List D → FR} {ρ : Env}
/-- a comprehension without tests that changes no slot but its own -/
theorem comp_map {own : List Nat} {tg : Tg} {e : Env → R T} {g : D → D} {xs : List D} (hl : xs.length ≤ 1000000) (h : ∀ x ∈ xs, ∃ ρ1, bindTg tg x ρ = some ρ1 ∧ wipeE ρ1 own = ρ ∧ ∃ t, e ρ1 = .ok t ρ1 ∧ t.fz ρ1 = some (g x, ρ1)) :
    compLoop own tg (evC io Φ .nil) e xs [] ρ = .ok (xs.map g) ρ := by
  rw [comp_all (p := fun _ => true) (g := g) xs [] (by simpa using hl) fun x hx => ?_]
  · rw [List.nil_append, List.filter_eq_self.mpr fun _ _ => rfl]
  · obtain ⟨ρ1, h1, h2, h3⟩ := h x hx
    exact ⟨ρ1, h1, h2, .inr ⟨rfl, evC_nil, h3⟩⟩
theorem mul_l2 {xs : List D} (h : xs.length ≤ 100000) : binD .Mult (.lst xs) (.int 2) = some (.own (.lst (xs ++ xs))) := by
  have e : (List.replicate 2 xs).flatten = xs ++ xs := by
    show xs ++ (xs ++ []) = _
    rw [List.append_nil]
  have c : (0 : Int) ≤ 2 ∧ (2 : Int) ≤ 1000000 ∧ xs.length * (2 : Int).toNat ≤ 1000000 := ⟨by decide, by decide, by
    have : (2 : Int).toNat = 2 := rfl
    rw [this]
    omega⟩
  simp only [binD]
  rw [if_pos c]
  show some (T.own (D.lst (List.replicate 2 xs).flatten)) = _
  rw [e]
theorem add_ll {xs ys : List D} (h : xs.length + ys.length ≤ 1000000) : binD .Add (.lst xs) (.lst ys) = some (.own (.lst (xs ++ ys))) := if_pos h
theorem add_tt {xs ys : List D} (h : xs.length + ys.length ≤ 1000000) : binD .Add (.tup xs) (.tup ys) = some (.val (.tup (xs ++ ys))) := if_pos h
theorem sorted_l (ns : List Int) : sorted1D (.lst (ns.map .int)) = some (.own (.lst ((sortI ns).map .int))) := by
  show (intsOf _).map _ = _
  rw [intsOf_map]
  rfl
theorem sorted_t (ns : List Int) : sorted1D (.tup (ns.map .int)) = some (.own (.lst ((sortI ns).map .int))) := by
  show (intsOf _).map _ = _
  rw [intsOf_map]
  rfl
theorem all_b (bs : List Bool) : all1D (.lst (bs.map .bl)) = some (.val (.bl (bs.all id))) := by
  show (blsOf _).map _ = _
  rw [blsOf_map]
  rfl
theorem lrng_1 {n : Nat} (h : n ≤ 16777216) : lrngD false [.int (n : Int)] = some (.own (.lst ((rngI n).map .int))) := by
  rw [← rangeD_0]
  have c : (n : Int) ≤ 16777216 ∧ -(2 ^ 62) ≤ (n : Int) := ⟨by omega, by omega⟩
  unfold lrngD
  dsimp only
  rw [if_pos c]
  rfl
theorem rng_1 {n : Nat} (h : n ≤ 16777216) : rngD [.int (n : Int)] = some ((rngI n).map .int) := by
  rw [← rangeD_0]
  have c : (n : Int) < 2 ^ 62 ∧ -(2 ^ 62) ≤ (n : Int) := ⟨by omega, by omega⟩
  unfold rngD
  dsimp only
  rw [if_pos c]
end
end Py

set_option Elab.async false
set_option linter.all false
set_option maxRecDepth 100000
namespace Py
open PySem PySem.Spec
open PyProof.Rows L2
theorem mem_insI {x y : Int} {l : List Int} (h : y ∈ insI x l) : y = x ∨ y ∈ l := by
  induction l with
  | nil => exact .inl (by simpa [insI] using h)
  | cons a l ih =>
    unfold insI at h
    split at h
    · rcases List.mem_cons.mp h with h | h
      · exact .inl h
      · exact .inr h
    · rcases List.mem_cons.mp h with h | h
      · exact .inr (h ▸ List.mem_cons_self)
      · rcases ih h with h | h
        · exact .inl h
        · exact .inr (List.mem_cons_of_mem _ h)
theorem insI_up (x : Int) : ∀ {l : List Int}, l.Pairwise (· ≤ ·) → (insI x l).Pairwise (· ≤ ·)
  | [], _ => List.pairwise_singleton _ _
  | y :: l, h => by
    obtain ⟨h1, h2⟩ := List.pairwise_cons.mp h
    unfold insI
    split
    · rename_i hxy
      refine List.pairwise_cons.mpr ⟨fun z hz => ?_, h⟩
      rcases List.mem_cons.mp hz with rfl | hz
      · exact hxy
      · exact Int.le_trans hxy (h1 z hz)
    · rename_i hxy
      refine List.pairwise_cons.mpr ⟨fun z hz => ?_, insI_up x h2⟩
      rcases mem_insI hz with rfl | hz
      · omega
      · exact h1 z hz
theorem sortI_up : ∀ l : List Int, (sortI l).Pairwise (· ≤ ·)
  | [] => .nil
  | x :: l => insI_up x (sortI_up l)
theorem sortI_of_perm {a b : List Int} (h : a.Perm b) : sortI a = sortI b :=
  List.Perm.eq_of_pairwise (fun x y _ _ p q => Int.le_antisymm p q) (sortI_up a) (sortI_up b) (((sortI_perm a).trans h).trans (sortI_perm b).symm)
end Py

set_option Elab.async false
set_option linter.all false
set_option maxRecDepth 100000
set_option maxHeartbeats 0
namespace Py
namespace k25
open PySem PySem.Spec
open PyProof.Rows L2
def top (i : Nat) : Stmt := PySem.Challenge.pw_tiedanew_k25_whole_judged_rings.main.body.getD i (.Pass ⟨0, 0, 0, 0⟩)
def dis_from : FnDef := { np := 3, ns := 3, io := [false, false, false], body := .cons (.ret (.and (.cons (.isi (.var 0) .int) (.cons (.not (.isi (.var 0) .bool)) (.cons (.chain .LtE .LtE (.var 1) (.var 0) (.var 2)) .nil))))) .nil }
def eis_from : Ent := { nm := "is_from", d := dis_from, N := ["value", "least", "most"], ps := ["value", "least", "most"], st := top 3 }
theorem bis_from : eis_from.Binds := fun _ _ _ _ _ _ us hl => match us, hl with
  | [_, _, _], _ => by kernel_rfl
def dis_ring_in : FnDef := { np := 1, ns := 3, io := [false], body := .cons (.iff (.or (.cons (.not (.isi (.var 0) .tuple)) (.cons (.not (.chain .LtE .LtE (.glo "PAIR" (.int 2)) (.bi .len (.cons (.var 0) .nil)) (.bin .Mult (.glo "PAIR" (.int 2)) (.glo "MOST_CHORDS" (.int 10))))) (.cons (.cmp .NotEq (.bin .Mod (.bi .len (.cons (.var 0) .nil)) (.glo "PAIR" (.int 2))) (.cst (.int 0))) .nil)))) (.cons (.ret (.cst (.bl false))) .nil) (.nil)) (.cons (.iff (.not (.bi .all1 (.cons (.comp (.call 0 "is_from" (.cons (.var 2) (.cons (.cst (.int 0)) (.cons (.glo "MOST_CHORDS" (.int 10)) .nil)))) (.nm 2) (.e (.var 0)) (.nil) [2]) .nil))) (.cons (.ret (.cst (.bl false))) .nil) (.nil)) (.cons (.ret (.cmp .Eq (.bi .sorted1 (.cons (.var 0) .nil)) (.comp (.bin .FloorDiv (.var 1) (.glo "PAIR" (.int 2))) (.nm 1) (.rng (.cons (.bi .len (.cons (.var 0) .nil)) .nil)) (.nil) [1]))) .nil)) }
def eis_ring_in : Ent := { nm := "is_ring_in", d := dis_ring_in, N := ["value", "at", "one"], ps := ["value"], st := top 4 }
theorem bis_ring_in : eis_ring_in.Binds := fun _ _ _ _ _ _ us hl => match us, hl with
  | [_], _ => by kernel_rfl
def dis_ring : FnDef := { np := 1, ns := 1, io := [false], body := .cons (.ret (.call 1 "is_ring_in" (.cons (.var 0) .nil))) .nil }
def eis_ring : Ent := { nm := "is_ring", d := dis_ring, N := ["value"], ps := ["value"], st := top 5 }
theorem bis_ring : eis_ring.Binds := fun _ _ _ _ _ _ us hl => match us, hl with
  | [_], _ => by kernel_rfl
def d_law_urn : FnDef := { np := 2, ns := 4, io := [false, false], body := .cons (.asg 2 (.ite (.cmp .Lt (.var 1) (.bi .len (.cons (.var 0) .nil))) (.bi .int1 (.cons (.sub (.var 0) (.var 1)) .nil)) (.bin .Add (.bin .Mult (.cst (.int 193)) (.var 1)) (.cst (.int 71))))) (.cons (.asg 3 (.bin .Mod (.bi .int1 (.cons (.bi .abs (.cons (.var 2) .nil)) .nil)) (.bin .Pow (.bin .Pow (.cst (.int 10)) (.cst (.int 55))) (.cst (.int 6))))) (.cons (.ret (.lst (.cons (.bi .max2 (.cons (.cst (.int 0)) (.cons (.bin .Sub (.var 3) (.bin .Pow (.cst (.int 10)) (.cst (.int 16)))) .nil))) (.cons (.bin .Add (.bin .Add (.bin .Add (.bin .Mult (.bin .Mod (.bi .int1 (.cons (.var 3) .nil)) (.cst (.int 2305843009213693693))) (.cst (.int 101))) (.bin .Mult (.cst (.int 587)) (.var 1))) (.bin .Mult (.cst (.int 59)) (.bi .int1 (.cons (.cmp .Lt (.var 2) (.cst (.int 0))) .nil)))) (.cst (.int 19))) (.cons (.cst (.int 0)) .nil))))) .nil)) }
def e_law_urn : Ent := { nm := "_law_urn", d := d_law_urn, N := ["script", "spot", "cell", "great"], ps := ["script", "spot"], st := top 7 }
theorem b_law_urn : e_law_urn.Binds := fun _ _ _ _ _ _ us hl => match us, hl with
  | [_, _], _ => by kernel_rfl
def d_law_ball : FnDef := { np := 2, ns := 5, io := [true, false], body := .cons (.iff (.cmp .Gt (.sub (.var 0) (.cst (.int 0))) (.cst (.int 0))) (.cons (.asg 4 (.bin .Mod (.bi .int1 (.cons (.sub (.var 0) (.cst (.int 0))) .nil)) (.var 1))) (.cons (.setIx 0 (.cst (.int 0)) (.bin .FloorDiv (.sub (.var 0) (.cst (.int 0))) (.var 1))) (.cons (.ret (.var 4)) .nil))) (.nil)) (.cons (.setIx 0 (.cst (.int 2)) (.bin .Add (.sub (.var 0) (.cst (.int 2))) (.cst (.int 1)))) (.cons (.asg 2 (.bin .Mod (.bi .int1 (.cons (.bin .Add (.sub (.var 0) (.cst (.int 1))) (.bin .Mult (.cst (.int 86028121)) (.sub (.var 0) (.cst (.int 2))))) .nil)) (.cst (.int 2305843009213693951)))) (.cons (.asg 3 (.bin .Add (.bin .Mult (.bin .Mod (.bi .int1 (.cons (.bin .Add (.bin .Mult (.var 2) (.var 2)) (.bin .Mult (.cst (.int 139)) (.sub (.var 0) (.cst (.int 2))))) .nil)) (.cst (.int 2305843009213693907))) (.cst (.int 7368791))) (.var 2))) (.cons (.ret (.bin .Mod (.bi .int1 (.cons (.bin .FloorDiv (.var 3) (.cst (.int 65543))) .nil)) (.var 1))) .nil)))) }
def e_law_ball : Ent := { nm := "_law_ball", d := d_law_ball, N := ["urn", "many", "one", "two", "found"], ps := ["urn", "many"], st := top 8 }
theorem b_law_ball : e_law_ball.Binds := fun _ _ _ _ _ _ us hl => match us, hl with
  | [_, _], _ => by kernel_rfl
def d_law_mixed : FnDef := { np := 2, ns := 4, io := [true, false], body := .cons (.par 2 3 (.bi .list1 (.cons (.var 1) .nil)) (.lst (.nil))) (.cons (.while (.cmp .NotEq (.var 2) (.lst (.nil))) (.cons (.exp (.mut .append 3 (.cons (.mut .pop1 2 (.cons (.call 4 "_law_ball" (.cons (.var 0) (.cons (.bi .len (.cons (.var 2) .nil)) .nil))) .nil)) .nil))) .nil)) (.cons (.ret (.var 3)) .nil)) }
def e_law_mixed : Ent := { nm := "_law_mixed", d := d_law_mixed, N := ["urn", "items", "left", "found"], ps := ["urn", "items"], st := top 9 }
theorem b_law_mixed : e_law_mixed.Binds := fun _ _ _ _ _ _ us hl => match us, hl with
  | [_, _], _ => by kernel_rfl
def d_law_ring : FnDef := { np := 2, ns := 2, io := [true, false], body := .cons (.ret (.bi .tuple1 (.cons (.call 5 "_law_mixed" (.cons (.var 0) (.cons (.bi .sorted1 (.cons (.bin .Mult (.lrng false (.cons (.var 1) .nil)) (.cst (.int 2))) .nil)) .nil))) .nil))) .nil }
def e_law_ring : Ent := { nm := "_law_ring", d := d_law_ring, N := ["urn", "many"], ps := ["urn", "many"], st := top 10 }
theorem b_law_ring : e_law_ring.Binds := fun _ _ _ _ _ _ us hl => match us, hl with
  | [_, _], _ => by kernel_rfl
def d_law_is_ring : FnDef := { np := 1, ns := 2, io := [false], body := .cons (.iff (.or (.cons (.not (.isi (.var 0) .tuple)) (.cons (.not (.chain .LtE .LtE (.cst (.int 2)) (.bi .len (.cons (.var 0) .nil)) (.cst (.int 20)))) .nil))) (.cons (.ret (.cst (.bl false))) .nil) (.nil)) (.cons (.iff (.cmp .NotEq (.comp (.cst (.int 1)) (.nm 1) (.e (.var 0)) (.cons (.or (.cons (.isi (.var 1) .bool) (.cons (.not (.isi (.var 1) .int)) .nil))) .nil) [1]) (.lst (.nil))) (.cons (.ret (.cst (.bl false))) .nil) (.nil)) (.cons (.ret (.cmp .Eq (.bi .sorted1 (.cons (.var 0) .nil)) (.bi .sorted1 (.cons (.bin .Mult (.lrng false (.cons (.bin .FloorDiv (.bi .len (.cons (.var 0) .nil)) (.cst (.int 2))) .nil)) (.cst (.int 2))) .nil)))) .nil)) }
def e_law_is_ring : Ent := { nm := "_law_is_ring", d := d_law_is_ring, N := ["value", "one"], ps := ["value"], st := top 11 }
theorem b_law_is_ring : e_law_is_ring.Binds := fun _ _ _ _ _ _ us hl => match us, hl with
  | [_], _ => by kernel_rfl
def d_law_near : FnDef := { np := 2, ns := 7, io := [true, false], body := .cons (.par 4 5 (.call 4 "_law_ball" (.cons (.var 0) (.cons (.bi .len (.cons (.var 1) .nil)) .nil))) (.call 4 "_law_ball" (.cons (.var 0) (.cons (.bi .len (.cons (.var 1) .nil)) .nil)))) (.cons (.asg 2 (.lst (.cons (.var 1) (.cons (.bi .list1 (.cons (.var 1) .nil)) (.cons (.slc (.var 1) (.cst (.int 1)) (.absent)) (.cons (.slc (.var 1) (.absent) (.neg (.cst (.int 1)))) (.cons (.bin .Add (.var 1) (.var 1)) (.cons (.bin .Add (.var 1) (.slc (.var 1) (.absent) (.cst (.int 1)))) (.cons (.cst .non) (.cons (.cst (.int 0)) (.cons (.tup (.nil)) (.cons (.dct0) (.cons (.cst (.str "0011")) (.cons (.tup (.cons (.var 1) .nil)) .nil)))))))))))))) (.cons (.for (.nm 3) (.e (.tup (.cons (.sub (.var 1) (.var 5)) (.cons (.bin .Add (.sub (.var 1) (.var 4)) (.cst (.int 1))) (.cons (.bin .Sub (.sub (.var 1) (.var 4)) (.cst (.int 1))) (.cons (.bin .FloorDiv (.bi .len (.cons (.var 1) .nil)) (.cst (.int 2))) (.cons (.cst (.bl true)) (.cons (.cst .non) (.cons (.bi .str1 (.cons (.sub (.var 1) (.var 4)) .nil)) (.cons (.tup (.cons (.cst (.int 0)) .nil)) (.cons (.bin .Pow (.cst (.int 10)) (.cst (.int 60))) (.cons (.lst (.cons (.cst (.int 0)) .nil)) (.cons (.dct0) .nil))))))))))))) (.cons (.exp (.mut .append 2 (.cons (.bin .Add (.bin .Add (.slc (.var 1) (.absent) (.var 4)) (.tup (.cons (.var 3) .nil))) (.slc (.var 1) (.bin .Add (.var 4) (.cst (.int 1))) (.absent))) .nil))) .nil)) (.cons (.asg 2 (.bin .Add (.var 2) (.lst (.cons (.bi .tuple1 (.cons (.comp (.bin .Add (.var 6) (.cst (.int 1))) (.nm 6) (.e (.var 1)) (.nil) [6]) .nil)) (.cons (.bi .tuple1 (.cons (.comp (.ite (.cmp .Lt (.var 6) (.cst (.int 2))) (.cmp .Eq (.var 6) (.cst (.int 1))) (.var 6)) (.nm 6) (.e (.var 1)) (.nil) [6]) .nil)) .nil))))) (.cons (.asg 2 (.bin .Add (.var 2) (.lst (.cons (.bi .tuple1 (.cons (.bi .sorted1 (.cons (.bin .Mult (.lrng false (.cons (.cst (.int 11)) .nil)) (.cst (.int 2))) .nil)) .nil)) (.cons (.tup (.cons (.cst (.int 0)) .nil)) (.cons (.tup (.cons (.cst (.int 0)) (.cons (.cst (.int 0)) .nil))) (.cons (.tup (.cons (.cst (.int 0)) (.cons (.cst (.int 0)) (.cons (.cst (.int 0)) .nil)))) .nil))))))) (.cons (.ret (.bin .Add (.var 2) (.lst (.cons (.rev (.var 1)) (.cons (.bin .Add (.slc (.var 1) (.var 4) (.absent)) (.slc (.var 1) (.absent) (.var 4))) .nil))))) .nil))))) }
def e_law_near : Ent := { nm := "_law_near", d := d_law_near, N := ["urn", "ring", "found", "new", "at", "to", "one"], ps := ["urn", "ring"], st := top 12 }
theorem b_law_near : e_law_near.Binds := fun _ _ _ _ _ _ us hl => match us, hl with
  | [_, _], _ => by kernel_rfl
def d_law_right : FnDef := { np := 1, ns := 3, io := [true], body := .cons (.asg 1 (.call 6 "_law_ring" (.cons (.var 0) (.cons (.bin .Add (.cst (.int 1)) (.call 4 "_law_ball" (.cons (.var 0) (.cons (.cst (.int 10)) .nil)))) .nil)))) (.cons (.ret (.and (.cons (.call 2 "is_ring" (.cons (.var 1) .nil)) (.cons (.cmp .Eq (.comp (.var 2) (.nm 2) (.e (.call 8 "_law_near" (.cons (.var 0) (.cons (.var 1) .nil)))) (.cons (.cmp .NotEq (.call 2 "is_ring" (.cons (.var 2) .nil)) (.call 7 "_law_is_ring" (.cons (.var 2) .nil))) .nil) [2]) (.lst (.nil))) .nil)))) .nil) }
def e_law_right : Ent := { nm := "_law_right", d := d_law_right, N := ["urn", "ring", "value"], ps := ["urn"], st := top 13 }
theorem b_law_right : e_law_right.Binds := fun _ _ _ _ _ _ us hl => match us, hl with
  | [_], _ => by kernel_rfl
def d_law_is_plain : FnDef := { np := 1, ns := 2, io := [false], body := .cons (.iff (.isi (.var 0) .tuple) (.cons (.ret (.cmp .Eq (.comp (.var 1) (.nm 1) (.e (.var 0)) (.cons (.not (.call 10 "_law_is_plain" (.cons (.var 1) .nil))) .nil) [1]) (.lst (.nil)))) .nil) (.nil)) (.cons (.ret (.or (.cons (.isN (.var 0)) (.cons (.isi (.var 0) .int) (.cons (.isi (.var 0) .str) .nil))))) .nil) }
def e_law_is_plain : Ent := { nm := "_law_is_plain", d := d_law_is_plain, N := ["value", "one"], ps := ["value"], st := top 14 }
theorem b_law_is_plain : e_law_is_plain.Binds := fun _ _ _ _ _ _ us hl => match us, hl with
  | [_], _ => by kernel_rfl
def dlaw : FnDef := { np := 1, ns := 6, io := [false], body := .cons (.for (.nm 1) (.rng (.cons (.bi .max2 (.cons (.cst (.int 1)) (.cons (.bi .min2 (.cons (.cst (.int 4)) (.cons (.bi .len (.cons (.var 0) .nil)) .nil))) .nil))) .nil)) (.cons (.asg 3 (.call 3 "_law_urn" (.cons (.var 0) (.cons (.var 1) .nil)))) (.cons (.for (.nm 4) (.rng (.cons (.cst (.int 8)) .nil)) (.cons (.iff (.not (.call 9 "_law_right" (.cons (.var 3) .nil))) (.cons (.ret (.cst (.bl false))) .nil) (.nil)) .nil)) .nil))) (.cons (.asg 2 (.comp (.call 2 "is_ring" (.cons (.var 5) .nil)) (.nm 5) (.e (.tup (.cons (.tup (.cons (.cst (.int 1)) (.cons (.cst (.int 1)) .nil))) (.cons (.tup (.cons (.cst (.int 0)) (.cons (.cst (.int 0)) .nil))) (.cons (.tup (.cons (.cst (.int 0)) (.cons (.cst (.int 1)) (.cons (.cst (.int 1)) .nil)))) (.cons (.tup (.cons (.cst (.int 0)) (.cons (.cst (.int 1)) (.cons (.cst (.int 0)) (.cons (.cst (.int 1)) .nil))))) (.cons (.tup (.cons (.cst (.bl false)) (.cons (.cst (.bl false)) .nil))) (.cons (.tup (.cons (.lst (.cons (.cst (.int 0)) .nil)) (.cons (.cst (.int 0)) .nil))) (.cons (.tup (.cons (.dct0) (.cons (.cst (.int 0)) .nil))) (.cons (.tup (.cons (.lst (.nil)) (.cons (.lst (.nil)) .nil))) .nil)))))))))) (.nil) [5])) (.cons (.iff (.not (.call 10 "_law_is_plain" (.cons (.bi .tuple1 (.cons (.var 2) .nil)) .nil))) (.cons (.ret (.cst (.bl false))) .nil) (.nil)) (.cons (.ret (.cmp .Eq (.var 2) (.lst (.cons (.cst (.bl false)) (.cons (.cst (.bl true)) (.cons (.cst (.bl false)) (.cons (.cst (.bl true)) (.cons (.cst (.bl false)) (.cons (.cst (.bl false)) (.cons (.cst (.bl false)) (.cons (.cst (.bl false)) .nil))))))))))) .nil))) }
def elaw : Ent := { nm := "law", d := dlaw, N := ["script", "spot", "told", "urn", "turn", "value"], ps := ["script"], st := top 15 }
theorem blaw : elaw.Binds := fun _ _ _ _ _ _ us hl => match us, hl with
  | [_], _ => by kernel_rfl
def LL : List Ent := [eis_from, eis_ring_in, eis_ring, e_law_urn, e_law_ball, e_law_mixed, e_law_ring, e_law_is_ring, e_law_near, e_law_right, e_law_is_plain, elaw]
theorem bind : BindsAll LL := ⟨bis_from, bis_ring_in, bis_ring, b_law_urn, b_law_ball, b_law_mixed, b_law_ring, b_law_is_ring, b_law_near, b_law_right, b_law_is_plain, blaw, trivial⟩
def free : List Str := ["isinstance", "int", "bool", "tuple", "len", "all", "sorted", "range", "abs", "max", "list", "str", "min"]
def con : List (Str × D) := [("PAIR", .int 2), ("MOST_CHORDS", .int 10)]
end k25
end Py

set_option Elab.async false
set_option linter.all false
set_option maxRecDepth 100000
set_option maxHeartbeats 1000000
set_option exponentiation.threshold 2000
namespace Py
namespace k25
open PySem PySem.Spec
open PyProof.Rows L2
abbrev tab := tabOf LL
theorem c0 (k : Nat) (a b c : D) : phi tab (k + 1) 0 [a, b, c] = endR [false, false, false] (sss (ioOf tab) (phi tab k) dis_from.body [.val a, .val b, .val c]) := rfl
theorem c1 (k : Nat) (a : D) : phi tab (k + 1) 1 [a] = endR [false] (sss (ioOf tab) (phi tab k) dis_ring_in.body [.val a, .no, .no]) := rfl
theorem c2 (k : Nat) (a : D) : phi tab (k + 1) 2 [a] = endR [false] (sss (ioOf tab) (phi tab k) dis_ring.body [.val a]) := rfl
theorem c3 (k : Nat) (a b : D) : phi tab (k + 1) 3 [a, b] = endR [false, false] (sss (ioOf tab) (phi tab k) d_law_urn.body [.val a, .val b, .no, .no]) := rfl
theorem c4 (k : Nat) (a b : D) : phi tab (k + 1) 4 [a, b] = endR [true, false] (sss (ioOf tab) (phi tab k) d_law_ball.body [.own .io a, .val b, .no, .no, .no]) := rfl
theorem c5 (k : Nat) (a b : D) : phi tab (k + 1) 5 [a, b] = endR [true, false] (sss (ioOf tab) (phi tab k) d_law_mixed.body [.own .io a, .val b, .no, .no]) := rfl
theorem c6 (k : Nat) (a b : D) : phi tab (k + 1) 6 [a, b] = endR [true, false] (sss (ioOf tab) (phi tab k) d_law_ring.body [.own .io a, .val b]) := rfl
theorem c7 (k : Nat) (a : D) : phi tab (k + 1) 7 [a] = endR [false] (sss (ioOf tab) (phi tab k) d_law_is_ring.body [.val a, .no]) := rfl
theorem i0 : ioOf tab 0 = [false, false, false] := rfl
theorem i1 : ioOf tab 1 = [false] := rfl
theorem i2 : ioOf tab 2 = [false] := rfl
theorem i3 : ioOf tab 3 = [false, false] := rfl
theorem i4 : ioOf tab 4 = [true, false] := rfl
theorem i5 : ioOf tab 5 = [true, false] := rfl
theorem i6 : ioOf tab 6 = [true, false] := rfl
theorem i7 : ioOf tab 7 = [false] := rfl
theorem i8 : ioOf tab 8 = [true, false] := rfl
theorem i9 : ioOf tab 9 = [true] := rfl
theorem i10 : ioOf tab 10 = [false] := rfl
/-- neither an instance nor a function nor the script -/
def Nice : D → Bool
  | .ins _ _ => false
  | .fn _ => false
  | .scr _ => false
  | _ => true
def isI : D → Bool
  | .int _ => true
  | _ => false
def isB : D → Bool
  | .bl _ => true
  | _ => false
def inR : D → Bool
  | .int i => decide (0 ≤ i) && decide (i ≤ 10)
  | _ => false
theorem ty_int {v : D} (h : Nice v = true) : tyIs .int v = some (isI v || isB v) := by cases v <;> first | rfl | cases h
theorem ty_bool {v : D} (h : Nice v = true) : tyIs .bool v = some (isB v) := by cases v <;> first | rfl | cases h
def isT : D → Bool
  | .tup _ => true
  | _ => false
theorem ty_tup {v : D} (h : Nice v = true) : tyIs .tuple v = some (isT v) := by cases v <;> first | rfl | cases h
theorem from_ok (k : Nat) {v : D} (h : Nice v = true) : phi tab (k + 1) 0 [v, .int 0, .int 10] = .ok false (.bl (inR v)) [] := by
  rw [c0]
  cases v with
  | int i =>
    by_cases hi : 0 ≤ i
    · simp -implicitDefEqProofs only [dis_from, ok_bind, ok_then, opt_some, seq_nx, seq_rt, seq_bk, seq_ct, rdV_v, rdV_o, ev_var, ev_cst, ev_glo, k2_s, ev_bin_2e, ev_bin_1e, ev_bin, negT_i, ev_neg_1e, ev_neg, notT_b, ev_not_1e, ev_not, ev_and, ev_or, ev_cmp_2e, ev_cmp_1e, ev_cmp, chB_t_1e, chB_t, chB_f, chA_s, ev_chain_2e, ev_chain_1e, ev_chain, k1_s, ev_isN_1e, ev_isN, ev_notN_1e, ev_notN, ev_isi_1e, ev_isi, iteK_t, iteK_f, ev_ite_1e, ev_ite, ev_tup_1e, ev_tup, ev_lst_1e, ev_lst, ev_dct0, ev_sub_2e, ev_sub_1e, ev_sub, ev_slc_3e, ev_slc_2e, ev_slc_1e, ev_slc, optE_abs, optE_f_1e, optE_f, ev_rev_1e, ev_rev, ev_call_1e, ev_call, ev_lrng_1e, ev_lrng, kl_s, ev_bi_1e, ev_bi, bs_nil, consO_s, bs_cons, muR_s, mutK_i, mutK_l, mutG_o_1e, mutG_o, ev_mut, evF_nil, fzK_s_1e, fzK_s, evF_cons_1e, evF_cons, evA_nil, evA_cons_2e, evA_cons_1e, evA_cons, evAnd_1, evAnd_2_1e, evAnd_2, evOr_1, evOr_2_1e, evOr_2, evC_nil, bK_t, bK_f, evC_cons_1e, evC_cons, evIt_rng_1e, evIt_rng, lkK_s, evIt_e_1e, evIt_e, putK_s, ss_asg_1e, ss_asg, ss_par_2e, ss_par_1e, ss_par, stS_o_1e, stS_o, stK_s, ss_setIx_1e, ss_setIx, ss_exp_1e, ss_exp, ss_ret_1e, ss_ret, ss_retN, oK_t, oK_f, ss_iff_1e, ss_iff, ss_for_1e, ss_for, ss_while, ss_pass, ss_brk, ss_cont, sss_nil, sss_cons, b_val, b_own, slD_o, slD_v, b_slot, fz_val, fz_own, weak_val, weak_own, weak_slot, v_val, asBl_b, optI_i, add_ii, sub_ii, lt_ii, le_ii, gt_ii, ge_ii, eq_dd, ne_dd, sub_li, sub_ti, sub_si, slc_l, slc_t, bi_len, bi_abs, bi_max, bi_min, bi_int, bi_list, bi_tuple, bi_sum, bi_all, bi_any, bi_sorted, bi_str, len_s, len_l, len_t, abs_i, max_ii, min_ii, int_i, int_b, list_l, list_t, tuple_l, tuple_t, saR_s, saK_i, saK_l, setAt_v, consM_s, outs_t, outs_f, outs_n, endK_s, end_rt, end_nx, rt_v, rt_o, rtS_l, rt_s, frB_n, frB_v, frB_l, free_eq, putT_v, putT_o, par_vv, par_oo, par_ov, par_vo, eqD_ii, eqD_bb, args_n, args_f, ioA_i, ioA_l, args_t, ios_n, ios_f, ios_t, leS_o, leS_v, lent_n, lent_fv, lent_fs, lent_t, cK_s, ret_t, ret_f, callC_n, callR_eq, callA_0, callA_1, po_n, poK_o, po_c, wB_nx, wB_ct, wB_bk, wB_rt, wK_t, wK_f, while_s_1e, fB_nx, fB_ct, fB_bk, fB_rt, fK_s, unl_nx, unl_rt, unlock_n, unK_o, unlock_s, lock_vl, lock_vt, lock_ol, lkS_l, lock_s, bind_nm, wipe_n, wipe_c, back_n, back_c, cR_ok, ev_comp_1e, ev_comp, List.getElem?_cons_zero, List.getElem?_cons_succ, List.set_cons_zero, List.set_cons_succ, Option.map_some, if_true, Nat.reduceEqDiff, reduceIte, ty_int h, ty_bool h, isI, isB, Bool.or_false, Bool.or_true, Bool.not_false, inR, hi, decide_true, Bool.true_and]
    · simp -implicitDefEqProofs only [dis_from, ok_bind, ok_then, opt_some, seq_nx, seq_rt, seq_bk, seq_ct, rdV_v, rdV_o, ev_var, ev_cst, ev_glo, k2_s, ev_bin_2e, ev_bin_1e, ev_bin, negT_i, ev_neg_1e, ev_neg, notT_b, ev_not_1e, ev_not, ev_and, ev_or, ev_cmp_2e, ev_cmp_1e, ev_cmp, chB_t_1e, chB_t, chB_f, chA_s, ev_chain_2e, ev_chain_1e, ev_chain, k1_s, ev_isN_1e, ev_isN, ev_notN_1e, ev_notN, ev_isi_1e, ev_isi, iteK_t, iteK_f, ev_ite_1e, ev_ite, ev_tup_1e, ev_tup, ev_lst_1e, ev_lst, ev_dct0, ev_sub_2e, ev_sub_1e, ev_sub, ev_slc_3e, ev_slc_2e, ev_slc_1e, ev_slc, optE_abs, optE_f_1e, optE_f, ev_rev_1e, ev_rev, ev_call_1e, ev_call, ev_lrng_1e, ev_lrng, kl_s, ev_bi_1e, ev_bi, bs_nil, consO_s, bs_cons, muR_s, mutK_i, mutK_l, mutG_o_1e, mutG_o, ev_mut, evF_nil, fzK_s_1e, fzK_s, evF_cons_1e, evF_cons, evA_nil, evA_cons_2e, evA_cons_1e, evA_cons, evAnd_1, evAnd_2_1e, evAnd_2, evOr_1, evOr_2_1e, evOr_2, evC_nil, bK_t, bK_f, evC_cons_1e, evC_cons, evIt_rng_1e, evIt_rng, lkK_s, evIt_e_1e, evIt_e, putK_s, ss_asg_1e, ss_asg, ss_par_2e, ss_par_1e, ss_par, stS_o_1e, stS_o, stK_s, ss_setIx_1e, ss_setIx, ss_exp_1e, ss_exp, ss_ret_1e, ss_ret, ss_retN, oK_t, oK_f, ss_iff_1e, ss_iff, ss_for_1e, ss_for, ss_while, ss_pass, ss_brk, ss_cont, sss_nil, sss_cons, b_val, b_own, slD_o, slD_v, b_slot, fz_val, fz_own, weak_val, weak_own, weak_slot, v_val, asBl_b, optI_i, add_ii, sub_ii, lt_ii, le_ii, gt_ii, ge_ii, eq_dd, ne_dd, sub_li, sub_ti, sub_si, slc_l, slc_t, bi_len, bi_abs, bi_max, bi_min, bi_int, bi_list, bi_tuple, bi_sum, bi_all, bi_any, bi_sorted, bi_str, len_s, len_l, len_t, abs_i, max_ii, min_ii, int_i, int_b, list_l, list_t, tuple_l, tuple_t, saR_s, saK_i, saK_l, setAt_v, consM_s, outs_t, outs_f, outs_n, endK_s, end_rt, end_nx, rt_v, rt_o, rtS_l, rt_s, frB_n, frB_v, frB_l, free_eq, putT_v, putT_o, par_vv, par_oo, par_ov, par_vo, eqD_ii, eqD_bb, args_n, args_f, ioA_i, ioA_l, args_t, ios_n, ios_f, ios_t, leS_o, leS_v, lent_n, lent_fv, lent_fs, lent_t, cK_s, ret_t, ret_f, callC_n, callR_eq, callA_0, callA_1, po_n, poK_o, po_c, wB_nx, wB_ct, wB_bk, wB_rt, wK_t, wK_f, while_s_1e, fB_nx, fB_ct, fB_bk, fB_rt, fK_s, unl_nx, unl_rt, unlock_n, unK_o, unlock_s, lock_vl, lock_vt, lock_ol, lkS_l, lock_s, bind_nm, wipe_n, wipe_c, back_n, back_c, cR_ok, ev_comp_1e, ev_comp, List.getElem?_cons_zero, List.getElem?_cons_succ, List.set_cons_zero, List.set_cons_succ, Option.map_some, if_true, Nat.reduceEqDiff, reduceIte, ty_int h, ty_bool h, isI, isB, Bool.or_false, Bool.or_true, Bool.not_false, inR, hi, decide_false, Bool.false_and]
  | bl b => simp -implicitDefEqProofs only [dis_from, ok_bind, ok_then, opt_some, seq_nx, seq_rt, seq_bk, seq_ct, rdV_v, rdV_o, ev_var, ev_cst, ev_glo, k2_s, ev_bin_2e, ev_bin_1e, ev_bin, negT_i, ev_neg_1e, ev_neg, notT_b, ev_not_1e, ev_not, ev_and, ev_or, ev_cmp_2e, ev_cmp_1e, ev_cmp, chB_t_1e, chB_t, chB_f, chA_s, ev_chain_2e, ev_chain_1e, ev_chain, k1_s, ev_isN_1e, ev_isN, ev_notN_1e, ev_notN, ev_isi_1e, ev_isi, iteK_t, iteK_f, ev_ite_1e, ev_ite, ev_tup_1e, ev_tup, ev_lst_1e, ev_lst, ev_dct0, ev_sub_2e, ev_sub_1e, ev_sub, ev_slc_3e, ev_slc_2e, ev_slc_1e, ev_slc, optE_abs, optE_f_1e, optE_f, ev_rev_1e, ev_rev, ev_call_1e, ev_call, ev_lrng_1e, ev_lrng, kl_s, ev_bi_1e, ev_bi, bs_nil, consO_s, bs_cons, muR_s, mutK_i, mutK_l, mutG_o_1e, mutG_o, ev_mut, evF_nil, fzK_s_1e, fzK_s, evF_cons_1e, evF_cons, evA_nil, evA_cons_2e, evA_cons_1e, evA_cons, evAnd_1, evAnd_2_1e, evAnd_2, evOr_1, evOr_2_1e, evOr_2, evC_nil, bK_t, bK_f, evC_cons_1e, evC_cons, evIt_rng_1e, evIt_rng, lkK_s, evIt_e_1e, evIt_e, putK_s, ss_asg_1e, ss_asg, ss_par_2e, ss_par_1e, ss_par, stS_o_1e, stS_o, stK_s, ss_setIx_1e, ss_setIx, ss_exp_1e, ss_exp, ss_ret_1e, ss_ret, ss_retN, oK_t, oK_f, ss_iff_1e, ss_iff, ss_for_1e, ss_for, ss_while, ss_pass, ss_brk, ss_cont, sss_nil, sss_cons, b_val, b_own, slD_o, slD_v, b_slot, fz_val, fz_own, weak_val, weak_own, weak_slot, v_val, asBl_b, optI_i, add_ii, sub_ii, lt_ii, le_ii, gt_ii, ge_ii, eq_dd, ne_dd, sub_li, sub_ti, sub_si, slc_l, slc_t, bi_len, bi_abs, bi_max, bi_min, bi_int, bi_list, bi_tuple, bi_sum, bi_all, bi_any, bi_sorted, bi_str, len_s, len_l, len_t, abs_i, max_ii, min_ii, int_i, int_b, list_l, list_t, tuple_l, tuple_t, saR_s, saK_i, saK_l, setAt_v, consM_s, outs_t, outs_f, outs_n, endK_s, end_rt, end_nx, rt_v, rt_o, rtS_l, rt_s, frB_n, frB_v, frB_l, free_eq, putT_v, putT_o, par_vv, par_oo, par_ov, par_vo, eqD_ii, eqD_bb, args_n, args_f, ioA_i, ioA_l, args_t, ios_n, ios_f, ios_t, leS_o, leS_v, lent_n, lent_fv, lent_fs, lent_t, cK_s, ret_t, ret_f, callC_n, callR_eq, callA_0, callA_1, po_n, poK_o, po_c, wB_nx, wB_ct, wB_bk, wB_rt, wK_t, wK_f, while_s_1e, fB_nx, fB_ct, fB_bk, fB_rt, fK_s, unl_nx, unl_rt, unlock_n, unK_o, unlock_s, lock_vl, lock_vt, lock_ol, lkS_l, lock_s, bind_nm, wipe_n, wipe_c, back_n, back_c, cR_ok, ev_comp_1e, ev_comp, List.getElem?_cons_zero, List.getElem?_cons_succ, List.set_cons_zero, List.set_cons_succ, Option.map_some, if_true, Nat.reduceEqDiff, reduceIte, ty_int h, ty_bool h, isI, isB, Bool.or_false, Bool.or_true, Bool.not_false, Bool.not_true, inR]
  | ins _ _ => cases h
  | fn _ => cases h
  | scr _ => cases h
  | _ => simp -implicitDefEqProofs only [dis_from, ok_bind, ok_then, opt_some, seq_nx, seq_rt, seq_bk, seq_ct, rdV_v, rdV_o, ev_var, ev_cst, ev_glo, k2_s, ev_bin_2e, ev_bin_1e, ev_bin, negT_i, ev_neg_1e, ev_neg, notT_b, ev_not_1e, ev_not, ev_and, ev_or, ev_cmp_2e, ev_cmp_1e, ev_cmp, chB_t_1e, chB_t, chB_f, chA_s, ev_chain_2e, ev_chain_1e, ev_chain, k1_s, ev_isN_1e, ev_isN, ev_notN_1e, ev_notN, ev_isi_1e, ev_isi, iteK_t, iteK_f, ev_ite_1e, ev_ite, ev_tup_1e, ev_tup, ev_lst_1e, ev_lst, ev_dct0, ev_sub_2e, ev_sub_1e, ev_sub, ev_slc_3e, ev_slc_2e, ev_slc_1e, ev_slc, optE_abs, optE_f_1e, optE_f, ev_rev_1e, ev_rev, ev_call_1e, ev_call, ev_lrng_1e, ev_lrng, kl_s, ev_bi_1e, ev_bi, bs_nil, consO_s, bs_cons, muR_s, mutK_i, mutK_l, mutG_o_1e, mutG_o, ev_mut, evF_nil, fzK_s_1e, fzK_s, evF_cons_1e, evF_cons, evA_nil, evA_cons_2e, evA_cons_1e, evA_cons, evAnd_1, evAnd_2_1e, evAnd_2, evOr_1, evOr_2_1e, evOr_2, evC_nil, bK_t, bK_f, evC_cons_1e, evC_cons, evIt_rng_1e, evIt_rng, lkK_s, evIt_e_1e, evIt_e, putK_s, ss_asg_1e, ss_asg, ss_par_2e, ss_par_1e, ss_par, stS_o_1e, stS_o, stK_s, ss_setIx_1e, ss_setIx, ss_exp_1e, ss_exp, ss_ret_1e, ss_ret, ss_retN, oK_t, oK_f, ss_iff_1e, ss_iff, ss_for_1e, ss_for, ss_while, ss_pass, ss_brk, ss_cont, sss_nil, sss_cons, b_val, b_own, slD_o, slD_v, b_slot, fz_val, fz_own, weak_val, weak_own, weak_slot, v_val, asBl_b, optI_i, add_ii, sub_ii, lt_ii, le_ii, gt_ii, ge_ii, eq_dd, ne_dd, sub_li, sub_ti, sub_si, slc_l, slc_t, bi_len, bi_abs, bi_max, bi_min, bi_int, bi_list, bi_tuple, bi_sum, bi_all, bi_any, bi_sorted, bi_str, len_s, len_l, len_t, abs_i, max_ii, min_ii, int_i, int_b, list_l, list_t, tuple_l, tuple_t, saR_s, saK_i, saK_l, setAt_v, consM_s, outs_t, outs_f, outs_n, endK_s, end_rt, end_nx, rt_v, rt_o, rtS_l, rt_s, frB_n, frB_v, frB_l, free_eq, putT_v, putT_o, par_vv, par_oo, par_ov, par_vo, eqD_ii, eqD_bb, args_n, args_f, ioA_i, ioA_l, args_t, ios_n, ios_f, ios_t, leS_o, leS_v, lent_n, lent_fv, lent_fs, lent_t, cK_s, ret_t, ret_f, callC_n, callR_eq, callA_0, callA_1, po_n, poK_o, po_c, wB_nx, wB_ct, wB_bk, wB_rt, wK_t, wK_f, while_s_1e, fB_nx, fB_ct, fB_bk, fB_rt, fK_s, unl_nx, unl_rt, unlock_n, unK_o, unlock_s, lock_vl, lock_vt, lock_ol, lkS_l, lock_s, bind_nm, wipe_n, wipe_c, back_n, back_c, cR_ok, ev_comp_1e, ev_comp, List.getElem?_cons_zero, List.getElem?_cons_succ, List.set_cons_zero, List.set_cons_succ, Option.map_some, if_true, Nat.reduceEqDiff, reduceIte, ty_int h, ty_bool h, isI, isB, Bool.or_false, Bool.or_true, Bool.not_false, Bool.not_true, inR]
end k25
end Py

set_option Elab.async false
set_option linter.all false
set_option maxRecDepth 100000
set_option maxHeartbeats 1000000
set_option exponentiation.threshold 2000
namespace Py
namespace k25
open PySem PySem.Spec
open PyProof.Rows L2
def halfD : D → D
  | .int i => .int (i / 2)
  | d => d
def halves (n : Nat) : List Int := (List.range n).map fun (i : Nat) => ((i / 2 : Nat) : Int)
def intL (xs : List D) : List Int := match intsOf xs with
  | some ns => ns
  | none => []
def ringB : D → Bool
  | .tup xs => decide (2 ≤ xs.length) && decide (xs.length ≤ 20) && decide (xs.length % 2 = 0) && xs.all inR && (sortI (intL xs) == halves xs.length)
  | _ => false
def lawB : D → Bool
  | .tup xs => decide (2 ≤ xs.length) && decide (xs.length ≤ 20) && xs.all isI && (sortI (intL xs) == sortI (rngI (xs.length / 2) ++ rngI (xs.length / 2)))
  | _ => false
theorem of_isI : ∀ {xs : List D}, xs.all isI = true → ∃ ns : List Int, xs = ns.map .int
  | [], _ => ⟨[], rfl⟩
  | x :: xs, h => by
    rw [List.all_cons] at h
    obtain ⟨h1, h2⟩ := and2 h
    obtain ⟨ns, rfl⟩ := of_isI h2
    cases x with
    | int i => exact ⟨i :: ns, rfl⟩
    | _ => cases h1
theorem inR_isI {x : D} (h : inR x = true) : isI x = true := by
  cases x <;> first | rfl | cases h
theorem intL_map (ns : List Int) : intL (ns.map .int) = ns := by unfold intL; rw [intsOf_map]
theorem base_ok : ∀ m, m ≤ 10 → sortI (rngI m ++ rngI m) = halves (2 * m) := by decide +kernel
theorem agree (v : D) : ringB v = lawB v := by
  cases v with
  | tup xs =>
    unfold ringB lawB
    dsimp only
    by_cases h2 : 2 ≤ xs.length
    rotate_left
    · simp [h2]
    by_cases h20 : xs.length ≤ 20
    rotate_left
    · simp [h20]
    simp only [h2, h20, decide_true, Bool.true_and]
    by_cases hI : xs.all isI = true
    · obtain ⟨ns, rfl⟩ := of_isI hI
      rw [hI, intL_map, Bool.true_and, List.length_map]
      rw [List.length_map] at h20 h2
      by_cases he : ns.length % 2 = 0
      · have e2 : ns.length = 2 * (ns.length / 2) := by omega
        rw [base_ok _ (by omega), ← e2, decide_eq_true he, Bool.true_and]
        by_cases hs : sortI ns = halves ns.length
        · have : (ns.map D.int).all inR = true := by
            rw [List.all_eq_true]
            intro x hx
            obtain ⟨i, hi, rfl⟩ := List.mem_map.mp hx
            have hi : i ∈ sortI ns := (sortI_perm ns).mem_iff.mpr hi
            rw [hs] at hi
            obtain ⟨j, hj, rfl⟩ := List.mem_map.mp hi
            have := List.mem_range.mp hj
            show (decide (0 ≤ ((j / 2 : Nat) : Int)) && decide (((j / 2 : Nat) : Int) ≤ 10)) = true
            rw [decide_eq_true (by omega), decide_eq_true (by omega)]
            rfl
          rw [this, Bool.true_and]
        · have : (sortI ns == halves ns.length) = false := beq_eq_false_iff_ne.mpr hs
          rw [this, Bool.and_false]
      · rw [decide_eq_false he, Bool.false_and, Bool.false_and]
        symm
        refine beq_eq_false_iff_ne.mpr fun q => he ?_
        have := congrArg List.length q
        rw [(sortI_perm ns).length_eq, (sortI_perm _).length_eq, List.length_append, rngI_length] at this
        omega
    · have hI' : xs.all isI = false := by simpa using hI
      have : xs.all inR = false := by
        cases q : xs.all inR with
        | false => rfl
        | true =>
          rw [List.all_eq_true] at q
          exact absurd (List.all_eq_true.mpr fun x hx => inR_isI (q x hx)) hI
      rw [this, hI', Bool.and_false, Bool.false_and, Bool.false_and]
  | _ => rfl
theorem ring_in_ok (k : Nat) {v : D} (hv : Nice v = true) (hx : ∀ xs, v = .tup xs → ∀ x ∈ xs, Nice x = true) : phi tab (k + 2) 1 [v] = .ok false (.bl (ringB v)) [] := by
  rw [c1]
  cases v with
  | tup xs =>
    have hx := hx xs rfl
    unfold ringB
    dsimp only
    have q1 : decide ((2 : Int) ≤ (xs.length : Int)) = decide (2 ≤ xs.length) := by by_cases h : 2 ≤ xs.length <;> simp [h] <;> omega
    have q2 : decide ((xs.length : Int) ≤ 2 * 10) = decide (xs.length ≤ 20) := by by_cases h : xs.length ≤ 20 <;> simp [h] <;> omega
    have q3 : binD .Mod (.int (xs.length : Int)) (.int 2) = some (.val (.int ((xs.length : Int) % 2))) := mod_ii (by decide)
    have q4 : (((xs.length : Int) % 2) == 0) = decide (xs.length % 2 = 0) := by
      by_cases h : xs.length % 2 = 0
      · rw [decide_eq_true h]; exact beq_iff_eq.mpr (by omega)
      · rw [decide_eq_false h]; exact beq_eq_false_iff_ne.mpr (by omega)
    have q5 : mulOk 2 10 = true := by decide
    by_cases h2 : 2 ≤ xs.length
    rotate_left
    · simp -implicitDefEqProofs only [dis_ring_in, ok_bind, ok_then, opt_some, seq_nx, seq_rt, seq_bk, seq_ct, rdV_v, rdV_o, ev_var, ev_cst, ev_glo, k2_s, ev_bin_2e, ev_bin_1e, ev_bin, negT_i, ev_neg_1e, ev_neg, notT_b, ev_not_1e, ev_not, ev_and, ev_or, ev_cmp_2e, ev_cmp_1e, ev_cmp, chB_t_1e, chB_t, chB_f, chA_s, ev_chain_2e, ev_chain_1e, ev_chain, k1_s, ev_isN_1e, ev_isN, ev_notN_1e, ev_notN, ev_isi_1e, ev_isi, iteK_t, iteK_f, ev_ite_1e, ev_ite, ev_tup_1e, ev_tup, ev_lst_1e, ev_lst, ev_dct0, ev_sub_2e, ev_sub_1e, ev_sub, ev_slc_3e, ev_slc_2e, ev_slc_1e, ev_slc, optE_abs, optE_f_1e, optE_f, ev_rev_1e, ev_rev, ev_call_1e, ev_call, ev_lrng_1e, ev_lrng, kl_s, ev_bi_1e, ev_bi, bs_nil, consO_s, bs_cons, muR_s, mutK_i, mutK_l, mutG_o_1e, mutG_o, ev_mut, evF_nil, fzK_s_1e, fzK_s, evF_cons_1e, evF_cons, evA_nil, evA_cons_2e, evA_cons_1e, evA_cons, evAnd_1, evAnd_2_1e, evAnd_2, evOr_1, evOr_2_1e, evOr_2, evC_nil, bK_t, bK_f, evC_cons_1e, evC_cons, evIt_rng_1e, evIt_rng, lkK_s, evIt_e_1e, evIt_e, putK_s, ss_asg_1e, ss_asg, ss_par_2e, ss_par_1e, ss_par, stS_o_1e, stS_o, stK_s, ss_setIx_1e, ss_setIx, ss_exp_1e, ss_exp, ss_ret_1e, ss_ret, ss_retN, oK_t, oK_f, ss_iff_1e, ss_iff, ss_for_1e, ss_for, ss_while, ss_pass, ss_brk, ss_cont, sss_nil, sss_cons, b_val, b_own, slD_o, slD_v, b_slot, fz_val, fz_own, weak_val, weak_own, weak_slot, v_val, asBl_b, optI_i, add_ii, sub_ii, lt_ii, le_ii, gt_ii, ge_ii, eq_dd, ne_dd, sub_li, sub_ti, sub_si, slc_l, slc_t, bi_len, bi_abs, bi_max, bi_min, bi_int, bi_list, bi_tuple, bi_sum, bi_all, bi_any, bi_sorted, bi_str, len_s, len_l, len_t, abs_i, max_ii, min_ii, int_i, int_b, list_l, list_t, tuple_l, tuple_t, saR_s, saK_i, saK_l, setAt_v, consM_s, outs_t, outs_f, outs_n, endK_s, end_rt, end_nx, rt_v, rt_o, rtS_l, rt_s, frB_n, frB_v, frB_l, free_eq, putT_v, putT_o, par_vv, par_oo, par_ov, par_vo, eqD_ii, eqD_bb, args_n, args_f, ioA_i, ioA_l, args_t, ios_n, ios_f, ios_t, leS_o, leS_v, lent_n, lent_fv, lent_fs, lent_t, cK_s, ret_t, ret_f, callC_n, callR_eq, callA_0, callA_1, po_n, poK_o, po_c, wB_nx, wB_ct, wB_bk, wB_rt, wK_t, wK_f, while_s_1e, fB_nx, fB_ct, fB_bk, fB_rt, fK_s, unl_nx, unl_rt, unlock_n, unK_o, unlock_s, lock_vl, lock_vt, lock_ol, lkS_l, lock_s, bind_nm, wipe_n, wipe_c, back_n, back_c, cR_ok, ev_comp_1e, ev_comp, List.getElem?_cons_zero, List.getElem?_cons_succ, List.set_cons_zero, List.set_cons_succ, Option.map_some, if_true, Nat.reduceEqDiff, reduceIte, ty_tup hv, isT, Bool.not_true, Bool.not_false, q1, decide_eq_false h2, Bool.false_and]
    by_cases h20 : xs.length ≤ 20
    rotate_left
    · simp -implicitDefEqProofs only [dis_ring_in, ok_bind, ok_then, opt_some, seq_nx, seq_rt, seq_bk, seq_ct, rdV_v, rdV_o, ev_var, ev_cst, ev_glo, k2_s, ev_bin_2e, ev_bin_1e, ev_bin, negT_i, ev_neg_1e, ev_neg, notT_b, ev_not_1e, ev_not, ev_and, ev_or, ev_cmp_2e, ev_cmp_1e, ev_cmp, chB_t_1e, chB_t, chB_f, chA_s, ev_chain_2e, ev_chain_1e, ev_chain, k1_s, ev_isN_1e, ev_isN, ev_notN_1e, ev_notN, ev_isi_1e, ev_isi, iteK_t, iteK_f, ev_ite_1e, ev_ite, ev_tup_1e, ev_tup, ev_lst_1e, ev_lst, ev_dct0, ev_sub_2e, ev_sub_1e, ev_sub, ev_slc_3e, ev_slc_2e, ev_slc_1e, ev_slc, optE_abs, optE_f_1e, optE_f, ev_rev_1e, ev_rev, ev_call_1e, ev_call, ev_lrng_1e, ev_lrng, kl_s, ev_bi_1e, ev_bi, bs_nil, consO_s, bs_cons, muR_s, mutK_i, mutK_l, mutG_o_1e, mutG_o, ev_mut, evF_nil, fzK_s_1e, fzK_s, evF_cons_1e, evF_cons, evA_nil, evA_cons_2e, evA_cons_1e, evA_cons, evAnd_1, evAnd_2_1e, evAnd_2, evOr_1, evOr_2_1e, evOr_2, evC_nil, bK_t, bK_f, evC_cons_1e, evC_cons, evIt_rng_1e, evIt_rng, lkK_s, evIt_e_1e, evIt_e, putK_s, ss_asg_1e, ss_asg, ss_par_2e, ss_par_1e, ss_par, stS_o_1e, stS_o, stK_s, ss_setIx_1e, ss_setIx, ss_exp_1e, ss_exp, ss_ret_1e, ss_ret, ss_retN, oK_t, oK_f, ss_iff_1e, ss_iff, ss_for_1e, ss_for, ss_while, ss_pass, ss_brk, ss_cont, sss_nil, sss_cons, b_val, b_own, slD_o, slD_v, b_slot, fz_val, fz_own, weak_val, weak_own, weak_slot, v_val, asBl_b, optI_i, add_ii, sub_ii, lt_ii, le_ii, gt_ii, ge_ii, eq_dd, ne_dd, sub_li, sub_ti, sub_si, slc_l, slc_t, bi_len, bi_abs, bi_max, bi_min, bi_int, bi_list, bi_tuple, bi_sum, bi_all, bi_any, bi_sorted, bi_str, len_s, len_l, len_t, abs_i, max_ii, min_ii, int_i, int_b, list_l, list_t, tuple_l, tuple_t, saR_s, saK_i, saK_l, setAt_v, consM_s, outs_t, outs_f, outs_n, endK_s, end_rt, end_nx, rt_v, rt_o, rtS_l, rt_s, frB_n, frB_v, frB_l, free_eq, putT_v, putT_o, par_vv, par_oo, par_ov, par_vo, eqD_ii, eqD_bb, args_n, args_f, ioA_i, ioA_l, args_t, ios_n, ios_f, ios_t, leS_o, leS_v, lent_n, lent_fv, lent_fs, lent_t, cK_s, ret_t, ret_f, callC_n, callR_eq, callA_0, callA_1, po_n, poK_o, po_c, wB_nx, wB_ct, wB_bk, wB_rt, wK_t, wK_f, while_s_1e, fB_nx, fB_ct, fB_bk, fB_rt, fK_s, unl_nx, unl_rt, unlock_n, unK_o, unlock_s, lock_vl, lock_vt, lock_ol, lkS_l, lock_s, bind_nm, wipe_n, wipe_c, back_n, back_c, cR_ok, ev_comp_1e, ev_comp, List.getElem?_cons_zero, List.getElem?_cons_succ, List.set_cons_zero, List.set_cons_succ, Option.map_some, if_true, Nat.reduceEqDiff, reduceIte, ty_tup hv, isT, Bool.not_true, Bool.not_false, q1, decide_eq_true h2, mul_ii q5, q2, decide_eq_false h20, Bool.false_and, Bool.and_false]
    by_cases he : xs.length % 2 = 0
    rotate_left
    · simp -implicitDefEqProofs only [dis_ring_in, ok_bind, ok_then, opt_some, seq_nx, seq_rt, seq_bk, seq_ct, rdV_v, rdV_o, ev_var, ev_cst, ev_glo, k2_s, ev_bin_2e, ev_bin_1e, ev_bin, negT_i, ev_neg_1e, ev_neg, notT_b, ev_not_1e, ev_not, ev_and, ev_or, ev_cmp_2e, ev_cmp_1e, ev_cmp, chB_t_1e, chB_t, chB_f, chA_s, ev_chain_2e, ev_chain_1e, ev_chain, k1_s, ev_isN_1e, ev_isN, ev_notN_1e, ev_notN, ev_isi_1e, ev_isi, iteK_t, iteK_f, ev_ite_1e, ev_ite, ev_tup_1e, ev_tup, ev_lst_1e, ev_lst, ev_dct0, ev_sub_2e, ev_sub_1e, ev_sub, ev_slc_3e, ev_slc_2e, ev_slc_1e, ev_slc, optE_abs, optE_f_1e, optE_f, ev_rev_1e, ev_rev, ev_call_1e, ev_call, ev_lrng_1e, ev_lrng, kl_s, ev_bi_1e, ev_bi, bs_nil, consO_s, bs_cons, muR_s, mutK_i, mutK_l, mutG_o_1e, mutG_o, ev_mut, evF_nil, fzK_s_1e, fzK_s, evF_cons_1e, evF_cons, evA_nil, evA_cons_2e, evA_cons_1e, evA_cons, evAnd_1, evAnd_2_1e, evAnd_2, evOr_1, evOr_2_1e, evOr_2, evC_nil, bK_t, bK_f, evC_cons_1e, evC_cons, evIt_rng_1e, evIt_rng, lkK_s, evIt_e_1e, evIt_e, putK_s, ss_asg_1e, ss_asg, ss_par_2e, ss_par_1e, ss_par, stS_o_1e, stS_o, stK_s, ss_setIx_1e, ss_setIx, ss_exp_1e, ss_exp, ss_ret_1e, ss_ret, ss_retN, oK_t, oK_f, ss_iff_1e, ss_iff, ss_for_1e, ss_for, ss_while, ss_pass, ss_brk, ss_cont, sss_nil, sss_cons, b_val, b_own, slD_o, slD_v, b_slot, fz_val, fz_own, weak_val, weak_own, weak_slot, v_val, asBl_b, optI_i, add_ii, sub_ii, lt_ii, le_ii, gt_ii, ge_ii, eq_dd, ne_dd, sub_li, sub_ti, sub_si, slc_l, slc_t, bi_len, bi_abs, bi_max, bi_min, bi_int, bi_list, bi_tuple, bi_sum, bi_all, bi_any, bi_sorted, bi_str, len_s, len_l, len_t, abs_i, max_ii, min_ii, int_i, int_b, list_l, list_t, tuple_l, tuple_t, saR_s, saK_i, saK_l, setAt_v, consM_s, outs_t, outs_f, outs_n, endK_s, end_rt, end_nx, rt_v, rt_o, rtS_l, rt_s, frB_n, frB_v, frB_l, free_eq, putT_v, putT_o, par_vv, par_oo, par_ov, par_vo, eqD_ii, eqD_bb, args_n, args_f, ioA_i, ioA_l, args_t, ios_n, ios_f, ios_t, leS_o, leS_v, lent_n, lent_fv, lent_fs, lent_t, cK_s, ret_t, ret_f, callC_n, callR_eq, callA_0, callA_1, po_n, poK_o, po_c, wB_nx, wB_ct, wB_bk, wB_rt, wK_t, wK_f, while_s_1e, fB_nx, fB_ct, fB_bk, fB_rt, fK_s, unl_nx, unl_rt, unlock_n, unK_o, unlock_s, lock_vl, lock_vt, lock_ol, lkS_l, lock_s, bind_nm, wipe_n, wipe_c, back_n, back_c, cR_ok, ev_comp_1e, ev_comp, List.getElem?_cons_zero, List.getElem?_cons_succ, List.set_cons_zero, List.set_cons_succ, Option.map_some, if_true, Nat.reduceEqDiff, reduceIte, ty_tup hv, isT, Bool.not_true, Bool.not_false, q1, decide_eq_true h2, mul_ii q5, q2, decide_eq_true h20, q3, q4, decide_eq_false he, Bool.false_and, Bool.and_false]
    have cm : compLoop [2] (.nm 2) (evC (ioOf tab) (phi tab (k + 1)) .nil) (ev (ioOf tab) (phi tab (k + 1)) (.call 0 "is_from" (.cons (.var 2) (.cons (.cst (.int 0)) (.cons (.glo "MOST_CHORDS" (.int 10)) .nil))))) xs [] [.val (.tup xs), .no, .no] = .ok (xs.map fun x => .bl (inR x)) [.val (.tup xs), .no, .no] := by
      refine comp_map (by omega) fun x hxx => ⟨[.val (.tup xs), .no, .val x], by simp -implicitDefEqProofs only [ok_bind, ok_then, opt_some, seq_nx, seq_rt, seq_bk, seq_ct, rdV_v, rdV_o, ev_var, ev_cst, ev_glo, k2_s, ev_bin_2e, ev_bin_1e, ev_bin, negT_i, ev_neg_1e, ev_neg, notT_b, ev_not_1e, ev_not, ev_and, ev_or, ev_cmp_2e, ev_cmp_1e, ev_cmp, chB_t_1e, chB_t, chB_f, chA_s, ev_chain_2e, ev_chain_1e, ev_chain, k1_s, ev_isN_1e, ev_isN, ev_notN_1e, ev_notN, ev_isi_1e, ev_isi, iteK_t, iteK_f, ev_ite_1e, ev_ite, ev_tup_1e, ev_tup, ev_lst_1e, ev_lst, ev_dct0, ev_sub_2e, ev_sub_1e, ev_sub, ev_slc_3e, ev_slc_2e, ev_slc_1e, ev_slc, optE_abs, optE_f_1e, optE_f, ev_rev_1e, ev_rev, ev_call_1e, ev_call, ev_lrng_1e, ev_lrng, kl_s, ev_bi_1e, ev_bi, bs_nil, consO_s, bs_cons, muR_s, mutK_i, mutK_l, mutG_o_1e, mutG_o, ev_mut, evF_nil, fzK_s_1e, fzK_s, evF_cons_1e, evF_cons, evA_nil, evA_cons_2e, evA_cons_1e, evA_cons, evAnd_1, evAnd_2_1e, evAnd_2, evOr_1, evOr_2_1e, evOr_2, evC_nil, bK_t, bK_f, evC_cons_1e, evC_cons, evIt_rng_1e, evIt_rng, lkK_s, evIt_e_1e, evIt_e, putK_s, ss_asg_1e, ss_asg, ss_par_2e, ss_par_1e, ss_par, stS_o_1e, stS_o, stK_s, ss_setIx_1e, ss_setIx, ss_exp_1e, ss_exp, ss_ret_1e, ss_ret, ss_retN, oK_t, oK_f, ss_iff_1e, ss_iff, ss_for_1e, ss_for, ss_while, ss_pass, ss_brk, ss_cont, sss_nil, sss_cons, b_val, b_own, slD_o, slD_v, b_slot, fz_val, fz_own, weak_val, weak_own, weak_slot, v_val, asBl_b, optI_i, add_ii, sub_ii, lt_ii, le_ii, gt_ii, ge_ii, eq_dd, ne_dd, sub_li, sub_ti, sub_si, slc_l, slc_t, bi_len, bi_abs, bi_max, bi_min, bi_int, bi_list, bi_tuple, bi_sum, bi_all, bi_any, bi_sorted, bi_str, len_s, len_l, len_t, abs_i, max_ii, min_ii, int_i, int_b, list_l, list_t, tuple_l, tuple_t, saR_s, saK_i, saK_l, setAt_v, consM_s, outs_t, outs_f, outs_n, endK_s, end_rt, end_nx, rt_v, rt_o, rtS_l, rt_s, frB_n, frB_v, frB_l, free_eq, putT_v, putT_o, par_vv, par_oo, par_ov, par_vo, eqD_ii, eqD_bb, args_n, args_f, ioA_i, ioA_l, args_t, ios_n, ios_f, ios_t, leS_o, leS_v, lent_n, lent_fv, lent_fs, lent_t, cK_s, ret_t, ret_f, callC_n, callR_eq, callA_0, callA_1, po_n, poK_o, po_c, wB_nx, wB_ct, wB_bk, wB_rt, wK_t, wK_f, while_s_1e, fB_nx, fB_ct, fB_bk, fB_rt, fK_s, unl_nx, unl_rt, unlock_n, unK_o, unlock_s, lock_vl, lock_vt, lock_ol, lkS_l, lock_s, bind_nm, wipe_n, wipe_c, back_n, back_c, cR_ok, ev_comp_1e, ev_comp, List.getElem?_cons_zero, List.getElem?_cons_succ, List.set_cons_zero, List.set_cons_succ, Option.map_some, if_true, Nat.reduceEqDiff, reduceIte], by simp -implicitDefEqProofs only [ok_bind, ok_then, opt_some, seq_nx, seq_rt, seq_bk, seq_ct, rdV_v, rdV_o, ev_var, ev_cst, ev_glo, k2_s, ev_bin_2e, ev_bin_1e, ev_bin, negT_i, ev_neg_1e, ev_neg, notT_b, ev_not_1e, ev_not, ev_and, ev_or, ev_cmp_2e, ev_cmp_1e, ev_cmp, chB_t_1e, chB_t, chB_f, chA_s, ev_chain_2e, ev_chain_1e, ev_chain, k1_s, ev_isN_1e, ev_isN, ev_notN_1e, ev_notN, ev_isi_1e, ev_isi, iteK_t, iteK_f, ev_ite_1e, ev_ite, ev_tup_1e, ev_tup, ev_lst_1e, ev_lst, ev_dct0, ev_sub_2e, ev_sub_1e, ev_sub, ev_slc_3e, ev_slc_2e, ev_slc_1e, ev_slc, optE_abs, optE_f_1e, optE_f, ev_rev_1e, ev_rev, ev_call_1e, ev_call, ev_lrng_1e, ev_lrng, kl_s, ev_bi_1e, ev_bi, bs_nil, consO_s, bs_cons, muR_s, mutK_i, mutK_l, mutG_o_1e, mutG_o, ev_mut, evF_nil, fzK_s_1e, fzK_s, evF_cons_1e, evF_cons, evA_nil, evA_cons_2e, evA_cons_1e, evA_cons, evAnd_1, evAnd_2_1e, evAnd_2, evOr_1, evOr_2_1e, evOr_2, evC_nil, bK_t, bK_f, evC_cons_1e, evC_cons, evIt_rng_1e, evIt_rng, lkK_s, evIt_e_1e, evIt_e, putK_s, ss_asg_1e, ss_asg, ss_par_2e, ss_par_1e, ss_par, stS_o_1e, stS_o, stK_s, ss_setIx_1e, ss_setIx, ss_exp_1e, ss_exp, ss_ret_1e, ss_ret, ss_retN, oK_t, oK_f, ss_iff_1e, ss_iff, ss_for_1e, ss_for, ss_while, ss_pass, ss_brk, ss_cont, sss_nil, sss_cons, b_val, b_own, slD_o, slD_v, b_slot, fz_val, fz_own, weak_val, weak_own, weak_slot, v_val, asBl_b, optI_i, add_ii, sub_ii, lt_ii, le_ii, gt_ii, ge_ii, eq_dd, ne_dd, sub_li, sub_ti, sub_si, slc_l, slc_t, bi_len, bi_abs, bi_max, bi_min, bi_int, bi_list, bi_tuple, bi_sum, bi_all, bi_any, bi_sorted, bi_str, len_s, len_l, len_t, abs_i, max_ii, min_ii, int_i, int_b, list_l, list_t, tuple_l, tuple_t, saR_s, saK_i, saK_l, setAt_v, consM_s, outs_t, outs_f, outs_n, endK_s, end_rt, end_nx, rt_v, rt_o, rtS_l, rt_s, frB_n, frB_v, frB_l, free_eq, putT_v, putT_o, par_vv, par_oo, par_ov, par_vo, eqD_ii, eqD_bb, args_n, args_f, ioA_i, ioA_l, args_t, ios_n, ios_f, ios_t, leS_o, leS_v, lent_n, lent_fv, lent_fs, lent_t, cK_s, ret_t, ret_f, callC_n, callR_eq, callA_0, callA_1, po_n, poK_o, po_c, wB_nx, wB_ct, wB_bk, wB_rt, wK_t, wK_f, while_s_1e, fB_nx, fB_ct, fB_bk, fB_rt, fK_s, unl_nx, unl_rt, unlock_n, unK_o, unlock_s, lock_vl, lock_vt, lock_ol, lkS_l, lock_s, bind_nm, wipe_n, wipe_c, back_n, back_c, cR_ok, ev_comp_1e, ev_comp, List.getElem?_cons_zero, List.getElem?_cons_succ, List.set_cons_zero, List.set_cons_succ, Option.map_some, if_true, Nat.reduceEqDiff, reduceIte], .val (.bl (inR x)), ?_, by simp -implicitDefEqProofs only [ok_bind, ok_then, opt_some, seq_nx, seq_rt, seq_bk, seq_ct, rdV_v, rdV_o, ev_var, ev_cst, ev_glo, k2_s, ev_bin_2e, ev_bin_1e, ev_bin, negT_i, ev_neg_1e, ev_neg, notT_b, ev_not_1e, ev_not, ev_and, ev_or, ev_cmp_2e, ev_cmp_1e, ev_cmp, chB_t_1e, chB_t, chB_f, chA_s, ev_chain_2e, ev_chain_1e, ev_chain, k1_s, ev_isN_1e, ev_isN, ev_notN_1e, ev_notN, ev_isi_1e, ev_isi, iteK_t, iteK_f, ev_ite_1e, ev_ite, ev_tup_1e, ev_tup, ev_lst_1e, ev_lst, ev_dct0, ev_sub_2e, ev_sub_1e, ev_sub, ev_slc_3e, ev_slc_2e, ev_slc_1e, ev_slc, optE_abs, optE_f_1e, optE_f, ev_rev_1e, ev_rev, ev_call_1e, ev_call, ev_lrng_1e, ev_lrng, kl_s, ev_bi_1e, ev_bi, bs_nil, consO_s, bs_cons, muR_s, mutK_i, mutK_l, mutG_o_1e, mutG_o, ev_mut, evF_nil, fzK_s_1e, fzK_s, evF_cons_1e, evF_cons, evA_nil, evA_cons_2e, evA_cons_1e, evA_cons, evAnd_1, evAnd_2_1e, evAnd_2, evOr_1, evOr_2_1e, evOr_2, evC_nil, bK_t, bK_f, evC_cons_1e, evC_cons, evIt_rng_1e, evIt_rng, lkK_s, evIt_e_1e, evIt_e, putK_s, ss_asg_1e, ss_asg, ss_par_2e, ss_par_1e, ss_par, stS_o_1e, stS_o, stK_s, ss_setIx_1e, ss_setIx, ss_exp_1e, ss_exp, ss_ret_1e, ss_ret, ss_retN, oK_t, oK_f, ss_iff_1e, ss_iff, ss_for_1e, ss_for, ss_while, ss_pass, ss_brk, ss_cont, sss_nil, sss_cons, b_val, b_own, slD_o, slD_v, b_slot, fz_val, fz_own, weak_val, weak_own, weak_slot, v_val, asBl_b, optI_i, add_ii, sub_ii, lt_ii, le_ii, gt_ii, ge_ii, eq_dd, ne_dd, sub_li, sub_ti, sub_si, slc_l, slc_t, bi_len, bi_abs, bi_max, bi_min, bi_int, bi_list, bi_tuple, bi_sum, bi_all, bi_any, bi_sorted, bi_str, len_s, len_l, len_t, abs_i, max_ii, min_ii, int_i, int_b, list_l, list_t, tuple_l, tuple_t, saR_s, saK_i, saK_l, setAt_v, consM_s, outs_t, outs_f, outs_n, endK_s, end_rt, end_nx, rt_v, rt_o, rtS_l, rt_s, frB_n, frB_v, frB_l, free_eq, putT_v, putT_o, par_vv, par_oo, par_ov, par_vo, eqD_ii, eqD_bb, args_n, args_f, ioA_i, ioA_l, args_t, ios_n, ios_f, ios_t, leS_o, leS_v, lent_n, lent_fv, lent_fs, lent_t, cK_s, ret_t, ret_f, callC_n, callR_eq, callA_0, callA_1, po_n, poK_o, po_c, wB_nx, wB_ct, wB_bk, wB_rt, wK_t, wK_f, while_s_1e, fB_nx, fB_ct, fB_bk, fB_rt, fK_s, unl_nx, unl_rt, unlock_n, unK_o, unlock_s, lock_vl, lock_vt, lock_ol, lkS_l, lock_s, bind_nm, wipe_n, wipe_c, back_n, back_c, cR_ok, ev_comp_1e, ev_comp, List.getElem?_cons_zero, List.getElem?_cons_succ, List.set_cons_zero, List.set_cons_succ, Option.map_some, if_true, Nat.reduceEqDiff, reduceIte]⟩
      simp -implicitDefEqProofs only [ok_bind, ok_then, opt_some, seq_nx, seq_rt, seq_bk, seq_ct, rdV_v, rdV_o, ev_var, ev_cst, ev_glo, k2_s, ev_bin_2e, ev_bin_1e, ev_bin, negT_i, ev_neg_1e, ev_neg, notT_b, ev_not_1e, ev_not, ev_and, ev_or, ev_cmp_2e, ev_cmp_1e, ev_cmp, chB_t_1e, chB_t, chB_f, chA_s, ev_chain_2e, ev_chain_1e, ev_chain, k1_s, ev_isN_1e, ev_isN, ev_notN_1e, ev_notN, ev_isi_1e, ev_isi, iteK_t, iteK_f, ev_ite_1e, ev_ite, ev_tup_1e, ev_tup, ev_lst_1e, ev_lst, ev_dct0, ev_sub_2e, ev_sub_1e, ev_sub, ev_slc_3e, ev_slc_2e, ev_slc_1e, ev_slc, optE_abs, optE_f_1e, optE_f, ev_rev_1e, ev_rev, ev_call_1e, ev_call, ev_lrng_1e, ev_lrng, kl_s, ev_bi_1e, ev_bi, bs_nil, consO_s, bs_cons, muR_s, mutK_i, mutK_l, mutG_o_1e, mutG_o, ev_mut, evF_nil, fzK_s_1e, fzK_s, evF_cons_1e, evF_cons, evA_nil, evA_cons_2e, evA_cons_1e, evA_cons, evAnd_1, evAnd_2_1e, evAnd_2, evOr_1, evOr_2_1e, evOr_2, evC_nil, bK_t, bK_f, evC_cons_1e, evC_cons, evIt_rng_1e, evIt_rng, lkK_s, evIt_e_1e, evIt_e, putK_s, ss_asg_1e, ss_asg, ss_par_2e, ss_par_1e, ss_par, stS_o_1e, stS_o, stK_s, ss_setIx_1e, ss_setIx, ss_exp_1e, ss_exp, ss_ret_1e, ss_ret, ss_retN, oK_t, oK_f, ss_iff_1e, ss_iff, ss_for_1e, ss_for, ss_while, ss_pass, ss_brk, ss_cont, sss_nil, sss_cons, b_val, b_own, slD_o, slD_v, b_slot, fz_val, fz_own, weak_val, weak_own, weak_slot, v_val, asBl_b, optI_i, add_ii, sub_ii, lt_ii, le_ii, gt_ii, ge_ii, eq_dd, ne_dd, sub_li, sub_ti, sub_si, slc_l, slc_t, bi_len, bi_abs, bi_max, bi_min, bi_int, bi_list, bi_tuple, bi_sum, bi_all, bi_any, bi_sorted, bi_str, len_s, len_l, len_t, abs_i, max_ii, min_ii, int_i, int_b, list_l, list_t, tuple_l, tuple_t, saR_s, saK_i, saK_l, setAt_v, consM_s, outs_t, outs_f, outs_n, endK_s, end_rt, end_nx, rt_v, rt_o, rtS_l, rt_s, frB_n, frB_v, frB_l, free_eq, putT_v, putT_o, par_vv, par_oo, par_ov, par_vo, eqD_ii, eqD_bb, args_n, args_f, ioA_i, ioA_l, args_t, ios_n, ios_f, ios_t, leS_o, leS_v, lent_n, lent_fv, lent_fs, lent_t, cK_s, ret_t, ret_f, callC_n, callR_eq, callA_0, callA_1, po_n, poK_o, po_c, wB_nx, wB_ct, wB_bk, wB_rt, wK_t, wK_f, while_s_1e, fB_nx, fB_ct, fB_bk, fB_rt, fK_s, unl_nx, unl_rt, unlock_n, unK_o, unlock_s, lock_vl, lock_vt, lock_ol, lkS_l, lock_s, bind_nm, wipe_n, wipe_c, back_n, back_c, cR_ok, ev_comp_1e, ev_comp, List.getElem?_cons_zero, List.getElem?_cons_succ, List.set_cons_zero, List.set_cons_succ, Option.map_some, if_true, Nat.reduceEqDiff, reduceIte, i0, from_ok k (hx x hxx)]
    have ea : all1D (.lst (xs.map fun x => .bl (inR x))) = some (.val (.bl (xs.all inR))) := by
      have := all_b (xs.map inR)
      rw [List.map_map, List.all_map] at this
      exact this
    by_cases hr : xs.all inR = true
    rotate_left
    · have hr' : xs.all inR = false := by simpa using hr
      simp -implicitDefEqProofs only [dis_ring_in, ok_bind, ok_then, opt_some, seq_nx, seq_rt, seq_bk, seq_ct, rdV_v, rdV_o, ev_var, ev_cst, ev_glo, k2_s, ev_bin_2e, ev_bin_1e, ev_bin, negT_i, ev_neg_1e, ev_neg, notT_b, ev_not_1e, ev_not, ev_and, ev_or, ev_cmp_2e, ev_cmp_1e, ev_cmp, chB_t_1e, chB_t, chB_f, chA_s, ev_chain_2e, ev_chain_1e, ev_chain, k1_s, ev_isN_1e, ev_isN, ev_notN_1e, ev_notN, ev_isi_1e, ev_isi, iteK_t, iteK_f, ev_ite_1e, ev_ite, ev_tup_1e, ev_tup, ev_lst_1e, ev_lst, ev_dct0, ev_sub_2e, ev_sub_1e, ev_sub, ev_slc_3e, ev_slc_2e, ev_slc_1e, ev_slc, optE_abs, optE_f_1e, optE_f, ev_rev_1e, ev_rev, ev_call_1e, ev_call, ev_lrng_1e, ev_lrng, kl_s, ev_bi_1e, ev_bi, bs_nil, consO_s, bs_cons, muR_s, mutK_i, mutK_l, mutG_o_1e, mutG_o, ev_mut, evF_nil, fzK_s_1e, fzK_s, evF_cons_1e, evF_cons, evA_nil, evA_cons_2e, evA_cons_1e, evA_cons, evAnd_1, evAnd_2_1e, evAnd_2, evOr_1, evOr_2_1e, evOr_2, evC_nil, bK_t, bK_f, evC_cons_1e, evC_cons, evIt_rng_1e, evIt_rng, lkK_s, evIt_e_1e, evIt_e, putK_s, ss_asg_1e, ss_asg, ss_par_2e, ss_par_1e, ss_par, stS_o_1e, stS_o, stK_s, ss_setIx_1e, ss_setIx, ss_exp_1e, ss_exp, ss_ret_1e, ss_ret, ss_retN, oK_t, oK_f, ss_iff_1e, ss_iff, ss_for_1e, ss_for, ss_while, ss_pass, ss_brk, ss_cont, sss_nil, sss_cons, b_val, b_own, slD_o, slD_v, b_slot, fz_val, fz_own, weak_val, weak_own, weak_slot, v_val, asBl_b, optI_i, add_ii, sub_ii, lt_ii, le_ii, gt_ii, ge_ii, eq_dd, ne_dd, sub_li, sub_ti, sub_si, slc_l, slc_t, bi_len, bi_abs, bi_max, bi_min, bi_int, bi_list, bi_tuple, bi_sum, bi_all, bi_any, bi_sorted, bi_str, len_s, len_l, len_t, abs_i, max_ii, min_ii, int_i, int_b, list_l, list_t, tuple_l, tuple_t, saR_s, saK_i, saK_l, setAt_v, consM_s, outs_t, outs_f, outs_n, endK_s, end_rt, end_nx, rt_v, rt_o, rtS_l, rt_s, frB_n, frB_v, frB_l, free_eq, putT_v, putT_o, par_vv, par_oo, par_ov, par_vo, eqD_ii, eqD_bb, args_n, args_f, ioA_i, ioA_l, args_t, ios_n, ios_f, ios_t, leS_o, leS_v, lent_n, lent_fv, lent_fs, lent_t, cK_s, ret_t, ret_f, callC_n, callR_eq, callA_0, callA_1, po_n, poK_o, po_c, wB_nx, wB_ct, wB_bk, wB_rt, wK_t, wK_f, while_s_1e, fB_nx, fB_ct, fB_bk, fB_rt, fK_s, unl_nx, unl_rt, unlock_n, unK_o, unlock_s, lock_vl, lock_vt, lock_ol, lkS_l, lock_s, bind_nm, wipe_n, wipe_c, back_n, back_c, cR_ok, ev_comp_1e, ev_comp, List.getElem?_cons_zero, List.getElem?_cons_succ, List.set_cons_zero, List.set_cons_succ, Option.map_some, if_true, Nat.reduceEqDiff, reduceIte, ty_tup hv, isT, Bool.not_true, Bool.not_false, q1, decide_eq_true h2, mul_ii q5, q2, decide_eq_true h20, q3, q4, decide_eq_true he, Bool.true_and, List.all_cons, List.all_nil, notOwn, Bool.and_true, cm, ea, hr', Bool.false_and, List.getD_cons_succ, List.getD_cons_zero, unlock_n]
    · obtain ⟨ns, rfl⟩ := of_isI (xs := xs) (List.all_eq_true.mpr fun x hx => inR_isI (List.all_eq_true.mp hr x hx))
      have hrg : rngD [.int ((ns.map D.int).length : Int)] = some ((rngI (ns.map D.int).length).map .int) := rng_1 (by omega)
      have cm2 : compLoop [1] (.nm 1) (evC (ioOf tab) (phi tab (k + 1)) .nil) (ev (ioOf tab) (phi tab (k + 1)) (.bin .FloorDiv (.var 1) (.glo "PAIR" (.int 2)))) ((rngI (ns.map D.int).length).map .int) [] [.val (.tup (ns.map .int)), .no, .no] = .ok (((rngI (ns.map D.int).length).map D.int).map halfD) [.val (.tup (ns.map .int)), .no, .no] := by
        refine comp_map (by rw [List.length_map, rngI_length]; omega) fun x hxx => ?_
        obtain ⟨i, hi, rfl⟩ := List.mem_map.mp hxx
        have dv : binD .FloorDiv (.int i) (.int 2) = some (.val (.int (i / 2))) := div_ii (by decide)
        exact ⟨[.val (.tup (ns.map .int)), .val (.int i), .no], by simp -implicitDefEqProofs only [ok_bind, ok_then, opt_some, seq_nx, seq_rt, seq_bk, seq_ct, rdV_v, rdV_o, ev_var, ev_cst, ev_glo, k2_s, ev_bin_2e, ev_bin_1e, ev_bin, negT_i, ev_neg_1e, ev_neg, notT_b, ev_not_1e, ev_not, ev_and, ev_or, ev_cmp_2e, ev_cmp_1e, ev_cmp, chB_t_1e, chB_t, chB_f, chA_s, ev_chain_2e, ev_chain_1e, ev_chain, k1_s, ev_isN_1e, ev_isN, ev_notN_1e, ev_notN, ev_isi_1e, ev_isi, iteK_t, iteK_f, ev_ite_1e, ev_ite, ev_tup_1e, ev_tup, ev_lst_1e, ev_lst, ev_dct0, ev_sub_2e, ev_sub_1e, ev_sub, ev_slc_3e, ev_slc_2e, ev_slc_1e, ev_slc, optE_abs, optE_f_1e, optE_f, ev_rev_1e, ev_rev, ev_call_1e, ev_call, ev_lrng_1e, ev_lrng, kl_s, ev_bi_1e, ev_bi, bs_nil, consO_s, bs_cons, muR_s, mutK_i, mutK_l, mutG_o_1e, mutG_o, ev_mut, evF_nil, fzK_s_1e, fzK_s, evF_cons_1e, evF_cons, evA_nil, evA_cons_2e, evA_cons_1e, evA_cons, evAnd_1, evAnd_2_1e, evAnd_2, evOr_1, evOr_2_1e, evOr_2, evC_nil, bK_t, bK_f, evC_cons_1e, evC_cons, evIt_rng_1e, evIt_rng, lkK_s, evIt_e_1e, evIt_e, putK_s, ss_asg_1e, ss_asg, ss_par_2e, ss_par_1e, ss_par, stS_o_1e, stS_o, stK_s, ss_setIx_1e, ss_setIx, ss_exp_1e, ss_exp, ss_ret_1e, ss_ret, ss_retN, oK_t, oK_f, ss_iff_1e, ss_iff, ss_for_1e, ss_for, ss_while, ss_pass, ss_brk, ss_cont, sss_nil, sss_cons, b_val, b_own, slD_o, slD_v, b_slot, fz_val, fz_own, weak_val, weak_own, weak_slot, v_val, asBl_b, optI_i, add_ii, sub_ii, lt_ii, le_ii, gt_ii, ge_ii, eq_dd, ne_dd, sub_li, sub_ti, sub_si, slc_l, slc_t, bi_len, bi_abs, bi_max, bi_min, bi_int, bi_list, bi_tuple, bi_sum, bi_all, bi_any, bi_sorted, bi_str, len_s, len_l, len_t, abs_i, max_ii, min_ii, int_i, int_b, list_l, list_t, tuple_l, tuple_t, saR_s, saK_i, saK_l, setAt_v, consM_s, outs_t, outs_f, outs_n, endK_s, end_rt, end_nx, rt_v, rt_o, rtS_l, rt_s, frB_n, frB_v, frB_l, free_eq, putT_v, putT_o, par_vv, par_oo, par_ov, par_vo, eqD_ii, eqD_bb, args_n, args_f, ioA_i, ioA_l, args_t, ios_n, ios_f, ios_t, leS_o, leS_v, lent_n, lent_fv, lent_fs, lent_t, cK_s, ret_t, ret_f, callC_n, callR_eq, callA_0, callA_1, po_n, poK_o, po_c, wB_nx, wB_ct, wB_bk, wB_rt, wK_t, wK_f, while_s_1e, fB_nx, fB_ct, fB_bk, fB_rt, fK_s, unl_nx, unl_rt, unlock_n, unK_o, unlock_s, lock_vl, lock_vt, lock_ol, lkS_l, lock_s, bind_nm, wipe_n, wipe_c, back_n, back_c, cR_ok, ev_comp_1e, ev_comp, List.getElem?_cons_zero, List.getElem?_cons_succ, List.set_cons_zero, List.set_cons_succ, Option.map_some, if_true, Nat.reduceEqDiff, reduceIte], by simp -implicitDefEqProofs only [ok_bind, ok_then, opt_some, seq_nx, seq_rt, seq_bk, seq_ct, rdV_v, rdV_o, ev_var, ev_cst, ev_glo, k2_s, ev_bin_2e, ev_bin_1e, ev_bin, negT_i, ev_neg_1e, ev_neg, notT_b, ev_not_1e, ev_not, ev_and, ev_or, ev_cmp_2e, ev_cmp_1e, ev_cmp, chB_t_1e, chB_t, chB_f, chA_s, ev_chain_2e, ev_chain_1e, ev_chain, k1_s, ev_isN_1e, ev_isN, ev_notN_1e, ev_notN, ev_isi_1e, ev_isi, iteK_t, iteK_f, ev_ite_1e, ev_ite, ev_tup_1e, ev_tup, ev_lst_1e, ev_lst, ev_dct0, ev_sub_2e, ev_sub_1e, ev_sub, ev_slc_3e, ev_slc_2e, ev_slc_1e, ev_slc, optE_abs, optE_f_1e, optE_f, ev_rev_1e, ev_rev, ev_call_1e, ev_call, ev_lrng_1e, ev_lrng, kl_s, ev_bi_1e, ev_bi, bs_nil, consO_s, bs_cons, muR_s, mutK_i, mutK_l, mutG_o_1e, mutG_o, ev_mut, evF_nil, fzK_s_1e, fzK_s, evF_cons_1e, evF_cons, evA_nil, evA_cons_2e, evA_cons_1e, evA_cons, evAnd_1, evAnd_2_1e, evAnd_2, evOr_1, evOr_2_1e, evOr_2, evC_nil, bK_t, bK_f, evC_cons_1e, evC_cons, evIt_rng_1e, evIt_rng, lkK_s, evIt_e_1e, evIt_e, putK_s, ss_asg_1e, ss_asg, ss_par_2e, ss_par_1e, ss_par, stS_o_1e, stS_o, stK_s, ss_setIx_1e, ss_setIx, ss_exp_1e, ss_exp, ss_ret_1e, ss_ret, ss_retN, oK_t, oK_f, ss_iff_1e, ss_iff, ss_for_1e, ss_for, ss_while, ss_pass, ss_brk, ss_cont, sss_nil, sss_cons, b_val, b_own, slD_o, slD_v, b_slot, fz_val, fz_own, weak_val, weak_own, weak_slot, v_val, asBl_b, optI_i, add_ii, sub_ii, lt_ii, le_ii, gt_ii, ge_ii, eq_dd, ne_dd, sub_li, sub_ti, sub_si, slc_l, slc_t, bi_len, bi_abs, bi_max, bi_min, bi_int, bi_list, bi_tuple, bi_sum, bi_all, bi_any, bi_sorted, bi_str, len_s, len_l, len_t, abs_i, max_ii, min_ii, int_i, int_b, list_l, list_t, tuple_l, tuple_t, saR_s, saK_i, saK_l, setAt_v, consM_s, outs_t, outs_f, outs_n, endK_s, end_rt, end_nx, rt_v, rt_o, rtS_l, rt_s, frB_n, frB_v, frB_l, free_eq, putT_v, putT_o, par_vv, par_oo, par_ov, par_vo, eqD_ii, eqD_bb, args_n, args_f, ioA_i, ioA_l, args_t, ios_n, ios_f, ios_t, leS_o, leS_v, lent_n, lent_fv, lent_fs, lent_t, cK_s, ret_t, ret_f, callC_n, callR_eq, callA_0, callA_1, po_n, poK_o, po_c, wB_nx, wB_ct, wB_bk, wB_rt, wK_t, wK_f, while_s_1e, fB_nx, fB_ct, fB_bk, fB_rt, fK_s, unl_nx, unl_rt, unlock_n, unK_o, unlock_s, lock_vl, lock_vt, lock_ol, lkS_l, lock_s, bind_nm, wipe_n, wipe_c, back_n, back_c, cR_ok, ev_comp_1e, ev_comp, List.getElem?_cons_zero, List.getElem?_cons_succ, List.set_cons_zero, List.set_cons_succ, Option.map_some, if_true, Nat.reduceEqDiff, reduceIte], .val (.int (i / 2)), by simp -implicitDefEqProofs only [ok_bind, ok_then, opt_some, seq_nx, seq_rt, seq_bk, seq_ct, rdV_v, rdV_o, ev_var, ev_cst, ev_glo, k2_s, ev_bin_2e, ev_bin_1e, ev_bin, negT_i, ev_neg_1e, ev_neg, notT_b, ev_not_1e, ev_not, ev_and, ev_or, ev_cmp_2e, ev_cmp_1e, ev_cmp, chB_t_1e, chB_t, chB_f, chA_s, ev_chain_2e, ev_chain_1e, ev_chain, k1_s, ev_isN_1e, ev_isN, ev_notN_1e, ev_notN, ev_isi_1e, ev_isi, iteK_t, iteK_f, ev_ite_1e, ev_ite, ev_tup_1e, ev_tup, ev_lst_1e, ev_lst, ev_dct0, ev_sub_2e, ev_sub_1e, ev_sub, ev_slc_3e, ev_slc_2e, ev_slc_1e, ev_slc, optE_abs, optE_f_1e, optE_f, ev_rev_1e, ev_rev, ev_call_1e, ev_call, ev_lrng_1e, ev_lrng, kl_s, ev_bi_1e, ev_bi, bs_nil, consO_s, bs_cons, muR_s, mutK_i, mutK_l, mutG_o_1e, mutG_o, ev_mut, evF_nil, fzK_s_1e, fzK_s, evF_cons_1e, evF_cons, evA_nil, evA_cons_2e, evA_cons_1e, evA_cons, evAnd_1, evAnd_2_1e, evAnd_2, evOr_1, evOr_2_1e, evOr_2, evC_nil, bK_t, bK_f, evC_cons_1e, evC_cons, evIt_rng_1e, evIt_rng, lkK_s, evIt_e_1e, evIt_e, putK_s, ss_asg_1e, ss_asg, ss_par_2e, ss_par_1e, ss_par, stS_o_1e, stS_o, stK_s, ss_setIx_1e, ss_setIx, ss_exp_1e, ss_exp, ss_ret_1e, ss_ret, ss_retN, oK_t, oK_f, ss_iff_1e, ss_iff, ss_for_1e, ss_for, ss_while, ss_pass, ss_brk, ss_cont, sss_nil, sss_cons, b_val, b_own, slD_o, slD_v, b_slot, fz_val, fz_own, weak_val, weak_own, weak_slot, v_val, asBl_b, optI_i, add_ii, sub_ii, lt_ii, le_ii, gt_ii, ge_ii, eq_dd, ne_dd, sub_li, sub_ti, sub_si, slc_l, slc_t, bi_len, bi_abs, bi_max, bi_min, bi_int, bi_list, bi_tuple, bi_sum, bi_all, bi_any, bi_sorted, bi_str, len_s, len_l, len_t, abs_i, max_ii, min_ii, int_i, int_b, list_l, list_t, tuple_l, tuple_t, saR_s, saK_i, saK_l, setAt_v, consM_s, outs_t, outs_f, outs_n, endK_s, end_rt, end_nx, rt_v, rt_o, rtS_l, rt_s, frB_n, frB_v, frB_l, free_eq, putT_v, putT_o, par_vv, par_oo, par_ov, par_vo, eqD_ii, eqD_bb, args_n, args_f, ioA_i, ioA_l, args_t, ios_n, ios_f, ios_t, leS_o, leS_v, lent_n, lent_fv, lent_fs, lent_t, cK_s, ret_t, ret_f, callC_n, callR_eq, callA_0, callA_1, po_n, poK_o, po_c, wB_nx, wB_ct, wB_bk, wB_rt, wK_t, wK_f, while_s_1e, fB_nx, fB_ct, fB_bk, fB_rt, fK_s, unl_nx, unl_rt, unlock_n, unK_o, unlock_s, lock_vl, lock_vt, lock_ol, lkS_l, lock_s, bind_nm, wipe_n, wipe_c, back_n, back_c, cR_ok, ev_comp_1e, ev_comp, List.getElem?_cons_zero, List.getElem?_cons_succ, List.set_cons_zero, List.set_cons_succ, Option.map_some, if_true, Nat.reduceEqDiff, reduceIte, dv], by simp -implicitDefEqProofs only [ok_bind, ok_then, opt_some, seq_nx, seq_rt, seq_bk, seq_ct, rdV_v, rdV_o, ev_var, ev_cst, ev_glo, k2_s, ev_bin_2e, ev_bin_1e, ev_bin, negT_i, ev_neg_1e, ev_neg, notT_b, ev_not_1e, ev_not, ev_and, ev_or, ev_cmp_2e, ev_cmp_1e, ev_cmp, chB_t_1e, chB_t, chB_f, chA_s, ev_chain_2e, ev_chain_1e, ev_chain, k1_s, ev_isN_1e, ev_isN, ev_notN_1e, ev_notN, ev_isi_1e, ev_isi, iteK_t, iteK_f, ev_ite_1e, ev_ite, ev_tup_1e, ev_tup, ev_lst_1e, ev_lst, ev_dct0, ev_sub_2e, ev_sub_1e, ev_sub, ev_slc_3e, ev_slc_2e, ev_slc_1e, ev_slc, optE_abs, optE_f_1e, optE_f, ev_rev_1e, ev_rev, ev_call_1e, ev_call, ev_lrng_1e, ev_lrng, kl_s, ev_bi_1e, ev_bi, bs_nil, consO_s, bs_cons, muR_s, mutK_i, mutK_l, mutG_o_1e, mutG_o, ev_mut, evF_nil, fzK_s_1e, fzK_s, evF_cons_1e, evF_cons, evA_nil, evA_cons_2e, evA_cons_1e, evA_cons, evAnd_1, evAnd_2_1e, evAnd_2, evOr_1, evOr_2_1e, evOr_2, evC_nil, bK_t, bK_f, evC_cons_1e, evC_cons, evIt_rng_1e, evIt_rng, lkK_s, evIt_e_1e, evIt_e, putK_s, ss_asg_1e, ss_asg, ss_par_2e, ss_par_1e, ss_par, stS_o_1e, stS_o, stK_s, ss_setIx_1e, ss_setIx, ss_exp_1e, ss_exp, ss_ret_1e, ss_ret, ss_retN, oK_t, oK_f, ss_iff_1e, ss_iff, ss_for_1e, ss_for, ss_while, ss_pass, ss_brk, ss_cont, sss_nil, sss_cons, b_val, b_own, slD_o, slD_v, b_slot, fz_val, fz_own, weak_val, weak_own, weak_slot, v_val, asBl_b, optI_i, add_ii, sub_ii, lt_ii, le_ii, gt_ii, ge_ii, eq_dd, ne_dd, sub_li, sub_ti, sub_si, slc_l, slc_t, bi_len, bi_abs, bi_max, bi_min, bi_int, bi_list, bi_tuple, bi_sum, bi_all, bi_any, bi_sorted, bi_str, len_s, len_l, len_t, abs_i, max_ii, min_ii, int_i, int_b, list_l, list_t, tuple_l, tuple_t, saR_s, saK_i, saK_l, setAt_v, consM_s, outs_t, outs_f, outs_n, endK_s, end_rt, end_nx, rt_v, rt_o, rtS_l, rt_s, frB_n, frB_v, frB_l, free_eq, putT_v, putT_o, par_vv, par_oo, par_ov, par_vo, eqD_ii, eqD_bb, args_n, args_f, ioA_i, ioA_l, args_t, ios_n, ios_f, ios_t, leS_o, leS_v, lent_n, lent_fv, lent_fs, lent_t, cK_s, ret_t, ret_f, callC_n, callR_eq, callA_0, callA_1, po_n, poK_o, po_c, wB_nx, wB_ct, wB_bk, wB_rt, wK_t, wK_f, while_s_1e, fB_nx, fB_ct, fB_bk, fB_rt, fK_s, unl_nx, unl_rt, unlock_n, unK_o, unlock_s, lock_vl, lock_vt, lock_ol, lkS_l, lock_s, bind_nm, wipe_n, wipe_c, back_n, back_c, cR_ok, ev_comp_1e, ev_comp, List.getElem?_cons_zero, List.getElem?_cons_succ, List.set_cons_zero, List.set_cons_succ, Option.map_some, if_true, Nat.reduceEqDiff, reduceIte, halfD]⟩
      have eh : (((rngI (ns.map D.int).length).map D.int).map halfD) = (halves (ns.map D.int).length).map D.int := by
        unfold rngI halves
        rw [List.map_map, List.map_map, List.map_map]
        apply List.map_congr_left
        intro j _
        show D.int ((j : Int) / 2) = D.int (((j / 2 : Nat) : Int))
        congr 1
      rw [eh] at cm2
      simp -implicitDefEqProofs only [dis_ring_in, ok_bind, ok_then, opt_some, seq_nx, seq_rt, seq_bk, seq_ct, rdV_v, rdV_o, ev_var, ev_cst, ev_glo, k2_s, ev_bin_2e, ev_bin_1e, ev_bin, negT_i, ev_neg_1e, ev_neg, notT_b, ev_not_1e, ev_not, ev_and, ev_or, ev_cmp_2e, ev_cmp_1e, ev_cmp, chB_t_1e, chB_t, chB_f, chA_s, ev_chain_2e, ev_chain_1e, ev_chain, k1_s, ev_isN_1e, ev_isN, ev_notN_1e, ev_notN, ev_isi_1e, ev_isi, iteK_t, iteK_f, ev_ite_1e, ev_ite, ev_tup_1e, ev_tup, ev_lst_1e, ev_lst, ev_dct0, ev_sub_2e, ev_sub_1e, ev_sub, ev_slc_3e, ev_slc_2e, ev_slc_1e, ev_slc, optE_abs, optE_f_1e, optE_f, ev_rev_1e, ev_rev, ev_call_1e, ev_call, ev_lrng_1e, ev_lrng, kl_s, ev_bi_1e, ev_bi, bs_nil, consO_s, bs_cons, muR_s, mutK_i, mutK_l, mutG_o_1e, mutG_o, ev_mut, evF_nil, fzK_s_1e, fzK_s, evF_cons_1e, evF_cons, evA_nil, evA_cons_2e, evA_cons_1e, evA_cons, evAnd_1, evAnd_2_1e, evAnd_2, evOr_1, evOr_2_1e, evOr_2, evC_nil, bK_t, bK_f, evC_cons_1e, evC_cons, evIt_rng_1e, evIt_rng, lkK_s, evIt_e_1e, evIt_e, putK_s, ss_asg_1e, ss_asg, ss_par_2e, ss_par_1e, ss_par, stS_o_1e, stS_o, stK_s, ss_setIx_1e, ss_setIx, ss_exp_1e, ss_exp, ss_ret_1e, ss_ret, ss_retN, oK_t, oK_f, ss_iff_1e, ss_iff, ss_for_1e, ss_for, ss_while, ss_pass, ss_brk, ss_cont, sss_nil, sss_cons, b_val, b_own, slD_o, slD_v, b_slot, fz_val, fz_own, weak_val, weak_own, weak_slot, v_val, asBl_b, optI_i, add_ii, sub_ii, lt_ii, le_ii, gt_ii, ge_ii, eq_dd, ne_dd, sub_li, sub_ti, sub_si, slc_l, slc_t, bi_len, bi_abs, bi_max, bi_min, bi_int, bi_list, bi_tuple, bi_sum, bi_all, bi_any, bi_sorted, bi_str, len_s, len_l, len_t, abs_i, max_ii, min_ii, int_i, int_b, list_l, list_t, tuple_l, tuple_t, saR_s, saK_i, saK_l, setAt_v, consM_s, outs_t, outs_f, outs_n, endK_s, end_rt, end_nx, rt_v, rt_o, rtS_l, rt_s, frB_n, frB_v, frB_l, free_eq, putT_v, putT_o, par_vv, par_oo, par_ov, par_vo, eqD_ii, eqD_bb, args_n, args_f, ioA_i, ioA_l, args_t, ios_n, ios_f, ios_t, leS_o, leS_v, lent_n, lent_fv, lent_fs, lent_t, cK_s, ret_t, ret_f, callC_n, callR_eq, callA_0, callA_1, po_n, poK_o, po_c, wB_nx, wB_ct, wB_bk, wB_rt, wK_t, wK_f, while_s_1e, fB_nx, fB_ct, fB_bk, fB_rt, fK_s, unl_nx, unl_rt, unlock_n, unK_o, unlock_s, lock_vl, lock_vt, lock_ol, lkS_l, lock_s, bind_nm, wipe_n, wipe_c, back_n, back_c, cR_ok, ev_comp_1e, ev_comp, List.getElem?_cons_zero, List.getElem?_cons_succ, List.set_cons_zero, List.set_cons_succ, Option.map_some, if_true, Nat.reduceEqDiff, reduceIte, ty_tup hv, isT, Bool.not_true, Bool.not_false, q1, decide_eq_true h2, mul_ii q5, q2, decide_eq_true h20, q3, q4, decide_eq_true he, Bool.true_and, List.all_cons, List.all_nil, notOwn, Bool.and_true, cm, ea, hr, hrg, cm2, sorted_t, eqD_lints, List.getD_cons_succ, List.getD_cons_zero]
      rw [intL_map]
  | ins _ _ => cases hv
  | fn _ => cases hv
  | scr _ => cases hv
  | _ => simp -implicitDefEqProofs only [dis_ring_in, ok_bind, ok_then, opt_some, seq_nx, seq_rt, seq_bk, seq_ct, rdV_v, rdV_o, ev_var, ev_cst, ev_glo, k2_s, ev_bin_2e, ev_bin_1e, ev_bin, negT_i, ev_neg_1e, ev_neg, notT_b, ev_not_1e, ev_not, ev_and, ev_or, ev_cmp_2e, ev_cmp_1e, ev_cmp, chB_t_1e, chB_t, chB_f, chA_s, ev_chain_2e, ev_chain_1e, ev_chain, k1_s, ev_isN_1e, ev_isN, ev_notN_1e, ev_notN, ev_isi_1e, ev_isi, iteK_t, iteK_f, ev_ite_1e, ev_ite, ev_tup_1e, ev_tup, ev_lst_1e, ev_lst, ev_dct0, ev_sub_2e, ev_sub_1e, ev_sub, ev_slc_3e, ev_slc_2e, ev_slc_1e, ev_slc, optE_abs, optE_f_1e, optE_f, ev_rev_1e, ev_rev, ev_call_1e, ev_call, ev_lrng_1e, ev_lrng, kl_s, ev_bi_1e, ev_bi, bs_nil, consO_s, bs_cons, muR_s, mutK_i, mutK_l, mutG_o_1e, mutG_o, ev_mut, evF_nil, fzK_s_1e, fzK_s, evF_cons_1e, evF_cons, evA_nil, evA_cons_2e, evA_cons_1e, evA_cons, evAnd_1, evAnd_2_1e, evAnd_2, evOr_1, evOr_2_1e, evOr_2, evC_nil, bK_t, bK_f, evC_cons_1e, evC_cons, evIt_rng_1e, evIt_rng, lkK_s, evIt_e_1e, evIt_e, putK_s, ss_asg_1e, ss_asg, ss_par_2e, ss_par_1e, ss_par, stS_o_1e, stS_o, stK_s, ss_setIx_1e, ss_setIx, ss_exp_1e, ss_exp, ss_ret_1e, ss_ret, ss_retN, oK_t, oK_f, ss_iff_1e, ss_iff, ss_for_1e, ss_for, ss_while, ss_pass, ss_brk, ss_cont, sss_nil, sss_cons, b_val, b_own, slD_o, slD_v, b_slot, fz_val, fz_own, weak_val, weak_own, weak_slot, v_val, asBl_b, optI_i, add_ii, sub_ii, lt_ii, le_ii, gt_ii, ge_ii, eq_dd, ne_dd, sub_li, sub_ti, sub_si, slc_l, slc_t, bi_len, bi_abs, bi_max, bi_min, bi_int, bi_list, bi_tuple, bi_sum, bi_all, bi_any, bi_sorted, bi_str, len_s, len_l, len_t, abs_i, max_ii, min_ii, int_i, int_b, list_l, list_t, tuple_l, tuple_t, saR_s, saK_i, saK_l, setAt_v, consM_s, outs_t, outs_f, outs_n, endK_s, end_rt, end_nx, rt_v, rt_o, rtS_l, rt_s, frB_n, frB_v, frB_l, free_eq, putT_v, putT_o, par_vv, par_oo, par_ov, par_vo, eqD_ii, eqD_bb, args_n, args_f, ioA_i, ioA_l, args_t, ios_n, ios_f, ios_t, leS_o, leS_v, lent_n, lent_fv, lent_fs, lent_t, cK_s, ret_t, ret_f, callC_n, callR_eq, callA_0, callA_1, po_n, poK_o, po_c, wB_nx, wB_ct, wB_bk, wB_rt, wK_t, wK_f, while_s_1e, fB_nx, fB_ct, fB_bk, fB_rt, fK_s, unl_nx, unl_rt, unlock_n, unK_o, unlock_s, lock_vl, lock_vt, lock_ol, lkS_l, lock_s, bind_nm, wipe_n, wipe_c, back_n, back_c, cR_ok, ev_comp_1e, ev_comp, List.getElem?_cons_zero, List.getElem?_cons_succ, List.set_cons_zero, List.set_cons_succ, Option.map_some, if_true, Nat.reduceEqDiff, reduceIte, ty_tup hv, isT, Bool.not_true, Bool.not_false, ringB]
end k25
end Py

set_option Elab.async false
set_option linter.all false
set_option maxRecDepth 100000
set_option maxHeartbeats 1000000
set_option exponentiation.threshold 2000
namespace Py
namespace k25
open PySem PySem.Spec
open PyProof.Rows L2
theorem ring_ok (k : Nat) {v : D} (hv : Nice v = true) (hx : ∀ xs, v = .tup xs → ∀ x ∈ xs, Nice x = true) : phi tab (k + 3) 2 [v] = .ok false (.bl (ringB v)) [] := by
  rw [c2]
  simp -implicitDefEqProofs only [dis_ring, ok_bind, ok_then, opt_some, seq_nx, seq_rt, seq_bk, seq_ct, rdV_v, rdV_o, ev_var, ev_cst, ev_glo, k2_s, ev_bin_2e, ev_bin_1e, ev_bin, negT_i, ev_neg_1e, ev_neg, notT_b, ev_not_1e, ev_not, ev_and, ev_or, ev_cmp_2e, ev_cmp_1e, ev_cmp, chB_t_1e, chB_t, chB_f, chA_s, ev_chain_2e, ev_chain_1e, ev_chain, k1_s, ev_isN_1e, ev_isN, ev_notN_1e, ev_notN, ev_isi_1e, ev_isi, iteK_t, iteK_f, ev_ite_1e, ev_ite, ev_tup_1e, ev_tup, ev_lst_1e, ev_lst, ev_dct0, ev_sub_2e, ev_sub_1e, ev_sub, ev_slc_3e, ev_slc_2e, ev_slc_1e, ev_slc, optE_abs, optE_f_1e, optE_f, ev_rev_1e, ev_rev, ev_call_1e, ev_call, ev_lrng_1e, ev_lrng, kl_s, ev_bi_1e, ev_bi, bs_nil, consO_s, bs_cons, muR_s, mutK_i, mutK_l, mutG_o_1e, mutG_o, ev_mut, evF_nil, fzK_s_1e, fzK_s, evF_cons_1e, evF_cons, evA_nil, evA_cons_2e, evA_cons_1e, evA_cons, evAnd_1, evAnd_2_1e, evAnd_2, evOr_1, evOr_2_1e, evOr_2, evC_nil, bK_t, bK_f, evC_cons_1e, evC_cons, evIt_rng_1e, evIt_rng, lkK_s, evIt_e_1e, evIt_e, putK_s, ss_asg_1e, ss_asg, ss_par_2e, ss_par_1e, ss_par, stS_o_1e, stS_o, stK_s, ss_setIx_1e, ss_setIx, ss_exp_1e, ss_exp, ss_ret_1e, ss_ret, ss_retN, oK_t, oK_f, ss_iff_1e, ss_iff, ss_for_1e, ss_for, ss_while, ss_pass, ss_brk, ss_cont, sss_nil, sss_cons, b_val, b_own, slD_o, slD_v, b_slot, fz_val, fz_own, weak_val, weak_own, weak_slot, v_val, asBl_b, optI_i, add_ii, sub_ii, lt_ii, le_ii, gt_ii, ge_ii, eq_dd, ne_dd, sub_li, sub_ti, sub_si, slc_l, slc_t, bi_len, bi_abs, bi_max, bi_min, bi_int, bi_list, bi_tuple, bi_sum, bi_all, bi_any, bi_sorted, bi_str, len_s, len_l, len_t, abs_i, max_ii, min_ii, int_i, int_b, list_l, list_t, tuple_l, tuple_t, saR_s, saK_i, saK_l, setAt_v, consM_s, outs_t, outs_f, outs_n, endK_s, end_rt, end_nx, rt_v, rt_o, rtS_l, rt_s, frB_n, frB_v, frB_l, free_eq, putT_v, putT_o, par_vv, par_oo, par_ov, par_vo, eqD_ii, eqD_bb, args_n, args_f, ioA_i, ioA_l, args_t, ios_n, ios_f, ios_t, leS_o, leS_v, lent_n, lent_fv, lent_fs, lent_t, cK_s, ret_t, ret_f, callC_n, callR_eq, callA_0, callA_1, po_n, poK_o, po_c, wB_nx, wB_ct, wB_bk, wB_rt, wK_t, wK_f, while_s_1e, fB_nx, fB_ct, fB_bk, fB_rt, fK_s, unl_nx, unl_rt, unlock_n, unK_o, unlock_s, lock_vl, lock_vt, lock_ol, lkS_l, lock_s, bind_nm, wipe_n, wipe_c, back_n, back_c, cR_ok, ev_comp_1e, ev_comp, List.getElem?_cons_zero, List.getElem?_cons_succ, List.set_cons_zero, List.set_cons_succ, Option.map_some, if_true, Nat.reduceEqDiff, reduceIte, i1, ring_in_ok k hv hx]
def odd (x : D) : Bool := isB x || !(isI x || isB x)
theorem law_ring_ok (k : Nat) {v : D} (hv : Nice v = true) (hx : ∀ xs, v = .tup xs → ∀ x ∈ xs, Nice x = true) : phi tab (k + 1) 7 [v] = .ok false (.bl (lawB v)) [] := by
  rw [c7]
  cases v with
  | tup xs =>
    have hx := hx xs rfl
    unfold lawB
    dsimp only
    have q1 : decide ((2 : Int) ≤ (xs.length : Int)) = decide (2 ≤ xs.length) := by by_cases h : 2 ≤ xs.length <;> simp [h] <;> omega
    have q2 : decide ((xs.length : Int) ≤ 20) = decide (xs.length ≤ 20) := by by_cases h : xs.length ≤ 20 <;> simp [h] <;> omega
    by_cases h2 : 2 ≤ xs.length
    rotate_left
    · simp -implicitDefEqProofs only [d_law_is_ring, ok_bind, ok_then, opt_some, seq_nx, seq_rt, seq_bk, seq_ct, rdV_v, rdV_o, ev_var, ev_cst, ev_glo, k2_s, ev_bin_2e, ev_bin_1e, ev_bin, negT_i, ev_neg_1e, ev_neg, notT_b, ev_not_1e, ev_not, ev_and, ev_or, ev_cmp_2e, ev_cmp_1e, ev_cmp, chB_t_1e, chB_t, chB_f, chA_s, ev_chain_2e, ev_chain_1e, ev_chain, k1_s, ev_isN_1e, ev_isN, ev_notN_1e, ev_notN, ev_isi_1e, ev_isi, iteK_t, iteK_f, ev_ite_1e, ev_ite, ev_tup_1e, ev_tup, ev_lst_1e, ev_lst, ev_dct0, ev_sub_2e, ev_sub_1e, ev_sub, ev_slc_3e, ev_slc_2e, ev_slc_1e, ev_slc, optE_abs, optE_f_1e, optE_f, ev_rev_1e, ev_rev, ev_call_1e, ev_call, ev_lrng_1e, ev_lrng, kl_s, ev_bi_1e, ev_bi, bs_nil, consO_s, bs_cons, muR_s, mutK_i, mutK_l, mutG_o_1e, mutG_o, ev_mut, evF_nil, fzK_s_1e, fzK_s, evF_cons_1e, evF_cons, evA_nil, evA_cons_2e, evA_cons_1e, evA_cons, evAnd_1, evAnd_2_1e, evAnd_2, evOr_1, evOr_2_1e, evOr_2, evC_nil, bK_t, bK_f, evC_cons_1e, evC_cons, evIt_rng_1e, evIt_rng, lkK_s, evIt_e_1e, evIt_e, putK_s, ss_asg_1e, ss_asg, ss_par_2e, ss_par_1e, ss_par, stS_o_1e, stS_o, stK_s, ss_setIx_1e, ss_setIx, ss_exp_1e, ss_exp, ss_ret_1e, ss_ret, ss_retN, oK_t, oK_f, ss_iff_1e, ss_iff, ss_for_1e, ss_for, ss_while, ss_pass, ss_brk, ss_cont, sss_nil, sss_cons, b_val, b_own, slD_o, slD_v, b_slot, fz_val, fz_own, weak_val, weak_own, weak_slot, v_val, asBl_b, optI_i, add_ii, sub_ii, lt_ii, le_ii, gt_ii, ge_ii, eq_dd, ne_dd, sub_li, sub_ti, sub_si, slc_l, slc_t, bi_len, bi_abs, bi_max, bi_min, bi_int, bi_list, bi_tuple, bi_sum, bi_all, bi_any, bi_sorted, bi_str, len_s, len_l, len_t, abs_i, max_ii, min_ii, int_i, int_b, list_l, list_t, tuple_l, tuple_t, saR_s, saK_i, saK_l, setAt_v, consM_s, outs_t, outs_f, outs_n, endK_s, end_rt, end_nx, rt_v, rt_o, rtS_l, rt_s, frB_n, frB_v, frB_l, free_eq, putT_v, putT_o, par_vv, par_oo, par_ov, par_vo, eqD_ii, eqD_bb, args_n, args_f, ioA_i, ioA_l, args_t, ios_n, ios_f, ios_t, leS_o, leS_v, lent_n, lent_fv, lent_fs, lent_t, cK_s, ret_t, ret_f, callC_n, callR_eq, callA_0, callA_1, po_n, poK_o, po_c, wB_nx, wB_ct, wB_bk, wB_rt, wK_t, wK_f, while_s_1e, fB_nx, fB_ct, fB_bk, fB_rt, fK_s, unl_nx, unl_rt, unlock_n, unK_o, unlock_s, lock_vl, lock_vt, lock_ol, lkS_l, lock_s, bind_nm, wipe_n, wipe_c, back_n, back_c, cR_ok, ev_comp_1e, ev_comp, List.getElem?_cons_zero, List.getElem?_cons_succ, List.set_cons_zero, List.set_cons_succ, Option.map_some, if_true, Nat.reduceEqDiff, reduceIte, ty_tup hv, isT, Bool.not_true, Bool.not_false, q1, decide_eq_false h2, Bool.false_and]
    by_cases h20 : xs.length ≤ 20
    rotate_left
    · simp -implicitDefEqProofs only [d_law_is_ring, ok_bind, ok_then, opt_some, seq_nx, seq_rt, seq_bk, seq_ct, rdV_v, rdV_o, ev_var, ev_cst, ev_glo, k2_s, ev_bin_2e, ev_bin_1e, ev_bin, negT_i, ev_neg_1e, ev_neg, notT_b, ev_not_1e, ev_not, ev_and, ev_or, ev_cmp_2e, ev_cmp_1e, ev_cmp, chB_t_1e, chB_t, chB_f, chA_s, ev_chain_2e, ev_chain_1e, ev_chain, k1_s, ev_isN_1e, ev_isN, ev_notN_1e, ev_notN, ev_isi_1e, ev_isi, iteK_t, iteK_f, ev_ite_1e, ev_ite, ev_tup_1e, ev_tup, ev_lst_1e, ev_lst, ev_dct0, ev_sub_2e, ev_sub_1e, ev_sub, ev_slc_3e, ev_slc_2e, ev_slc_1e, ev_slc, optE_abs, optE_f_1e, optE_f, ev_rev_1e, ev_rev, ev_call_1e, ev_call, ev_lrng_1e, ev_lrng, kl_s, ev_bi_1e, ev_bi, bs_nil, consO_s, bs_cons, muR_s, mutK_i, mutK_l, mutG_o_1e, mutG_o, ev_mut, evF_nil, fzK_s_1e, fzK_s, evF_cons_1e, evF_cons, evA_nil, evA_cons_2e, evA_cons_1e, evA_cons, evAnd_1, evAnd_2_1e, evAnd_2, evOr_1, evOr_2_1e, evOr_2, evC_nil, bK_t, bK_f, evC_cons_1e, evC_cons, evIt_rng_1e, evIt_rng, lkK_s, evIt_e_1e, evIt_e, putK_s, ss_asg_1e, ss_asg, ss_par_2e, ss_par_1e, ss_par, stS_o_1e, stS_o, stK_s, ss_setIx_1e, ss_setIx, ss_exp_1e, ss_exp, ss_ret_1e, ss_ret, ss_retN, oK_t, oK_f, ss_iff_1e, ss_iff, ss_for_1e, ss_for, ss_while, ss_pass, ss_brk, ss_cont, sss_nil, sss_cons, b_val, b_own, slD_o, slD_v, b_slot, fz_val, fz_own, weak_val, weak_own, weak_slot, v_val, asBl_b, optI_i, add_ii, sub_ii, lt_ii, le_ii, gt_ii, ge_ii, eq_dd, ne_dd, sub_li, sub_ti, sub_si, slc_l, slc_t, bi_len, bi_abs, bi_max, bi_min, bi_int, bi_list, bi_tuple, bi_sum, bi_all, bi_any, bi_sorted, bi_str, len_s, len_l, len_t, abs_i, max_ii, min_ii, int_i, int_b, list_l, list_t, tuple_l, tuple_t, saR_s, saK_i, saK_l, setAt_v, consM_s, outs_t, outs_f, outs_n, endK_s, end_rt, end_nx, rt_v, rt_o, rtS_l, rt_s, frB_n, frB_v, frB_l, free_eq, putT_v, putT_o, par_vv, par_oo, par_ov, par_vo, eqD_ii, eqD_bb, args_n, args_f, ioA_i, ioA_l, args_t, ios_n, ios_f, ios_t, leS_o, leS_v, lent_n, lent_fv, lent_fs, lent_t, cK_s, ret_t, ret_f, callC_n, callR_eq, callA_0, callA_1, po_n, poK_o, po_c, wB_nx, wB_ct, wB_bk, wB_rt, wK_t, wK_f, while_s_1e, fB_nx, fB_ct, fB_bk, fB_rt, fK_s, unl_nx, unl_rt, unlock_n, unK_o, unlock_s, lock_vl, lock_vt, lock_ol, lkS_l, lock_s, bind_nm, wipe_n, wipe_c, back_n, back_c, cR_ok, ev_comp_1e, ev_comp, List.getElem?_cons_zero, List.getElem?_cons_succ, List.set_cons_zero, List.set_cons_succ, Option.map_some, if_true, Nat.reduceEqDiff, reduceIte, ty_tup hv, isT, Bool.not_true, Bool.not_false, q1, decide_eq_true h2, q2, decide_eq_false h20, Bool.false_and, Bool.and_false]
    have cm : compLoop [1] (.nm 1) (evC (ioOf tab) (phi tab k) (.cons (.or (.cons (.isi (.var 1) .bool) (.cons (.not (.isi (.var 1) .int)) .nil))) .nil)) (ev (ioOf tab) (phi tab k) (.cst (.int 1))) xs [] [.val (.tup xs), .no] = .ok ([] ++ (xs.filter odd).map fun _ => .int 1) [.val (.tup xs), .no] := by
      refine comp_all xs [] (by simp; omega) fun x hxx => ⟨[.val (.tup xs), .val x], by simp -implicitDefEqProofs only [ok_bind, ok_then, opt_some, seq_nx, seq_rt, seq_bk, seq_ct, rdV_v, rdV_o, ev_var, ev_cst, ev_glo, k2_s, ev_bin_2e, ev_bin_1e, ev_bin, negT_i, ev_neg_1e, ev_neg, notT_b, ev_not_1e, ev_not, ev_and, ev_or, ev_cmp_2e, ev_cmp_1e, ev_cmp, chB_t_1e, chB_t, chB_f, chA_s, ev_chain_2e, ev_chain_1e, ev_chain, k1_s, ev_isN_1e, ev_isN, ev_notN_1e, ev_notN, ev_isi_1e, ev_isi, iteK_t, iteK_f, ev_ite_1e, ev_ite, ev_tup_1e, ev_tup, ev_lst_1e, ev_lst, ev_dct0, ev_sub_2e, ev_sub_1e, ev_sub, ev_slc_3e, ev_slc_2e, ev_slc_1e, ev_slc, optE_abs, optE_f_1e, optE_f, ev_rev_1e, ev_rev, ev_call_1e, ev_call, ev_lrng_1e, ev_lrng, kl_s, ev_bi_1e, ev_bi, bs_nil, consO_s, bs_cons, muR_s, mutK_i, mutK_l, mutG_o_1e, mutG_o, ev_mut, evF_nil, fzK_s_1e, fzK_s, evF_cons_1e, evF_cons, evA_nil, evA_cons_2e, evA_cons_1e, evA_cons, evAnd_1, evAnd_2_1e, evAnd_2, evOr_1, evOr_2_1e, evOr_2, evC_nil, bK_t, bK_f, evC_cons_1e, evC_cons, evIt_rng_1e, evIt_rng, lkK_s, evIt_e_1e, evIt_e, putK_s, ss_asg_1e, ss_asg, ss_par_2e, ss_par_1e, ss_par, stS_o_1e, stS_o, stK_s, ss_setIx_1e, ss_setIx, ss_exp_1e, ss_exp, ss_ret_1e, ss_ret, ss_retN, oK_t, oK_f, ss_iff_1e, ss_iff, ss_for_1e, ss_for, ss_while, ss_pass, ss_brk, ss_cont, sss_nil, sss_cons, b_val, b_own, slD_o, slD_v, b_slot, fz_val, fz_own, weak_val, weak_own, weak_slot, v_val, asBl_b, optI_i, add_ii, sub_ii, lt_ii, le_ii, gt_ii, ge_ii, eq_dd, ne_dd, sub_li, sub_ti, sub_si, slc_l, slc_t, bi_len, bi_abs, bi_max, bi_min, bi_int, bi_list, bi_tuple, bi_sum, bi_all, bi_any, bi_sorted, bi_str, len_s, len_l, len_t, abs_i, max_ii, min_ii, int_i, int_b, list_l, list_t, tuple_l, tuple_t, saR_s, saK_i, saK_l, setAt_v, consM_s, outs_t, outs_f, outs_n, endK_s, end_rt, end_nx, rt_v, rt_o, rtS_l, rt_s, frB_n, frB_v, frB_l, free_eq, putT_v, putT_o, par_vv, par_oo, par_ov, par_vo, eqD_ii, eqD_bb, args_n, args_f, ioA_i, ioA_l, args_t, ios_n, ios_f, ios_t, leS_o, leS_v, lent_n, lent_fv, lent_fs, lent_t, cK_s, ret_t, ret_f, callC_n, callR_eq, callA_0, callA_1, po_n, poK_o, po_c, wB_nx, wB_ct, wB_bk, wB_rt, wK_t, wK_f, while_s_1e, fB_nx, fB_ct, fB_bk, fB_rt, fK_s, unl_nx, unl_rt, unlock_n, unK_o, unlock_s, lock_vl, lock_vt, lock_ol, lkS_l, lock_s, bind_nm, wipe_n, wipe_c, back_n, back_c, cR_ok, ev_comp_1e, ev_comp, List.getElem?_cons_zero, List.getElem?_cons_succ, List.set_cons_zero, List.set_cons_succ, Option.map_some, if_true, Nat.reduceEqDiff, reduceIte], by simp -implicitDefEqProofs only [ok_bind, ok_then, opt_some, seq_nx, seq_rt, seq_bk, seq_ct, rdV_v, rdV_o, ev_var, ev_cst, ev_glo, k2_s, ev_bin_2e, ev_bin_1e, ev_bin, negT_i, ev_neg_1e, ev_neg, notT_b, ev_not_1e, ev_not, ev_and, ev_or, ev_cmp_2e, ev_cmp_1e, ev_cmp, chB_t_1e, chB_t, chB_f, chA_s, ev_chain_2e, ev_chain_1e, ev_chain, k1_s, ev_isN_1e, ev_isN, ev_notN_1e, ev_notN, ev_isi_1e, ev_isi, iteK_t, iteK_f, ev_ite_1e, ev_ite, ev_tup_1e, ev_tup, ev_lst_1e, ev_lst, ev_dct0, ev_sub_2e, ev_sub_1e, ev_sub, ev_slc_3e, ev_slc_2e, ev_slc_1e, ev_slc, optE_abs, optE_f_1e, optE_f, ev_rev_1e, ev_rev, ev_call_1e, ev_call, ev_lrng_1e, ev_lrng, kl_s, ev_bi_1e, ev_bi, bs_nil, consO_s, bs_cons, muR_s, mutK_i, mutK_l, mutG_o_1e, mutG_o, ev_mut, evF_nil, fzK_s_1e, fzK_s, evF_cons_1e, evF_cons, evA_nil, evA_cons_2e, evA_cons_1e, evA_cons, evAnd_1, evAnd_2_1e, evAnd_2, evOr_1, evOr_2_1e, evOr_2, evC_nil, bK_t, bK_f, evC_cons_1e, evC_cons, evIt_rng_1e, evIt_rng, lkK_s, evIt_e_1e, evIt_e, putK_s, ss_asg_1e, ss_asg, ss_par_2e, ss_par_1e, ss_par, stS_o_1e, stS_o, stK_s, ss_setIx_1e, ss_setIx, ss_exp_1e, ss_exp, ss_ret_1e, ss_ret, ss_retN, oK_t, oK_f, ss_iff_1e, ss_iff, ss_for_1e, ss_for, ss_while, ss_pass, ss_brk, ss_cont, sss_nil, sss_cons, b_val, b_own, slD_o, slD_v, b_slot, fz_val, fz_own, weak_val, weak_own, weak_slot, v_val, asBl_b, optI_i, add_ii, sub_ii, lt_ii, le_ii, gt_ii, ge_ii, eq_dd, ne_dd, sub_li, sub_ti, sub_si, slc_l, slc_t, bi_len, bi_abs, bi_max, bi_min, bi_int, bi_list, bi_tuple, bi_sum, bi_all, bi_any, bi_sorted, bi_str, len_s, len_l, len_t, abs_i, max_ii, min_ii, int_i, int_b, list_l, list_t, tuple_l, tuple_t, saR_s, saK_i, saK_l, setAt_v, consM_s, outs_t, outs_f, outs_n, endK_s, end_rt, end_nx, rt_v, rt_o, rtS_l, rt_s, frB_n, frB_v, frB_l, free_eq, putT_v, putT_o, par_vv, par_oo, par_ov, par_vo, eqD_ii, eqD_bb, args_n, args_f, ioA_i, ioA_l, args_t, ios_n, ios_f, ios_t, leS_o, leS_v, lent_n, lent_fv, lent_fs, lent_t, cK_s, ret_t, ret_f, callC_n, callR_eq, callA_0, callA_1, po_n, poK_o, po_c, wB_nx, wB_ct, wB_bk, wB_rt, wK_t, wK_f, while_s_1e, fB_nx, fB_ct, fB_bk, fB_rt, fK_s, unl_nx, unl_rt, unlock_n, unK_o, unlock_s, lock_vl, lock_vt, lock_ol, lkS_l, lock_s, bind_nm, wipe_n, wipe_c, back_n, back_c, cR_ok, ev_comp_1e, ev_comp, List.getElem?_cons_zero, List.getElem?_cons_succ, List.set_cons_zero, List.set_cons_succ, Option.map_some, if_true, Nat.reduceEqDiff, reduceIte], ?_⟩
      have nx := hx x hxx
      cases hb : isB x with
      | true => exact .inr ⟨by unfold odd; rw [hb]; rfl, by simp -implicitDefEqProofs only [ok_bind, ok_then, opt_some, seq_nx, seq_rt, seq_bk, seq_ct, rdV_v, rdV_o, ev_var, ev_cst, ev_glo, k2_s, ev_bin_2e, ev_bin_1e, ev_bin, negT_i, ev_neg_1e, ev_neg, notT_b, ev_not_1e, ev_not, ev_and, ev_or, ev_cmp_2e, ev_cmp_1e, ev_cmp, chB_t_1e, chB_t, chB_f, chA_s, ev_chain_2e, ev_chain_1e, ev_chain, k1_s, ev_isN_1e, ev_isN, ev_notN_1e, ev_notN, ev_isi_1e, ev_isi, iteK_t, iteK_f, ev_ite_1e, ev_ite, ev_tup_1e, ev_tup, ev_lst_1e, ev_lst, ev_dct0, ev_sub_2e, ev_sub_1e, ev_sub, ev_slc_3e, ev_slc_2e, ev_slc_1e, ev_slc, optE_abs, optE_f_1e, optE_f, ev_rev_1e, ev_rev, ev_call_1e, ev_call, ev_lrng_1e, ev_lrng, kl_s, ev_bi_1e, ev_bi, bs_nil, consO_s, bs_cons, muR_s, mutK_i, mutK_l, mutG_o_1e, mutG_o, ev_mut, evF_nil, fzK_s_1e, fzK_s, evF_cons_1e, evF_cons, evA_nil, evA_cons_2e, evA_cons_1e, evA_cons, evAnd_1, evAnd_2_1e, evAnd_2, evOr_1, evOr_2_1e, evOr_2, evC_nil, bK_t, bK_f, evC_cons_1e, evC_cons, evIt_rng_1e, evIt_rng, lkK_s, evIt_e_1e, evIt_e, putK_s, ss_asg_1e, ss_asg, ss_par_2e, ss_par_1e, ss_par, stS_o_1e, stS_o, stK_s, ss_setIx_1e, ss_setIx, ss_exp_1e, ss_exp, ss_ret_1e, ss_ret, ss_retN, oK_t, oK_f, ss_iff_1e, ss_iff, ss_for_1e, ss_for, ss_while, ss_pass, ss_brk, ss_cont, sss_nil, sss_cons, b_val, b_own, slD_o, slD_v, b_slot, fz_val, fz_own, weak_val, weak_own, weak_slot, v_val, asBl_b, optI_i, add_ii, sub_ii, lt_ii, le_ii, gt_ii, ge_ii, eq_dd, ne_dd, sub_li, sub_ti, sub_si, slc_l, slc_t, bi_len, bi_abs, bi_max, bi_min, bi_int, bi_list, bi_tuple, bi_sum, bi_all, bi_any, bi_sorted, bi_str, len_s, len_l, len_t, abs_i, max_ii, min_ii, int_i, int_b, list_l, list_t, tuple_l, tuple_t, saR_s, saK_i, saK_l, setAt_v, consM_s, outs_t, outs_f, outs_n, endK_s, end_rt, end_nx, rt_v, rt_o, rtS_l, rt_s, frB_n, frB_v, frB_l, free_eq, putT_v, putT_o, par_vv, par_oo, par_ov, par_vo, eqD_ii, eqD_bb, args_n, args_f, ioA_i, ioA_l, args_t, ios_n, ios_f, ios_t, leS_o, leS_v, lent_n, lent_fv, lent_fs, lent_t, cK_s, ret_t, ret_f, callC_n, callR_eq, callA_0, callA_1, po_n, poK_o, po_c, wB_nx, wB_ct, wB_bk, wB_rt, wK_t, wK_f, while_s_1e, fB_nx, fB_ct, fB_bk, fB_rt, fK_s, unl_nx, unl_rt, unlock_n, unK_o, unlock_s, lock_vl, lock_vt, lock_ol, lkS_l, lock_s, bind_nm, wipe_n, wipe_c, back_n, back_c, cR_ok, ev_comp_1e, ev_comp, List.getElem?_cons_zero, List.getElem?_cons_succ, List.set_cons_zero, List.set_cons_succ, Option.map_some, if_true, Nat.reduceEqDiff, reduceIte, ty_bool nx, hb], .val (.int 1), by simp -implicitDefEqProofs only [ok_bind, ok_then, opt_some, seq_nx, seq_rt, seq_bk, seq_ct, rdV_v, rdV_o, ev_var, ev_cst, ev_glo, k2_s, ev_bin_2e, ev_bin_1e, ev_bin, negT_i, ev_neg_1e, ev_neg, notT_b, ev_not_1e, ev_not, ev_and, ev_or, ev_cmp_2e, ev_cmp_1e, ev_cmp, chB_t_1e, chB_t, chB_f, chA_s, ev_chain_2e, ev_chain_1e, ev_chain, k1_s, ev_isN_1e, ev_isN, ev_notN_1e, ev_notN, ev_isi_1e, ev_isi, iteK_t, iteK_f, ev_ite_1e, ev_ite, ev_tup_1e, ev_tup, ev_lst_1e, ev_lst, ev_dct0, ev_sub_2e, ev_sub_1e, ev_sub, ev_slc_3e, ev_slc_2e, ev_slc_1e, ev_slc, optE_abs, optE_f_1e, optE_f, ev_rev_1e, ev_rev, ev_call_1e, ev_call, ev_lrng_1e, ev_lrng, kl_s, ev_bi_1e, ev_bi, bs_nil, consO_s, bs_cons, muR_s, mutK_i, mutK_l, mutG_o_1e, mutG_o, ev_mut, evF_nil, fzK_s_1e, fzK_s, evF_cons_1e, evF_cons, evA_nil, evA_cons_2e, evA_cons_1e, evA_cons, evAnd_1, evAnd_2_1e, evAnd_2, evOr_1, evOr_2_1e, evOr_2, evC_nil, bK_t, bK_f, evC_cons_1e, evC_cons, evIt_rng_1e, evIt_rng, lkK_s, evIt_e_1e, evIt_e, putK_s, ss_asg_1e, ss_asg, ss_par_2e, ss_par_1e, ss_par, stS_o_1e, stS_o, stK_s, ss_setIx_1e, ss_setIx, ss_exp_1e, ss_exp, ss_ret_1e, ss_ret, ss_retN, oK_t, oK_f, ss_iff_1e, ss_iff, ss_for_1e, ss_for, ss_while, ss_pass, ss_brk, ss_cont, sss_nil, sss_cons, b_val, b_own, slD_o, slD_v, b_slot, fz_val, fz_own, weak_val, weak_own, weak_slot, v_val, asBl_b, optI_i, add_ii, sub_ii, lt_ii, le_ii, gt_ii, ge_ii, eq_dd, ne_dd, sub_li, sub_ti, sub_si, slc_l, slc_t, bi_len, bi_abs, bi_max, bi_min, bi_int, bi_list, bi_tuple, bi_sum, bi_all, bi_any, bi_sorted, bi_str, len_s, len_l, len_t, abs_i, max_ii, min_ii, int_i, int_b, list_l, list_t, tuple_l, tuple_t, saR_s, saK_i, saK_l, setAt_v, consM_s, outs_t, outs_f, outs_n, endK_s, end_rt, end_nx, rt_v, rt_o, rtS_l, rt_s, frB_n, frB_v, frB_l, free_eq, putT_v, putT_o, par_vv, par_oo, par_ov, par_vo, eqD_ii, eqD_bb, args_n, args_f, ioA_i, ioA_l, args_t, ios_n, ios_f, ios_t, leS_o, leS_v, lent_n, lent_fv, lent_fs, lent_t, cK_s, ret_t, ret_f, callC_n, callR_eq, callA_0, callA_1, po_n, poK_o, po_c, wB_nx, wB_ct, wB_bk, wB_rt, wK_t, wK_f, while_s_1e, fB_nx, fB_ct, fB_bk, fB_rt, fK_s, unl_nx, unl_rt, unlock_n, unK_o, unlock_s, lock_vl, lock_vt, lock_ol, lkS_l, lock_s, bind_nm, wipe_n, wipe_c, back_n, back_c, cR_ok, ev_comp_1e, ev_comp, List.getElem?_cons_zero, List.getElem?_cons_succ, List.set_cons_zero, List.set_cons_succ, Option.map_some, if_true, Nat.reduceEqDiff, reduceIte], by simp -implicitDefEqProofs only [ok_bind, ok_then, opt_some, seq_nx, seq_rt, seq_bk, seq_ct, rdV_v, rdV_o, ev_var, ev_cst, ev_glo, k2_s, ev_bin_2e, ev_bin_1e, ev_bin, negT_i, ev_neg_1e, ev_neg, notT_b, ev_not_1e, ev_not, ev_and, ev_or, ev_cmp_2e, ev_cmp_1e, ev_cmp, chB_t_1e, chB_t, chB_f, chA_s, ev_chain_2e, ev_chain_1e, ev_chain, k1_s, ev_isN_1e, ev_isN, ev_notN_1e, ev_notN, ev_isi_1e, ev_isi, iteK_t, iteK_f, ev_ite_1e, ev_ite, ev_tup_1e, ev_tup, ev_lst_1e, ev_lst, ev_dct0, ev_sub_2e, ev_sub_1e, ev_sub, ev_slc_3e, ev_slc_2e, ev_slc_1e, ev_slc, optE_abs, optE_f_1e, optE_f, ev_rev_1e, ev_rev, ev_call_1e, ev_call, ev_lrng_1e, ev_lrng, kl_s, ev_bi_1e, ev_bi, bs_nil, consO_s, bs_cons, muR_s, mutK_i, mutK_l, mutG_o_1e, mutG_o, ev_mut, evF_nil, fzK_s_1e, fzK_s, evF_cons_1e, evF_cons, evA_nil, evA_cons_2e, evA_cons_1e, evA_cons, evAnd_1, evAnd_2_1e, evAnd_2, evOr_1, evOr_2_1e, evOr_2, evC_nil, bK_t, bK_f, evC_cons_1e, evC_cons, evIt_rng_1e, evIt_rng, lkK_s, evIt_e_1e, evIt_e, putK_s, ss_asg_1e, ss_asg, ss_par_2e, ss_par_1e, ss_par, stS_o_1e, stS_o, stK_s, ss_setIx_1e, ss_setIx, ss_exp_1e, ss_exp, ss_ret_1e, ss_ret, ss_retN, oK_t, oK_f, ss_iff_1e, ss_iff, ss_for_1e, ss_for, ss_while, ss_pass, ss_brk, ss_cont, sss_nil, sss_cons, b_val, b_own, slD_o, slD_v, b_slot, fz_val, fz_own, weak_val, weak_own, weak_slot, v_val, asBl_b, optI_i, add_ii, sub_ii, lt_ii, le_ii, gt_ii, ge_ii, eq_dd, ne_dd, sub_li, sub_ti, sub_si, slc_l, slc_t, bi_len, bi_abs, bi_max, bi_min, bi_int, bi_list, bi_tuple, bi_sum, bi_all, bi_any, bi_sorted, bi_str, len_s, len_l, len_t, abs_i, max_ii, min_ii, int_i, int_b, list_l, list_t, tuple_l, tuple_t, saR_s, saK_i, saK_l, setAt_v, consM_s, outs_t, outs_f, outs_n, endK_s, end_rt, end_nx, rt_v, rt_o, rtS_l, rt_s, frB_n, frB_v, frB_l, free_eq, putT_v, putT_o, par_vv, par_oo, par_ov, par_vo, eqD_ii, eqD_bb, args_n, args_f, ioA_i, ioA_l, args_t, ios_n, ios_f, ios_t, leS_o, leS_v, lent_n, lent_fv, lent_fs, lent_t, cK_s, ret_t, ret_f, callC_n, callR_eq, callA_0, callA_1, po_n, poK_o, po_c, wB_nx, wB_ct, wB_bk, wB_rt, wK_t, wK_f, while_s_1e, fB_nx, fB_ct, fB_bk, fB_rt, fK_s, unl_nx, unl_rt, unlock_n, unK_o, unlock_s, lock_vl, lock_vt, lock_ol, lkS_l, lock_s, bind_nm, wipe_n, wipe_c, back_n, back_c, cR_ok, ev_comp_1e, ev_comp, List.getElem?_cons_zero, List.getElem?_cons_succ, List.set_cons_zero, List.set_cons_succ, Option.map_some, if_true, Nat.reduceEqDiff, reduceIte]⟩
      | false =>
        cases hi : isI x with
        | true => exact .inl ⟨by unfold odd; rw [hb, hi]; rfl, by simp -implicitDefEqProofs only [ok_bind, ok_then, opt_some, seq_nx, seq_rt, seq_bk, seq_ct, rdV_v, rdV_o, ev_var, ev_cst, ev_glo, k2_s, ev_bin_2e, ev_bin_1e, ev_bin, negT_i, ev_neg_1e, ev_neg, notT_b, ev_not_1e, ev_not, ev_and, ev_or, ev_cmp_2e, ev_cmp_1e, ev_cmp, chB_t_1e, chB_t, chB_f, chA_s, ev_chain_2e, ev_chain_1e, ev_chain, k1_s, ev_isN_1e, ev_isN, ev_notN_1e, ev_notN, ev_isi_1e, ev_isi, iteK_t, iteK_f, ev_ite_1e, ev_ite, ev_tup_1e, ev_tup, ev_lst_1e, ev_lst, ev_dct0, ev_sub_2e, ev_sub_1e, ev_sub, ev_slc_3e, ev_slc_2e, ev_slc_1e, ev_slc, optE_abs, optE_f_1e, optE_f, ev_rev_1e, ev_rev, ev_call_1e, ev_call, ev_lrng_1e, ev_lrng, kl_s, ev_bi_1e, ev_bi, bs_nil, consO_s, bs_cons, muR_s, mutK_i, mutK_l, mutG_o_1e, mutG_o, ev_mut, evF_nil, fzK_s_1e, fzK_s, evF_cons_1e, evF_cons, evA_nil, evA_cons_2e, evA_cons_1e, evA_cons, evAnd_1, evAnd_2_1e, evAnd_2, evOr_1, evOr_2_1e, evOr_2, evC_nil, bK_t, bK_f, evC_cons_1e, evC_cons, evIt_rng_1e, evIt_rng, lkK_s, evIt_e_1e, evIt_e, putK_s, ss_asg_1e, ss_asg, ss_par_2e, ss_par_1e, ss_par, stS_o_1e, stS_o, stK_s, ss_setIx_1e, ss_setIx, ss_exp_1e, ss_exp, ss_ret_1e, ss_ret, ss_retN, oK_t, oK_f, ss_iff_1e, ss_iff, ss_for_1e, ss_for, ss_while, ss_pass, ss_brk, ss_cont, sss_nil, sss_cons, b_val, b_own, slD_o, slD_v, b_slot, fz_val, fz_own, weak_val, weak_own, weak_slot, v_val, asBl_b, optI_i, add_ii, sub_ii, lt_ii, le_ii, gt_ii, ge_ii, eq_dd, ne_dd, sub_li, sub_ti, sub_si, slc_l, slc_t, bi_len, bi_abs, bi_max, bi_min, bi_int, bi_list, bi_tuple, bi_sum, bi_all, bi_any, bi_sorted, bi_str, len_s, len_l, len_t, abs_i, max_ii, min_ii, int_i, int_b, list_l, list_t, tuple_l, tuple_t, saR_s, saK_i, saK_l, setAt_v, consM_s, outs_t, outs_f, outs_n, endK_s, end_rt, end_nx, rt_v, rt_o, rtS_l, rt_s, frB_n, frB_v, frB_l, free_eq, putT_v, putT_o, par_vv, par_oo, par_ov, par_vo, eqD_ii, eqD_bb, args_n, args_f, ioA_i, ioA_l, args_t, ios_n, ios_f, ios_t, leS_o, leS_v, lent_n, lent_fv, lent_fs, lent_t, cK_s, ret_t, ret_f, callC_n, callR_eq, callA_0, callA_1, po_n, poK_o, po_c, wB_nx, wB_ct, wB_bk, wB_rt, wK_t, wK_f, while_s_1e, fB_nx, fB_ct, fB_bk, fB_rt, fK_s, unl_nx, unl_rt, unlock_n, unK_o, unlock_s, lock_vl, lock_vt, lock_ol, lkS_l, lock_s, bind_nm, wipe_n, wipe_c, back_n, back_c, cR_ok, ev_comp_1e, ev_comp, List.getElem?_cons_zero, List.getElem?_cons_succ, List.set_cons_zero, List.set_cons_succ, Option.map_some, if_true, Nat.reduceEqDiff, reduceIte, ty_bool nx, ty_int nx, hb, hi, Bool.or_false, Bool.not_true]⟩
        | false => exact .inr ⟨by unfold odd; rw [hb, hi]; rfl, by simp -implicitDefEqProofs only [ok_bind, ok_then, opt_some, seq_nx, seq_rt, seq_bk, seq_ct, rdV_v, rdV_o, ev_var, ev_cst, ev_glo, k2_s, ev_bin_2e, ev_bin_1e, ev_bin, negT_i, ev_neg_1e, ev_neg, notT_b, ev_not_1e, ev_not, ev_and, ev_or, ev_cmp_2e, ev_cmp_1e, ev_cmp, chB_t_1e, chB_t, chB_f, chA_s, ev_chain_2e, ev_chain_1e, ev_chain, k1_s, ev_isN_1e, ev_isN, ev_notN_1e, ev_notN, ev_isi_1e, ev_isi, iteK_t, iteK_f, ev_ite_1e, ev_ite, ev_tup_1e, ev_tup, ev_lst_1e, ev_lst, ev_dct0, ev_sub_2e, ev_sub_1e, ev_sub, ev_slc_3e, ev_slc_2e, ev_slc_1e, ev_slc, optE_abs, optE_f_1e, optE_f, ev_rev_1e, ev_rev, ev_call_1e, ev_call, ev_lrng_1e, ev_lrng, kl_s, ev_bi_1e, ev_bi, bs_nil, consO_s, bs_cons, muR_s, mutK_i, mutK_l, mutG_o_1e, mutG_o, ev_mut, evF_nil, fzK_s_1e, fzK_s, evF_cons_1e, evF_cons, evA_nil, evA_cons_2e, evA_cons_1e, evA_cons, evAnd_1, evAnd_2_1e, evAnd_2, evOr_1, evOr_2_1e, evOr_2, evC_nil, bK_t, bK_f, evC_cons_1e, evC_cons, evIt_rng_1e, evIt_rng, lkK_s, evIt_e_1e, evIt_e, putK_s, ss_asg_1e, ss_asg, ss_par_2e, ss_par_1e, ss_par, stS_o_1e, stS_o, stK_s, ss_setIx_1e, ss_setIx, ss_exp_1e, ss_exp, ss_ret_1e, ss_ret, ss_retN, oK_t, oK_f, ss_iff_1e, ss_iff, ss_for_1e, ss_for, ss_while, ss_pass, ss_brk, ss_cont, sss_nil, sss_cons, b_val, b_own, slD_o, slD_v, b_slot, fz_val, fz_own, weak_val, weak_own, weak_slot, v_val, asBl_b, optI_i, add_ii, sub_ii, lt_ii, le_ii, gt_ii, ge_ii, eq_dd, ne_dd, sub_li, sub_ti, sub_si, slc_l, slc_t, bi_len, bi_abs, bi_max, bi_min, bi_int, bi_list, bi_tuple, bi_sum, bi_all, bi_any, bi_sorted, bi_str, len_s, len_l, len_t, abs_i, max_ii, min_ii, int_i, int_b, list_l, list_t, tuple_l, tuple_t, saR_s, saK_i, saK_l, setAt_v, consM_s, outs_t, outs_f, outs_n, endK_s, end_rt, end_nx, rt_v, rt_o, rtS_l, rt_s, frB_n, frB_v, frB_l, free_eq, putT_v, putT_o, par_vv, par_oo, par_ov, par_vo, eqD_ii, eqD_bb, args_n, args_f, ioA_i, ioA_l, args_t, ios_n, ios_f, ios_t, leS_o, leS_v, lent_n, lent_fv, lent_fs, lent_t, cK_s, ret_t, ret_f, callC_n, callR_eq, callA_0, callA_1, po_n, poK_o, po_c, wB_nx, wB_ct, wB_bk, wB_rt, wK_t, wK_f, while_s_1e, fB_nx, fB_ct, fB_bk, fB_rt, fK_s, unl_nx, unl_rt, unlock_n, unK_o, unlock_s, lock_vl, lock_vt, lock_ol, lkS_l, lock_s, bind_nm, wipe_n, wipe_c, back_n, back_c, cR_ok, ev_comp_1e, ev_comp, List.getElem?_cons_zero, List.getElem?_cons_succ, List.set_cons_zero, List.set_cons_succ, Option.map_some, if_true, Nat.reduceEqDiff, reduceIte, ty_bool nx, ty_int nx, hb, hi, Bool.or_false, Bool.not_false], .val (.int 1), by simp -implicitDefEqProofs only [ok_bind, ok_then, opt_some, seq_nx, seq_rt, seq_bk, seq_ct, rdV_v, rdV_o, ev_var, ev_cst, ev_glo, k2_s, ev_bin_2e, ev_bin_1e, ev_bin, negT_i, ev_neg_1e, ev_neg, notT_b, ev_not_1e, ev_not, ev_and, ev_or, ev_cmp_2e, ev_cmp_1e, ev_cmp, chB_t_1e, chB_t, chB_f, chA_s, ev_chain_2e, ev_chain_1e, ev_chain, k1_s, ev_isN_1e, ev_isN, ev_notN_1e, ev_notN, ev_isi_1e, ev_isi, iteK_t, iteK_f, ev_ite_1e, ev_ite, ev_tup_1e, ev_tup, ev_lst_1e, ev_lst, ev_dct0, ev_sub_2e, ev_sub_1e, ev_sub, ev_slc_3e, ev_slc_2e, ev_slc_1e, ev_slc, optE_abs, optE_f_1e, optE_f, ev_rev_1e, ev_rev, ev_call_1e, ev_call, ev_lrng_1e, ev_lrng, kl_s, ev_bi_1e, ev_bi, bs_nil, consO_s, bs_cons, muR_s, mutK_i, mutK_l, mutG_o_1e, mutG_o, ev_mut, evF_nil, fzK_s_1e, fzK_s, evF_cons_1e, evF_cons, evA_nil, evA_cons_2e, evA_cons_1e, evA_cons, evAnd_1, evAnd_2_1e, evAnd_2, evOr_1, evOr_2_1e, evOr_2, evC_nil, bK_t, bK_f, evC_cons_1e, evC_cons, evIt_rng_1e, evIt_rng, lkK_s, evIt_e_1e, evIt_e, putK_s, ss_asg_1e, ss_asg, ss_par_2e, ss_par_1e, ss_par, stS_o_1e, stS_o, stK_s, ss_setIx_1e, ss_setIx, ss_exp_1e, ss_exp, ss_ret_1e, ss_ret, ss_retN, oK_t, oK_f, ss_iff_1e, ss_iff, ss_for_1e, ss_for, ss_while, ss_pass, ss_brk, ss_cont, sss_nil, sss_cons, b_val, b_own, slD_o, slD_v, b_slot, fz_val, fz_own, weak_val, weak_own, weak_slot, v_val, asBl_b, optI_i, add_ii, sub_ii, lt_ii, le_ii, gt_ii, ge_ii, eq_dd, ne_dd, sub_li, sub_ti, sub_si, slc_l, slc_t, bi_len, bi_abs, bi_max, bi_min, bi_int, bi_list, bi_tuple, bi_sum, bi_all, bi_any, bi_sorted, bi_str, len_s, len_l, len_t, abs_i, max_ii, min_ii, int_i, int_b, list_l, list_t, tuple_l, tuple_t, saR_s, saK_i, saK_l, setAt_v, consM_s, outs_t, outs_f, outs_n, endK_s, end_rt, end_nx, rt_v, rt_o, rtS_l, rt_s, frB_n, frB_v, frB_l, free_eq, putT_v, putT_o, par_vv, par_oo, par_ov, par_vo, eqD_ii, eqD_bb, args_n, args_f, ioA_i, ioA_l, args_t, ios_n, ios_f, ios_t, leS_o, leS_v, lent_n, lent_fv, lent_fs, lent_t, cK_s, ret_t, ret_f, callC_n, callR_eq, callA_0, callA_1, po_n, poK_o, po_c, wB_nx, wB_ct, wB_bk, wB_rt, wK_t, wK_f, while_s_1e, fB_nx, fB_ct, fB_bk, fB_rt, fK_s, unl_nx, unl_rt, unlock_n, unK_o, unlock_s, lock_vl, lock_vt, lock_ol, lkS_l, lock_s, bind_nm, wipe_n, wipe_c, back_n, back_c, cR_ok, ev_comp_1e, ev_comp, List.getElem?_cons_zero, List.getElem?_cons_succ, List.set_cons_zero, List.set_cons_succ, Option.map_some, if_true, Nat.reduceEqDiff, reduceIte], by simp -implicitDefEqProofs only [ok_bind, ok_then, opt_some, seq_nx, seq_rt, seq_bk, seq_ct, rdV_v, rdV_o, ev_var, ev_cst, ev_glo, k2_s, ev_bin_2e, ev_bin_1e, ev_bin, negT_i, ev_neg_1e, ev_neg, notT_b, ev_not_1e, ev_not, ev_and, ev_or, ev_cmp_2e, ev_cmp_1e, ev_cmp, chB_t_1e, chB_t, chB_f, chA_s, ev_chain_2e, ev_chain_1e, ev_chain, k1_s, ev_isN_1e, ev_isN, ev_notN_1e, ev_notN, ev_isi_1e, ev_isi, iteK_t, iteK_f, ev_ite_1e, ev_ite, ev_tup_1e, ev_tup, ev_lst_1e, ev_lst, ev_dct0, ev_sub_2e, ev_sub_1e, ev_sub, ev_slc_3e, ev_slc_2e, ev_slc_1e, ev_slc, optE_abs, optE_f_1e, optE_f, ev_rev_1e, ev_rev, ev_call_1e, ev_call, ev_lrng_1e, ev_lrng, kl_s, ev_bi_1e, ev_bi, bs_nil, consO_s, bs_cons, muR_s, mutK_i, mutK_l, mutG_o_1e, mutG_o, ev_mut, evF_nil, fzK_s_1e, fzK_s, evF_cons_1e, evF_cons, evA_nil, evA_cons_2e, evA_cons_1e, evA_cons, evAnd_1, evAnd_2_1e, evAnd_2, evOr_1, evOr_2_1e, evOr_2, evC_nil, bK_t, bK_f, evC_cons_1e, evC_cons, evIt_rng_1e, evIt_rng, lkK_s, evIt_e_1e, evIt_e, putK_s, ss_asg_1e, ss_asg, ss_par_2e, ss_par_1e, ss_par, stS_o_1e, stS_o, stK_s, ss_setIx_1e, ss_setIx, ss_exp_1e, ss_exp, ss_ret_1e, ss_ret, ss_retN, oK_t, oK_f, ss_iff_1e, ss_iff, ss_for_1e, ss_for, ss_while, ss_pass, ss_brk, ss_cont, sss_nil, sss_cons, b_val, b_own, slD_o, slD_v, b_slot, fz_val, fz_own, weak_val, weak_own, weak_slot, v_val, asBl_b, optI_i, add_ii, sub_ii, lt_ii, le_ii, gt_ii, ge_ii, eq_dd, ne_dd, sub_li, sub_ti, sub_si, slc_l, slc_t, bi_len, bi_abs, bi_max, bi_min, bi_int, bi_list, bi_tuple, bi_sum, bi_all, bi_any, bi_sorted, bi_str, len_s, len_l, len_t, abs_i, max_ii, min_ii, int_i, int_b, list_l, list_t, tuple_l, tuple_t, saR_s, saK_i, saK_l, setAt_v, consM_s, outs_t, outs_f, outs_n, endK_s, end_rt, end_nx, rt_v, rt_o, rtS_l, rt_s, frB_n, frB_v, frB_l, free_eq, putT_v, putT_o, par_vv, par_oo, par_ov, par_vo, eqD_ii, eqD_bb, args_n, args_f, ioA_i, ioA_l, args_t, ios_n, ios_f, ios_t, leS_o, leS_v, lent_n, lent_fv, lent_fs, lent_t, cK_s, ret_t, ret_f, callC_n, callR_eq, callA_0, callA_1, po_n, poK_o, po_c, wB_nx, wB_ct, wB_bk, wB_rt, wK_t, wK_f, while_s_1e, fB_nx, fB_ct, fB_bk, fB_rt, fK_s, unl_nx, unl_rt, unlock_n, unK_o, unlock_s, lock_vl, lock_vt, lock_ol, lkS_l, lock_s, bind_nm, wipe_n, wipe_c, back_n, back_c, cR_ok, ev_comp_1e, ev_comp, List.getElem?_cons_zero, List.getElem?_cons_succ, List.set_cons_zero, List.set_cons_succ, Option.map_some, if_true, Nat.reduceEqDiff, reduceIte]⟩
    rw [List.nil_append] at cm
    have en : eqD (.lst ((xs.filter odd).map fun _ => D.int 1)) (.lst []) = some (xs.all isI) := by
      rw [eqD_nil fun d hd => by
        obtain ⟨_, _, rfl⟩ := List.mem_map.mp hd
        exact Pl.int _ _]
      congr 1
      rw [List.isEmpty_map]
      cases q : xs.all isI with
      | true =>
        rw [List.isEmpty_iff, List.filter_eq_nil_iff]
        intro x hxx
        have := List.all_eq_true.mp q x hxx
        unfold odd
        cases x <;> first | (cases this; done) | simp [isB, isI]
      | false =>
        rw [List.all_eq_false] at q
        obtain ⟨x, hxx, hq⟩ := q
        have : x ∈ xs.filter odd := List.mem_filter.mpr ⟨hxx, by
          unfold odd
          cases x <;> first | rfl | exact absurd rfl hq⟩
        cases e : xs.filter odd with
        | nil => rw [e] at this; cases this
        | cons _ _ => rfl
    by_cases hI : xs.all isI = true
    rotate_left
    · have hI' : xs.all isI = false := by simpa using hI
      simp -implicitDefEqProofs only [d_law_is_ring, ok_bind, ok_then, opt_some, seq_nx, seq_rt, seq_bk, seq_ct, rdV_v, rdV_o, ev_var, ev_cst, ev_glo, k2_s, ev_bin_2e, ev_bin_1e, ev_bin, negT_i, ev_neg_1e, ev_neg, notT_b, ev_not_1e, ev_not, ev_and, ev_or, ev_cmp_2e, ev_cmp_1e, ev_cmp, chB_t_1e, chB_t, chB_f, chA_s, ev_chain_2e, ev_chain_1e, ev_chain, k1_s, ev_isN_1e, ev_isN, ev_notN_1e, ev_notN, ev_isi_1e, ev_isi, iteK_t, iteK_f, ev_ite_1e, ev_ite, ev_tup_1e, ev_tup, ev_lst_1e, ev_lst, ev_dct0, ev_sub_2e, ev_sub_1e, ev_sub, ev_slc_3e, ev_slc_2e, ev_slc_1e, ev_slc, optE_abs, optE_f_1e, optE_f, ev_rev_1e, ev_rev, ev_call_1e, ev_call, ev_lrng_1e, ev_lrng, kl_s, ev_bi_1e, ev_bi, bs_nil, consO_s, bs_cons, muR_s, mutK_i, mutK_l, mutG_o_1e, mutG_o, ev_mut, evF_nil, fzK_s_1e, fzK_s, evF_cons_1e, evF_cons, evA_nil, evA_cons_2e, evA_cons_1e, evA_cons, evAnd_1, evAnd_2_1e, evAnd_2, evOr_1, evOr_2_1e, evOr_2, evC_nil, bK_t, bK_f, evC_cons_1e, evC_cons, evIt_rng_1e, evIt_rng, lkK_s, evIt_e_1e, evIt_e, putK_s, ss_asg_1e, ss_asg, ss_par_2e, ss_par_1e, ss_par, stS_o_1e, stS_o, stK_s, ss_setIx_1e, ss_setIx, ss_exp_1e, ss_exp, ss_ret_1e, ss_ret, ss_retN, oK_t, oK_f, ss_iff_1e, ss_iff, ss_for_1e, ss_for, ss_while, ss_pass, ss_brk, ss_cont, sss_nil, sss_cons, b_val, b_own, slD_o, slD_v, b_slot, fz_val, fz_own, weak_val, weak_own, weak_slot, v_val, asBl_b, optI_i, add_ii, sub_ii, lt_ii, le_ii, gt_ii, ge_ii, eq_dd, ne_dd, sub_li, sub_ti, sub_si, slc_l, slc_t, bi_len, bi_abs, bi_max, bi_min, bi_int, bi_list, bi_tuple, bi_sum, bi_all, bi_any, bi_sorted, bi_str, len_s, len_l, len_t, abs_i, max_ii, min_ii, int_i, int_b, list_l, list_t, tuple_l, tuple_t, saR_s, saK_i, saK_l, setAt_v, consM_s, outs_t, outs_f, outs_n, endK_s, end_rt, end_nx, rt_v, rt_o, rtS_l, rt_s, frB_n, frB_v, frB_l, free_eq, putT_v, putT_o, par_vv, par_oo, par_ov, par_vo, eqD_ii, eqD_bb, args_n, args_f, ioA_i, ioA_l, args_t, ios_n, ios_f, ios_t, leS_o, leS_v, lent_n, lent_fv, lent_fs, lent_t, cK_s, ret_t, ret_f, callC_n, callR_eq, callA_0, callA_1, po_n, poK_o, po_c, wB_nx, wB_ct, wB_bk, wB_rt, wK_t, wK_f, while_s_1e, fB_nx, fB_ct, fB_bk, fB_rt, fK_s, unl_nx, unl_rt, unlock_n, unK_o, unlock_s, lock_vl, lock_vt, lock_ol, lkS_l, lock_s, bind_nm, wipe_n, wipe_c, back_n, back_c, cR_ok, ev_comp_1e, ev_comp, List.getElem?_cons_zero, List.getElem?_cons_succ, List.set_cons_zero, List.set_cons_succ, Option.map_some, if_true, Nat.reduceEqDiff, reduceIte, ty_tup hv, isT, Bool.not_true, Bool.not_false, q1, decide_eq_true h2, q2, decide_eq_true h20, List.all_cons, List.all_nil, notOwn, Bool.and_true, cm, en, hI', List.getD_cons_succ, List.getD_cons_zero, List.length_nil, Nat.zero_le, Bool.false_and, Bool.and_false, Bool.true_and]
    · obtain ⟨ns, rfl⟩ := of_isI hI
      have dv : binD .FloorDiv (.int ((ns.map D.int).length : Int)) (.int 2) = some (.val (.int (((ns.map D.int).length / 2 : Nat) : Int))) := div_ii (by decide)
      have lr := lrng_1 (n := (ns.map D.int).length / 2) (by omega)
      have ml : binD .Mult (.lst ((rngI ((ns.map D.int).length / 2)).map .int)) (.int 2) = some (.own (.lst ((rngI ((ns.map D.int).length / 2) ++ rngI ((ns.map D.int).length / 2)).map .int))) := by
        rw [List.map_append]
        exact mul_l2 (by rw [List.length_map, rngI_length]; omega)
      simp -implicitDefEqProofs only [d_law_is_ring, ok_bind, ok_then, opt_some, seq_nx, seq_rt, seq_bk, seq_ct, rdV_v, rdV_o, ev_var, ev_cst, ev_glo, k2_s, ev_bin_2e, ev_bin_1e, ev_bin, negT_i, ev_neg_1e, ev_neg, notT_b, ev_not_1e, ev_not, ev_and, ev_or, ev_cmp_2e, ev_cmp_1e, ev_cmp, chB_t_1e, chB_t, chB_f, chA_s, ev_chain_2e, ev_chain_1e, ev_chain, k1_s, ev_isN_1e, ev_isN, ev_notN_1e, ev_notN, ev_isi_1e, ev_isi, iteK_t, iteK_f, ev_ite_1e, ev_ite, ev_tup_1e, ev_tup, ev_lst_1e, ev_lst, ev_dct0, ev_sub_2e, ev_sub_1e, ev_sub, ev_slc_3e, ev_slc_2e, ev_slc_1e, ev_slc, optE_abs, optE_f_1e, optE_f, ev_rev_1e, ev_rev, ev_call_1e, ev_call, ev_lrng_1e, ev_lrng, kl_s, ev_bi_1e, ev_bi, bs_nil, consO_s, bs_cons, muR_s, mutK_i, mutK_l, mutG_o_1e, mutG_o, ev_mut, evF_nil, fzK_s_1e, fzK_s, evF_cons_1e, evF_cons, evA_nil, evA_cons_2e, evA_cons_1e, evA_cons, evAnd_1, evAnd_2_1e, evAnd_2, evOr_1, evOr_2_1e, evOr_2, evC_nil, bK_t, bK_f, evC_cons_1e, evC_cons, evIt_rng_1e, evIt_rng, lkK_s, evIt_e_1e, evIt_e, putK_s, ss_asg_1e, ss_asg, ss_par_2e, ss_par_1e, ss_par, stS_o_1e, stS_o, stK_s, ss_setIx_1e, ss_setIx, ss_exp_1e, ss_exp, ss_ret_1e, ss_ret, ss_retN, oK_t, oK_f, ss_iff_1e, ss_iff, ss_for_1e, ss_for, ss_while, ss_pass, ss_brk, ss_cont, sss_nil, sss_cons, b_val, b_own, slD_o, slD_v, b_slot, fz_val, fz_own, weak_val, weak_own, weak_slot, v_val, asBl_b, optI_i, add_ii, sub_ii, lt_ii, le_ii, gt_ii, ge_ii, eq_dd, ne_dd, sub_li, sub_ti, sub_si, slc_l, slc_t, bi_len, bi_abs, bi_max, bi_min, bi_int, bi_list, bi_tuple, bi_sum, bi_all, bi_any, bi_sorted, bi_str, len_s, len_l, len_t, abs_i, max_ii, min_ii, int_i, int_b, list_l, list_t, tuple_l, tuple_t, saR_s, saK_i, saK_l, setAt_v, consM_s, outs_t, outs_f, outs_n, endK_s, end_rt, end_nx, rt_v, rt_o, rtS_l, rt_s, frB_n, frB_v, frB_l, free_eq, putT_v, putT_o, par_vv, par_oo, par_ov, par_vo, eqD_ii, eqD_bb, args_n, args_f, ioA_i, ioA_l, args_t, ios_n, ios_f, ios_t, leS_o, leS_v, lent_n, lent_fv, lent_fs, lent_t, cK_s, ret_t, ret_f, callC_n, callR_eq, callA_0, callA_1, po_n, poK_o, po_c, wB_nx, wB_ct, wB_bk, wB_rt, wK_t, wK_f, while_s_1e, fB_nx, fB_ct, fB_bk, fB_rt, fK_s, unl_nx, unl_rt, unlock_n, unK_o, unlock_s, lock_vl, lock_vt, lock_ol, lkS_l, lock_s, bind_nm, wipe_n, wipe_c, back_n, back_c, cR_ok, ev_comp_1e, ev_comp, List.getElem?_cons_zero, List.getElem?_cons_succ, List.set_cons_zero, List.set_cons_succ, Option.map_some, if_true, Nat.reduceEqDiff, reduceIte, ty_tup hv, isT, Bool.not_true, Bool.not_false, q1, decide_eq_true h2, q2, decide_eq_true h20, List.all_cons, List.all_nil, notOwn, Bool.and_true, cm, en, hI, List.getD_cons_succ, List.getD_cons_zero, List.length_nil, Nat.zero_le, Bool.true_and, dv, lr, ml, sorted_l, sorted_t, eqD_lints]
      rw [intL_map]
  | ins _ _ => cases hv
  | fn _ => cases hv
  | scr _ => cases hv
  | _ => simp -implicitDefEqProofs only [d_law_is_ring, ok_bind, ok_then, opt_some, seq_nx, seq_rt, seq_bk, seq_ct, rdV_v, rdV_o, ev_var, ev_cst, ev_glo, k2_s, ev_bin_2e, ev_bin_1e, ev_bin, negT_i, ev_neg_1e, ev_neg, notT_b, ev_not_1e, ev_not, ev_and, ev_or, ev_cmp_2e, ev_cmp_1e, ev_cmp, chB_t_1e, chB_t, chB_f, chA_s, ev_chain_2e, ev_chain_1e, ev_chain, k1_s, ev_isN_1e, ev_isN, ev_notN_1e, ev_notN, ev_isi_1e, ev_isi, iteK_t, iteK_f, ev_ite_1e, ev_ite, ev_tup_1e, ev_tup, ev_lst_1e, ev_lst, ev_dct0, ev_sub_2e, ev_sub_1e, ev_sub, ev_slc_3e, ev_slc_2e, ev_slc_1e, ev_slc, optE_abs, optE_f_1e, optE_f, ev_rev_1e, ev_rev, ev_call_1e, ev_call, ev_lrng_1e, ev_lrng, kl_s, ev_bi_1e, ev_bi, bs_nil, consO_s, bs_cons, muR_s, mutK_i, mutK_l, mutG_o_1e, mutG_o, ev_mut, evF_nil, fzK_s_1e, fzK_s, evF_cons_1e, evF_cons, evA_nil, evA_cons_2e, evA_cons_1e, evA_cons, evAnd_1, evAnd_2_1e, evAnd_2, evOr_1, evOr_2_1e, evOr_2, evC_nil, bK_t, bK_f, evC_cons_1e, evC_cons, evIt_rng_1e, evIt_rng, lkK_s, evIt_e_1e, evIt_e, putK_s, ss_asg_1e, ss_asg, ss_par_2e, ss_par_1e, ss_par, stS_o_1e, stS_o, stK_s, ss_setIx_1e, ss_setIx, ss_exp_1e, ss_exp, ss_ret_1e, ss_ret, ss_retN, oK_t, oK_f, ss_iff_1e, ss_iff, ss_for_1e, ss_for, ss_while, ss_pass, ss_brk, ss_cont, sss_nil, sss_cons, b_val, b_own, slD_o, slD_v, b_slot, fz_val, fz_own, weak_val, weak_own, weak_slot, v_val, asBl_b, optI_i, add_ii, sub_ii, lt_ii, le_ii, gt_ii, ge_ii, eq_dd, ne_dd, sub_li, sub_ti, sub_si, slc_l, slc_t, bi_len, bi_abs, bi_max, bi_min, bi_int, bi_list, bi_tuple, bi_sum, bi_all, bi_any, bi_sorted, bi_str, len_s, len_l, len_t, abs_i, max_ii, min_ii, int_i, int_b, list_l, list_t, tuple_l, tuple_t, saR_s, saK_i, saK_l, setAt_v, consM_s, outs_t, outs_f, outs_n, endK_s, end_rt, end_nx, rt_v, rt_o, rtS_l, rt_s, frB_n, frB_v, frB_l, free_eq, putT_v, putT_o, par_vv, par_oo, par_ov, par_vo, eqD_ii, eqD_bb, args_n, args_f, ioA_i, ioA_l, args_t, ios_n, ios_f, ios_t, leS_o, leS_v, lent_n, lent_fv, lent_fs, lent_t, cK_s, ret_t, ret_f, callC_n, callR_eq, callA_0, callA_1, po_n, poK_o, po_c, wB_nx, wB_ct, wB_bk, wB_rt, wK_t, wK_f, while_s_1e, fB_nx, fB_ct, fB_bk, fB_rt, fK_s, unl_nx, unl_rt, unlock_n, unK_o, unlock_s, lock_vl, lock_vt, lock_ol, lkS_l, lock_s, bind_nm, wipe_n, wipe_c, back_n, back_c, cR_ok, ev_comp_1e, ev_comp, List.getElem?_cons_zero, List.getElem?_cons_succ, List.set_cons_zero, List.set_cons_succ, Option.map_some, if_true, Nat.reduceEqDiff, reduceIte, ty_tup hv, isT, Bool.not_true, Bool.not_false, lawB]
/-! draws -/
def zb : BallC := ⟨86028121, 2305843009213693951, 139, 2305843009213693907, 7368791, 65543⟩
theorem zb_ok : zb.Ok := ⟨by decide, by decide, by decide, by decide, by decide, by decide⟩
theorem ball (k : Nat) : BallOk (phi tab (k + 1)) 4 := ball_ok (io := ioOf tab) (Φ := phi tab k) zb_ok fun u many => rfl
theorem mix (k : Nat) : MixOk (phi tab (k + 2)) 5 := mix_ok (io := ioOf tab) (Φ := phi tab (k + 1)) (f := 4) (x := "_law_ball") rfl (ball k) fun u c => rfl
def zu : UrnC := ⟨193, 71, 55, 6, 2305843009213693693, 101, 587, 59, 19⟩
theorem zu_ok : zu.Ok := ⟨by decide, by decide, by decide, by decide, by decide, by decide, by decide⟩
theorem urn (k : Nat) : UrnOk (phi tab (k + 1)) 3 := urn_ok (io := ioOf tab) (Φ := phi tab k) zu_ok fun a b => rfl
theorem draw_ring (k m : Nat) (u : D) (n : Nat) (hu : Urn m u) (hm : m < 2 ^ 900) (hn : n ≤ 1000) : ∃ (ns : List Int) (u' : D), phi tab (k + 3) 6 [u, .int (n : Int)] = .ok false (.tup (ns.map .int)) [u'] ∧ ns.Perm (rngI n ++ rngI n) ∧ Urn (m + 2 * n) u' := by
  have lr := lrng_1 (n := n) (by omega)
  have ml : binD .Mult (.lst ((rngI n).map .int)) (.int 2) = some (.own (.lst ((rngI n ++ rngI n).map .int))) := by
    rw [List.map_append]
    exact mul_l2 (by rw [List.length_map, rngI_length]; omega)
  have hl : ((sortI (rngI n ++ rngI n)).map D.int).length = 2 * n := by rw [List.length_map, (sortI_perm _).length_eq, List.length_append, rngI_length]; omega
  have big : (2 : Nat) ^ 900 + 2000 < 2 ^ 999 := by decide
  obtain ⟨out, u', e, p, hu'⟩ := mix k m u (.lst ((sortI (rngI n ++ rngI n)).map .int)) _ (.inl rfl) (fun d hd => by
    obtain ⟨i, _, rfl⟩ := List.mem_map.mp hd
    exact Pl.int _ _) (by omega) hu (by omega)
  have hall : out.all isI = true := List.all_eq_true.mpr fun x hx => by
    obtain ⟨i, _, rfl⟩ := List.mem_map.mp (p.mem_iff.mp hx)
    rfl
  obtain ⟨ns, rfl⟩ := of_isI hall
  refine ⟨ns, u', ?_, ?_, by rw [hl] at hu'; exact hu'⟩
  · rw [c6]
    simp -implicitDefEqProofs only [d_law_ring, ok_bind, ok_then, opt_some, seq_nx, seq_rt, seq_bk, seq_ct, rdV_v, rdV_o, ev_var, ev_cst, ev_glo, k2_s, ev_bin_2e, ev_bin_1e, ev_bin, negT_i, ev_neg_1e, ev_neg, notT_b, ev_not_1e, ev_not, ev_and, ev_or, ev_cmp_2e, ev_cmp_1e, ev_cmp, chB_t_1e, chB_t, chB_f, chA_s, ev_chain_2e, ev_chain_1e, ev_chain, k1_s, ev_isN_1e, ev_isN, ev_notN_1e, ev_notN, ev_isi_1e, ev_isi, iteK_t, iteK_f, ev_ite_1e, ev_ite, ev_tup_1e, ev_tup, ev_lst_1e, ev_lst, ev_dct0, ev_sub_2e, ev_sub_1e, ev_sub, ev_slc_3e, ev_slc_2e, ev_slc_1e, ev_slc, optE_abs, optE_f_1e, optE_f, ev_rev_1e, ev_rev, ev_call_1e, ev_call, ev_lrng_1e, ev_lrng, kl_s, ev_bi_1e, ev_bi, bs_nil, consO_s, bs_cons, muR_s, mutK_i, mutK_l, mutG_o_1e, mutG_o, ev_mut, evF_nil, fzK_s_1e, fzK_s, evF_cons_1e, evF_cons, evA_nil, evA_cons_2e, evA_cons_1e, evA_cons, evAnd_1, evAnd_2_1e, evAnd_2, evOr_1, evOr_2_1e, evOr_2, evC_nil, bK_t, bK_f, evC_cons_1e, evC_cons, evIt_rng_1e, evIt_rng, lkK_s, evIt_e_1e, evIt_e, putK_s, ss_asg_1e, ss_asg, ss_par_2e, ss_par_1e, ss_par, stS_o_1e, stS_o, stK_s, ss_setIx_1e, ss_setIx, ss_exp_1e, ss_exp, ss_ret_1e, ss_ret, ss_retN, oK_t, oK_f, ss_iff_1e, ss_iff, ss_for_1e, ss_for, ss_while, ss_pass, ss_brk, ss_cont, sss_nil, sss_cons, b_val, b_own, slD_o, slD_v, b_slot, fz_val, fz_own, weak_val, weak_own, weak_slot, v_val, asBl_b, optI_i, add_ii, sub_ii, lt_ii, le_ii, gt_ii, ge_ii, eq_dd, ne_dd, sub_li, sub_ti, sub_si, slc_l, slc_t, bi_len, bi_abs, bi_max, bi_min, bi_int, bi_list, bi_tuple, bi_sum, bi_all, bi_any, bi_sorted, bi_str, len_s, len_l, len_t, abs_i, max_ii, min_ii, int_i, int_b, list_l, list_t, tuple_l, tuple_t, saR_s, saK_i, saK_l, setAt_v, consM_s, outs_t, outs_f, outs_n, endK_s, end_rt, end_nx, rt_v, rt_o, rtS_l, rt_s, frB_n, frB_v, frB_l, free_eq, putT_v, putT_o, par_vv, par_oo, par_ov, par_vo, eqD_ii, eqD_bb, args_n, args_f, ioA_i, ioA_l, args_t, ios_n, ios_f, ios_t, leS_o, leS_v, lent_n, lent_fv, lent_fs, lent_t, cK_s, ret_t, ret_f, callC_n, callR_eq, callA_0, callA_1, po_n, poK_o, po_c, wB_nx, wB_ct, wB_bk, wB_rt, wK_t, wK_f, while_s_1e, fB_nx, fB_ct, fB_bk, fB_rt, fK_s, unl_nx, unl_rt, unlock_n, unK_o, unlock_s, lock_vl, lock_vt, lock_ol, lkS_l, lock_s, bind_nm, wipe_n, wipe_c, back_n, back_c, cR_ok, ev_comp_1e, ev_comp, List.getElem?_cons_zero, List.getElem?_cons_succ, List.set_cons_zero, List.set_cons_succ, Option.map_some, if_true, Nat.reduceEqDiff, reduceIte, lr, ml, sorted_l, i5, e]
  · have q : ns.Perm (sortI (rngI n ++ rngI n)) := by
      have := p.map (fun d => match d with
        | D.int i => i
        | _ => (0 : Int))
      rw [List.map_map, List.map_map] at this
      have e1 : ∀ l : List Int, l.map ((fun d => match d with
        | D.int i => i
        | _ => (0 : Int)) ∘ D.int) = l := fun l => by
        conv => rhs; rw [← List.map_id l]
        exact List.map_congr_left fun _ _ => rfl
      rw [e1, e1] at this
      exact this
    exact q.trans (sortI_perm _)
end k25
end Py

set_option Elab.async false
set_option linter.all false
set_option maxRecDepth 100000
set_option maxHeartbeats 2000000
set_option exponentiation.threshold 2000
namespace Py
namespace k25
open PySem PySem.Spec
open PyProof.Rows L2
theorem c8 (k : Nat) (a b : D) : phi tab (k + 1) 8 [a, b] = endR [true, false] (sss (ioOf tab) (phi tab k) d_law_near.body [.own .io a, .val b, .no, .no, .no, .no, .no]) := rfl
theorem c9 (k : Nat) (a : D) : phi tab (k + 1) 9 [a] = endR [true] (sss (ioOf tab) (phi tab k) d_law_right.body [.own .io a, .no, .no]) := rfl
theorem c10 (k : Nat) (a : D) : phi tab (k + 1) 10 [a] = endR [false] (sss (ioOf tab) (phi tab k) d_law_is_plain.body [.val a, .no]) := rfl
def NV (v : D) : Prop := Nice v = true ∧ ∀ xs, v = .tup xs → ∀ x ∈ xs, Nice x = true
theorem nv_tup {xs : List D} (h : ∀ x ∈ xs, Nice x = true) : NV (.tup xs) := ⟨rfl, fun ys e => by cases e; exact h⟩
theorem mem_cut {xs : List D} {lo hi : Option Int} {x : D} (h : x ∈ cutD xs lo hi) : x ∈ xs := by
  unfold cutD at h
  exact List.mem_of_mem_drop (List.mem_of_mem_take h)
theorem cut_len {xs : List D} {lo hi : Option Int} : (cutD xs lo hi).length ≤ xs.length := by
  unfold cutD
  rw [List.length_take, List.length_drop]
  omega
def incD : D → D
  | .int i => .int (i + 1)
  | d => d
def mixD : D → D
  | .int i => if i < 2 then .bl (i == 1) else .int i
  | d => d
def nearB : ISs := .cons (.exp (.mut .append 2 (.cons (.bin .Add (.bin .Add (.slc (.var 1) (.absent) (.var 4)) (.tup (.cons (.var 3) .nil))) (.slc (.var 1) (.bin .Add (.var 4) (.cst (.int 1))) (.absent))) .nil))) .nil
theorem near_loop (io : Nat → List Bool) (Φ : Nat → List D → FR) (u b : D) (a : Int) (xs : List D) (hx : xs.length ≤ 1000) (s6 : Slot) : ∀ (news fs : List D) (s3 : Slot), frB (some s3) = true → fs.length + news.length ≤ 1000 →
    ∃ s3' : Slot, frB (some s3') = true ∧ forLoop (.nm 3) (sss io Φ nearB) news [.own .io u, .val (.tup xs), .own .loc (.lst fs), s3, .val (.int a), .val b, s6] =
      .nx [.own .io u, .val (.tup xs), .own .loc (.lst (fs ++ news.map fun x => .tup (cutD xs none (some a) ++ [x] ++ cutD xs (some (a + 1)) none))), s3', .val (.int a), .val b, s6]
  | [], fs, s3, h3, _ => ⟨s3, h3, by rw [List.map_nil, List.append_nil]; rfl⟩
  | x :: news, fs, s3, h3, hl => by
    have hl : fs.length + (news.length + 1) ≤ 1000 := hl
    obtain ⟨s3', h3', e⟩ := near_loop io Φ u b a xs hx s6 news (fs ++ [.tup (cutD xs none (some a) ++ [x] ++ cutD xs (some (a + 1)) none)]) (.val x) rfl (by rw [List.length_append, List.length_singleton]; omega)
    refine ⟨s3', h3', ?_⟩
    have l1 := cut_len (xs := xs) (lo := none) (hi := some a)
    have l2 := cut_len (xs := xs) (lo := some (a + 1)) (hi := none)
    have a1 : binD .Add (.tup (cutD xs none (some a))) (.tup [x]) = some (.val (.tup (cutD xs none (some a) ++ [x]))) := add_tt (by rw [List.length_singleton]; omega)
    have a2 : binD .Add (.tup (cutD xs none (some a) ++ [x])) (.tup (cutD xs (some (a + 1)) none)) = some (.val (.tup (cutD xs none (some a) ++ [x] ++ cutD xs (some (a + 1)) none))) := add_tt (by rw [List.length_append, List.length_singleton]; omega)
    have a3 : muD .append (.lst fs) [.tup (cutD xs none (some a) ++ [x] ++ cutD xs (some (a + 1)) none)] = some (.non, .lst (fs ++ [.tup (cutD xs none (some a) ++ [x] ++ cutD xs (some (a + 1)) none)])) := mu_app (by omega)
    have lt : ([x] : List D).length ≤ 1000000 := by rw [List.length_singleton]; decide
    rw [for_c]
    have b1 : bindTg (.nm 3) x [.own .io u, .val (.tup xs), .own .loc (.lst fs), s3, .val (.int a), .val b, s6] = some [.own .io u, .val (.tup xs), .own .loc (.lst fs), .val x, .val (.int a), .val b, s6] := by
      simp -implicitDefEqProofs only [ok_bind, ok_then, opt_some, seq_nx, seq_rt, seq_bk, seq_ct, rdV_v, rdV_o, ev_var, ev_cst, ev_glo, k2_s, ev_bin_2e, ev_bin_1e, ev_bin, negT_i, ev_neg_1e, ev_neg, notT_b, ev_not_1e, ev_not, ev_and, ev_or, ev_cmp_2e, ev_cmp_1e, ev_cmp, chB_t_1e, chB_t, chB_f, chA_s, ev_chain_2e, ev_chain_1e, ev_chain, k1_s, ev_isN_1e, ev_isN, ev_notN_1e, ev_notN, ev_isi_1e, ev_isi, iteK_t, iteK_f, ev_ite_1e, ev_ite, ev_tup_1e, ev_tup, ev_lst_1e, ev_lst, ev_dct0, ev_sub_2e, ev_sub_1e, ev_sub, ev_slc_3e, ev_slc_2e, ev_slc_1e, ev_slc, optE_abs, optE_f_1e, optE_f, ev_rev_1e, ev_rev, ev_call_1e, ev_call, ev_lrng_1e, ev_lrng, kl_s, ev_bi_1e, ev_bi, bs_nil, consO_s, bs_cons, muR_s, mutK_i, mutK_l, mutG_o_1e, mutG_o, ev_mut, evF_nil, fzK_s_1e, fzK_s, evF_cons_1e, evF_cons, evA_nil, evA_cons_2e, evA_cons_1e, evA_cons, evAnd_1, evAnd_2_1e, evAnd_2, evOr_1, evOr_2_1e, evOr_2, evC_nil, bK_t, bK_f, evC_cons_1e, evC_cons, evIt_rng_1e, evIt_rng, lkK_s, evIt_e_1e, evIt_e, putK_s, ss_asg_1e, ss_asg, ss_par_2e, ss_par_1e, ss_par, stS_o_1e, stS_o, stK_s, ss_setIx_1e, ss_setIx, ss_exp_1e, ss_exp, ss_ret_1e, ss_ret, ss_retN, oK_t, oK_f, ss_iff_1e, ss_iff, ss_for_1e, ss_for, ss_while, ss_pass, ss_brk, ss_cont, sss_nil, sss_cons, b_val, b_own, slD_o, slD_v, b_slot, fz_val, fz_own, weak_val, weak_own, weak_slot, v_val, asBl_b, optI_i, add_ii, sub_ii, lt_ii, le_ii, gt_ii, ge_ii, eq_dd, ne_dd, sub_li, sub_ti, sub_si, slc_l, slc_t, bi_len, bi_abs, bi_max, bi_min, bi_int, bi_list, bi_tuple, bi_sum, bi_all, bi_any, bi_sorted, bi_str, len_s, len_l, len_t, abs_i, max_ii, min_ii, int_i, int_b, list_l, list_t, tuple_l, tuple_t, saR_s, saK_i, saK_l, setAt_v, consM_s, outs_t, outs_f, outs_n, endK_s, end_rt, end_nx, rt_v, rt_o, rtS_l, rt_s, frB_n, frB_v, frB_l, free_eq, putT_v, putT_o, par_vv, par_oo, par_ov, par_vo, eqD_ii, eqD_bb, args_n, args_f, ioA_i, ioA_l, args_t, ios_n, ios_f, ios_t, leS_o, leS_v, lent_n, lent_fv, lent_fs, lent_t, cK_s, ret_t, ret_f, callC_n, callR_eq, callA_0, callA_1, po_n, poK_o, po_c, wB_nx, wB_ct, wB_bk, wB_rt, wK_t, wK_f, while_s_1e, fB_nx, fB_ct, fB_bk, fB_rt, fK_s, unl_nx, unl_rt, unlock_n, unK_o, unlock_s, lock_vl, lock_vt, lock_ol, lkS_l, lock_s, bind_nm, wipe_n, wipe_c, back_n, back_c, cR_ok, ev_comp_1e, ev_comp, List.getElem?_cons_zero, List.getElem?_cons_succ, List.set_cons_zero, List.set_cons_succ, Option.map_some, if_true, Nat.reduceEqDiff, reduceIte, h3]
    have is1 : isAbs (.var 4) = false := rfl
    have is2 : isAbs (.bin .Add (.var 4) (.cst (.int 1))) = false := rfl
    rw [b1]
    simp -implicitDefEqProofs only [nearB, ok_bind, ok_then, opt_some, seq_nx, seq_rt, seq_bk, seq_ct, rdV_v, rdV_o, ev_var, ev_cst, ev_glo, k2_s, ev_bin_2e, ev_bin_1e, ev_bin, negT_i, ev_neg_1e, ev_neg, notT_b, ev_not_1e, ev_not, ev_and, ev_or, ev_cmp_2e, ev_cmp_1e, ev_cmp, chB_t_1e, chB_t, chB_f, chA_s, ev_chain_2e, ev_chain_1e, ev_chain, k1_s, ev_isN_1e, ev_isN, ev_notN_1e, ev_notN, ev_isi_1e, ev_isi, iteK_t, iteK_f, ev_ite_1e, ev_ite, ev_tup_1e, ev_tup, ev_lst_1e, ev_lst, ev_dct0, ev_sub_2e, ev_sub_1e, ev_sub, ev_slc_3e, ev_slc_2e, ev_slc_1e, ev_slc, optE_abs, optE_f_1e, optE_f, ev_rev_1e, ev_rev, ev_call_1e, ev_call, ev_lrng_1e, ev_lrng, kl_s, ev_bi_1e, ev_bi, bs_nil, consO_s, bs_cons, muR_s, mutK_i, mutK_l, mutG_o_1e, mutG_o, ev_mut, evF_nil, fzK_s_1e, fzK_s, evF_cons_1e, evF_cons, evA_nil, evA_cons_2e, evA_cons_1e, evA_cons, evAnd_1, evAnd_2_1e, evAnd_2, evOr_1, evOr_2_1e, evOr_2, evC_nil, bK_t, bK_f, evC_cons_1e, evC_cons, evIt_rng_1e, evIt_rng, lkK_s, evIt_e_1e, evIt_e, putK_s, ss_asg_1e, ss_asg, ss_par_2e, ss_par_1e, ss_par, stS_o_1e, stS_o, stK_s, ss_setIx_1e, ss_setIx, ss_exp_1e, ss_exp, ss_ret_1e, ss_ret, ss_retN, oK_t, oK_f, ss_iff_1e, ss_iff, ss_for_1e, ss_for, ss_while, ss_pass, ss_brk, ss_cont, sss_nil, sss_cons, b_val, b_own, slD_o, slD_v, b_slot, fz_val, fz_own, weak_val, weak_own, weak_slot, v_val, asBl_b, optI_i, add_ii, sub_ii, lt_ii, le_ii, gt_ii, ge_ii, eq_dd, ne_dd, sub_li, sub_ti, sub_si, slc_l, slc_t, bi_len, bi_abs, bi_max, bi_min, bi_int, bi_list, bi_tuple, bi_sum, bi_all, bi_any, bi_sorted, bi_str, len_s, len_l, len_t, abs_i, max_ii, min_ii, int_i, int_b, list_l, list_t, tuple_l, tuple_t, saR_s, saK_i, saK_l, setAt_v, consM_s, outs_t, outs_f, outs_n, endK_s, end_rt, end_nx, rt_v, rt_o, rtS_l, rt_s, frB_n, frB_v, frB_l, free_eq, putT_v, putT_o, par_vv, par_oo, par_ov, par_vo, eqD_ii, eqD_bb, args_n, args_f, ioA_i, ioA_l, args_t, ios_n, ios_f, ios_t, leS_o, leS_v, lent_n, lent_fv, lent_fs, lent_t, cK_s, ret_t, ret_f, callC_n, callR_eq, callA_0, callA_1, po_n, poK_o, po_c, wB_nx, wB_ct, wB_bk, wB_rt, wK_t, wK_f, while_s_1e, fB_nx, fB_ct, fB_bk, fB_rt, fK_s, unl_nx, unl_rt, unlock_n, unK_o, unlock_s, lock_vl, lock_vt, lock_ol, lkS_l, lock_s, bind_nm, wipe_n, wipe_c, back_n, back_c, cR_ok, ev_comp_1e, ev_comp, List.getElem?_cons_zero, List.getElem?_cons_succ, List.set_cons_zero, List.set_cons_succ, Option.map_some, if_true, Nat.reduceEqDiff, reduceIte, is1, is2, a1, lt, a2, a3]
    rw [show sss io Φ (.cons (.exp (.mut .append 2 (.cons (.bin .Add (.bin .Add (.slc (.var 1) (.absent) (.var 4)) (.tup (.cons (.var 3) .nil))) (.slc (.var 1) (.bin .Add (.var 4) (.cst (.int 1))) (.absent))) .nil))) .nil) = sss io Φ nearB from rfl, e, List.map_cons, List.append_assoc]
    rfl
end k25
end Py

set_option Elab.async false
set_option linter.all false
set_option maxRecDepth 100000
set_option maxHeartbeats 4000000
set_option exponentiation.threshold 2000
namespace Py
namespace k25
open PySem PySem.Spec
open PyProof.Rows L2
theorem near_ok (k m : Nat) (u : D) (ns : List Int) (hu : Urn m u) (hm : m < 2 ^ 900) (h2 : 2 ≤ ns.length) (h20 : ns.length ≤ 20) (hr : ∀ i ∈ ns, 0 ≤ i ∧ i < 100) : ∃ (vs : List D) (u' : D), phi tab (k + 2) 8 [u, .tup (ns.map .int)] = .ok true (.lst vs) [u'] ∧ (∀ v ∈ vs, NV v) ∧ vs.length ≤ 1000 ∧ Urn (m + 2) u' := by
  have big : (2 : Nat) ^ 900 + 2000 < 2 ^ 999 := by decide
  have lg : (ns.map D.int).length = ns.length := List.length_map ..
  have llog : (((ns.map D.int).length : Nat) : Int).natAbs.log2 < 9000 := by
    rw [Int.natAbs_natCast, lg]
    have : ns.length < 2 ^ 20 := by omega
    have := (Nat.log2_lt (by omega)).mpr this
    omega
  obtain ⟨x, u1, e1, h1, h1', hu1⟩ := ball k m u ((ns.map D.int).length : Int) hu (by omega) (by omega) llog
  obtain ⟨y, u2, e2, h3, h3', hu2⟩ := ball k (m + 1) u1 ((ns.map D.int).length : Int) hu1 (by omega) (by omega) llog
  obtain ⟨a, rfl⟩ := Int.eq_ofNat_of_zero_le h1
  obtain ⟨b, rfl⟩ := Int.eq_ofNat_of_zero_le h3
  rw [lg] at h1' h3'
  have ha : a < ns.length := by omega
  have hb : b < ns.length := by omega
  have sa : atI (ns.map D.int) (a : Int) = some (D.int ns[a]) := atI_nat (by rw [List.getElem?_map, List.getElem?_eq_getElem ha]; rfl)
  have sb : atI (ns.map D.int) (b : Int) = some (D.int ns[b]) := atI_nat (by rw [List.getElem?_map, List.getElem?_eq_getElem hb]; rfl)
  have ra := hr _ (List.getElem_mem ha)
  generalize hxs : ns.map D.int = xs at *
  have nx : ∀ d ∈ xs, Nice d = true := fun d hd => by
    rw [← hxs] at hd
    obtain ⟨_, _, rfl⟩ := List.mem_map.mp hd
    rfl
  have cl : ∀ lo hi, (cutD xs lo hi).length ≤ 20 := fun lo hi => Nat.le_trans cut_len (by omega)
  have st1 : str1D (.int ns[a]) = some (.val (.str (toString ns[a]))) := by
    have c : (ns[a]).natAbs.log2 < 1920 := by
      by_cases z : (ns[a]).natAbs = 0
      · rw [z]; simp
      · have := (Nat.log2_lt z).mpr (show (ns[a]).natAbs < 2 ^ 10 by omega)
        omega
    exact if_pos c
  have dv : binD .FloorDiv (.int (xs.length : Int)) (.int 2) = some (.val (.int ((xs.length : Int) / 2))) := div_ii (by decide)
  have p60 : binD .Pow (.int 10) (.int 60) = some (.val (.int (10 ^ (60 : Int).toNat))) := pow_ii (by decide)
  have add1 : binD .Add (.tup xs) (.tup xs) = some (.val (.tup (xs ++ xs))) := add_tt (by omega)
  have add2 : binD .Add (.tup xs) (.tup (cutD xs none (some 1))) = some (.val (.tup (xs ++ cutD xs none (some 1)))) := add_tt (by have := cl none (some 1); omega)
  have add3 : binD .Add (.tup (cutD xs (some (a : Int)) none)) (.tup (cutD xs none (some (a : Int)))) = some (.val (.tup (cutD xs (some (a : Int)) none ++ cutD xs none (some (a : Int))))) := add_tt (by have := cl none (some (a : Int)); have := cl (some (a : Int)) none; omega)
  -- the things near
  let fs : List D := [.tup xs, .lst xs, .tup (cutD xs (some 1) none), .tup (cutD xs none (some (-1))), .tup (xs ++ xs), .tup (xs ++ cutD xs none (some 1)), .non, .int 0, .tup [], .dct [], .str "0011", .tup [.tup xs]]
  let news : List D := [.int ns[b], .int (ns[a] + 1), .int (ns[a] - 1), .int ((xs.length : Int) / 2), .bl true, .non, .str (toString ns[a]), .tup [.int 0], .int (10 ^ (60 : Int).toNat), .lst [.int 0], .dct []]
  obtain ⟨s3', hs3, eloop⟩ := near_loop (ioOf tab) (phi tab (k + 1)) u2 (.int (b : Int)) (a : Int) xs (by omega) .no news fs .no rfl (by show 12 + 11 ≤ 1000; decide)
  have hnn : ∀ d ∈ news, Nice d = true := by
    intro d hd
    simp only [news, List.mem_cons, List.not_mem_nil, or_false] at hd
    rcases hd with rfl | rfl | rfl | rfl | rfl | rfl | rfl | rfl | rfl | rfl | rfl <;> rfl
  have hfn : ∀ d ∈ fs, NV d := by
    intro d hd
    simp only [fs, List.mem_cons, List.not_mem_nil, or_false] at hd
    have ne : ∀ {d : D}, Nice d = true → isT d = false → NV d := fun {d} h1 h2 => ⟨h1, fun ys e => by subst e; cases h2⟩
    rcases hd with rfl | rfl | rfl | rfl | rfl | rfl | rfl | rfl | rfl | rfl | rfl | rfl
    · exact nv_tup nx
    · exact ne rfl rfl
    · exact nv_tup fun d hd => nx d (mem_cut hd)
    · exact nv_tup fun d hd => nx d (mem_cut hd)
    · exact nv_tup fun d hd => nx d ((List.mem_append.mp hd).elim id id)
    · exact nv_tup fun d hd => (List.mem_append.mp hd).elim (nx d) fun z => nx d (mem_cut z)
    · exact ne rfl rfl
    · exact ne rfl rfl
    · exact nv_tup fun d hd => by cases hd
    · exact ne rfl rfl
    · exact ne rfl rfl
    · exact nv_tup fun d hd => by
        have : d = .tup xs := by simpa using hd
        subst this; rfl
  have hl : (fs ++ news.map fun x => D.tup (cutD xs none (some (a : Int)) ++ [x] ++ cutD xs (some ((a : Int) + 1)) none)).length = 23 := by rw [List.length_append, List.length_map]; rfl
  have hgn : ∀ d ∈ (fs ++ news.map fun x => D.tup (cutD xs none (some (a : Int)) ++ [x] ++ cutD xs (some ((a : Int) + 1)) none)), NV d := fun d hd => by
    rcases List.mem_append.mp hd with z | z
    · exact hfn d z
    · obtain ⟨x, hx, rfl⟩ := List.mem_map.mp z
      refine nv_tup fun d hd => ?_
      rcases List.mem_append.mp hd with w | w
      · rcases List.mem_append.mp w with w | w
        · exact nx d (mem_cut w)
        · have : d = x := by simpa using w
          subst this
          exact hnn d hx
      · exact nx d (mem_cut w)
  generalize hgs : (fs ++ news.map fun x => D.tup (cutD xs none (some (a : Int)) ++ [x] ++ cutD xs (some ((a : Int) + 1)) none)) = gs at eloop hl hgn
  -- behind the loop
  have cm1 : ∀ s3 : Slot, compLoop [6] (.nm 6) (evC (ioOf tab) (phi tab (k + 1)) .nil) (ev (ioOf tab) (phi tab (k + 1)) (.bin .Add (.var 6) (.cst (.int 1)))) xs [] [.own .io u2, .val (.tup xs), .own .loc (.lst gs), s3, .val (.int (a : Int)), .val (.int (b : Int)), .no] = .ok (xs.map incD) [.own .io u2, .val (.tup xs), .own .loc (.lst gs), s3, .val (.int (a : Int)), .val (.int (b : Int)), .no] := fun s3 => by
    refine comp_map (by omega) fun d hd => ?_
    rw [← hxs] at hd
    obtain ⟨i, _, rfl⟩ := List.mem_map.mp hd
    exact ⟨[.own .io u2, .val (.tup xs), .own .loc (.lst gs), s3, .val (.int (a : Int)), .val (.int (b : Int)), .val (.int i)], by simp -implicitDefEqProofs only [ok_bind, ok_then, opt_some, seq_nx, seq_rt, seq_bk, seq_ct, rdV_v, rdV_o, ev_var, ev_cst, ev_glo, k2_s, ev_bin_2e, ev_bin_1e, ev_bin, negT_i, ev_neg_1e, ev_neg, notT_b, ev_not_1e, ev_not, ev_and, ev_or, ev_cmp_2e, ev_cmp_1e, ev_cmp, chB_t_1e, chB_t, chB_f, chA_s, ev_chain_2e, ev_chain_1e, ev_chain, k1_s, ev_isN_1e, ev_isN, ev_notN_1e, ev_notN, ev_isi_1e, ev_isi, iteK_t, iteK_f, ev_ite_1e, ev_ite, ev_tup_1e, ev_tup, ev_lst_1e, ev_lst, ev_dct0, ev_sub_2e, ev_sub_1e, ev_sub, ev_slc_3e, ev_slc_2e, ev_slc_1e, ev_slc, optE_abs, optE_f_1e, optE_f, ev_rev_1e, ev_rev, ev_call_1e, ev_call, ev_lrng_1e, ev_lrng, kl_s, ev_bi_1e, ev_bi, bs_nil, consO_s, bs_cons, muR_s, mutK_i, mutK_l, mutG_o_1e, mutG_o, ev_mut, evF_nil, fzK_s_1e, fzK_s, evF_cons_1e, evF_cons, evA_nil, evA_cons_2e, evA_cons_1e, evA_cons, evAnd_1, evAnd_2_1e, evAnd_2, evOr_1, evOr_2_1e, evOr_2, evC_nil, bK_t, bK_f, evC_cons_1e, evC_cons, evIt_rng_1e, evIt_rng, lkK_s, evIt_e_1e, evIt_e, putK_s, ss_asg_1e, ss_asg, ss_par_2e, ss_par_1e, ss_par, stS_o_1e, stS_o, stK_s, ss_setIx_1e, ss_setIx, ss_exp_1e, ss_exp, ss_ret_1e, ss_ret, ss_retN, oK_t, oK_f, ss_iff_1e, ss_iff, ss_for_1e, ss_for, ss_while, ss_pass, ss_brk, ss_cont, sss_nil, sss_cons, b_val, b_own, slD_o, slD_v, b_slot, fz_val, fz_own, weak_val, weak_own, weak_slot, v_val, asBl_b, optI_i, add_ii, sub_ii, lt_ii, le_ii, gt_ii, ge_ii, eq_dd, ne_dd, sub_li, sub_ti, sub_si, slc_l, slc_t, bi_len, bi_abs, bi_max, bi_min, bi_int, bi_list, bi_tuple, bi_sum, bi_all, bi_any, bi_sorted, bi_str, len_s, len_l, len_t, abs_i, max_ii, min_ii, int_i, int_b, list_l, list_t, tuple_l, tuple_t, saR_s, saK_i, saK_l, setAt_v, consM_s, outs_t, outs_f, outs_n, endK_s, end_rt, end_nx, rt_v, rt_o, rtS_l, rt_s, frB_n, frB_v, frB_l, free_eq, putT_v, putT_o, par_vv, par_oo, par_ov, par_vo, eqD_ii, eqD_bb, args_n, args_f, ioA_i, ioA_l, args_t, ios_n, ios_f, ios_t, leS_o, leS_v, lent_n, lent_fv, lent_fs, lent_t, cK_s, ret_t, ret_f, callC_n, callR_eq, callA_0, callA_1, po_n, poK_o, po_c, wB_nx, wB_ct, wB_bk, wB_rt, wK_t, wK_f, while_s_1e, fB_nx, fB_ct, fB_bk, fB_rt, fK_s, unl_nx, unl_rt, unlock_n, unK_o, unlock_s, lock_vl, lock_vt, lock_ol, lkS_l, lock_s, bind_nm, wipe_n, wipe_c, back_n, back_c, cR_ok, ev_comp_1e, ev_comp, List.getElem?_cons_zero, List.getElem?_cons_succ, List.set_cons_zero, List.set_cons_succ, Option.map_some, if_true, Nat.reduceEqDiff, reduceIte], by simp -implicitDefEqProofs only [ok_bind, ok_then, opt_some, seq_nx, seq_rt, seq_bk, seq_ct, rdV_v, rdV_o, ev_var, ev_cst, ev_glo, k2_s, ev_bin_2e, ev_bin_1e, ev_bin, negT_i, ev_neg_1e, ev_neg, notT_b, ev_not_1e, ev_not, ev_and, ev_or, ev_cmp_2e, ev_cmp_1e, ev_cmp, chB_t_1e, chB_t, chB_f, chA_s, ev_chain_2e, ev_chain_1e, ev_chain, k1_s, ev_isN_1e, ev_isN, ev_notN_1e, ev_notN, ev_isi_1e, ev_isi, iteK_t, iteK_f, ev_ite_1e, ev_ite, ev_tup_1e, ev_tup, ev_lst_1e, ev_lst, ev_dct0, ev_sub_2e, ev_sub_1e, ev_sub, ev_slc_3e, ev_slc_2e, ev_slc_1e, ev_slc, optE_abs, optE_f_1e, optE_f, ev_rev_1e, ev_rev, ev_call_1e, ev_call, ev_lrng_1e, ev_lrng, kl_s, ev_bi_1e, ev_bi, bs_nil, consO_s, bs_cons, muR_s, mutK_i, mutK_l, mutG_o_1e, mutG_o, ev_mut, evF_nil, fzK_s_1e, fzK_s, evF_cons_1e, evF_cons, evA_nil, evA_cons_2e, evA_cons_1e, evA_cons, evAnd_1, evAnd_2_1e, evAnd_2, evOr_1, evOr_2_1e, evOr_2, evC_nil, bK_t, bK_f, evC_cons_1e, evC_cons, evIt_rng_1e, evIt_rng, lkK_s, evIt_e_1e, evIt_e, putK_s, ss_asg_1e, ss_asg, ss_par_2e, ss_par_1e, ss_par, stS_o_1e, stS_o, stK_s, ss_setIx_1e, ss_setIx, ss_exp_1e, ss_exp, ss_ret_1e, ss_ret, ss_retN, oK_t, oK_f, ss_iff_1e, ss_iff, ss_for_1e, ss_for, ss_while, ss_pass, ss_brk, ss_cont, sss_nil, sss_cons, b_val, b_own, slD_o, slD_v, b_slot, fz_val, fz_own, weak_val, weak_own, weak_slot, v_val, asBl_b, optI_i, add_ii, sub_ii, lt_ii, le_ii, gt_ii, ge_ii, eq_dd, ne_dd, sub_li, sub_ti, sub_si, slc_l, slc_t, bi_len, bi_abs, bi_max, bi_min, bi_int, bi_list, bi_tuple, bi_sum, bi_all, bi_any, bi_sorted, bi_str, len_s, len_l, len_t, abs_i, max_ii, min_ii, int_i, int_b, list_l, list_t, tuple_l, tuple_t, saR_s, saK_i, saK_l, setAt_v, consM_s, outs_t, outs_f, outs_n, endK_s, end_rt, end_nx, rt_v, rt_o, rtS_l, rt_s, frB_n, frB_v, frB_l, free_eq, putT_v, putT_o, par_vv, par_oo, par_ov, par_vo, eqD_ii, eqD_bb, args_n, args_f, ioA_i, ioA_l, args_t, ios_n, ios_f, ios_t, leS_o, leS_v, lent_n, lent_fv, lent_fs, lent_t, cK_s, ret_t, ret_f, callC_n, callR_eq, callA_0, callA_1, po_n, poK_o, po_c, wB_nx, wB_ct, wB_bk, wB_rt, wK_t, wK_f, while_s_1e, fB_nx, fB_ct, fB_bk, fB_rt, fK_s, unl_nx, unl_rt, unlock_n, unK_o, unlock_s, lock_vl, lock_vt, lock_ol, lkS_l, lock_s, bind_nm, wipe_n, wipe_c, back_n, back_c, cR_ok, ev_comp_1e, ev_comp, List.getElem?_cons_zero, List.getElem?_cons_succ, List.set_cons_zero, List.set_cons_succ, Option.map_some, if_true, Nat.reduceEqDiff, reduceIte], .val (.int (i + 1)), by simp -implicitDefEqProofs only [ok_bind, ok_then, opt_some, seq_nx, seq_rt, seq_bk, seq_ct, rdV_v, rdV_o, ev_var, ev_cst, ev_glo, k2_s, ev_bin_2e, ev_bin_1e, ev_bin, negT_i, ev_neg_1e, ev_neg, notT_b, ev_not_1e, ev_not, ev_and, ev_or, ev_cmp_2e, ev_cmp_1e, ev_cmp, chB_t_1e, chB_t, chB_f, chA_s, ev_chain_2e, ev_chain_1e, ev_chain, k1_s, ev_isN_1e, ev_isN, ev_notN_1e, ev_notN, ev_isi_1e, ev_isi, iteK_t, iteK_f, ev_ite_1e, ev_ite, ev_tup_1e, ev_tup, ev_lst_1e, ev_lst, ev_dct0, ev_sub_2e, ev_sub_1e, ev_sub, ev_slc_3e, ev_slc_2e, ev_slc_1e, ev_slc, optE_abs, optE_f_1e, optE_f, ev_rev_1e, ev_rev, ev_call_1e, ev_call, ev_lrng_1e, ev_lrng, kl_s, ev_bi_1e, ev_bi, bs_nil, consO_s, bs_cons, muR_s, mutK_i, mutK_l, mutG_o_1e, mutG_o, ev_mut, evF_nil, fzK_s_1e, fzK_s, evF_cons_1e, evF_cons, evA_nil, evA_cons_2e, evA_cons_1e, evA_cons, evAnd_1, evAnd_2_1e, evAnd_2, evOr_1, evOr_2_1e, evOr_2, evC_nil, bK_t, bK_f, evC_cons_1e, evC_cons, evIt_rng_1e, evIt_rng, lkK_s, evIt_e_1e, evIt_e, putK_s, ss_asg_1e, ss_asg, ss_par_2e, ss_par_1e, ss_par, stS_o_1e, stS_o, stK_s, ss_setIx_1e, ss_setIx, ss_exp_1e, ss_exp, ss_ret_1e, ss_ret, ss_retN, oK_t, oK_f, ss_iff_1e, ss_iff, ss_for_1e, ss_for, ss_while, ss_pass, ss_brk, ss_cont, sss_nil, sss_cons, b_val, b_own, slD_o, slD_v, b_slot, fz_val, fz_own, weak_val, weak_own, weak_slot, v_val, asBl_b, optI_i, add_ii, sub_ii, lt_ii, le_ii, gt_ii, ge_ii, eq_dd, ne_dd, sub_li, sub_ti, sub_si, slc_l, slc_t, bi_len, bi_abs, bi_max, bi_min, bi_int, bi_list, bi_tuple, bi_sum, bi_all, bi_any, bi_sorted, bi_str, len_s, len_l, len_t, abs_i, max_ii, min_ii, int_i, int_b, list_l, list_t, tuple_l, tuple_t, saR_s, saK_i, saK_l, setAt_v, consM_s, outs_t, outs_f, outs_n, endK_s, end_rt, end_nx, rt_v, rt_o, rtS_l, rt_s, frB_n, frB_v, frB_l, free_eq, putT_v, putT_o, par_vv, par_oo, par_ov, par_vo, eqD_ii, eqD_bb, args_n, args_f, ioA_i, ioA_l, args_t, ios_n, ios_f, ios_t, leS_o, leS_v, lent_n, lent_fv, lent_fs, lent_t, cK_s, ret_t, ret_f, callC_n, callR_eq, callA_0, callA_1, po_n, poK_o, po_c, wB_nx, wB_ct, wB_bk, wB_rt, wK_t, wK_f, while_s_1e, fB_nx, fB_ct, fB_bk, fB_rt, fK_s, unl_nx, unl_rt, unlock_n, unK_o, unlock_s, lock_vl, lock_vt, lock_ol, lkS_l, lock_s, bind_nm, wipe_n, wipe_c, back_n, back_c, cR_ok, ev_comp_1e, ev_comp, List.getElem?_cons_zero, List.getElem?_cons_succ, List.set_cons_zero, List.set_cons_succ, Option.map_some, if_true, Nat.reduceEqDiff, reduceIte], by simp -implicitDefEqProofs only [ok_bind, ok_then, opt_some, seq_nx, seq_rt, seq_bk, seq_ct, rdV_v, rdV_o, ev_var, ev_cst, ev_glo, k2_s, ev_bin_2e, ev_bin_1e, ev_bin, negT_i, ev_neg_1e, ev_neg, notT_b, ev_not_1e, ev_not, ev_and, ev_or, ev_cmp_2e, ev_cmp_1e, ev_cmp, chB_t_1e, chB_t, chB_f, chA_s, ev_chain_2e, ev_chain_1e, ev_chain, k1_s, ev_isN_1e, ev_isN, ev_notN_1e, ev_notN, ev_isi_1e, ev_isi, iteK_t, iteK_f, ev_ite_1e, ev_ite, ev_tup_1e, ev_tup, ev_lst_1e, ev_lst, ev_dct0, ev_sub_2e, ev_sub_1e, ev_sub, ev_slc_3e, ev_slc_2e, ev_slc_1e, ev_slc, optE_abs, optE_f_1e, optE_f, ev_rev_1e, ev_rev, ev_call_1e, ev_call, ev_lrng_1e, ev_lrng, kl_s, ev_bi_1e, ev_bi, bs_nil, consO_s, bs_cons, muR_s, mutK_i, mutK_l, mutG_o_1e, mutG_o, ev_mut, evF_nil, fzK_s_1e, fzK_s, evF_cons_1e, evF_cons, evA_nil, evA_cons_2e, evA_cons_1e, evA_cons, evAnd_1, evAnd_2_1e, evAnd_2, evOr_1, evOr_2_1e, evOr_2, evC_nil, bK_t, bK_f, evC_cons_1e, evC_cons, evIt_rng_1e, evIt_rng, lkK_s, evIt_e_1e, evIt_e, putK_s, ss_asg_1e, ss_asg, ss_par_2e, ss_par_1e, ss_par, stS_o_1e, stS_o, stK_s, ss_setIx_1e, ss_setIx, ss_exp_1e, ss_exp, ss_ret_1e, ss_ret, ss_retN, oK_t, oK_f, ss_iff_1e, ss_iff, ss_for_1e, ss_for, ss_while, ss_pass, ss_brk, ss_cont, sss_nil, sss_cons, b_val, b_own, slD_o, slD_v, b_slot, fz_val, fz_own, weak_val, weak_own, weak_slot, v_val, asBl_b, optI_i, add_ii, sub_ii, lt_ii, le_ii, gt_ii, ge_ii, eq_dd, ne_dd, sub_li, sub_ti, sub_si, slc_l, slc_t, bi_len, bi_abs, bi_max, bi_min, bi_int, bi_list, bi_tuple, bi_sum, bi_all, bi_any, bi_sorted, bi_str, len_s, len_l, len_t, abs_i, max_ii, min_ii, int_i, int_b, list_l, list_t, tuple_l, tuple_t, saR_s, saK_i, saK_l, setAt_v, consM_s, outs_t, outs_f, outs_n, endK_s, end_rt, end_nx, rt_v, rt_o, rtS_l, rt_s, frB_n, frB_v, frB_l, free_eq, putT_v, putT_o, par_vv, par_oo, par_ov, par_vo, eqD_ii, eqD_bb, args_n, args_f, ioA_i, ioA_l, args_t, ios_n, ios_f, ios_t, leS_o, leS_v, lent_n, lent_fv, lent_fs, lent_t, cK_s, ret_t, ret_f, callC_n, callR_eq, callA_0, callA_1, po_n, poK_o, po_c, wB_nx, wB_ct, wB_bk, wB_rt, wK_t, wK_f, while_s_1e, fB_nx, fB_ct, fB_bk, fB_rt, fK_s, unl_nx, unl_rt, unlock_n, unK_o, unlock_s, lock_vl, lock_vt, lock_ol, lkS_l, lock_s, bind_nm, wipe_n, wipe_c, back_n, back_c, cR_ok, ev_comp_1e, ev_comp, List.getElem?_cons_zero, List.getElem?_cons_succ, List.set_cons_zero, List.set_cons_succ, Option.map_some, if_true, Nat.reduceEqDiff, reduceIte, incD]⟩
  have cm2 : ∀ s3 : Slot, compLoop [6] (.nm 6) (evC (ioOf tab) (phi tab (k + 1)) .nil) (ev (ioOf tab) (phi tab (k + 1)) (.ite (.cmp .Lt (.var 6) (.cst (.int 2))) (.cmp .Eq (.var 6) (.cst (.int 1))) (.var 6))) xs [] [.own .io u2, .val (.tup xs), .own .loc (.lst gs), s3, .val (.int (a : Int)), .val (.int (b : Int)), .no] = .ok (xs.map mixD) [.own .io u2, .val (.tup xs), .own .loc (.lst gs), s3, .val (.int (a : Int)), .val (.int (b : Int)), .no] := fun s3 => by
    refine comp_map (by omega) fun d hd => ?_
    rw [← hxs] at hd
    obtain ⟨i, _, rfl⟩ := List.mem_map.mp hd
    refine ⟨[.own .io u2, .val (.tup xs), .own .loc (.lst gs), s3, .val (.int (a : Int)), .val (.int (b : Int)), .val (.int i)], by simp -implicitDefEqProofs only [ok_bind, ok_then, opt_some, seq_nx, seq_rt, seq_bk, seq_ct, rdV_v, rdV_o, ev_var, ev_cst, ev_glo, k2_s, ev_bin_2e, ev_bin_1e, ev_bin, negT_i, ev_neg_1e, ev_neg, notT_b, ev_not_1e, ev_not, ev_and, ev_or, ev_cmp_2e, ev_cmp_1e, ev_cmp, chB_t_1e, chB_t, chB_f, chA_s, ev_chain_2e, ev_chain_1e, ev_chain, k1_s, ev_isN_1e, ev_isN, ev_notN_1e, ev_notN, ev_isi_1e, ev_isi, iteK_t, iteK_f, ev_ite_1e, ev_ite, ev_tup_1e, ev_tup, ev_lst_1e, ev_lst, ev_dct0, ev_sub_2e, ev_sub_1e, ev_sub, ev_slc_3e, ev_slc_2e, ev_slc_1e, ev_slc, optE_abs, optE_f_1e, optE_f, ev_rev_1e, ev_rev, ev_call_1e, ev_call, ev_lrng_1e, ev_lrng, kl_s, ev_bi_1e, ev_bi, bs_nil, consO_s, bs_cons, muR_s, mutK_i, mutK_l, mutG_o_1e, mutG_o, ev_mut, evF_nil, fzK_s_1e, fzK_s, evF_cons_1e, evF_cons, evA_nil, evA_cons_2e, evA_cons_1e, evA_cons, evAnd_1, evAnd_2_1e, evAnd_2, evOr_1, evOr_2_1e, evOr_2, evC_nil, bK_t, bK_f, evC_cons_1e, evC_cons, evIt_rng_1e, evIt_rng, lkK_s, evIt_e_1e, evIt_e, putK_s, ss_asg_1e, ss_asg, ss_par_2e, ss_par_1e, ss_par, stS_o_1e, stS_o, stK_s, ss_setIx_1e, ss_setIx, ss_exp_1e, ss_exp, ss_ret_1e, ss_ret, ss_retN, oK_t, oK_f, ss_iff_1e, ss_iff, ss_for_1e, ss_for, ss_while, ss_pass, ss_brk, ss_cont, sss_nil, sss_cons, b_val, b_own, slD_o, slD_v, b_slot, fz_val, fz_own, weak_val, weak_own, weak_slot, v_val, asBl_b, optI_i, add_ii, sub_ii, lt_ii, le_ii, gt_ii, ge_ii, eq_dd, ne_dd, sub_li, sub_ti, sub_si, slc_l, slc_t, bi_len, bi_abs, bi_max, bi_min, bi_int, bi_list, bi_tuple, bi_sum, bi_all, bi_any, bi_sorted, bi_str, len_s, len_l, len_t, abs_i, max_ii, min_ii, int_i, int_b, list_l, list_t, tuple_l, tuple_t, saR_s, saK_i, saK_l, setAt_v, consM_s, outs_t, outs_f, outs_n, endK_s, end_rt, end_nx, rt_v, rt_o, rtS_l, rt_s, frB_n, frB_v, frB_l, free_eq, putT_v, putT_o, par_vv, par_oo, par_ov, par_vo, eqD_ii, eqD_bb, args_n, args_f, ioA_i, ioA_l, args_t, ios_n, ios_f, ios_t, leS_o, leS_v, lent_n, lent_fv, lent_fs, lent_t, cK_s, ret_t, ret_f, callC_n, callR_eq, callA_0, callA_1, po_n, poK_o, po_c, wB_nx, wB_ct, wB_bk, wB_rt, wK_t, wK_f, while_s_1e, fB_nx, fB_ct, fB_bk, fB_rt, fK_s, unl_nx, unl_rt, unlock_n, unK_o, unlock_s, lock_vl, lock_vt, lock_ol, lkS_l, lock_s, bind_nm, wipe_n, wipe_c, back_n, back_c, cR_ok, ev_comp_1e, ev_comp, List.getElem?_cons_zero, List.getElem?_cons_succ, List.set_cons_zero, List.set_cons_succ, Option.map_some, if_true, Nat.reduceEqDiff, reduceIte], by simp -implicitDefEqProofs only [ok_bind, ok_then, opt_some, seq_nx, seq_rt, seq_bk, seq_ct, rdV_v, rdV_o, ev_var, ev_cst, ev_glo, k2_s, ev_bin_2e, ev_bin_1e, ev_bin, negT_i, ev_neg_1e, ev_neg, notT_b, ev_not_1e, ev_not, ev_and, ev_or, ev_cmp_2e, ev_cmp_1e, ev_cmp, chB_t_1e, chB_t, chB_f, chA_s, ev_chain_2e, ev_chain_1e, ev_chain, k1_s, ev_isN_1e, ev_isN, ev_notN_1e, ev_notN, ev_isi_1e, ev_isi, iteK_t, iteK_f, ev_ite_1e, ev_ite, ev_tup_1e, ev_tup, ev_lst_1e, ev_lst, ev_dct0, ev_sub_2e, ev_sub_1e, ev_sub, ev_slc_3e, ev_slc_2e, ev_slc_1e, ev_slc, optE_abs, optE_f_1e, optE_f, ev_rev_1e, ev_rev, ev_call_1e, ev_call, ev_lrng_1e, ev_lrng, kl_s, ev_bi_1e, ev_bi, bs_nil, consO_s, bs_cons, muR_s, mutK_i, mutK_l, mutG_o_1e, mutG_o, ev_mut, evF_nil, fzK_s_1e, fzK_s, evF_cons_1e, evF_cons, evA_nil, evA_cons_2e, evA_cons_1e, evA_cons, evAnd_1, evAnd_2_1e, evAnd_2, evOr_1, evOr_2_1e, evOr_2, evC_nil, bK_t, bK_f, evC_cons_1e, evC_cons, evIt_rng_1e, evIt_rng, lkK_s, evIt_e_1e, evIt_e, putK_s, ss_asg_1e, ss_asg, ss_par_2e, ss_par_1e, ss_par, stS_o_1e, stS_o, stK_s, ss_setIx_1e, ss_setIx, ss_exp_1e, ss_exp, ss_ret_1e, ss_ret, ss_retN, oK_t, oK_f, ss_iff_1e, ss_iff, ss_for_1e, ss_for, ss_while, ss_pass, ss_brk, ss_cont, sss_nil, sss_cons, b_val, b_own, slD_o, slD_v, b_slot, fz_val, fz_own, weak_val, weak_own, weak_slot, v_val, asBl_b, optI_i, add_ii, sub_ii, lt_ii, le_ii, gt_ii, ge_ii, eq_dd, ne_dd, sub_li, sub_ti, sub_si, slc_l, slc_t, bi_len, bi_abs, bi_max, bi_min, bi_int, bi_list, bi_tuple, bi_sum, bi_all, bi_any, bi_sorted, bi_str, len_s, len_l, len_t, abs_i, max_ii, min_ii, int_i, int_b, list_l, list_t, tuple_l, tuple_t, saR_s, saK_i, saK_l, setAt_v, consM_s, outs_t, outs_f, outs_n, endK_s, end_rt, end_nx, rt_v, rt_o, rtS_l, rt_s, frB_n, frB_v, frB_l, free_eq, putT_v, putT_o, par_vv, par_oo, par_ov, par_vo, eqD_ii, eqD_bb, args_n, args_f, ioA_i, ioA_l, args_t, ios_n, ios_f, ios_t, leS_o, leS_v, lent_n, lent_fv, lent_fs, lent_t, cK_s, ret_t, ret_f, callC_n, callR_eq, callA_0, callA_1, po_n, poK_o, po_c, wB_nx, wB_ct, wB_bk, wB_rt, wK_t, wK_f, while_s_1e, fB_nx, fB_ct, fB_bk, fB_rt, fK_s, unl_nx, unl_rt, unlock_n, unK_o, unlock_s, lock_vl, lock_vt, lock_ol, lkS_l, lock_s, bind_nm, wipe_n, wipe_c, back_n, back_c, cR_ok, ev_comp_1e, ev_comp, List.getElem?_cons_zero, List.getElem?_cons_succ, List.set_cons_zero, List.set_cons_succ, Option.map_some, if_true, Nat.reduceEqDiff, reduceIte], ?_⟩
    by_cases hi : i < 2
    · exact ⟨.val (.bl (i == 1)), by simp -implicitDefEqProofs only [ok_bind, ok_then, opt_some, seq_nx, seq_rt, seq_bk, seq_ct, rdV_v, rdV_o, ev_var, ev_cst, ev_glo, k2_s, ev_bin_2e, ev_bin_1e, ev_bin, negT_i, ev_neg_1e, ev_neg, notT_b, ev_not_1e, ev_not, ev_and, ev_or, ev_cmp_2e, ev_cmp_1e, ev_cmp, chB_t_1e, chB_t, chB_f, chA_s, ev_chain_2e, ev_chain_1e, ev_chain, k1_s, ev_isN_1e, ev_isN, ev_notN_1e, ev_notN, ev_isi_1e, ev_isi, iteK_t, iteK_f, ev_ite_1e, ev_ite, ev_tup_1e, ev_tup, ev_lst_1e, ev_lst, ev_dct0, ev_sub_2e, ev_sub_1e, ev_sub, ev_slc_3e, ev_slc_2e, ev_slc_1e, ev_slc, optE_abs, optE_f_1e, optE_f, ev_rev_1e, ev_rev, ev_call_1e, ev_call, ev_lrng_1e, ev_lrng, kl_s, ev_bi_1e, ev_bi, bs_nil, consO_s, bs_cons, muR_s, mutK_i, mutK_l, mutG_o_1e, mutG_o, ev_mut, evF_nil, fzK_s_1e, fzK_s, evF_cons_1e, evF_cons, evA_nil, evA_cons_2e, evA_cons_1e, evA_cons, evAnd_1, evAnd_2_1e, evAnd_2, evOr_1, evOr_2_1e, evOr_2, evC_nil, bK_t, bK_f, evC_cons_1e, evC_cons, evIt_rng_1e, evIt_rng, lkK_s, evIt_e_1e, evIt_e, putK_s, ss_asg_1e, ss_asg, ss_par_2e, ss_par_1e, ss_par, stS_o_1e, stS_o, stK_s, ss_setIx_1e, ss_setIx, ss_exp_1e, ss_exp, ss_ret_1e, ss_ret, ss_retN, oK_t, oK_f, ss_iff_1e, ss_iff, ss_for_1e, ss_for, ss_while, ss_pass, ss_brk, ss_cont, sss_nil, sss_cons, b_val, b_own, slD_o, slD_v, b_slot, fz_val, fz_own, weak_val, weak_own, weak_slot, v_val, asBl_b, optI_i, add_ii, sub_ii, lt_ii, le_ii, gt_ii, ge_ii, eq_dd, ne_dd, sub_li, sub_ti, sub_si, slc_l, slc_t, bi_len, bi_abs, bi_max, bi_min, bi_int, bi_list, bi_tuple, bi_sum, bi_all, bi_any, bi_sorted, bi_str, len_s, len_l, len_t, abs_i, max_ii, min_ii, int_i, int_b, list_l, list_t, tuple_l, tuple_t, saR_s, saK_i, saK_l, setAt_v, consM_s, outs_t, outs_f, outs_n, endK_s, end_rt, end_nx, rt_v, rt_o, rtS_l, rt_s, frB_n, frB_v, frB_l, free_eq, putT_v, putT_o, par_vv, par_oo, par_ov, par_vo, eqD_ii, eqD_bb, args_n, args_f, ioA_i, ioA_l, args_t, ios_n, ios_f, ios_t, leS_o, leS_v, lent_n, lent_fv, lent_fs, lent_t, cK_s, ret_t, ret_f, callC_n, callR_eq, callA_0, callA_1, po_n, poK_o, po_c, wB_nx, wB_ct, wB_bk, wB_rt, wK_t, wK_f, while_s_1e, fB_nx, fB_ct, fB_bk, fB_rt, fK_s, unl_nx, unl_rt, unlock_n, unK_o, unlock_s, lock_vl, lock_vt, lock_ol, lkS_l, lock_s, bind_nm, wipe_n, wipe_c, back_n, back_c, cR_ok, ev_comp_1e, ev_comp, List.getElem?_cons_zero, List.getElem?_cons_succ, List.set_cons_zero, List.set_cons_succ, Option.map_some, if_true, Nat.reduceEqDiff, reduceIte, decide_eq_true hi], by simp -implicitDefEqProofs only [ok_bind, ok_then, opt_some, seq_nx, seq_rt, seq_bk, seq_ct, rdV_v, rdV_o, ev_var, ev_cst, ev_glo, k2_s, ev_bin_2e, ev_bin_1e, ev_bin, negT_i, ev_neg_1e, ev_neg, notT_b, ev_not_1e, ev_not, ev_and, ev_or, ev_cmp_2e, ev_cmp_1e, ev_cmp, chB_t_1e, chB_t, chB_f, chA_s, ev_chain_2e, ev_chain_1e, ev_chain, k1_s, ev_isN_1e, ev_isN, ev_notN_1e, ev_notN, ev_isi_1e, ev_isi, iteK_t, iteK_f, ev_ite_1e, ev_ite, ev_tup_1e, ev_tup, ev_lst_1e, ev_lst, ev_dct0, ev_sub_2e, ev_sub_1e, ev_sub, ev_slc_3e, ev_slc_2e, ev_slc_1e, ev_slc, optE_abs, optE_f_1e, optE_f, ev_rev_1e, ev_rev, ev_call_1e, ev_call, ev_lrng_1e, ev_lrng, kl_s, ev_bi_1e, ev_bi, bs_nil, consO_s, bs_cons, muR_s, mutK_i, mutK_l, mutG_o_1e, mutG_o, ev_mut, evF_nil, fzK_s_1e, fzK_s, evF_cons_1e, evF_cons, evA_nil, evA_cons_2e, evA_cons_1e, evA_cons, evAnd_1, evAnd_2_1e, evAnd_2, evOr_1, evOr_2_1e, evOr_2, evC_nil, bK_t, bK_f, evC_cons_1e, evC_cons, evIt_rng_1e, evIt_rng, lkK_s, evIt_e_1e, evIt_e, putK_s, ss_asg_1e, ss_asg, ss_par_2e, ss_par_1e, ss_par, stS_o_1e, stS_o, stK_s, ss_setIx_1e, ss_setIx, ss_exp_1e, ss_exp, ss_ret_1e, ss_ret, ss_retN, oK_t, oK_f, ss_iff_1e, ss_iff, ss_for_1e, ss_for, ss_while, ss_pass, ss_brk, ss_cont, sss_nil, sss_cons, b_val, b_own, slD_o, slD_v, b_slot, fz_val, fz_own, weak_val, weak_own, weak_slot, v_val, asBl_b, optI_i, add_ii, sub_ii, lt_ii, le_ii, gt_ii, ge_ii, eq_dd, ne_dd, sub_li, sub_ti, sub_si, slc_l, slc_t, bi_len, bi_abs, bi_max, bi_min, bi_int, bi_list, bi_tuple, bi_sum, bi_all, bi_any, bi_sorted, bi_str, len_s, len_l, len_t, abs_i, max_ii, min_ii, int_i, int_b, list_l, list_t, tuple_l, tuple_t, saR_s, saK_i, saK_l, setAt_v, consM_s, outs_t, outs_f, outs_n, endK_s, end_rt, end_nx, rt_v, rt_o, rtS_l, rt_s, frB_n, frB_v, frB_l, free_eq, putT_v, putT_o, par_vv, par_oo, par_ov, par_vo, eqD_ii, eqD_bb, args_n, args_f, ioA_i, ioA_l, args_t, ios_n, ios_f, ios_t, leS_o, leS_v, lent_n, lent_fv, lent_fs, lent_t, cK_s, ret_t, ret_f, callC_n, callR_eq, callA_0, callA_1, po_n, poK_o, po_c, wB_nx, wB_ct, wB_bk, wB_rt, wK_t, wK_f, while_s_1e, fB_nx, fB_ct, fB_bk, fB_rt, fK_s, unl_nx, unl_rt, unlock_n, unK_o, unlock_s, lock_vl, lock_vt, lock_ol, lkS_l, lock_s, bind_nm, wipe_n, wipe_c, back_n, back_c, cR_ok, ev_comp_1e, ev_comp, List.getElem?_cons_zero, List.getElem?_cons_succ, List.set_cons_zero, List.set_cons_succ, Option.map_some, if_true, Nat.reduceEqDiff, reduceIte, mixD, if_pos hi]⟩
    · exact ⟨.val (.int i), by simp -implicitDefEqProofs only [ok_bind, ok_then, opt_some, seq_nx, seq_rt, seq_bk, seq_ct, rdV_v, rdV_o, ev_var, ev_cst, ev_glo, k2_s, ev_bin_2e, ev_bin_1e, ev_bin, negT_i, ev_neg_1e, ev_neg, notT_b, ev_not_1e, ev_not, ev_and, ev_or, ev_cmp_2e, ev_cmp_1e, ev_cmp, chB_t_1e, chB_t, chB_f, chA_s, ev_chain_2e, ev_chain_1e, ev_chain, k1_s, ev_isN_1e, ev_isN, ev_notN_1e, ev_notN, ev_isi_1e, ev_isi, iteK_t, iteK_f, ev_ite_1e, ev_ite, ev_tup_1e, ev_tup, ev_lst_1e, ev_lst, ev_dct0, ev_sub_2e, ev_sub_1e, ev_sub, ev_slc_3e, ev_slc_2e, ev_slc_1e, ev_slc, optE_abs, optE_f_1e, optE_f, ev_rev_1e, ev_rev, ev_call_1e, ev_call, ev_lrng_1e, ev_lrng, kl_s, ev_bi_1e, ev_bi, bs_nil, consO_s, bs_cons, muR_s, mutK_i, mutK_l, mutG_o_1e, mutG_o, ev_mut, evF_nil, fzK_s_1e, fzK_s, evF_cons_1e, evF_cons, evA_nil, evA_cons_2e, evA_cons_1e, evA_cons, evAnd_1, evAnd_2_1e, evAnd_2, evOr_1, evOr_2_1e, evOr_2, evC_nil, bK_t, bK_f, evC_cons_1e, evC_cons, evIt_rng_1e, evIt_rng, lkK_s, evIt_e_1e, evIt_e, putK_s, ss_asg_1e, ss_asg, ss_par_2e, ss_par_1e, ss_par, stS_o_1e, stS_o, stK_s, ss_setIx_1e, ss_setIx, ss_exp_1e, ss_exp, ss_ret_1e, ss_ret, ss_retN, oK_t, oK_f, ss_iff_1e, ss_iff, ss_for_1e, ss_for, ss_while, ss_pass, ss_brk, ss_cont, sss_nil, sss_cons, b_val, b_own, slD_o, slD_v, b_slot, fz_val, fz_own, weak_val, weak_own, weak_slot, v_val, asBl_b, optI_i, add_ii, sub_ii, lt_ii, le_ii, gt_ii, ge_ii, eq_dd, ne_dd, sub_li, sub_ti, sub_si, slc_l, slc_t, bi_len, bi_abs, bi_max, bi_min, bi_int, bi_list, bi_tuple, bi_sum, bi_all, bi_any, bi_sorted, bi_str, len_s, len_l, len_t, abs_i, max_ii, min_ii, int_i, int_b, list_l, list_t, tuple_l, tuple_t, saR_s, saK_i, saK_l, setAt_v, consM_s, outs_t, outs_f, outs_n, endK_s, end_rt, end_nx, rt_v, rt_o, rtS_l, rt_s, frB_n, frB_v, frB_l, free_eq, putT_v, putT_o, par_vv, par_oo, par_ov, par_vo, eqD_ii, eqD_bb, args_n, args_f, ioA_i, ioA_l, args_t, ios_n, ios_f, ios_t, leS_o, leS_v, lent_n, lent_fv, lent_fs, lent_t, cK_s, ret_t, ret_f, callC_n, callR_eq, callA_0, callA_1, po_n, poK_o, po_c, wB_nx, wB_ct, wB_bk, wB_rt, wK_t, wK_f, while_s_1e, fB_nx, fB_ct, fB_bk, fB_rt, fK_s, unl_nx, unl_rt, unlock_n, unK_o, unlock_s, lock_vl, lock_vt, lock_ol, lkS_l, lock_s, bind_nm, wipe_n, wipe_c, back_n, back_c, cR_ok, ev_comp_1e, ev_comp, List.getElem?_cons_zero, List.getElem?_cons_succ, List.set_cons_zero, List.set_cons_succ, Option.map_some, if_true, Nat.reduceEqDiff, reduceIte, decide_eq_false hi], by simp -implicitDefEqProofs only [ok_bind, ok_then, opt_some, seq_nx, seq_rt, seq_bk, seq_ct, rdV_v, rdV_o, ev_var, ev_cst, ev_glo, k2_s, ev_bin_2e, ev_bin_1e, ev_bin, negT_i, ev_neg_1e, ev_neg, notT_b, ev_not_1e, ev_not, ev_and, ev_or, ev_cmp_2e, ev_cmp_1e, ev_cmp, chB_t_1e, chB_t, chB_f, chA_s, ev_chain_2e, ev_chain_1e, ev_chain, k1_s, ev_isN_1e, ev_isN, ev_notN_1e, ev_notN, ev_isi_1e, ev_isi, iteK_t, iteK_f, ev_ite_1e, ev_ite, ev_tup_1e, ev_tup, ev_lst_1e, ev_lst, ev_dct0, ev_sub_2e, ev_sub_1e, ev_sub, ev_slc_3e, ev_slc_2e, ev_slc_1e, ev_slc, optE_abs, optE_f_1e, optE_f, ev_rev_1e, ev_rev, ev_call_1e, ev_call, ev_lrng_1e, ev_lrng, kl_s, ev_bi_1e, ev_bi, bs_nil, consO_s, bs_cons, muR_s, mutK_i, mutK_l, mutG_o_1e, mutG_o, ev_mut, evF_nil, fzK_s_1e, fzK_s, evF_cons_1e, evF_cons, evA_nil, evA_cons_2e, evA_cons_1e, evA_cons, evAnd_1, evAnd_2_1e, evAnd_2, evOr_1, evOr_2_1e, evOr_2, evC_nil, bK_t, bK_f, evC_cons_1e, evC_cons, evIt_rng_1e, evIt_rng, lkK_s, evIt_e_1e, evIt_e, putK_s, ss_asg_1e, ss_asg, ss_par_2e, ss_par_1e, ss_par, stS_o_1e, stS_o, stK_s, ss_setIx_1e, ss_setIx, ss_exp_1e, ss_exp, ss_ret_1e, ss_ret, ss_retN, oK_t, oK_f, ss_iff_1e, ss_iff, ss_for_1e, ss_for, ss_while, ss_pass, ss_brk, ss_cont, sss_nil, sss_cons, b_val, b_own, slD_o, slD_v, b_slot, fz_val, fz_own, weak_val, weak_own, weak_slot, v_val, asBl_b, optI_i, add_ii, sub_ii, lt_ii, le_ii, gt_ii, ge_ii, eq_dd, ne_dd, sub_li, sub_ti, sub_si, slc_l, slc_t, bi_len, bi_abs, bi_max, bi_min, bi_int, bi_list, bi_tuple, bi_sum, bi_all, bi_any, bi_sorted, bi_str, len_s, len_l, len_t, abs_i, max_ii, min_ii, int_i, int_b, list_l, list_t, tuple_l, tuple_t, saR_s, saK_i, saK_l, setAt_v, consM_s, outs_t, outs_f, outs_n, endK_s, end_rt, end_nx, rt_v, rt_o, rtS_l, rt_s, frB_n, frB_v, frB_l, free_eq, putT_v, putT_o, par_vv, par_oo, par_ov, par_vo, eqD_ii, eqD_bb, args_n, args_f, ioA_i, ioA_l, args_t, ios_n, ios_f, ios_t, leS_o, leS_v, lent_n, lent_fv, lent_fs, lent_t, cK_s, ret_t, ret_f, callC_n, callR_eq, callA_0, callA_1, po_n, poK_o, po_c, wB_nx, wB_ct, wB_bk, wB_rt, wK_t, wK_f, while_s_1e, fB_nx, fB_ct, fB_bk, fB_rt, fK_s, unl_nx, unl_rt, unlock_n, unK_o, unlock_s, lock_vl, lock_vt, lock_ol, lkS_l, lock_s, bind_nm, wipe_n, wipe_c, back_n, back_c, cR_ok, ev_comp_1e, ev_comp, List.getElem?_cons_zero, List.getElem?_cons_succ, List.set_cons_zero, List.set_cons_succ, Option.map_some, if_true, Nat.reduceEqDiff, reduceIte, mixD, if_neg hi]⟩
  have lr : lrngD false [.int 11] = some (.own (.lst ((rngI 11).map .int))) := lrng_1 (n := 11) (by decide)
  have ml : binD .Mult (.lst ((rngI 11).map .int)) (.int 2) = some (.own (.lst ((rngI 11 ++ rngI 11).map .int))) := by
    rw [List.map_append]
    exact mul_l2 (by rw [List.length_map, rngI_length]; decide)
  let g1 : List D := [.tup (xs.map incD), .tup (xs.map mixD)]
  let g2 : List D := [.tup ((sortI (rngI 11 ++ rngI 11)).map .int), .tup [.int 0], .tup [.int 0, .int 0], .tup [.int 0, .int 0, .int 0]]
  let g3 : List D := [.tup xs.reverse, .tup (cutD xs (some (a : Int)) none ++ cutD xs none (some (a : Int)))]
  have al1 : binD .Add (.lst gs) (.lst g1) = some (.own (.lst (gs ++ g1))) := add_ll (by rw [hl]; show 23 + 2 ≤ 1000000; decide)
  have al2 : binD .Add (.lst (gs ++ g1)) (.lst g2) = some (.own (.lst (gs ++ g1 ++ g2))) := add_ll (by rw [List.length_append, hl]; show 23 + 2 + 4 ≤ 1000000; decide)
  have al3 : binD .Add (.lst (gs ++ g1 ++ g2)) (.lst g3) = some (.own (.lst (gs ++ g1 ++ g2 ++ g3))) := add_ll (by rw [List.length_append, List.length_append, hl]; show 23 + 2 + 4 + 2 ≤ 1000000; decide)
  refine ⟨gs ++ g1 ++ g2 ++ g3, u2, ?_, ?_, ?_, hu2⟩
  · have is1 : isAbs (.cst (.int 1)) = false := rfl
    have is2 : isAbs (.neg (.cst (.int 1))) = false := rfl
    have is3 : isAbs (.var 4) = false := rfl
    rw [c8]
    have r1 : ∀ ys : List D, revD (.tup ys) = some (.val (.tup ys.reverse)) := fun ys => rfl
    have bd := eloop
    dsimp only [nearB, fs, news] at bd
    dsimp only [g1, g2, g3] at al1 al2 al3 ⊢
    simp -implicitDefEqProofs only [d_law_near, ok_bind, ok_then, opt_some, seq_nx, seq_rt, seq_bk, seq_ct, rdV_v, rdV_o, ev_var, ev_cst, ev_glo, k2_s, ev_bin_2e, ev_bin_1e, ev_bin, negT_i, ev_neg_1e, ev_neg, notT_b, ev_not_1e, ev_not, ev_and, ev_or, ev_cmp_2e, ev_cmp_1e, ev_cmp, chB_t_1e, chB_t, chB_f, chA_s, ev_chain_2e, ev_chain_1e, ev_chain, k1_s, ev_isN_1e, ev_isN, ev_notN_1e, ev_notN, ev_isi_1e, ev_isi, iteK_t, iteK_f, ev_ite_1e, ev_ite, ev_tup_1e, ev_tup, ev_lst_1e, ev_lst, ev_dct0, ev_sub_2e, ev_sub_1e, ev_sub, ev_slc_3e, ev_slc_2e, ev_slc_1e, ev_slc, optE_abs, optE_f_1e, optE_f, ev_rev_1e, ev_rev, ev_call_1e, ev_call, ev_lrng_1e, ev_lrng, kl_s, ev_bi_1e, ev_bi, bs_nil, consO_s, bs_cons, muR_s, mutK_i, mutK_l, mutG_o_1e, mutG_o, ev_mut, evF_nil, fzK_s_1e, fzK_s, evF_cons_1e, evF_cons, evA_nil, evA_cons_2e, evA_cons_1e, evA_cons, evAnd_1, evAnd_2_1e, evAnd_2, evOr_1, evOr_2_1e, evOr_2, evC_nil, bK_t, bK_f, evC_cons_1e, evC_cons, evIt_rng_1e, evIt_rng, lkK_s, evIt_e_1e, evIt_e, putK_s, ss_asg_1e, ss_asg, ss_par_2e, ss_par_1e, ss_par, stS_o_1e, stS_o, stK_s, ss_setIx_1e, ss_setIx, ss_exp_1e, ss_exp, ss_ret_1e, ss_ret, ss_retN, oK_t, oK_f, ss_iff_1e, ss_iff, ss_for_1e, ss_for, ss_while, ss_pass, ss_brk, ss_cont, sss_nil, sss_cons, b_val, b_own, slD_o, slD_v, b_slot, fz_val, fz_own, weak_val, weak_own, weak_slot, v_val, asBl_b, optI_i, add_ii, sub_ii, lt_ii, le_ii, gt_ii, ge_ii, eq_dd, ne_dd, sub_li, sub_ti, sub_si, slc_l, slc_t, bi_len, bi_abs, bi_max, bi_min, bi_int, bi_list, bi_tuple, bi_sum, bi_all, bi_any, bi_sorted, bi_str, len_s, len_l, len_t, abs_i, max_ii, min_ii, int_i, int_b, list_l, list_t, tuple_l, tuple_t, saR_s, saK_i, saK_l, setAt_v, consM_s, outs_t, outs_f, outs_n, endK_s, end_rt, end_nx, rt_v, rt_o, rtS_l, rt_s, frB_n, frB_v, frB_l, free_eq, putT_v, putT_o, par_vv, par_oo, par_ov, par_vo, eqD_ii, eqD_bb, args_n, args_f, ioA_i, ioA_l, args_t, ios_n, ios_f, ios_t, leS_o, leS_v, lent_n, lent_fv, lent_fs, lent_t, cK_s, ret_t, ret_f, callC_n, callR_eq, callA_0, callA_1, po_n, poK_o, po_c, wB_nx, wB_ct, wB_bk, wB_rt, wK_t, wK_f, while_s_1e, fB_nx, fB_ct, fB_bk, fB_rt, fK_s, unl_nx, unl_rt, unlock_n, unK_o, unlock_s, lock_vl, lock_vt, lock_ol, lkS_l, lock_s, bind_nm, wipe_n, wipe_c, back_n, back_c, cR_ok, ev_comp_1e, ev_comp, List.getElem?_cons_zero, List.getElem?_cons_succ, List.set_cons_zero, List.set_cons_succ, Option.map_some, if_true, Nat.reduceEqDiff, reduceIte, i4, e1, e2, is1, is2, is3, add1, add2, add3, sa, sb, dv, st1, p60, List.length_cons, List.length_nil, Nat.zero_add, Nat.reduceAdd, Nat.reduceLeDiff, Nat.zero_le, bd, cm1, cm2, lr, ml, sorted_l, al1, al2, al3, r1, List.all_cons, List.all_nil, notOwn, Bool.and_true, List.getD_cons_succ, List.getD_cons_zero]
  · intro v hv
    rcases List.mem_append.mp hv with hv | hv
    · rcases List.mem_append.mp hv with hv | hv
      · rcases List.mem_append.mp hv with hv | hv
        · exact hgn v hv
        · simp only [g1, List.mem_cons, List.not_mem_nil, or_false] at hv
          rcases hv with rfl | rfl
          · refine nv_tup fun d hd => ?_
            obtain ⟨y, hy, rfl⟩ := List.mem_map.mp hd
            have := nx y hy
            cases y <;> first | rfl | cases this
          · refine nv_tup fun d hd => ?_
            obtain ⟨y, hy, rfl⟩ := List.mem_map.mp hd
            have := nx y hy
            cases y with
            | int i =>
              show Nice (if i < 2 then .bl (i == 1) else .int i) = true
              split <;> rfl
            | _ => first | rfl | cases this
      · simp only [g2, List.mem_cons, List.not_mem_nil, or_false] at hv
        rcases hv with rfl | rfl | rfl | rfl
        · refine nv_tup fun d hd => ?_
          obtain ⟨_, _, rfl⟩ := List.mem_map.mp hd
          rfl
        · exact nv_tup (by simp [Nice])
        · exact nv_tup (by simp [Nice])
        · exact nv_tup (by simp [Nice])
    · simp only [g3, List.mem_cons, List.not_mem_nil, or_false] at hv
      rcases hv with rfl | rfl
      · exact nv_tup fun d hd => nx d (List.mem_reverse.mp hd)
      · exact nv_tup fun d hd => (List.mem_append.mp hd).elim (fun z => nx d (mem_cut z)) fun z => nx d (mem_cut z)
  · rw [List.length_append, List.length_append, List.length_append, hl]
    show 23 + 2 + 4 + 2 ≤ 1000
    decide
end k25
end Py

set_option Elab.async false
set_option linter.all false
set_option maxRecDepth 100000
set_option maxHeartbeats 4000000
set_option exponentiation.threshold 2000
namespace Py
namespace k25
open PySem PySem.Spec
open PyProof.Rows L2
theorem drawn_is {n : Nat} {ns : List Int} (h1 : 1 ≤ n) (h2 : n ≤ 10) (p : ns.Perm (rngI n ++ rngI n)) : ringB (.tup (ns.map .int)) = true := by
  rw [agree]
  have hl : ns.length = 2 * n := by rw [p.length_eq, List.length_append, rngI_length]; omega
  unfold lawB
  dsimp only
  rw [List.length_map, intL_map, hl, show 2 * n / 2 = n by omega, sortI_of_perm p, decide_eq_true (by omega), decide_eq_true (by omega)]
  have : (ns.map D.int).all isI = true := List.all_eq_true.mpr fun x hx => by
    obtain ⟨_, _, rfl⟩ := List.mem_map.mp hx
    rfl
  rw [this]
  simp
theorem right_ok (k m : Nat) (u : D) (hu : Urn m u) (hm : m < 2 ^ 800) : ∃ u' : D, phi tab (k + 4) 9 [u] = .ok false (.bl true) [u'] ∧ Urn (m + 30) u' := by
  have big : (2 : Nat) ^ 800 + 2000 < 2 ^ 900 := by decide
  have big2 : (2 : Nat) ^ 900 < 2 ^ 999 := by decide
  obtain ⟨x, u1, e1, h1, h1', hu1⟩ := ball (k + 2) m u 10 hu (by omega) (by decide) (by decide)
  obtain ⟨j, rfl⟩ := Int.eq_ofNat_of_zero_le h1
  obtain ⟨ns, u2, e2, p, hu2⟩ := draw_ring k (m + 1) u1 (1 + j) hu1 (by omega) (by omega)
  have hl : ns.length = 2 * (1 + j) := by rw [p.length_eq, List.length_append, rngI_length]; omega
  have hmem : ∀ i ∈ ns, 0 ≤ i ∧ i < 100 := fun i hi => by
    have := p.mem_iff.mp hi
    rcases List.mem_append.mp this with z | z
    · have := mem_rngI.mp z; omega
    · have := mem_rngI.mp z; omega
  obtain ⟨vs, u3, e3, hv, hvl, hu3⟩ := near_ok (k + 1) _ u2 ns hu2 (by omega) (by omega) (by omega) hmem
  have nx : ∀ xs, D.tup (ns.map .int) = .tup xs → ∀ x ∈ xs, Nice x = true := fun xs e x hx => by
    cases e
    obtain ⟨_, _, rfl⟩ := List.mem_map.mp hx
    rfl
  have er := ring_ok k (v := .tup (ns.map .int)) rfl nx
  rw [drawn_is (by omega) (by omega) p] at er
  have ej : (1 : Int) + (j : Int) = ((1 + j : Nat) : Int) := by omega
  refine ⟨u3, ?_, hu3.mono (by omega)⟩
  have cm : compLoop [2] (.nm 2) (evC (ioOf tab) (phi tab (k + 3)) (.cons (.cmp .NotEq (.call 2 "is_ring" (.cons (.var 2) .nil)) (.call 7 "_law_is_ring" (.cons (.var 2) .nil))) .nil)) (ev (ioOf tab) (phi tab (k + 3)) (.var 2)) vs [] [.own .io u3, .val (.tup (ns.map .int)), .no] = .ok ([] ++ (vs.filter fun _ => false).map id) [.own .io u3, .val (.tup (ns.map .int)), .no] := by
    refine comp_all vs [] (by simp; omega) fun v hvv => ?_
    obtain ⟨n1, n2⟩ := hv v hvv
    have a1 := ring_ok k n1 n2
    have a2 := law_ring_ok (k + 2) n1 n2
    rw [← agree] at a2
    have a3 : (ringB v == ringB v) = true := by simp
    exact ⟨[.own .io u3, .val (.tup (ns.map .int)), .val v], by simp -implicitDefEqProofs only [ok_bind, ok_then, opt_some, seq_nx, seq_rt, seq_bk, seq_ct, rdV_v, rdV_o, ev_var, ev_cst, ev_glo, k2_s, ev_bin_2e, ev_bin_1e, ev_bin, negT_i, ev_neg_1e, ev_neg, notT_b, ev_not_1e, ev_not, ev_and, ev_or, ev_cmp_2e, ev_cmp_1e, ev_cmp, chB_t_1e, chB_t, chB_f, chA_s, ev_chain_2e, ev_chain_1e, ev_chain, k1_s, ev_isN_1e, ev_isN, ev_notN_1e, ev_notN, ev_isi_1e, ev_isi, iteK_t, iteK_f, ev_ite_1e, ev_ite, ev_tup_1e, ev_tup, ev_lst_1e, ev_lst, ev_dct0, ev_sub_2e, ev_sub_1e, ev_sub, ev_slc_3e, ev_slc_2e, ev_slc_1e, ev_slc, optE_abs, optE_f_1e, optE_f, ev_rev_1e, ev_rev, ev_call_1e, ev_call, ev_lrng_1e, ev_lrng, kl_s, ev_bi_1e, ev_bi, bs_nil, consO_s, bs_cons, muR_s, mutK_i, mutK_l, mutG_o_1e, mutG_o, ev_mut, evF_nil, fzK_s_1e, fzK_s, evF_cons_1e, evF_cons, evA_nil, evA_cons_2e, evA_cons_1e, evA_cons, evAnd_1, evAnd_2_1e, evAnd_2, evOr_1, evOr_2_1e, evOr_2, evC_nil, bK_t, bK_f, evC_cons_1e, evC_cons, evIt_rng_1e, evIt_rng, lkK_s, evIt_e_1e, evIt_e, putK_s, ss_asg_1e, ss_asg, ss_par_2e, ss_par_1e, ss_par, stS_o_1e, stS_o, stK_s, ss_setIx_1e, ss_setIx, ss_exp_1e, ss_exp, ss_ret_1e, ss_ret, ss_retN, oK_t, oK_f, ss_iff_1e, ss_iff, ss_for_1e, ss_for, ss_while, ss_pass, ss_brk, ss_cont, sss_nil, sss_cons, b_val, b_own, slD_o, slD_v, b_slot, fz_val, fz_own, weak_val, weak_own, weak_slot, v_val, asBl_b, optI_i, add_ii, sub_ii, lt_ii, le_ii, gt_ii, ge_ii, eq_dd, ne_dd, sub_li, sub_ti, sub_si, slc_l, slc_t, bi_len, bi_abs, bi_max, bi_min, bi_int, bi_list, bi_tuple, bi_sum, bi_all, bi_any, bi_sorted, bi_str, len_s, len_l, len_t, abs_i, max_ii, min_ii, int_i, int_b, list_l, list_t, tuple_l, tuple_t, saR_s, saK_i, saK_l, setAt_v, consM_s, outs_t, outs_f, outs_n, endK_s, end_rt, end_nx, rt_v, rt_o, rtS_l, rt_s, frB_n, frB_v, frB_l, free_eq, putT_v, putT_o, par_vv, par_oo, par_ov, par_vo, eqD_ii, eqD_bb, args_n, args_f, ioA_i, ioA_l, args_t, ios_n, ios_f, ios_t, leS_o, leS_v, lent_n, lent_fv, lent_fs, lent_t, cK_s, ret_t, ret_f, callC_n, callR_eq, callA_0, callA_1, po_n, poK_o, po_c, wB_nx, wB_ct, wB_bk, wB_rt, wK_t, wK_f, while_s_1e, fB_nx, fB_ct, fB_bk, fB_rt, fK_s, unl_nx, unl_rt, unlock_n, unK_o, unlock_s, lock_vl, lock_vt, lock_ol, lkS_l, lock_s, bind_nm, wipe_n, wipe_c, back_n, back_c, cR_ok, ev_comp_1e, ev_comp, List.getElem?_cons_zero, List.getElem?_cons_succ, List.set_cons_zero, List.set_cons_succ, Option.map_some, if_true, Nat.reduceEqDiff, reduceIte], by simp -implicitDefEqProofs only [ok_bind, ok_then, opt_some, seq_nx, seq_rt, seq_bk, seq_ct, rdV_v, rdV_o, ev_var, ev_cst, ev_glo, k2_s, ev_bin_2e, ev_bin_1e, ev_bin, negT_i, ev_neg_1e, ev_neg, notT_b, ev_not_1e, ev_not, ev_and, ev_or, ev_cmp_2e, ev_cmp_1e, ev_cmp, chB_t_1e, chB_t, chB_f, chA_s, ev_chain_2e, ev_chain_1e, ev_chain, k1_s, ev_isN_1e, ev_isN, ev_notN_1e, ev_notN, ev_isi_1e, ev_isi, iteK_t, iteK_f, ev_ite_1e, ev_ite, ev_tup_1e, ev_tup, ev_lst_1e, ev_lst, ev_dct0, ev_sub_2e, ev_sub_1e, ev_sub, ev_slc_3e, ev_slc_2e, ev_slc_1e, ev_slc, optE_abs, optE_f_1e, optE_f, ev_rev_1e, ev_rev, ev_call_1e, ev_call, ev_lrng_1e, ev_lrng, kl_s, ev_bi_1e, ev_bi, bs_nil, consO_s, bs_cons, muR_s, mutK_i, mutK_l, mutG_o_1e, mutG_o, ev_mut, evF_nil, fzK_s_1e, fzK_s, evF_cons_1e, evF_cons, evA_nil, evA_cons_2e, evA_cons_1e, evA_cons, evAnd_1, evAnd_2_1e, evAnd_2, evOr_1, evOr_2_1e, evOr_2, evC_nil, bK_t, bK_f, evC_cons_1e, evC_cons, evIt_rng_1e, evIt_rng, lkK_s, evIt_e_1e, evIt_e, putK_s, ss_asg_1e, ss_asg, ss_par_2e, ss_par_1e, ss_par, stS_o_1e, stS_o, stK_s, ss_setIx_1e, ss_setIx, ss_exp_1e, ss_exp, ss_ret_1e, ss_ret, ss_retN, oK_t, oK_f, ss_iff_1e, ss_iff, ss_for_1e, ss_for, ss_while, ss_pass, ss_brk, ss_cont, sss_nil, sss_cons, b_val, b_own, slD_o, slD_v, b_slot, fz_val, fz_own, weak_val, weak_own, weak_slot, v_val, asBl_b, optI_i, add_ii, sub_ii, lt_ii, le_ii, gt_ii, ge_ii, eq_dd, ne_dd, sub_li, sub_ti, sub_si, slc_l, slc_t, bi_len, bi_abs, bi_max, bi_min, bi_int, bi_list, bi_tuple, bi_sum, bi_all, bi_any, bi_sorted, bi_str, len_s, len_l, len_t, abs_i, max_ii, min_ii, int_i, int_b, list_l, list_t, tuple_l, tuple_t, saR_s, saK_i, saK_l, setAt_v, consM_s, outs_t, outs_f, outs_n, endK_s, end_rt, end_nx, rt_v, rt_o, rtS_l, rt_s, frB_n, frB_v, frB_l, free_eq, putT_v, putT_o, par_vv, par_oo, par_ov, par_vo, eqD_ii, eqD_bb, args_n, args_f, ioA_i, ioA_l, args_t, ios_n, ios_f, ios_t, leS_o, leS_v, lent_n, lent_fv, lent_fs, lent_t, cK_s, ret_t, ret_f, callC_n, callR_eq, callA_0, callA_1, po_n, poK_o, po_c, wB_nx, wB_ct, wB_bk, wB_rt, wK_t, wK_f, while_s_1e, fB_nx, fB_ct, fB_bk, fB_rt, fK_s, unl_nx, unl_rt, unlock_n, unK_o, unlock_s, lock_vl, lock_vt, lock_ol, lkS_l, lock_s, bind_nm, wipe_n, wipe_c, back_n, back_c, cR_ok, ev_comp_1e, ev_comp, List.getElem?_cons_zero, List.getElem?_cons_succ, List.set_cons_zero, List.set_cons_succ, Option.map_some, if_true, Nat.reduceEqDiff, reduceIte], .inl ⟨rfl, by simp -implicitDefEqProofs only [ok_bind, ok_then, opt_some, seq_nx, seq_rt, seq_bk, seq_ct, rdV_v, rdV_o, ev_var, ev_cst, ev_glo, k2_s, ev_bin_2e, ev_bin_1e, ev_bin, negT_i, ev_neg_1e, ev_neg, notT_b, ev_not_1e, ev_not, ev_and, ev_or, ev_cmp_2e, ev_cmp_1e, ev_cmp, chB_t_1e, chB_t, chB_f, chA_s, ev_chain_2e, ev_chain_1e, ev_chain, k1_s, ev_isN_1e, ev_isN, ev_notN_1e, ev_notN, ev_isi_1e, ev_isi, iteK_t, iteK_f, ev_ite_1e, ev_ite, ev_tup_1e, ev_tup, ev_lst_1e, ev_lst, ev_dct0, ev_sub_2e, ev_sub_1e, ev_sub, ev_slc_3e, ev_slc_2e, ev_slc_1e, ev_slc, optE_abs, optE_f_1e, optE_f, ev_rev_1e, ev_rev, ev_call_1e, ev_call, ev_lrng_1e, ev_lrng, kl_s, ev_bi_1e, ev_bi, bs_nil, consO_s, bs_cons, muR_s, mutK_i, mutK_l, mutG_o_1e, mutG_o, ev_mut, evF_nil, fzK_s_1e, fzK_s, evF_cons_1e, evF_cons, evA_nil, evA_cons_2e, evA_cons_1e, evA_cons, evAnd_1, evAnd_2_1e, evAnd_2, evOr_1, evOr_2_1e, evOr_2, evC_nil, bK_t, bK_f, evC_cons_1e, evC_cons, evIt_rng_1e, evIt_rng, lkK_s, evIt_e_1e, evIt_e, putK_s, ss_asg_1e, ss_asg, ss_par_2e, ss_par_1e, ss_par, stS_o_1e, stS_o, stK_s, ss_setIx_1e, ss_setIx, ss_exp_1e, ss_exp, ss_ret_1e, ss_ret, ss_retN, oK_t, oK_f, ss_iff_1e, ss_iff, ss_for_1e, ss_for, ss_while, ss_pass, ss_brk, ss_cont, sss_nil, sss_cons, b_val, b_own, slD_o, slD_v, b_slot, fz_val, fz_own, weak_val, weak_own, weak_slot, v_val, asBl_b, optI_i, add_ii, sub_ii, lt_ii, le_ii, gt_ii, ge_ii, eq_dd, ne_dd, sub_li, sub_ti, sub_si, slc_l, slc_t, bi_len, bi_abs, bi_max, bi_min, bi_int, bi_list, bi_tuple, bi_sum, bi_all, bi_any, bi_sorted, bi_str, len_s, len_l, len_t, abs_i, max_ii, min_ii, int_i, int_b, list_l, list_t, tuple_l, tuple_t, saR_s, saK_i, saK_l, setAt_v, consM_s, outs_t, outs_f, outs_n, endK_s, end_rt, end_nx, rt_v, rt_o, rtS_l, rt_s, frB_n, frB_v, frB_l, free_eq, putT_v, putT_o, par_vv, par_oo, par_ov, par_vo, eqD_ii, eqD_bb, args_n, args_f, ioA_i, ioA_l, args_t, ios_n, ios_f, ios_t, leS_o, leS_v, lent_n, lent_fv, lent_fs, lent_t, cK_s, ret_t, ret_f, callC_n, callR_eq, callA_0, callA_1, po_n, poK_o, po_c, wB_nx, wB_ct, wB_bk, wB_rt, wK_t, wK_f, while_s_1e, fB_nx, fB_ct, fB_bk, fB_rt, fK_s, unl_nx, unl_rt, unlock_n, unK_o, unlock_s, lock_vl, lock_vt, lock_ol, lkS_l, lock_s, bind_nm, wipe_n, wipe_c, back_n, back_c, cR_ok, ev_comp_1e, ev_comp, List.getElem?_cons_zero, List.getElem?_cons_succ, List.set_cons_zero, List.set_cons_succ, Option.map_some, if_true, Nat.reduceEqDiff, reduceIte, i2, i7, a1, a2, a3, Bool.not_true]⟩⟩
  have ef : vs.filter (fun _ => false) = [] := List.filter_eq_nil_iff.mpr (by simp)
  rw [ef, List.map_nil, List.append_nil] at cm
  have e1 : phi tab (k + 3) 4 [u, .int 10] = .ok false (.int (j : Int)) [u1] := e1
  have e3 : phi tab (k + 3) 8 [u2, .tup (ns.map .int)] = .ok true (.lst vs) [u3] := e3
  have en : eqD (.lst []) (.lst []) = some true := rfl
  rw [c9]
  simp -implicitDefEqProofs only [d_law_right, ok_bind, ok_then, opt_some, seq_nx, seq_rt, seq_bk, seq_ct, rdV_v, rdV_o, ev_var, ev_cst, ev_glo, k2_s, ev_bin_2e, ev_bin_1e, ev_bin, negT_i, ev_neg_1e, ev_neg, notT_b, ev_not_1e, ev_not, ev_and, ev_or, ev_cmp_2e, ev_cmp_1e, ev_cmp, chB_t_1e, chB_t, chB_f, chA_s, ev_chain_2e, ev_chain_1e, ev_chain, k1_s, ev_isN_1e, ev_isN, ev_notN_1e, ev_notN, ev_isi_1e, ev_isi, iteK_t, iteK_f, ev_ite_1e, ev_ite, ev_tup_1e, ev_tup, ev_lst_1e, ev_lst, ev_dct0, ev_sub_2e, ev_sub_1e, ev_sub, ev_slc_3e, ev_slc_2e, ev_slc_1e, ev_slc, optE_abs, optE_f_1e, optE_f, ev_rev_1e, ev_rev, ev_call_1e, ev_call, ev_lrng_1e, ev_lrng, kl_s, ev_bi_1e, ev_bi, bs_nil, consO_s, bs_cons, muR_s, mutK_i, mutK_l, mutG_o_1e, mutG_o, ev_mut, evF_nil, fzK_s_1e, fzK_s, evF_cons_1e, evF_cons, evA_nil, evA_cons_2e, evA_cons_1e, evA_cons, evAnd_1, evAnd_2_1e, evAnd_2, evOr_1, evOr_2_1e, evOr_2, evC_nil, bK_t, bK_f, evC_cons_1e, evC_cons, evIt_rng_1e, evIt_rng, lkK_s, evIt_e_1e, evIt_e, putK_s, ss_asg_1e, ss_asg, ss_par_2e, ss_par_1e, ss_par, stS_o_1e, stS_o, stK_s, ss_setIx_1e, ss_setIx, ss_exp_1e, ss_exp, ss_ret_1e, ss_ret, ss_retN, oK_t, oK_f, ss_iff_1e, ss_iff, ss_for_1e, ss_for, ss_while, ss_pass, ss_brk, ss_cont, sss_nil, sss_cons, b_val, b_own, slD_o, slD_v, b_slot, fz_val, fz_own, weak_val, weak_own, weak_slot, v_val, asBl_b, optI_i, add_ii, sub_ii, lt_ii, le_ii, gt_ii, ge_ii, eq_dd, ne_dd, sub_li, sub_ti, sub_si, slc_l, slc_t, bi_len, bi_abs, bi_max, bi_min, bi_int, bi_list, bi_tuple, bi_sum, bi_all, bi_any, bi_sorted, bi_str, len_s, len_l, len_t, abs_i, max_ii, min_ii, int_i, int_b, list_l, list_t, tuple_l, tuple_t, saR_s, saK_i, saK_l, setAt_v, consM_s, outs_t, outs_f, outs_n, endK_s, end_rt, end_nx, rt_v, rt_o, rtS_l, rt_s, frB_n, frB_v, frB_l, free_eq, putT_v, putT_o, par_vv, par_oo, par_ov, par_vo, eqD_ii, eqD_bb, args_n, args_f, ioA_i, ioA_l, args_t, ios_n, ios_f, ios_t, leS_o, leS_v, lent_n, lent_fv, lent_fs, lent_t, cK_s, ret_t, ret_f, callC_n, callR_eq, callA_0, callA_1, po_n, poK_o, po_c, wB_nx, wB_ct, wB_bk, wB_rt, wK_t, wK_f, while_s_1e, fB_nx, fB_ct, fB_bk, fB_rt, fK_s, unl_nx, unl_rt, unlock_n, unK_o, unlock_s, lock_vl, lock_vt, lock_ol, lkS_l, lock_s, bind_nm, wipe_n, wipe_c, back_n, back_c, cR_ok, ev_comp_1e, ev_comp, List.getElem?_cons_zero, List.getElem?_cons_succ, List.set_cons_zero, List.set_cons_succ, Option.map_some, if_true, Nat.reduceEqDiff, reduceIte, i4, i6, i2, i8, e1, ej, e2, e3, er, cm, en, List.all_cons, List.all_nil, notOwn, Bool.and_true, List.getD_cons_succ, List.getD_cons_zero, List.length_nil, Nat.zero_le]
end k25
end Py


set_option Elab.async false
set_option linter.all false
set_option maxRecDepth 100000
set_option maxHeartbeats 4000000
set_option exponentiation.threshold 2000
namespace Py
namespace k25
open PySem PySem.Spec
open PyProof.Rows L2
theorem c11 (k : Nat) (a : D) : phi tab (k + 1) 11 [a] = endR [false] (sss (ioOf tab) (phi tab k) dlaw.body [.val a, .no, .no, .no, .no, .no]) := rfl
theorem plain_b (k : Nat) (b : Bool) : phi tab (k + 1) 10 [.bl b] = .ok false (.bl true) [] := by
  rw [c10]
  have t1 : tyIs .tuple (.bl b) = some false := rfl
  have t2 : tyIs .int (.bl b) = some true := rfl
  have t3 : isNonD (.bl b) = false := rfl
  simp -implicitDefEqProofs only [d_law_is_plain, ok_bind, ok_then, opt_some, seq_nx, seq_rt, seq_bk, seq_ct, rdV_v, rdV_o, ev_var, ev_cst, ev_glo, k2_s, ev_bin_2e, ev_bin_1e, ev_bin, negT_i, ev_neg_1e, ev_neg, notT_b, ev_not_1e, ev_not, ev_and, ev_or, ev_cmp_2e, ev_cmp_1e, ev_cmp, chB_t_1e, chB_t, chB_f, chA_s, ev_chain_2e, ev_chain_1e, ev_chain, k1_s, ev_isN_1e, ev_isN, ev_notN_1e, ev_notN, ev_isi_1e, ev_isi, iteK_t, iteK_f, ev_ite_1e, ev_ite, ev_tup_1e, ev_tup, ev_lst_1e, ev_lst, ev_dct0, ev_sub_2e, ev_sub_1e, ev_sub, ev_slc_3e, ev_slc_2e, ev_slc_1e, ev_slc, optE_abs, optE_f_1e, optE_f, ev_rev_1e, ev_rev, ev_call_1e, ev_call, ev_lrng_1e, ev_lrng, kl_s, ev_bi_1e, ev_bi, bs_nil, consO_s, bs_cons, muR_s, mutK_i, mutK_l, mutG_o_1e, mutG_o, ev_mut, evF_nil, fzK_s_1e, fzK_s, evF_cons_1e, evF_cons, evA_nil, evA_cons_2e, evA_cons_1e, evA_cons, evAnd_1, evAnd_2_1e, evAnd_2, evOr_1, evOr_2_1e, evOr_2, evC_nil, bK_t, bK_f, evC_cons_1e, evC_cons, evIt_rng_1e, evIt_rng, lkK_s, evIt_e_1e, evIt_e, putK_s, ss_asg_1e, ss_asg, ss_par_2e, ss_par_1e, ss_par, stS_o_1e, stS_o, stK_s, ss_setIx_1e, ss_setIx, ss_exp_1e, ss_exp, ss_ret_1e, ss_ret, ss_retN, oK_t, oK_f, ss_iff_1e, ss_iff, ss_for_1e, ss_for, ss_while, ss_pass, ss_brk, ss_cont, sss_nil, sss_cons, b_val, b_own, slD_o, slD_v, b_slot, fz_val, fz_own, weak_val, weak_own, weak_slot, v_val, asBl_b, optI_i, add_ii, sub_ii, lt_ii, le_ii, gt_ii, ge_ii, eq_dd, ne_dd, sub_li, sub_ti, sub_si, slc_l, slc_t, bi_len, bi_abs, bi_max, bi_min, bi_int, bi_list, bi_tuple, bi_sum, bi_all, bi_any, bi_sorted, bi_str, len_s, len_l, len_t, abs_i, max_ii, min_ii, int_i, int_b, list_l, list_t, tuple_l, tuple_t, saR_s, saK_i, saK_l, setAt_v, consM_s, outs_t, outs_f, outs_n, endK_s, end_rt, end_nx, rt_v, rt_o, rtS_l, rt_s, frB_n, frB_v, frB_l, free_eq, putT_v, putT_o, par_vv, par_oo, par_ov, par_vo, eqD_ii, eqD_bb, args_n, args_f, ioA_i, ioA_l, args_t, ios_n, ios_f, ios_t, leS_o, leS_v, lent_n, lent_fv, lent_fs, lent_t, cK_s, ret_t, ret_f, callC_n, callR_eq, callA_0, callA_1, po_n, poK_o, po_c, wB_nx, wB_ct, wB_bk, wB_rt, wK_t, wK_f, while_s_1e, fB_nx, fB_ct, fB_bk, fB_rt, fK_s, unl_nx, unl_rt, unlock_n, unK_o, unlock_s, lock_vl, lock_vt, lock_ol, lkS_l, lock_s, bind_nm, wipe_n, wipe_c, back_n, back_c, cR_ok, ev_comp_1e, ev_comp, List.getElem?_cons_zero, List.getElem?_cons_succ, List.set_cons_zero, List.set_cons_succ, Option.map_some, if_true, Nat.reduceEqDiff, reduceIte, t1, t2, t3]
theorem plain_t (k : Nat) (bs : List Bool) (hl : bs.length ≤ 1000) : phi tab (k + 2) 10 [.tup (bs.map .bl)] = .ok false (.bl true) [] := by
  rw [c10]
  have t1 : tyIs .tuple (.tup (bs.map .bl)) = some true := rfl
  have cm : compLoop [1] (.nm 1) (evC (ioOf tab) (phi tab (k + 1)) (.cons (.not (.call 10 "_law_is_plain" (.cons (.var 1) .nil))) .nil)) (ev (ioOf tab) (phi tab (k + 1)) (.var 1)) (bs.map .bl) [] [.val (.tup (bs.map .bl)), .no] = .ok ([] ++ ((bs.map D.bl).filter fun _ => false).map id) [.val (.tup (bs.map .bl)), .no] := by
    refine comp_all (bs.map .bl) [] (by simp; omega) fun v hvv => ?_
    obtain ⟨b, _, rfl⟩ := List.mem_map.mp hvv
    have a1 := plain_b k b
    exact ⟨[.val (.tup (bs.map .bl)), .val (.bl b)], by simp -implicitDefEqProofs only [ok_bind, ok_then, opt_some, seq_nx, seq_rt, seq_bk, seq_ct, rdV_v, rdV_o, ev_var, ev_cst, ev_glo, k2_s, ev_bin_2e, ev_bin_1e, ev_bin, negT_i, ev_neg_1e, ev_neg, notT_b, ev_not_1e, ev_not, ev_and, ev_or, ev_cmp_2e, ev_cmp_1e, ev_cmp, chB_t_1e, chB_t, chB_f, chA_s, ev_chain_2e, ev_chain_1e, ev_chain, k1_s, ev_isN_1e, ev_isN, ev_notN_1e, ev_notN, ev_isi_1e, ev_isi, iteK_t, iteK_f, ev_ite_1e, ev_ite, ev_tup_1e, ev_tup, ev_lst_1e, ev_lst, ev_dct0, ev_sub_2e, ev_sub_1e, ev_sub, ev_slc_3e, ev_slc_2e, ev_slc_1e, ev_slc, optE_abs, optE_f_1e, optE_f, ev_rev_1e, ev_rev, ev_call_1e, ev_call, ev_lrng_1e, ev_lrng, kl_s, ev_bi_1e, ev_bi, bs_nil, consO_s, bs_cons, muR_s, mutK_i, mutK_l, mutG_o_1e, mutG_o, ev_mut, evF_nil, fzK_s_1e, fzK_s, evF_cons_1e, evF_cons, evA_nil, evA_cons_2e, evA_cons_1e, evA_cons, evAnd_1, evAnd_2_1e, evAnd_2, evOr_1, evOr_2_1e, evOr_2, evC_nil, bK_t, bK_f, evC_cons_1e, evC_cons, evIt_rng_1e, evIt_rng, lkK_s, evIt_e_1e, evIt_e, putK_s, ss_asg_1e, ss_asg, ss_par_2e, ss_par_1e, ss_par, stS_o_1e, stS_o, stK_s, ss_setIx_1e, ss_setIx, ss_exp_1e, ss_exp, ss_ret_1e, ss_ret, ss_retN, oK_t, oK_f, ss_iff_1e, ss_iff, ss_for_1e, ss_for, ss_while, ss_pass, ss_brk, ss_cont, sss_nil, sss_cons, b_val, b_own, slD_o, slD_v, b_slot, fz_val, fz_own, weak_val, weak_own, weak_slot, v_val, asBl_b, optI_i, add_ii, sub_ii, lt_ii, le_ii, gt_ii, ge_ii, eq_dd, ne_dd, sub_li, sub_ti, sub_si, slc_l, slc_t, bi_len, bi_abs, bi_max, bi_min, bi_int, bi_list, bi_tuple, bi_sum, bi_all, bi_any, bi_sorted, bi_str, len_s, len_l, len_t, abs_i, max_ii, min_ii, int_i, int_b, list_l, list_t, tuple_l, tuple_t, saR_s, saK_i, saK_l, setAt_v, consM_s, outs_t, outs_f, outs_n, endK_s, end_rt, end_nx, rt_v, rt_o, rtS_l, rt_s, frB_n, frB_v, frB_l, free_eq, putT_v, putT_o, par_vv, par_oo, par_ov, par_vo, eqD_ii, eqD_bb, args_n, args_f, ioA_i, ioA_l, args_t, ios_n, ios_f, ios_t, leS_o, leS_v, lent_n, lent_fv, lent_fs, lent_t, cK_s, ret_t, ret_f, callC_n, callR_eq, callA_0, callA_1, po_n, poK_o, po_c, wB_nx, wB_ct, wB_bk, wB_rt, wK_t, wK_f, while_s_1e, fB_nx, fB_ct, fB_bk, fB_rt, fK_s, unl_nx, unl_rt, unlock_n, unK_o, unlock_s, lock_vl, lock_vt, lock_ol, lkS_l, lock_s, bind_nm, wipe_n, wipe_c, back_n, back_c, cR_ok, ev_comp_1e, ev_comp, List.getElem?_cons_zero, List.getElem?_cons_succ, List.set_cons_zero, List.set_cons_succ, Option.map_some, if_true, Nat.reduceEqDiff, reduceIte], by simp -implicitDefEqProofs only [ok_bind, ok_then, opt_some, seq_nx, seq_rt, seq_bk, seq_ct, rdV_v, rdV_o, ev_var, ev_cst, ev_glo, k2_s, ev_bin_2e, ev_bin_1e, ev_bin, negT_i, ev_neg_1e, ev_neg, notT_b, ev_not_1e, ev_not, ev_and, ev_or, ev_cmp_2e, ev_cmp_1e, ev_cmp, chB_t_1e, chB_t, chB_f, chA_s, ev_chain_2e, ev_chain_1e, ev_chain, k1_s, ev_isN_1e, ev_isN, ev_notN_1e, ev_notN, ev_isi_1e, ev_isi, iteK_t, iteK_f, ev_ite_1e, ev_ite, ev_tup_1e, ev_tup, ev_lst_1e, ev_lst, ev_dct0, ev_sub_2e, ev_sub_1e, ev_sub, ev_slc_3e, ev_slc_2e, ev_slc_1e, ev_slc, optE_abs, optE_f_1e, optE_f, ev_rev_1e, ev_rev, ev_call_1e, ev_call, ev_lrng_1e, ev_lrng, kl_s, ev_bi_1e, ev_bi, bs_nil, consO_s, bs_cons, muR_s, mutK_i, mutK_l, mutG_o_1e, mutG_o, ev_mut, evF_nil, fzK_s_1e, fzK_s, evF_cons_1e, evF_cons, evA_nil, evA_cons_2e, evA_cons_1e, evA_cons, evAnd_1, evAnd_2_1e, evAnd_2, evOr_1, evOr_2_1e, evOr_2, evC_nil, bK_t, bK_f, evC_cons_1e, evC_cons, evIt_rng_1e, evIt_rng, lkK_s, evIt_e_1e, evIt_e, putK_s, ss_asg_1e, ss_asg, ss_par_2e, ss_par_1e, ss_par, stS_o_1e, stS_o, stK_s, ss_setIx_1e, ss_setIx, ss_exp_1e, ss_exp, ss_ret_1e, ss_ret, ss_retN, oK_t, oK_f, ss_iff_1e, ss_iff, ss_for_1e, ss_for, ss_while, ss_pass, ss_brk, ss_cont, sss_nil, sss_cons, b_val, b_own, slD_o, slD_v, b_slot, fz_val, fz_own, weak_val, weak_own, weak_slot, v_val, asBl_b, optI_i, add_ii, sub_ii, lt_ii, le_ii, gt_ii, ge_ii, eq_dd, ne_dd, sub_li, sub_ti, sub_si, slc_l, slc_t, bi_len, bi_abs, bi_max, bi_min, bi_int, bi_list, bi_tuple, bi_sum, bi_all, bi_any, bi_sorted, bi_str, len_s, len_l, len_t, abs_i, max_ii, min_ii, int_i, int_b, list_l, list_t, tuple_l, tuple_t, saR_s, saK_i, saK_l, setAt_v, consM_s, outs_t, outs_f, outs_n, endK_s, end_rt, end_nx, rt_v, rt_o, rtS_l, rt_s, frB_n, frB_v, frB_l, free_eq, putT_v, putT_o, par_vv, par_oo, par_ov, par_vo, eqD_ii, eqD_bb, args_n, args_f, ioA_i, ioA_l, args_t, ios_n, ios_f, ios_t, leS_o, leS_v, lent_n, lent_fv, lent_fs, lent_t, cK_s, ret_t, ret_f, callC_n, callR_eq, callA_0, callA_1, po_n, poK_o, po_c, wB_nx, wB_ct, wB_bk, wB_rt, wK_t, wK_f, while_s_1e, fB_nx, fB_ct, fB_bk, fB_rt, fK_s, unl_nx, unl_rt, unlock_n, unK_o, unlock_s, lock_vl, lock_vt, lock_ol, lkS_l, lock_s, bind_nm, wipe_n, wipe_c, back_n, back_c, cR_ok, ev_comp_1e, ev_comp, List.getElem?_cons_zero, List.getElem?_cons_succ, List.set_cons_zero, List.set_cons_succ, Option.map_some, if_true, Nat.reduceEqDiff, reduceIte], .inl ⟨rfl, by simp -implicitDefEqProofs only [ok_bind, ok_then, opt_some, seq_nx, seq_rt, seq_bk, seq_ct, rdV_v, rdV_o, ev_var, ev_cst, ev_glo, k2_s, ev_bin_2e, ev_bin_1e, ev_bin, negT_i, ev_neg_1e, ev_neg, notT_b, ev_not_1e, ev_not, ev_and, ev_or, ev_cmp_2e, ev_cmp_1e, ev_cmp, chB_t_1e, chB_t, chB_f, chA_s, ev_chain_2e, ev_chain_1e, ev_chain, k1_s, ev_isN_1e, ev_isN, ev_notN_1e, ev_notN, ev_isi_1e, ev_isi, iteK_t, iteK_f, ev_ite_1e, ev_ite, ev_tup_1e, ev_tup, ev_lst_1e, ev_lst, ev_dct0, ev_sub_2e, ev_sub_1e, ev_sub, ev_slc_3e, ev_slc_2e, ev_slc_1e, ev_slc, optE_abs, optE_f_1e, optE_f, ev_rev_1e, ev_rev, ev_call_1e, ev_call, ev_lrng_1e, ev_lrng, kl_s, ev_bi_1e, ev_bi, bs_nil, consO_s, bs_cons, muR_s, mutK_i, mutK_l, mutG_o_1e, mutG_o, ev_mut, evF_nil, fzK_s_1e, fzK_s, evF_cons_1e, evF_cons, evA_nil, evA_cons_2e, evA_cons_1e, evA_cons, evAnd_1, evAnd_2_1e, evAnd_2, evOr_1, evOr_2_1e, evOr_2, evC_nil, bK_t, bK_f, evC_cons_1e, evC_cons, evIt_rng_1e, evIt_rng, lkK_s, evIt_e_1e, evIt_e, putK_s, ss_asg_1e, ss_asg, ss_par_2e, ss_par_1e, ss_par, stS_o_1e, stS_o, stK_s, ss_setIx_1e, ss_setIx, ss_exp_1e, ss_exp, ss_ret_1e, ss_ret, ss_retN, oK_t, oK_f, ss_iff_1e, ss_iff, ss_for_1e, ss_for, ss_while, ss_pass, ss_brk, ss_cont, sss_nil, sss_cons, b_val, b_own, slD_o, slD_v, b_slot, fz_val, fz_own, weak_val, weak_own, weak_slot, v_val, asBl_b, optI_i, add_ii, sub_ii, lt_ii, le_ii, gt_ii, ge_ii, eq_dd, ne_dd, sub_li, sub_ti, sub_si, slc_l, slc_t, bi_len, bi_abs, bi_max, bi_min, bi_int, bi_list, bi_tuple, bi_sum, bi_all, bi_any, bi_sorted, bi_str, len_s, len_l, len_t, abs_i, max_ii, min_ii, int_i, int_b, list_l, list_t, tuple_l, tuple_t, saR_s, saK_i, saK_l, setAt_v, consM_s, outs_t, outs_f, outs_n, endK_s, end_rt, end_nx, rt_v, rt_o, rtS_l, rt_s, frB_n, frB_v, frB_l, free_eq, putT_v, putT_o, par_vv, par_oo, par_ov, par_vo, eqD_ii, eqD_bb, args_n, args_f, ioA_i, ioA_l, args_t, ios_n, ios_f, ios_t, leS_o, leS_v, lent_n, lent_fv, lent_fs, lent_t, cK_s, ret_t, ret_f, callC_n, callR_eq, callA_0, callA_1, po_n, poK_o, po_c, wB_nx, wB_ct, wB_bk, wB_rt, wK_t, wK_f, while_s_1e, fB_nx, fB_ct, fB_bk, fB_rt, fK_s, unl_nx, unl_rt, unlock_n, unK_o, unlock_s, lock_vl, lock_vt, lock_ol, lkS_l, lock_s, bind_nm, wipe_n, wipe_c, back_n, back_c, cR_ok, ev_comp_1e, ev_comp, List.getElem?_cons_zero, List.getElem?_cons_succ, List.set_cons_zero, List.set_cons_succ, Option.map_some, if_true, Nat.reduceEqDiff, reduceIte, i10, a1, Bool.not_true]⟩⟩
  have ef : (bs.map D.bl).filter (fun _ => false) = [] := List.filter_eq_nil_iff.mpr (by simp)
  rw [ef, List.map_nil, List.append_nil] at cm
  have en : eqD (.lst []) (.lst []) = some true := rfl
  simp -implicitDefEqProofs only [d_law_is_plain, ok_bind, ok_then, opt_some, seq_nx, seq_rt, seq_bk, seq_ct, rdV_v, rdV_o, ev_var, ev_cst, ev_glo, k2_s, ev_bin_2e, ev_bin_1e, ev_bin, negT_i, ev_neg_1e, ev_neg, notT_b, ev_not_1e, ev_not, ev_and, ev_or, ev_cmp_2e, ev_cmp_1e, ev_cmp, chB_t_1e, chB_t, chB_f, chA_s, ev_chain_2e, ev_chain_1e, ev_chain, k1_s, ev_isN_1e, ev_isN, ev_notN_1e, ev_notN, ev_isi_1e, ev_isi, iteK_t, iteK_f, ev_ite_1e, ev_ite, ev_tup_1e, ev_tup, ev_lst_1e, ev_lst, ev_dct0, ev_sub_2e, ev_sub_1e, ev_sub, ev_slc_3e, ev_slc_2e, ev_slc_1e, ev_slc, optE_abs, optE_f_1e, optE_f, ev_rev_1e, ev_rev, ev_call_1e, ev_call, ev_lrng_1e, ev_lrng, kl_s, ev_bi_1e, ev_bi, bs_nil, consO_s, bs_cons, muR_s, mutK_i, mutK_l, mutG_o_1e, mutG_o, ev_mut, evF_nil, fzK_s_1e, fzK_s, evF_cons_1e, evF_cons, evA_nil, evA_cons_2e, evA_cons_1e, evA_cons, evAnd_1, evAnd_2_1e, evAnd_2, evOr_1, evOr_2_1e, evOr_2, evC_nil, bK_t, bK_f, evC_cons_1e, evC_cons, evIt_rng_1e, evIt_rng, lkK_s, evIt_e_1e, evIt_e, putK_s, ss_asg_1e, ss_asg, ss_par_2e, ss_par_1e, ss_par, stS_o_1e, stS_o, stK_s, ss_setIx_1e, ss_setIx, ss_exp_1e, ss_exp, ss_ret_1e, ss_ret, ss_retN, oK_t, oK_f, ss_iff_1e, ss_iff, ss_for_1e, ss_for, ss_while, ss_pass, ss_brk, ss_cont, sss_nil, sss_cons, b_val, b_own, slD_o, slD_v, b_slot, fz_val, fz_own, weak_val, weak_own, weak_slot, v_val, asBl_b, optI_i, add_ii, sub_ii, lt_ii, le_ii, gt_ii, ge_ii, eq_dd, ne_dd, sub_li, sub_ti, sub_si, slc_l, slc_t, bi_len, bi_abs, bi_max, bi_min, bi_int, bi_list, bi_tuple, bi_sum, bi_all, bi_any, bi_sorted, bi_str, len_s, len_l, len_t, abs_i, max_ii, min_ii, int_i, int_b, list_l, list_t, tuple_l, tuple_t, saR_s, saK_i, saK_l, setAt_v, consM_s, outs_t, outs_f, outs_n, endK_s, end_rt, end_nx, rt_v, rt_o, rtS_l, rt_s, frB_n, frB_v, frB_l, free_eq, putT_v, putT_o, par_vv, par_oo, par_ov, par_vo, eqD_ii, eqD_bb, args_n, args_f, ioA_i, ioA_l, args_t, ios_n, ios_f, ios_t, leS_o, leS_v, lent_n, lent_fv, lent_fs, lent_t, cK_s, ret_t, ret_f, callC_n, callR_eq, callA_0, callA_1, po_n, poK_o, po_c, wB_nx, wB_ct, wB_bk, wB_rt, wK_t, wK_f, while_s_1e, fB_nx, fB_ct, fB_bk, fB_rt, fK_s, unl_nx, unl_rt, unlock_n, unK_o, unlock_s, lock_vl, lock_vt, lock_ol, lkS_l, lock_s, bind_nm, wipe_n, wipe_c, back_n, back_c, cR_ok, ev_comp_1e, ev_comp, List.getElem?_cons_zero, List.getElem?_cons_succ, List.set_cons_zero, List.set_cons_succ, Option.map_some, if_true, Nat.reduceEqDiff, reduceIte, t1, cm, en, List.all_cons, List.all_nil, notOwn, Bool.and_true, List.getD_cons_succ, List.getD_cons_zero, List.length_nil, Nat.zero_le]
def turnB : ISs := .cons (.iff (.not (.call 9 "_law_right" (.cons (.var 3) .nil))) (.cons (.ret (.cst (.bl false))) .nil) (.nil)) .nil
theorem turns (k : Nat) (a v : D) : ∀ (ts : List D) (m : Nat) (u : D) (s4 : Slot), frB (some s4) = true → Urn m u → m + 30 * ts.length < 2 ^ 800 → ∃ (u' : D) (s4' : Slot), frB (some s4') = true ∧
    forLoop (.nm 4) (sss (ioOf tab) (phi tab (k + 4)) turnB) ts [.val a, .val v, .no, .own .loc u, s4, .no] = .nx [.val a, .val v, .no, .own .loc u', s4', .no]
  | [], m, u, s4, h4, hu, hm => ⟨u, s4, h4, rfl⟩
  | t :: ts, m, u, s4, h4, hu, hm => by
    have hm : m + 30 * (ts.length + 1) < 2 ^ 800 := hm
    obtain ⟨u1, e1, hu1⟩ := right_ok k m u hu (by omega)
    obtain ⟨u', s4', h4', e⟩ := turns k a v ts (m + 30) u1 (.val t) rfl hu1 (by omega)
    refine ⟨u', s4', h4', ?_⟩
    rw [for_c]
    have b1 : bindTg (.nm 4) t [.val a, .val v, .no, .own .loc u, s4, .no] = some [.val a, .val v, .no, .own .loc u, .val t, .no] := by
      simp -implicitDefEqProofs only [ok_bind, ok_then, opt_some, seq_nx, seq_rt, seq_bk, seq_ct, rdV_v, rdV_o, ev_var, ev_cst, ev_glo, k2_s, ev_bin_2e, ev_bin_1e, ev_bin, negT_i, ev_neg_1e, ev_neg, notT_b, ev_not_1e, ev_not, ev_and, ev_or, ev_cmp_2e, ev_cmp_1e, ev_cmp, chB_t_1e, chB_t, chB_f, chA_s, ev_chain_2e, ev_chain_1e, ev_chain, k1_s, ev_isN_1e, ev_isN, ev_notN_1e, ev_notN, ev_isi_1e, ev_isi, iteK_t, iteK_f, ev_ite_1e, ev_ite, ev_tup_1e, ev_tup, ev_lst_1e, ev_lst, ev_dct0, ev_sub_2e, ev_sub_1e, ev_sub, ev_slc_3e, ev_slc_2e, ev_slc_1e, ev_slc, optE_abs, optE_f_1e, optE_f, ev_rev_1e, ev_rev, ev_call_1e, ev_call, ev_lrng_1e, ev_lrng, kl_s, ev_bi_1e, ev_bi, bs_nil, consO_s, bs_cons, muR_s, mutK_i, mutK_l, mutG_o_1e, mutG_o, ev_mut, evF_nil, fzK_s_1e, fzK_s, evF_cons_1e, evF_cons, evA_nil, evA_cons_2e, evA_cons_1e, evA_cons, evAnd_1, evAnd_2_1e, evAnd_2, evOr_1, evOr_2_1e, evOr_2, evC_nil, bK_t, bK_f, evC_cons_1e, evC_cons, evIt_rng_1e, evIt_rng, lkK_s, evIt_e_1e, evIt_e, putK_s, ss_asg_1e, ss_asg, ss_par_2e, ss_par_1e, ss_par, stS_o_1e, stS_o, stK_s, ss_setIx_1e, ss_setIx, ss_exp_1e, ss_exp, ss_ret_1e, ss_ret, ss_retN, oK_t, oK_f, ss_iff_1e, ss_iff, ss_for_1e, ss_for, ss_while, ss_pass, ss_brk, ss_cont, sss_nil, sss_cons, b_val, b_own, slD_o, slD_v, b_slot, fz_val, fz_own, weak_val, weak_own, weak_slot, v_val, asBl_b, optI_i, add_ii, sub_ii, lt_ii, le_ii, gt_ii, ge_ii, eq_dd, ne_dd, sub_li, sub_ti, sub_si, slc_l, slc_t, bi_len, bi_abs, bi_max, bi_min, bi_int, bi_list, bi_tuple, bi_sum, bi_all, bi_any, bi_sorted, bi_str, len_s, len_l, len_t, abs_i, max_ii, min_ii, int_i, int_b, list_l, list_t, tuple_l, tuple_t, saR_s, saK_i, saK_l, setAt_v, consM_s, outs_t, outs_f, outs_n, endK_s, end_rt, end_nx, rt_v, rt_o, rtS_l, rt_s, frB_n, frB_v, frB_l, free_eq, putT_v, putT_o, par_vv, par_oo, par_ov, par_vo, eqD_ii, eqD_bb, args_n, args_f, ioA_i, ioA_l, args_t, ios_n, ios_f, ios_t, leS_o, leS_v, lent_n, lent_fv, lent_fs, lent_t, cK_s, ret_t, ret_f, callC_n, callR_eq, callA_0, callA_1, po_n, poK_o, po_c, wB_nx, wB_ct, wB_bk, wB_rt, wK_t, wK_f, while_s_1e, fB_nx, fB_ct, fB_bk, fB_rt, fK_s, unl_nx, unl_rt, unlock_n, unK_o, unlock_s, lock_vl, lock_vt, lock_ol, lkS_l, lock_s, bind_nm, wipe_n, wipe_c, back_n, back_c, cR_ok, ev_comp_1e, ev_comp, List.getElem?_cons_zero, List.getElem?_cons_succ, List.set_cons_zero, List.set_cons_succ, Option.map_some, if_true, Nat.reduceEqDiff, reduceIte, h4]
    rw [b1]
    simp -implicitDefEqProofs only [turnB, ok_bind, ok_then, opt_some, seq_nx, seq_rt, seq_bk, seq_ct, rdV_v, rdV_o, ev_var, ev_cst, ev_glo, k2_s, ev_bin_2e, ev_bin_1e, ev_bin, negT_i, ev_neg_1e, ev_neg, notT_b, ev_not_1e, ev_not, ev_and, ev_or, ev_cmp_2e, ev_cmp_1e, ev_cmp, chB_t_1e, chB_t, chB_f, chA_s, ev_chain_2e, ev_chain_1e, ev_chain, k1_s, ev_isN_1e, ev_isN, ev_notN_1e, ev_notN, ev_isi_1e, ev_isi, iteK_t, iteK_f, ev_ite_1e, ev_ite, ev_tup_1e, ev_tup, ev_lst_1e, ev_lst, ev_dct0, ev_sub_2e, ev_sub_1e, ev_sub, ev_slc_3e, ev_slc_2e, ev_slc_1e, ev_slc, optE_abs, optE_f_1e, optE_f, ev_rev_1e, ev_rev, ev_call_1e, ev_call, ev_lrng_1e, ev_lrng, kl_s, ev_bi_1e, ev_bi, bs_nil, consO_s, bs_cons, muR_s, mutK_i, mutK_l, mutG_o_1e, mutG_o, ev_mut, evF_nil, fzK_s_1e, fzK_s, evF_cons_1e, evF_cons, evA_nil, evA_cons_2e, evA_cons_1e, evA_cons, evAnd_1, evAnd_2_1e, evAnd_2, evOr_1, evOr_2_1e, evOr_2, evC_nil, bK_t, bK_f, evC_cons_1e, evC_cons, evIt_rng_1e, evIt_rng, lkK_s, evIt_e_1e, evIt_e, putK_s, ss_asg_1e, ss_asg, ss_par_2e, ss_par_1e, ss_par, stS_o_1e, stS_o, stK_s, ss_setIx_1e, ss_setIx, ss_exp_1e, ss_exp, ss_ret_1e, ss_ret, ss_retN, oK_t, oK_f, ss_iff_1e, ss_iff, ss_for_1e, ss_for, ss_while, ss_pass, ss_brk, ss_cont, sss_nil, sss_cons, b_val, b_own, slD_o, slD_v, b_slot, fz_val, fz_own, weak_val, weak_own, weak_slot, v_val, asBl_b, optI_i, add_ii, sub_ii, lt_ii, le_ii, gt_ii, ge_ii, eq_dd, ne_dd, sub_li, sub_ti, sub_si, slc_l, slc_t, bi_len, bi_abs, bi_max, bi_min, bi_int, bi_list, bi_tuple, bi_sum, bi_all, bi_any, bi_sorted, bi_str, len_s, len_l, len_t, abs_i, max_ii, min_ii, int_i, int_b, list_l, list_t, tuple_l, tuple_t, saR_s, saK_i, saK_l, setAt_v, consM_s, outs_t, outs_f, outs_n, endK_s, end_rt, end_nx, rt_v, rt_o, rtS_l, rt_s, frB_n, frB_v, frB_l, free_eq, putT_v, putT_o, par_vv, par_oo, par_ov, par_vo, eqD_ii, eqD_bb, args_n, args_f, ioA_i, ioA_l, args_t, ios_n, ios_f, ios_t, leS_o, leS_v, lent_n, lent_fv, lent_fs, lent_t, cK_s, ret_t, ret_f, callC_n, callR_eq, callA_0, callA_1, po_n, poK_o, po_c, wB_nx, wB_ct, wB_bk, wB_rt, wK_t, wK_f, while_s_1e, fB_nx, fB_ct, fB_bk, fB_rt, fK_s, unl_nx, unl_rt, unlock_n, unK_o, unlock_s, lock_vl, lock_vt, lock_ol, lkS_l, lock_s, bind_nm, wipe_n, wipe_c, back_n, back_c, cR_ok, ev_comp_1e, ev_comp, List.getElem?_cons_zero, List.getElem?_cons_succ, List.set_cons_zero, List.set_cons_succ, Option.map_some, if_true, Nat.reduceEqDiff, reduceIte, i9, e1, Bool.not_true]
    exact e
def spotB : ISs := .cons (.asg 3 (.call 3 "_law_urn" (.cons (.var 0) (.cons (.var 1) .nil)))) (.cons (.for (.nm 4) (.rng (.cons (.cst (.int 8)) .nil)) (.cons (.iff (.not (.call 9 "_law_right" (.cons (.var 3) .nil))) (.cons (.ret (.cst (.bl false))) .nil) (.nil)) .nil)) .nil)
theorem spots (k : Nat) (ns : List Int) : ∀ (is : List Int) (s1 s3 s4 : Slot), (∀ i ∈ is, 0 ≤ i ∧ i < 100) → frB (some s1) = true → frB (some s3) = true → frB (some s4) = true → ∃ s1' s3' s4' : Slot,
    forLoop (.nm 1) (sss (ioOf tab) (phi tab (k + 4)) spotB) (is.map .int) [.val (.scr ns), s1, .no, s3, s4, .no] = .nx [.val (.scr ns), s1', .no, s3', s4', .no]
  | [], s1, s3, s4, _, _, _, _ => ⟨s1, s3, s4, rfl⟩
  | i :: is, s1, s3, s4, hi, h1, h3, h4 => by
    obtain ⟨q1, q2⟩ := hi i List.mem_cons_self
    obtain ⟨u, eu, hu⟩ := urn (k + 3) ns i q1 (by omega)
    have eu : phi tab (k + 4) 3 [.scr ns, .int i] = .ok true u [] := eu
    have r8 : rngD [.int 8] = some ((rngI 8).map .int) := rng_1 (n := 8) (by decide)
    obtain ⟨u', s4', h4', e⟩ := turns k (.scr ns) (.int i) ((rngI 8).map .int) 0 u s4 h4 hu (by rw [List.length_map, rngI_length]; decide)
    dsimp only [turnB] at e
    obtain ⟨s1', s3', s4'', e2⟩ := spots k ns is (.val (.int i)) (.own .loc u') s4' (fun j hj => hi j (List.mem_cons_of_mem _ hj)) rfl rfl h4'
    refine ⟨s1', s3', s4'', ?_⟩
    rw [List.map_cons, for_c]
    have b1 : bindTg (.nm 1) (.int i) [.val (.scr ns), s1, .no, s3, s4, .no] = some [.val (.scr ns), .val (.int i), .no, s3, s4, .no] := by
      simp -implicitDefEqProofs only [ok_bind, ok_then, opt_some, seq_nx, seq_rt, seq_bk, seq_ct, rdV_v, rdV_o, ev_var, ev_cst, ev_glo, k2_s, ev_bin_2e, ev_bin_1e, ev_bin, negT_i, ev_neg_1e, ev_neg, notT_b, ev_not_1e, ev_not, ev_and, ev_or, ev_cmp_2e, ev_cmp_1e, ev_cmp, chB_t_1e, chB_t, chB_f, chA_s, ev_chain_2e, ev_chain_1e, ev_chain, k1_s, ev_isN_1e, ev_isN, ev_notN_1e, ev_notN, ev_isi_1e, ev_isi, iteK_t, iteK_f, ev_ite_1e, ev_ite, ev_tup_1e, ev_tup, ev_lst_1e, ev_lst, ev_dct0, ev_sub_2e, ev_sub_1e, ev_sub, ev_slc_3e, ev_slc_2e, ev_slc_1e, ev_slc, optE_abs, optE_f_1e, optE_f, ev_rev_1e, ev_rev, ev_call_1e, ev_call, ev_lrng_1e, ev_lrng, kl_s, ev_bi_1e, ev_bi, bs_nil, consO_s, bs_cons, muR_s, mutK_i, mutK_l, mutG_o_1e, mutG_o, ev_mut, evF_nil, fzK_s_1e, fzK_s, evF_cons_1e, evF_cons, evA_nil, evA_cons_2e, evA_cons_1e, evA_cons, evAnd_1, evAnd_2_1e, evAnd_2, evOr_1, evOr_2_1e, evOr_2, evC_nil, bK_t, bK_f, evC_cons_1e, evC_cons, evIt_rng_1e, evIt_rng, lkK_s, evIt_e_1e, evIt_e, putK_s, ss_asg_1e, ss_asg, ss_par_2e, ss_par_1e, ss_par, stS_o_1e, stS_o, stK_s, ss_setIx_1e, ss_setIx, ss_exp_1e, ss_exp, ss_ret_1e, ss_ret, ss_retN, oK_t, oK_f, ss_iff_1e, ss_iff, ss_for_1e, ss_for, ss_while, ss_pass, ss_brk, ss_cont, sss_nil, sss_cons, b_val, b_own, slD_o, slD_v, b_slot, fz_val, fz_own, weak_val, weak_own, weak_slot, v_val, asBl_b, optI_i, add_ii, sub_ii, lt_ii, le_ii, gt_ii, ge_ii, eq_dd, ne_dd, sub_li, sub_ti, sub_si, slc_l, slc_t, bi_len, bi_abs, bi_max, bi_min, bi_int, bi_list, bi_tuple, bi_sum, bi_all, bi_any, bi_sorted, bi_str, len_s, len_l, len_t, abs_i, max_ii, min_ii, int_i, int_b, list_l, list_t, tuple_l, tuple_t, saR_s, saK_i, saK_l, setAt_v, consM_s, outs_t, outs_f, outs_n, endK_s, end_rt, end_nx, rt_v, rt_o, rtS_l, rt_s, frB_n, frB_v, frB_l, free_eq, putT_v, putT_o, par_vv, par_oo, par_ov, par_vo, eqD_ii, eqD_bb, args_n, args_f, ioA_i, ioA_l, args_t, ios_n, ios_f, ios_t, leS_o, leS_v, lent_n, lent_fv, lent_fs, lent_t, cK_s, ret_t, ret_f, callC_n, callR_eq, callA_0, callA_1, po_n, poK_o, po_c, wB_nx, wB_ct, wB_bk, wB_rt, wK_t, wK_f, while_s_1e, fB_nx, fB_ct, fB_bk, fB_rt, fK_s, unl_nx, unl_rt, unlock_n, unK_o, unlock_s, lock_vl, lock_vt, lock_ol, lkS_l, lock_s, bind_nm, wipe_n, wipe_c, back_n, back_c, cR_ok, ev_comp_1e, ev_comp, List.getElem?_cons_zero, List.getElem?_cons_succ, List.set_cons_zero, List.set_cons_succ, Option.map_some, if_true, Nat.reduceEqDiff, reduceIte, h1]
    rw [b1]
    simp -implicitDefEqProofs only [spotB, ok_bind, ok_then, opt_some, seq_nx, seq_rt, seq_bk, seq_ct, rdV_v, rdV_o, ev_var, ev_cst, ev_glo, k2_s, ev_bin_2e, ev_bin_1e, ev_bin, negT_i, ev_neg_1e, ev_neg, notT_b, ev_not_1e, ev_not, ev_and, ev_or, ev_cmp_2e, ev_cmp_1e, ev_cmp, chB_t_1e, chB_t, chB_f, chA_s, ev_chain_2e, ev_chain_1e, ev_chain, k1_s, ev_isN_1e, ev_isN, ev_notN_1e, ev_notN, ev_isi_1e, ev_isi, iteK_t, iteK_f, ev_ite_1e, ev_ite, ev_tup_1e, ev_tup, ev_lst_1e, ev_lst, ev_dct0, ev_sub_2e, ev_sub_1e, ev_sub, ev_slc_3e, ev_slc_2e, ev_slc_1e, ev_slc, optE_abs, optE_f_1e, optE_f, ev_rev_1e, ev_rev, ev_call_1e, ev_call, ev_lrng_1e, ev_lrng, kl_s, ev_bi_1e, ev_bi, bs_nil, consO_s, bs_cons, muR_s, mutK_i, mutK_l, mutG_o_1e, mutG_o, ev_mut, evF_nil, fzK_s_1e, fzK_s, evF_cons_1e, evF_cons, evA_nil, evA_cons_2e, evA_cons_1e, evA_cons, evAnd_1, evAnd_2_1e, evAnd_2, evOr_1, evOr_2_1e, evOr_2, evC_nil, bK_t, bK_f, evC_cons_1e, evC_cons, evIt_rng_1e, evIt_rng, lkK_s, evIt_e_1e, evIt_e, putK_s, ss_asg_1e, ss_asg, ss_par_2e, ss_par_1e, ss_par, stS_o_1e, stS_o, stK_s, ss_setIx_1e, ss_setIx, ss_exp_1e, ss_exp, ss_ret_1e, ss_ret, ss_retN, oK_t, oK_f, ss_iff_1e, ss_iff, ss_for_1e, ss_for, ss_while, ss_pass, ss_brk, ss_cont, sss_nil, sss_cons, b_val, b_own, slD_o, slD_v, b_slot, fz_val, fz_own, weak_val, weak_own, weak_slot, v_val, asBl_b, optI_i, add_ii, sub_ii, lt_ii, le_ii, gt_ii, ge_ii, eq_dd, ne_dd, sub_li, sub_ti, sub_si, slc_l, slc_t, bi_len, bi_abs, bi_max, bi_min, bi_int, bi_list, bi_tuple, bi_sum, bi_all, bi_any, bi_sorted, bi_str, len_s, len_l, len_t, abs_i, max_ii, min_ii, int_i, int_b, list_l, list_t, tuple_l, tuple_t, saR_s, saK_i, saK_l, setAt_v, consM_s, outs_t, outs_f, outs_n, endK_s, end_rt, end_nx, rt_v, rt_o, rtS_l, rt_s, frB_n, frB_v, frB_l, free_eq, putT_v, putT_o, par_vv, par_oo, par_ov, par_vo, eqD_ii, eqD_bb, args_n, args_f, ioA_i, ioA_l, args_t, ios_n, ios_f, ios_t, leS_o, leS_v, lent_n, lent_fv, lent_fs, lent_t, cK_s, ret_t, ret_f, callC_n, callR_eq, callA_0, callA_1, po_n, poK_o, po_c, wB_nx, wB_ct, wB_bk, wB_rt, wK_t, wK_f, while_s_1e, fB_nx, fB_ct, fB_bk, fB_rt, fK_s, unl_nx, unl_rt, unlock_n, unK_o, unlock_s, lock_vl, lock_vt, lock_ol, lkS_l, lock_s, bind_nm, wipe_n, wipe_c, back_n, back_c, cR_ok, ev_comp_1e, ev_comp, List.getElem?_cons_zero, List.getElem?_cons_succ, List.set_cons_zero, List.set_cons_succ, Option.map_some, if_true, Nat.reduceEqDiff, reduceIte, i3, eu, h3, r8, e]
    exact e2
theorem T (ns : List Int) (_ : ns.length ≤ 63) : ∃ o, phi tab 40 11 [.scr ns] = .ok o (.bl true) [] := by
  obtain ⟨n, hn, en⟩ : ∃ n : Nat, n ≤ 4 ∧ (if (if (ns.length : Int) < 4 then (ns.length : Int) else 4) > 1 then (if (ns.length : Int) < 4 then (ns.length : Int) else 4) else 1) = (n : Int) := by
    by_cases h : (ns.length : Int) < 4
    · rw [if_pos h]
      by_cases h2 : (ns.length : Int) > 1
      · rw [if_pos h2]; exact ⟨ns.length, by omega, rfl⟩
      · rw [if_neg h2]; exact ⟨1, by decide, rfl⟩
    · rw [if_neg h]
      exact ⟨4, by decide, rfl⟩
  have rn := rng_1 (n := n) (by omega)
  obtain ⟨s1, s3, s4, e⟩ := spots 35 ns (rngI n) .no .no .no (fun i hi => by have := mem_rngI.mp hi; omega) rfl rfl rfl
  have e : forLoop (.nm 1) (sss (ioOf tab) (phi tab 39) spotB) ((rngI n).map .int) [.val (.scr ns), .no, .no, .no, .no, .no] = .nx [.val (.scr ns), s1, .no, s3, s4, .no] := e
  dsimp only [spotB] at e
  let told : List D := [.tup [.int 1, .int 1], .tup [.int 0, .int 0], .tup [.int 0, .int 1, .int 1], .tup [.int 0, .int 1, .int 0, .int 1], .tup [.bl false, .bl false], .tup [.lst [.int 0], .int 0], .tup [.dct [], .int 0], .tup [.lst [], .lst []]]
  have cm : compLoop [5] (.nm 5) (evC (ioOf tab) (phi tab 39) .nil) (ev (ioOf tab) (phi tab 39) (.call 2 "is_ring" (.cons (.var 5) .nil))) told [] [.val (.scr ns), s1, .no, s3, s4, .no] = .ok (told.map fun v => .bl (ringB v)) [.val (.scr ns), s1, .no, s3, s4, .no] := by
    refine comp_map (by decide) fun v hv => ⟨[.val (.scr ns), s1, .no, s3, s4, .val v], by simp -implicitDefEqProofs only [ok_bind, ok_then, opt_some, seq_nx, seq_rt, seq_bk, seq_ct, rdV_v, rdV_o, ev_var, ev_cst, ev_glo, k2_s, ev_bin_2e, ev_bin_1e, ev_bin, negT_i, ev_neg_1e, ev_neg, notT_b, ev_not_1e, ev_not, ev_and, ev_or, ev_cmp_2e, ev_cmp_1e, ev_cmp, chB_t_1e, chB_t, chB_f, chA_s, ev_chain_2e, ev_chain_1e, ev_chain, k1_s, ev_isN_1e, ev_isN, ev_notN_1e, ev_notN, ev_isi_1e, ev_isi, iteK_t, iteK_f, ev_ite_1e, ev_ite, ev_tup_1e, ev_tup, ev_lst_1e, ev_lst, ev_dct0, ev_sub_2e, ev_sub_1e, ev_sub, ev_slc_3e, ev_slc_2e, ev_slc_1e, ev_slc, optE_abs, optE_f_1e, optE_f, ev_rev_1e, ev_rev, ev_call_1e, ev_call, ev_lrng_1e, ev_lrng, kl_s, ev_bi_1e, ev_bi, bs_nil, consO_s, bs_cons, muR_s, mutK_i, mutK_l, mutG_o_1e, mutG_o, ev_mut, evF_nil, fzK_s_1e, fzK_s, evF_cons_1e, evF_cons, evA_nil, evA_cons_2e, evA_cons_1e, evA_cons, evAnd_1, evAnd_2_1e, evAnd_2, evOr_1, evOr_2_1e, evOr_2, evC_nil, bK_t, bK_f, evC_cons_1e, evC_cons, evIt_rng_1e, evIt_rng, lkK_s, evIt_e_1e, evIt_e, putK_s, ss_asg_1e, ss_asg, ss_par_2e, ss_par_1e, ss_par, stS_o_1e, stS_o, stK_s, ss_setIx_1e, ss_setIx, ss_exp_1e, ss_exp, ss_ret_1e, ss_ret, ss_retN, oK_t, oK_f, ss_iff_1e, ss_iff, ss_for_1e, ss_for, ss_while, ss_pass, ss_brk, ss_cont, sss_nil, sss_cons, b_val, b_own, slD_o, slD_v, b_slot, fz_val, fz_own, weak_val, weak_own, weak_slot, v_val, asBl_b, optI_i, add_ii, sub_ii, lt_ii, le_ii, gt_ii, ge_ii, eq_dd, ne_dd, sub_li, sub_ti, sub_si, slc_l, slc_t, bi_len, bi_abs, bi_max, bi_min, bi_int, bi_list, bi_tuple, bi_sum, bi_all, bi_any, bi_sorted, bi_str, len_s, len_l, len_t, abs_i, max_ii, min_ii, int_i, int_b, list_l, list_t, tuple_l, tuple_t, saR_s, saK_i, saK_l, setAt_v, consM_s, outs_t, outs_f, outs_n, endK_s, end_rt, end_nx, rt_v, rt_o, rtS_l, rt_s, frB_n, frB_v, frB_l, free_eq, putT_v, putT_o, par_vv, par_oo, par_ov, par_vo, eqD_ii, eqD_bb, args_n, args_f, ioA_i, ioA_l, args_t, ios_n, ios_f, ios_t, leS_o, leS_v, lent_n, lent_fv, lent_fs, lent_t, cK_s, ret_t, ret_f, callC_n, callR_eq, callA_0, callA_1, po_n, poK_o, po_c, wB_nx, wB_ct, wB_bk, wB_rt, wK_t, wK_f, while_s_1e, fB_nx, fB_ct, fB_bk, fB_rt, fK_s, unl_nx, unl_rt, unlock_n, unK_o, unlock_s, lock_vl, lock_vt, lock_ol, lkS_l, lock_s, bind_nm, wipe_n, wipe_c, back_n, back_c, cR_ok, ev_comp_1e, ev_comp, List.getElem?_cons_zero, List.getElem?_cons_succ, List.set_cons_zero, List.set_cons_succ, Option.map_some, if_true, Nat.reduceEqDiff, reduceIte], by simp -implicitDefEqProofs only [ok_bind, ok_then, opt_some, seq_nx, seq_rt, seq_bk, seq_ct, rdV_v, rdV_o, ev_var, ev_cst, ev_glo, k2_s, ev_bin_2e, ev_bin_1e, ev_bin, negT_i, ev_neg_1e, ev_neg, notT_b, ev_not_1e, ev_not, ev_and, ev_or, ev_cmp_2e, ev_cmp_1e, ev_cmp, chB_t_1e, chB_t, chB_f, chA_s, ev_chain_2e, ev_chain_1e, ev_chain, k1_s, ev_isN_1e, ev_isN, ev_notN_1e, ev_notN, ev_isi_1e, ev_isi, iteK_t, iteK_f, ev_ite_1e, ev_ite, ev_tup_1e, ev_tup, ev_lst_1e, ev_lst, ev_dct0, ev_sub_2e, ev_sub_1e, ev_sub, ev_slc_3e, ev_slc_2e, ev_slc_1e, ev_slc, optE_abs, optE_f_1e, optE_f, ev_rev_1e, ev_rev, ev_call_1e, ev_call, ev_lrng_1e, ev_lrng, kl_s, ev_bi_1e, ev_bi, bs_nil, consO_s, bs_cons, muR_s, mutK_i, mutK_l, mutG_o_1e, mutG_o, ev_mut, evF_nil, fzK_s_1e, fzK_s, evF_cons_1e, evF_cons, evA_nil, evA_cons_2e, evA_cons_1e, evA_cons, evAnd_1, evAnd_2_1e, evAnd_2, evOr_1, evOr_2_1e, evOr_2, evC_nil, bK_t, bK_f, evC_cons_1e, evC_cons, evIt_rng_1e, evIt_rng, lkK_s, evIt_e_1e, evIt_e, putK_s, ss_asg_1e, ss_asg, ss_par_2e, ss_par_1e, ss_par, stS_o_1e, stS_o, stK_s, ss_setIx_1e, ss_setIx, ss_exp_1e, ss_exp, ss_ret_1e, ss_ret, ss_retN, oK_t, oK_f, ss_iff_1e, ss_iff, ss_for_1e, ss_for, ss_while, ss_pass, ss_brk, ss_cont, sss_nil, sss_cons, b_val, b_own, slD_o, slD_v, b_slot, fz_val, fz_own, weak_val, weak_own, weak_slot, v_val, asBl_b, optI_i, add_ii, sub_ii, lt_ii, le_ii, gt_ii, ge_ii, eq_dd, ne_dd, sub_li, sub_ti, sub_si, slc_l, slc_t, bi_len, bi_abs, bi_max, bi_min, bi_int, bi_list, bi_tuple, bi_sum, bi_all, bi_any, bi_sorted, bi_str, len_s, len_l, len_t, abs_i, max_ii, min_ii, int_i, int_b, list_l, list_t, tuple_l, tuple_t, saR_s, saK_i, saK_l, setAt_v, consM_s, outs_t, outs_f, outs_n, endK_s, end_rt, end_nx, rt_v, rt_o, rtS_l, rt_s, frB_n, frB_v, frB_l, free_eq, putT_v, putT_o, par_vv, par_oo, par_ov, par_vo, eqD_ii, eqD_bb, args_n, args_f, ioA_i, ioA_l, args_t, ios_n, ios_f, ios_t, leS_o, leS_v, lent_n, lent_fv, lent_fs, lent_t, cK_s, ret_t, ret_f, callC_n, callR_eq, callA_0, callA_1, po_n, poK_o, po_c, wB_nx, wB_ct, wB_bk, wB_rt, wK_t, wK_f, while_s_1e, fB_nx, fB_ct, fB_bk, fB_rt, fK_s, unl_nx, unl_rt, unlock_n, unK_o, unlock_s, lock_vl, lock_vt, lock_ol, lkS_l, lock_s, bind_nm, wipe_n, wipe_c, back_n, back_c, cR_ok, ev_comp_1e, ev_comp, List.getElem?_cons_zero, List.getElem?_cons_succ, List.set_cons_zero, List.set_cons_succ, Option.map_some, if_true, Nat.reduceEqDiff, reduceIte], .val (.bl (ringB v)), ?_, by simp -implicitDefEqProofs only [ok_bind, ok_then, opt_some, seq_nx, seq_rt, seq_bk, seq_ct, rdV_v, rdV_o, ev_var, ev_cst, ev_glo, k2_s, ev_bin_2e, ev_bin_1e, ev_bin, negT_i, ev_neg_1e, ev_neg, notT_b, ev_not_1e, ev_not, ev_and, ev_or, ev_cmp_2e, ev_cmp_1e, ev_cmp, chB_t_1e, chB_t, chB_f, chA_s, ev_chain_2e, ev_chain_1e, ev_chain, k1_s, ev_isN_1e, ev_isN, ev_notN_1e, ev_notN, ev_isi_1e, ev_isi, iteK_t, iteK_f, ev_ite_1e, ev_ite, ev_tup_1e, ev_tup, ev_lst_1e, ev_lst, ev_dct0, ev_sub_2e, ev_sub_1e, ev_sub, ev_slc_3e, ev_slc_2e, ev_slc_1e, ev_slc, optE_abs, optE_f_1e, optE_f, ev_rev_1e, ev_rev, ev_call_1e, ev_call, ev_lrng_1e, ev_lrng, kl_s, ev_bi_1e, ev_bi, bs_nil, consO_s, bs_cons, muR_s, mutK_i, mutK_l, mutG_o_1e, mutG_o, ev_mut, evF_nil, fzK_s_1e, fzK_s, evF_cons_1e, evF_cons, evA_nil, evA_cons_2e, evA_cons_1e, evA_cons, evAnd_1, evAnd_2_1e, evAnd_2, evOr_1, evOr_2_1e, evOr_2, evC_nil, bK_t, bK_f, evC_cons_1e, evC_cons, evIt_rng_1e, evIt_rng, lkK_s, evIt_e_1e, evIt_e, putK_s, ss_asg_1e, ss_asg, ss_par_2e, ss_par_1e, ss_par, stS_o_1e, stS_o, stK_s, ss_setIx_1e, ss_setIx, ss_exp_1e, ss_exp, ss_ret_1e, ss_ret, ss_retN, oK_t, oK_f, ss_iff_1e, ss_iff, ss_for_1e, ss_for, ss_while, ss_pass, ss_brk, ss_cont, sss_nil, sss_cons, b_val, b_own, slD_o, slD_v, b_slot, fz_val, fz_own, weak_val, weak_own, weak_slot, v_val, asBl_b, optI_i, add_ii, sub_ii, lt_ii, le_ii, gt_ii, ge_ii, eq_dd, ne_dd, sub_li, sub_ti, sub_si, slc_l, slc_t, bi_len, bi_abs, bi_max, bi_min, bi_int, bi_list, bi_tuple, bi_sum, bi_all, bi_any, bi_sorted, bi_str, len_s, len_l, len_t, abs_i, max_ii, min_ii, int_i, int_b, list_l, list_t, tuple_l, tuple_t, saR_s, saK_i, saK_l, setAt_v, consM_s, outs_t, outs_f, outs_n, endK_s, end_rt, end_nx, rt_v, rt_o, rtS_l, rt_s, frB_n, frB_v, frB_l, free_eq, putT_v, putT_o, par_vv, par_oo, par_ov, par_vo, eqD_ii, eqD_bb, args_n, args_f, ioA_i, ioA_l, args_t, ios_n, ios_f, ios_t, leS_o, leS_v, lent_n, lent_fv, lent_fs, lent_t, cK_s, ret_t, ret_f, callC_n, callR_eq, callA_0, callA_1, po_n, poK_o, po_c, wB_nx, wB_ct, wB_bk, wB_rt, wK_t, wK_f, while_s_1e, fB_nx, fB_ct, fB_bk, fB_rt, fK_s, unl_nx, unl_rt, unlock_n, unK_o, unlock_s, lock_vl, lock_vt, lock_ol, lkS_l, lock_s, bind_nm, wipe_n, wipe_c, back_n, back_c, cR_ok, ev_comp_1e, ev_comp, List.getElem?_cons_zero, List.getElem?_cons_succ, List.set_cons_zero, List.set_cons_succ, Option.map_some, if_true, Nat.reduceEqDiff, reduceIte]⟩
    have h : Nice v = true ∧ ∀ xs, v = .tup xs → ∀ x ∈ xs, Nice x = true := by
      simp only [told, List.mem_cons, List.not_mem_nil, or_false] at hv
      rcases hv with rfl | rfl | rfl | rfl | rfl | rfl | rfl | rfl
      all_goals exact nv_tup (by simp [Nice])
    have er : phi tab 39 2 [v] = .ok false (.bl (ringB v)) [] := ring_ok 36 h.1 h.2
    simp -implicitDefEqProofs only [ok_bind, ok_then, opt_some, seq_nx, seq_rt, seq_bk, seq_ct, rdV_v, rdV_o, ev_var, ev_cst, ev_glo, k2_s, ev_bin_2e, ev_bin_1e, ev_bin, negT_i, ev_neg_1e, ev_neg, notT_b, ev_not_1e, ev_not, ev_and, ev_or, ev_cmp_2e, ev_cmp_1e, ev_cmp, chB_t_1e, chB_t, chB_f, chA_s, ev_chain_2e, ev_chain_1e, ev_chain, k1_s, ev_isN_1e, ev_isN, ev_notN_1e, ev_notN, ev_isi_1e, ev_isi, iteK_t, iteK_f, ev_ite_1e, ev_ite, ev_tup_1e, ev_tup, ev_lst_1e, ev_lst, ev_dct0, ev_sub_2e, ev_sub_1e, ev_sub, ev_slc_3e, ev_slc_2e, ev_slc_1e, ev_slc, optE_abs, optE_f_1e, optE_f, ev_rev_1e, ev_rev, ev_call_1e, ev_call, ev_lrng_1e, ev_lrng, kl_s, ev_bi_1e, ev_bi, bs_nil, consO_s, bs_cons, muR_s, mutK_i, mutK_l, mutG_o_1e, mutG_o, ev_mut, evF_nil, fzK_s_1e, fzK_s, evF_cons_1e, evF_cons, evA_nil, evA_cons_2e, evA_cons_1e, evA_cons, evAnd_1, evAnd_2_1e, evAnd_2, evOr_1, evOr_2_1e, evOr_2, evC_nil, bK_t, bK_f, evC_cons_1e, evC_cons, evIt_rng_1e, evIt_rng, lkK_s, evIt_e_1e, evIt_e, putK_s, ss_asg_1e, ss_asg, ss_par_2e, ss_par_1e, ss_par, stS_o_1e, stS_o, stK_s, ss_setIx_1e, ss_setIx, ss_exp_1e, ss_exp, ss_ret_1e, ss_ret, ss_retN, oK_t, oK_f, ss_iff_1e, ss_iff, ss_for_1e, ss_for, ss_while, ss_pass, ss_brk, ss_cont, sss_nil, sss_cons, b_val, b_own, slD_o, slD_v, b_slot, fz_val, fz_own, weak_val, weak_own, weak_slot, v_val, asBl_b, optI_i, add_ii, sub_ii, lt_ii, le_ii, gt_ii, ge_ii, eq_dd, ne_dd, sub_li, sub_ti, sub_si, slc_l, slc_t, bi_len, bi_abs, bi_max, bi_min, bi_int, bi_list, bi_tuple, bi_sum, bi_all, bi_any, bi_sorted, bi_str, len_s, len_l, len_t, abs_i, max_ii, min_ii, int_i, int_b, list_l, list_t, tuple_l, tuple_t, saR_s, saK_i, saK_l, setAt_v, consM_s, outs_t, outs_f, outs_n, endK_s, end_rt, end_nx, rt_v, rt_o, rtS_l, rt_s, frB_n, frB_v, frB_l, free_eq, putT_v, putT_o, par_vv, par_oo, par_ov, par_vo, eqD_ii, eqD_bb, args_n, args_f, ioA_i, ioA_l, args_t, ios_n, ios_f, ios_t, leS_o, leS_v, lent_n, lent_fv, lent_fs, lent_t, cK_s, ret_t, ret_f, callC_n, callR_eq, callA_0, callA_1, po_n, poK_o, po_c, wB_nx, wB_ct, wB_bk, wB_rt, wK_t, wK_f, while_s_1e, fB_nx, fB_ct, fB_bk, fB_rt, fK_s, unl_nx, unl_rt, unlock_n, unK_o, unlock_s, lock_vl, lock_vt, lock_ol, lkS_l, lock_s, bind_nm, wipe_n, wipe_c, back_n, back_c, cR_ok, ev_comp_1e, ev_comp, List.getElem?_cons_zero, List.getElem?_cons_succ, List.set_cons_zero, List.set_cons_succ, Option.map_some, if_true, Nat.reduceEqDiff, reduceIte, i2, er]
  have et : (told.map fun v => D.bl (ringB v)) = ([false, true, false, true, false, false, false, false] : List Bool).map .bl := by
    dsimp only [told, List.map]
    have : ∀ v : D, ∀ b : Bool, ringB v = b → D.bl (ringB v) = D.bl b := fun v b h => by rw [h]
    rw [show ringB (.tup [.int 1, .int 1]) = false by decide +kernel, show ringB (.tup [.int 0, .int 0]) = true by decide +kernel, show ringB (.tup [.int 0, .int 1, .int 1]) = false by decide +kernel, show ringB (.tup [.int 0, .int 1, .int 0, .int 1]) = true by decide +kernel,
      show ringB (.tup [.bl false, .bl false]) = false by decide +kernel, show ringB (.tup [.lst [.int 0], .int 0]) = false by decide +kernel, show ringB (.tup [.dct [], .int 0]) = false by decide +kernel, show ringB (.tup [.lst [], .lst []]) = false by decide +kernel]
  rw [et] at cm
  have ep : phi tab 39 10 [.tup (([false, true, false, true, false, false, false, false] : List Bool).map .bl)] = .ok false (.bl true) [] := plain_t 37 _ (by decide)
  have eq : eqD (.lst (([false, true, false, true, false, false, false, false] : List Bool).map .bl)) (.lst [.bl false, .bl true, .bl false, .bl true, .bl false, .bl false, .bl false, .bl false]) = some true := (eqD_lbls [false, true, false, true, false, false, false, false] [false, true, false, true, false, false, false, false]).trans (by decide)
  dsimp only [told] at cm
  generalize hbs : ([false, true, false, true, false, false, false, false] : List Bool).map D.bl = bs at cm ep eq
  refine ⟨false, ?_⟩
  rw [show (40 : Nat) = 39 + 1 from rfl, c11]
  simp -implicitDefEqProofs only [dlaw, ok_bind, ok_then, opt_some, seq_nx, seq_rt, seq_bk, seq_ct, rdV_v, rdV_o, ev_var, ev_cst, ev_glo, k2_s, ev_bin_2e, ev_bin_1e, ev_bin, negT_i, ev_neg_1e, ev_neg, notT_b, ev_not_1e, ev_not, ev_and, ev_or, ev_cmp_2e, ev_cmp_1e, ev_cmp, chB_t_1e, chB_t, chB_f, chA_s, ev_chain_2e, ev_chain_1e, ev_chain, k1_s, ev_isN_1e, ev_isN, ev_notN_1e, ev_notN, ev_isi_1e, ev_isi, iteK_t, iteK_f, ev_ite_1e, ev_ite, ev_tup_1e, ev_tup, ev_lst_1e, ev_lst, ev_dct0, ev_sub_2e, ev_sub_1e, ev_sub, ev_slc_3e, ev_slc_2e, ev_slc_1e, ev_slc, optE_abs, optE_f_1e, optE_f, ev_rev_1e, ev_rev, ev_call_1e, ev_call, ev_lrng_1e, ev_lrng, kl_s, ev_bi_1e, ev_bi, bs_nil, consO_s, bs_cons, muR_s, mutK_i, mutK_l, mutG_o_1e, mutG_o, ev_mut, evF_nil, fzK_s_1e, fzK_s, evF_cons_1e, evF_cons, evA_nil, evA_cons_2e, evA_cons_1e, evA_cons, evAnd_1, evAnd_2_1e, evAnd_2, evOr_1, evOr_2_1e, evOr_2, evC_nil, bK_t, bK_f, evC_cons_1e, evC_cons, evIt_rng_1e, evIt_rng, lkK_s, evIt_e_1e, evIt_e, putK_s, ss_asg_1e, ss_asg, ss_par_2e, ss_par_1e, ss_par, stS_o_1e, stS_o, stK_s, ss_setIx_1e, ss_setIx, ss_exp_1e, ss_exp, ss_ret_1e, ss_ret, ss_retN, oK_t, oK_f, ss_iff_1e, ss_iff, ss_for_1e, ss_for, ss_while, ss_pass, ss_brk, ss_cont, sss_nil, sss_cons, b_val, b_own, slD_o, slD_v, b_slot, fz_val, fz_own, weak_val, weak_own, weak_slot, v_val, asBl_b, optI_i, add_ii, sub_ii, lt_ii, le_ii, gt_ii, ge_ii, eq_dd, ne_dd, sub_li, sub_ti, sub_si, slc_l, slc_t, bi_len, bi_abs, bi_max, bi_min, bi_int, bi_list, bi_tuple, bi_sum, bi_all, bi_any, bi_sorted, bi_str, len_s, len_l, len_t, abs_i, max_ii, min_ii, int_i, int_b, list_l, list_t, tuple_l, tuple_t, saR_s, saK_i, saK_l, setAt_v, consM_s, outs_t, outs_f, outs_n, endK_s, end_rt, end_nx, rt_v, rt_o, rtS_l, rt_s, frB_n, frB_v, frB_l, free_eq, putT_v, putT_o, par_vv, par_oo, par_ov, par_vo, eqD_ii, eqD_bb, args_n, args_f, ioA_i, ioA_l, args_t, ios_n, ios_f, ios_t, leS_o, leS_v, lent_n, lent_fv, lent_fs, lent_t, cK_s, ret_t, ret_f, callC_n, callR_eq, callA_0, callA_1, po_n, poK_o, po_c, wB_nx, wB_ct, wB_bk, wB_rt, wK_t, wK_f, while_s_1e, fB_nx, fB_ct, fB_bk, fB_rt, fK_s, unl_nx, unl_rt, unlock_n, unK_o, unlock_s, lock_vl, lock_vt, lock_ol, lkS_l, lock_s, bind_nm, wipe_n, wipe_c, back_n, back_c, cR_ok, ev_comp_1e, ev_comp, List.getElem?_cons_zero, List.getElem?_cons_succ, List.set_cons_zero, List.set_cons_succ, Option.map_some, if_true, Nat.reduceEqDiff, reduceIte, en, rn, e, List.length_cons, List.length_nil, Nat.zero_add, Nat.reduceAdd, Nat.reduceLeDiff, Nat.zero_le, cm, ep, eq, i10, List.all_cons, List.all_nil, notOwn, Bool.and_true, Bool.not_true, List.getD_cons_succ, List.getD_cons_zero]
end k25
end Py

set_option Elab.async false
set_option linter.all false
set_option maxRecDepth 100000
set_option maxHeartbeats 0
namespace Py
namespace k25
open PySem PySem.Spec
open PyProof.Rows L2
theorem ok : ∀ K, (LL.all (Ent.ok (gtOf K LL free con) (tabOf LL))) = true := by
  intro K
  kernel_rfl
end k25
end Py

set_option Elab.async false
set_option linter.all false
set_option maxRecDepth 100000
set_option maxHeartbeats 0
namespace Py
namespace k25
open PySem PySem.Spec
open PyProof.Rows L2
abbrev R : PySem.W.OpenRow := PySem.W.OpenLaw.row PySem.Challenge.rw_tiedanew_k25_whole_judged_rings
abbrev hk : PySem.W.Hook := He.hookD 4 (factsOf LL free con) (LL.map Ent.dd)
def ob (s : PySem.W.SharedT) : He.AlD := He.obsDG 4 (factsOf LL free con) (LL.map Ent.dd) (HandSHeadRun.getT s)
theorem ob_eq (s : PySem.W.SharedT) : ob s = hk.obs s.abs := He.obsDG_eq (HandSHeadRun.getT_eq s)
def loose : List Str := ["__name__", "MOST_CHORDS", "PAIR", "is_from", "is_ring_in", "is_ring", "_law_urn", "_law_ball", "_law_mixed", "_law_ring", "_law_is_ring", "_law_near", "_law_right", "_law_is_plain"]
theorem run (w : World) : HandSHeadRun.RunEq R (PySem.W.view R.prog [15]) hk ob 4000 loose w := by
  intro os
  kernel_rfl
end k25
end Py

set_option Elab.async false
set_option linter.all false
set_option maxRecDepth 100000
set_option maxHeartbeats 0
open PySem PySem.W PySem.Calls PyProof.Rows
theorem PySem.Challenge.cw_tiedanew_k25_whole_judged_rings_holds : PySem.Challenge.rw_tiedanew_k25_whole_judged_rings.Holds := by
  w_on; o_law
  refine HandSHeadRun.head_any (r := OpenLaw.row PySem.Challenge.rw_tiedanew_k25_whole_judged_rings) (q := view (OpenLaw.row PySem.Challenge.rw_tiedanew_k25_whole_judged_rings).prog [15]) (H := Py.k25.hk) (ob := Py.k25.ob) (M := 4000) (loose := Py.k25.loose) (d := HandSHeadRun.topDef (OpenLaw.row PySem.Challenge.rw_tiedanew_k25_whole_judged_rings).prog 15) (kwd := []) Py.k25.ob_eq
    (by kernel_rfl) (fun s => by kernel_rfl) Py.k25.run (by kernel_rfl) (by kernel_rfl) (by kernel_rfl) (by rfl) (by first | assumption | decide +kernel) (by decide +kernel) ⟨rfl, rfl, rfl, rfl, rfl, by decide +kernel⟩ ?hw ?hc
  case hw => w_witness2
  case hc =>
    exact Py.walk_D (l := PySem.Challenge.rw_tiedanew_k25_whole_judged_rings) (n := 63) (k := 40) (L := Py.k25.LL) (free := Py.k25.free) (con := Py.k25.con) (e := Py.k25.elaw) (f := 11) rfl (by decide) (by kernel_rfl) ⟨rfl, by decide, by decide⟩ (fun w h z => z) Py.k25.ok (by decide +kernel) (Py.BindsAll.to Py.k25.bind) rfl (by kernel_rfl) ⟨_, rfl⟩ rfl Py.k25.T
