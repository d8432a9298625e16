import PyProof.Rows.All
import HandS.ForMost
import HandS.Wide
import HandS.Deep
import HandS.IsInst
import HandS.TupAny
import HandS.Style
import HandS.Zip
import KE.DataMinMax
import HandS.Flow
import HandS.RaiseMore
import KE.KStateDown
import HandS.More
import HandS.Defaults
import HandS.Head0
import HandS.Head1
import HandS.Head2
import HandS.HeadEnd
import HandS.HeadHook1
import HandS.HeadHook2
import PySem.Challenge.RW_anymargin_k01_whole_simplest_ones_and_st
set_option Elab.async false
set_option linter.all false
set_option maxRecDepth 100000
/-! DenA: a small evaluator for defs whose values are data: values D, a store of lists that change, a resolved form of the text (IE, IS), what it computes. No machine in sight. -/
namespace DL
open PySem

inductive D where
  | non | bl (b : Bool) | int (i : Int) | str (s : Str)
  | tup (xs : List D) | lst (xs : List D) | dct (ks vs : List D) | ref (i : Nat) | fn (g : Nat)

inductive Cell where
  | lst (xs : List D) | dct (ks vs : List D) | dead

abbrev Store := List Cell
abbrev Env := List (Option D)

/-- an exception: the number of its class, what it keeps -/
structure Exn where
  cls : Nat
  given : List D

inductive Res (α : Type) where
  | ok (a : α) (st : Store)
  | exc (x : Exn) (Γ : Env) (st : Store)
  | bad

def Res.bind {α β : Type} (r : Res α) (f : α → Store → Res β) : Res β :=
  match r with
  | .ok a st => f a st
  | .exc x Γ st => .exc x Γ st
  | .bad => .bad
@[simp] theorem Res.bind_ok {α β : Type} (a : α) (st : Store) (f : α → Store → Res β) : (Res.ok a st).bind f = f a st := rfl
@[simp] theorem Res.bind_bad {α β : Type} (f : α → Store → Res β) : (Res.bad : Res α).bind f = .bad := rfl
@[simp] theorem Res.bind_exc {α β : Type} (x : Exn) (Γ : Env) (st : Store) (f : α → Store → Res β) : (Res.exc x Γ st : Res α).bind f = .exc x Γ st := rfl
def lift {α : Type} (o : Option α) (st : Store) : Res α :=
  match o with
  | some a => .ok a st
  | none => .bad
@[simp] theorem lift_some {α : Type} (a : α) (st : Store) : lift (some a) st = .ok a st := rfl
@[simp] theorem lift_none {α : Type} (st : Store) : lift (none : Option α) st = .bad := rfl

/-! ### data -/
mutual
def D.pd : D → Option PyData
  | .non => some .none
  | .bl b => some (.bool b)
  | .int i => some (.int i)
  | .str s => some (.str s)
  | .tup xs => (pds xs).map .tuple
  | .lst xs => (pds xs).map .list
  | .dct _ _ => none
  | .ref _ => none
  | .fn _ => none
def pds : List D → Option (List PyData)
  | [] => some []
  | x :: xs => (x.pd).bind fun d => (pds xs).map fun ds => d :: ds
end
mutual
/-- no reference from n on -/
def D.cl (n : Nat) : D → Bool
  | .tup xs => cls n xs
  | .lst xs => cls n xs
  | .dct ks vs => cls n ks && cls n vs
  | .ref i => Nat.blt i n
  | _ => true
def cls (n : Nat) : List D → Bool
  | [] => true
  | x :: xs => x.cl n && cls n xs
end
def Cell.cl (n : Nat) : Cell → Bool
  | .lst xs => DL.cls n xs
  | .dct ks vs => DL.cls n ks && DL.cls n vs
  | .dead => true
def Closed (n : Nat) (st : Store) : Bool := st.all (Cell.cl n)

def lim (n : Nat) : Bool := Nat.ble n 16777216
def mulOk (i j : Int) : Bool := decide (i.natAbs.log2 + j.natAbs.log2 < 1000000)
def divOk (j : Int) : Bool := decide (0 < j) && decide (j.natAbs.log2 < 9000)
def powOk (i j : Int) : Bool := decide (0 ≤ j) && decide (j ≤ 1000000) && decide (i.natAbs < 2 ^ 64)

def binop (op : Operator) (x y : D) : Option D :=
  match x, y with
  | .int i, .int j => (match op with
    | .Add => some (.int (i + j))
    | .Sub => some (.int (i - j))
    | .Mult => if mulOk i j = true then some (.int (i * j)) else none
    | .FloorDiv => if divOk j = true then some (.int (i / j)) else none
    | .Mod => if 0 < j then some (.int (i % j)) else none
    | .Pow => if powOk i j = true then some (.int (i ^ j.toNat)) else none
    | _ => none)
  | .lst xs, .lst ys => (match op with
    | .Add => if lim (xs.length + ys.length) = true then some (.lst (xs ++ ys)) else none
    | _ => none)
  | .tup xs, .tup ys => (match op with
    | .Add => if lim (xs.length + ys.length) = true then some (.tup (xs ++ ys)) else none
    | _ => none)
  | .str s, .str t => (match op with
    | .Add => if lim (s.length + t.length) = true then some (.str (s ++ t)) else none
    | _ => none)
  | _, _ => none

def augOp (op : Operator) (x y : D) : Option D :=
  match op, x, y with
  | .Add, .int a, .int b => some (.int (a + b))
  | .Sub, .int a, .int b => some (.int (a - b))
  | .Mult, .int a, .int b => if mulOk a b = true then some (.int (a * b)) else none
  | _, _, _ => none

def truth (x : D) (st : Store) : Option Bool :=
  match x with
  | .non => some false
  | .bl b => some b
  | .int i => some (i != 0)
  | .str s => if lim s.length = true then some ((s.length : Int) != 0) else none
  | .tup xs => some (!xs.isEmpty)
  | .lst xs => some (!xs.isEmpty)
  | .ref i => (match st[i]? with
    | some (.lst xs) => some (!xs.isEmpty)
    | _ => none)
  | _ => none

def eqD (x y : D) : Option Bool :=
  match x.pd, y.pd with
  | some a, some b => if (SeqAt.shaped a && SeqAt.shaped b) = true then some (PyData.eqv a b) else none
  | _, _ => none
def inD (x y : D) : Option Bool :=
  match y with
  | .tup ys => (match x.pd, pds ys with
    | some a, some bs => if (SeqAt.shaped a && SeqAt.shaped (.tuple bs)) = true then some (bs.any fun z => PyData.eqv z a) else none
    | _, _ => none)
  | .lst ys => (match x.pd, pds ys with
    | some a, some bs => if (SeqAt.shaped a && SeqAt.shaped (.list bs)) = true then some (bs.any fun z => PyData.eqv z a) else none
    | _, _ => none)
  | _ => none
def isNon : D → Option Bool
  | .non => some true
  | .ref _ => none
  | .fn _ => none
  | _ => some false
def cmpop (op : CmpOp) (x y : D) : Option Bool :=
  match op with
  | .Eq => eqD x y
  | .NotEq => (eqD x y).map not
  | .Lt => (match x, y with | .int i, .int j => some (decide (i < j)) | _, _ => none)
  | .LtE => (match x, y with | .int i, .int j => some (decide (i ≤ j)) | _, _ => none)
  | .Gt => (match x, y with | .int i, .int j => some (decide (j < i)) | _, _ => none)
  | .GtE => (match x, y with | .int i, .int j => some (decide (j ≤ i)) | _, _ => none)
  | .Is => (match y with | .non => isNon x | _ => none)
  | .IsNot => (match y with | .non => (isNon x).map not | _ => none)
  | .In => inD x y
  | .NotIn => (inD x y).map not

/-- the list that a value holds -/
def items (x : D) (st : Store) : Option (List D) :=
  match x with
  | .tup xs => some xs
  | .lst xs => some xs
  | .ref i => (match st[i]? with
    | some (.lst xs) => some xs
    | _ => none)
  | _ => none
def itemsL (x : D) (st : Store) : Option (List D) :=
  match x with
  | .tup _ => none
  | x => items x st
def idx (x y : D) (st : Store) : Option D :=
  match y with
  | .int i => (items x st).bind fun xs => L2.atI xs i
  | _ => none
def cutD (xs : List D) (lo hi : Option Int) : List D := (xs.drop (HT.sIx xs.length 0 lo)).take (HT.sIx xs.length xs.length hi - HT.sIx xs.length 0 lo)

inductive Ty where
  | int | bool | str | tuple | list | dict
  deriving DecidableEq
def Ty.nm : Ty → String
  | .int => "int" | .bool => "bool" | .str => "str" | .tuple => "tuple" | .list => "list" | .dict => "dict"
/-- the type of a value -/
def tyOf (x : D) (st : Store) : Option String :=
  match x with
  | .non => some "NoneType"
  | .bl _ => some "bool"
  | .int _ => some "int"
  | .str _ => some "str"
  | .tup _ => some "tuple"
  | .lst _ => some "list"
  | .dct _ _ => some "dict"
  | .ref i => (match st[i]? with
    | some (.lst _) => some "list"
    | some (.dct _ _) => some "dict"
    | _ => none)
  | .fn _ => none
def isTy (n : String) (t : Ty) : Option Bool :=
  match t with
  | .int => if n = "int" ∨ n = "bool" then some true else some false
  | _ => some (decide (n = t.nm))
def isiD (x : D) (t : Ty) (st : Store) : Option Bool :=
  match x with
  | .non => some false
  | .bl _ => some (match t with | .int => true | .bool => true | _ => false)
  | .int _ => some (match t with | .int => true | _ => false)
  | .str _ => some (match t with | .str => true | _ => false)
  | .tup _ => some (match t with | .tuple => true | _ => false)
  | .lst _ => some (match t with | .list => true | _ => false)
  | .dct _ _ => some (match t with | .dict => true | _ => false)
  | .ref i => (match st[i]? with
    | some (.lst _) => some (match t with | .list => true | _ => false)
    | _ => none)
  | .fn _ => none

def allB : List D → Option (List Bool)
  | [] => some []
  | .bl b :: r => (allB r).map fun bs => b :: bs
  | _ :: _ => none
def allI : List D → Option (List Int)
  | [] => some []
  | .int b :: r => (allI r).map fun bs => b :: bs
  | _ :: _ => none

/-- the best of some numbers -/
def foldI (f : Int → Int → Int) : List Int → Option D
  | [] => none
  | n :: ns => some (.int (ns.foldl f n))
inductive Blt where
  | len | abs | int_ | min2 | max2 | tuple | list | all | any | sum | str | repr | min1 | max1
  deriving DecidableEq
def bltName : Blt → String
  | .len => "len" | .abs => "abs" | .int_ => "int" | .min2 => "min" | .max2 => "max" | .tuple => "tuple" | .list => "list" | .all => "all" | .any => "any" | .sum => "sum" | .str => "str" | .repr => "repr" | .min1 => "min" | .max1 => "max"
def blt (b : Blt) (xs : List D) (st : Store) : Option D :=
  match b, xs with
  | .len, [x] => (match x with
    | .str s => if lim s.length = true then some (.int s.length) else none
    | _ => (items x st).map fun ys => .int ys.length)
  | .abs, [.int i] => some (.int (if i < 0 then -i else i))
  | .int_, [.int i] => some (.int i)
  | .int_, [.bl k] => some (.int (if k then 1 else 0))
  | .min2, [.int i, .int j] => some (.int (if j < i then j else i))
  | .max2, [.int i, .int j] => some (.int (if j > i then j else i))
  | .tuple, [x] => (items x st).map .tup
  | .list, [x] => (items x st).map .lst
  | .all, [x] => (itemsL x st).bind fun ys => (allB ys).map fun bs => .bl (bs.all id)
  | .any, [x] => (itemsL x st).bind fun ys => (allB ys).map fun bs => .bl (bs.any id)
  | .sum, [x] => (itemsL x st).bind fun ys => (allI ys).map fun bs => .int bs.sum
  | .str, [.int i] => if i.natAbs.log2 < 1920 then some (.str (toString i)) else none
  | .repr, [.bl b] => some (.str (if b then "True" else "False"))
  | .min1, [x] => (items x st).bind fun ys => (allI ys).bind fun bs => foldI min bs
  | .max1, [x] => (items x st).bind fun ys => (allI ys).bind fun bs => foldI max bs
  | _, _ => none

/-! ### the text, its names resolved -/
mutual
inductive ITg where
  | slot (i : Nat)
  | tup (ts : ITgs)
inductive ITgs where
  | nil
  | cons (t : ITg) (ts : ITgs)
end
mutual
inductive IE where
  | slot (i : Nat)
  | con (d : D)
  | glob (g : Nat)
  | tup (es : IEs)
  | lst (es : IEs)
  /-- a list that will change -/
  | new (es : IEs)
  | emp
  | bin (op : Operator) (a b : IE)
  | neg (a : IE)
  | nt (a : IE)
  | and (es : IEs)
  | or (es : IEs)
  | cmp (op : CmpOp) (a b : IE)
  | cmp2 (op op' : CmpOp) (a b c : IE)
  | ife (c a b : IE)
  | idx (a i : IE)
  | slc (a : IE) (lo hi : IEs)
  | rev (a : IE)
  | call (f : Nat) (es : IEs)
  | blt (b : Blt) (es : IEs)
  | isi (a : IE) (t : Ty)
  | app (o a : IE)
  | comp (elt : IE) (tg : ITg) (it : IIt) (own : List (Str × Nat)) (ifs : IEs)
inductive IEs where
  | nil
  | cons (e : IE) (es : IEs)
inductive IIt where
  | val (e : IE)
  | rng1 (a : IE)
  | rng2 (a b : IE)
  | zip (a b : IE)
  | enum (a : IE)
end
mutual
inductive IS where
  | asg (t : ITg) (e : IE)
  | sub (o i e : IE)
  | par (i j : Nat) (a b : IE)
  | aug (i : Nat) (op : Operator) (e : IE)
  | expr (e : IE)
  | ret (e : IE)
  | retN
  | ifs (c : IE) (a b : ISs)
  | fors (t : ITg) (it : IIt) (body : ISs)
  | whl (c : IE) (body : ISs)
  | brk | cnt | pas
  | frz (i : Nat)
  | never
inductive ISs where
  | nil
  | cons (s : IS) (ss : ISs)
end

/-! ### what it computes -/
abbrev Call := Nat → List D → Store → Res D
def wipeΓ (Γ : Env) : List Nat → Env
  | [] => Γ
  | v :: vs => (wipeΓ Γ vs).set v none
def small62 (i : Int) : Bool := decide (-(2 ^ 62) ≤ i) && decide (i < 2 ^ 62)
def rngD (lo : Int) (n : Nat) : List D := (List.range n).map fun (k : Nat) => D.int (lo + (k : Int))
def zipD : List D → List D → List D
  | x :: xs, y :: ys => .tup [x, y] :: zipD xs ys
  | _, _ => []
def enumD : Nat → List D → List D
  | _, [] => []
  | n, x :: xs => .tup [.int n, x] :: enumD (n + 1) xs
/-- what does not change, walked -/
def still (x : D) : Option (List D) :=
  match x with
  | .tup xs => some xs
  | .lst xs => some xs
  | _ => none
def partI : List D → Option (Option Int)
  | [] => some none
  | [.int i] => some (some i)
  | _ => none
mutual
def asgP : ITg → D → Env → Option Env
  | .slot i, d, Γ => some (Γ.set i (some d))
  | .tup ts, .tup xs, Γ => asgPs ts xs Γ
  | .tup _, _, _ => none
def asgPs : ITgs → List D → Env → Option Env
  | .nil, [], Γ => some Γ
  | .cons t ts, x :: xs, Γ => (asgP t x Γ).bind fun Γ' => asgPs ts xs Γ'
  | _, _, _ => none
end
/-- what slot i holds -/
def slotD (Γ : Env) (i : Nat) : Option D :=
  match Γ[i]? with
  | some (some d) => some d
  | _ => none
/-- the turns of a list comprehension -/
def compF (step : D → Store → Res (Option D)) : List D → Store → Res (List D)
  | [], st => .ok [] st
  | x :: xs, st => (step x st).bind fun o st1 => (compF step xs st1).bind fun ys st2 => .ok (match o with | some y => y :: ys | none => ys) st2

section
variable (C : Call) (G : Nat → D)
mutual
def evalE : IE → Env → Store → Res D
  | .slot i, Γ, st => lift (slotD Γ i) st
  | .con d, _, st => .ok d st
  | .glob g, _, st => .ok (G g) st
  | .tup es, Γ, st => (evalEs es Γ st).bind fun xs st => if lim xs.length = true then .ok (.tup xs) st else .bad
  | .lst es, Γ, st => (evalEs es Γ st).bind fun xs st => if lim xs.length = true then .ok (.lst xs) st else .bad
  | .new es, Γ, st => (evalEs es Γ st).bind fun xs st => if lim xs.length = true then .ok (.ref st.length) (st ++ [.lst xs]) else .bad
  | .emp, _, st => .ok (.dct [] []) st
  | .bin op a b, Γ, st => (evalE a Γ st).bind fun x st => (evalE b Γ st).bind fun y st => lift (binop op x y) st
  | .neg a, Γ, st => (evalE a Γ st).bind fun x st => (match x with | .int i => .ok (.int (-i)) st | _ => .bad)
  | .nt a, Γ, st => (evalE a Γ st).bind fun x st => lift ((truth x st).map fun b => .bl (!b)) st
  | .and es, Γ, st => evalAnd es Γ st
  | .or es, Γ, st => evalOr es Γ st
  | .cmp op a b, Γ, st => (evalE a Γ st).bind fun x st => (evalE b Γ st).bind fun y st => lift ((cmpop op x y).map .bl) st
  | .cmp2 op op' a b c, Γ, st => (evalE a Γ st).bind fun x st => (evalE b Γ st).bind fun y st => (lift (cmpop op x y) st).bind fun k st =>
      if k = true then (evalE c Γ st).bind fun z st => lift ((cmpop op' y z).map .bl) st else .ok (.bl false) st
  | .ife c a b, Γ, st => (evalE c Γ st).bind fun x st => (lift (truth x st) st).bind fun k st => if k = true then evalE a Γ st else evalE b Γ st
  | .idx a i, Γ, st => (evalE a Γ st).bind fun x st => (evalE i Γ st).bind fun y st => lift (DL.idx x y st) st
  | .slc a lo hi, Γ, st => (evalE a Γ st).bind fun x st => (evalEs lo Γ st).bind fun l st => (evalEs hi Γ st).bind fun h st =>
      (match x, partI l, partI h with
        | .tup xs, some l, some h => .ok (.tup (cutD xs l h)) st
        | .lst xs, some l, some h => .ok (.lst (cutD xs l h)) st
        | _, _, _ => .bad)
  | .rev a, Γ, st => (evalE a Γ st).bind fun x st => (match x with
        | .lst xs => .ok (.lst xs.reverse) st
        | _ => .bad)
  | .call f es, Γ, st => (evalEs es Γ st).bind fun xs st => (match C f xs st with
        | .ok d st => .ok d st
        | .exc x _ st => .exc x Γ st
        | .bad => .bad)
  | .blt b es, Γ, st => (evalEs es Γ st).bind fun xs st => lift (DL.blt b xs st) st
  | .isi a t, Γ, st => (evalE a Γ st).bind fun x st => lift ((isiD x t st).map .bl) st
  | .app o a, Γ, st => (evalE o Γ st).bind fun x st => (match x with
        | .ref i => (match st[i]? with
          | some (.lst _) => (evalE a Γ st).bind fun y st => (match st[i]? with
            | some (.lst xs) => if Nat.blt xs.length 16777216 = true then .ok .non (st.set i (.lst (xs ++ [y]))) else .bad
            | _ => .bad)
          | _ => .bad)
        | _ => .bad)
  | .comp elt tg it own ifs, Γ, st => (evalIt it Γ st).bind fun xs st => if Nat.blt xs.length 16777216 = true then
      (compF (fun x st => match asgP tg x (wipeΓ Γ (own.map (·.2))) with
        | some Γ' => (evalTs ifs Γ' st).bind fun k st => if k = true then (evalE elt Γ' st).bind fun y st => .ok (some y) st else .ok none st
        | none => .bad) xs st).bind fun ys st => .ok (.lst ys) st else .bad
def evalEs : IEs → Env → Store → Res (List D)
  | .nil, _, st => .ok [] st
  | .cons e es, Γ, st => (evalE e Γ st).bind fun x st => (evalEs es Γ st).bind fun xs st => .ok (x :: xs) st
/-- a and b and ..: the last one, or the first that is false -/
def evalAnd : IEs → Env → Store → Res D
  | .nil, _, _ => .bad
  | .cons e .nil, Γ, st => evalE e Γ st
  | .cons e es, Γ, st => (evalE e Γ st).bind fun x st => (lift (truth x st) st).bind fun k st => if k = true then evalAnd es Γ st else .ok x st
def evalOr : IEs → Env → Store → Res D
  | .nil, _, _ => .bad
  | .cons e .nil, Γ, st => evalE e Γ st
  | .cons e es, Γ, st => (evalE e Γ st).bind fun x st => (lift (truth x st) st).bind fun k st => if k = true then .ok x st else evalOr es Γ st
/-- the tests of a comprehension's clause -/
def evalTs : IEs → Env → Store → Res Bool
  | .nil, _, st => .ok true st
  | .cons e es, Γ, st => (evalE e Γ st).bind fun x st => (lift (truth x st) st).bind fun k st => if k = true then evalTs es Γ st else .ok false st
/-- what is walked -/
def evalIt : IIt → Env → Store → Res (List D)
  | .val e, Γ, st => (evalE e Γ st).bind fun x st => lift (still x) st
  | .rng1 a, Γ, st => (evalE a Γ st).bind fun x st => (match x with
      | .int j => if small62 j = true then .ok (rngD 0 j.toNat) st else .bad
      | _ => .bad)
  | .rng2 a b, Γ, st => (evalE a Γ st).bind fun x st => (evalE b Γ st).bind fun y st => (match x, y with
      | .int i, .int j => if (small62 i && small62 j) = true then .ok (rngD i (j - i).toNat) st else .bad
      | _, _ => .bad)
  | .zip a b, Γ, st => (evalE a Γ st).bind fun x st => (evalE b Γ st).bind fun y st => (match x, y with
      | .tup xs, .tup ys => .ok (zipD xs ys) st
      | .lst xs, .lst ys => .ok (zipD xs ys) st
      | _, _ => .bad)
  | .enum a, Γ, st => (evalE a Γ st).bind fun x st => (match x with
      | .lst xs => .ok (enumD 0 xs) st
      | _ => .bad)
end

inductive Fl where
  | nx (Γ : Env) | rt (d : D) | bk (Γ : Env) | ct (Γ : Env)
def forF (step : D → Env → Store → Res Fl) : List D → Env → Store → Res Fl
  | [], Γ, st => .ok (.nx Γ) st
  | x :: xs, Γ, st => (step x Γ st).bind fun f st => match f with
    | .nx Γ' => forF step xs Γ' st
    | .ct Γ' => forF step xs Γ' st
    | .bk Γ' => .ok (.nx Γ') st
    | .rt d => .ok (.rt d) st
def whlF (test : Env → Store → Res Bool) (body : Env → Store → Res Fl) : Nat → Env → Store → Res Fl
  | 0, _, _ => .bad
  | n + 1, Γ, st => (test Γ st).bind fun k st => if k = true then (body Γ st).bind fun f st => (match f with
      | .nx Γ' => whlF test body n Γ' st
      | .ct Γ' => whlF test body n Γ' st
      | .bk Γ' => .ok (.nx Γ') st
      | .rt d => .ok (.rt d) st) else .ok (.nx Γ) st
/-- a test -/
def evalT (e : IE) (Γ : Env) (st : Store) : Res Bool := (evalE C G e Γ st).bind fun x st => lift (truth x st) st
variable (N : Nat)
mutual
def execS : IS → Env → Store → Res Fl
  | .asg t e, Γ, st => (evalE C G e Γ st).bind fun x st => lift ((asgP t x Γ).map .nx) st
  | .sub o i e, Γ, st => (evalE C G e Γ st).bind fun x st => (evalE C G o Γ st).bind fun y st => (evalE C G i Γ st).bind fun z st => (match y, z with
      | .ref r, .int k => (match st[r]? with
        | some (.lst xs) => (match L2.ixN xs.length k with
          | some j => .ok (.nx Γ) (st.set r (.lst (xs.set j x)))
          | none => .bad)
        | _ => .bad)
      | _, _ => .bad)
  | .par i j a b, Γ, st => (evalE C G a Γ st).bind fun x st => (evalE C G b Γ st).bind fun y st => .ok (.nx ((Γ.set i (some x)).set j (some y))) st
  | .aug i op e, Γ, st => (lift (slotD Γ i) st).bind fun x st => (evalE C G e Γ st).bind fun y st => lift ((augOp op x y).map fun d => .nx (Γ.set i (some d))) st
  | .expr e, Γ, st => (evalE C G e Γ st).bind fun _ st => .ok (.nx Γ) st
  | .ret e, Γ, st => (evalE C G e Γ st).bind fun x st => .ok (.rt x) st
  | .retN, _, st => .ok (.rt .non) st
  | .ifs c a b, Γ, st => (evalT C G c Γ st).bind fun k st => if k = true then execSs a Γ st else execSs b Γ st
  | .fors t it body, Γ, st => (evalIt C G it Γ st).bind fun xs st => forF (fun x Γ st => match asgP t x Γ with
      | some Γ' => execSs body Γ' st
      | none => .bad) xs Γ st
  | .whl c body, Γ, st => whlF (evalT C G c) (execSs body) N Γ st
  | .brk, Γ, st => .ok (.bk Γ) st
  | .cnt, Γ, st => .ok (.ct Γ) st
  | .pas, Γ, st => .ok (.nx Γ) st
  | .frz i, Γ, st => (match Γ[i]? with
      | some (some (.ref r)) => (match st[r]? with
        | some (.lst xs) => .ok (.nx (Γ.set i (some (.lst xs)))) (st.set r .dead)
        | _ => .bad)
      | _ => .bad)
  | .never, _, _ => .bad
def execSs : ISs → Env → Store → Res Fl
  | .nil, Γ, st => .ok (.nx Γ) st
  | .cons s ss, Γ, st => (execS s Γ st).bind fun f st => (match f with
      | .nx Γ' => execSs ss Γ' st
      | f => .ok f st)
end
end
/-- a def: its parameters, its names in all, its body -/
structure Fn where
  np : Nat
  ns : Nat
  body : ISs
/-- what was made within a call and is no more reached goes -/
def gc (n : Nat) (d : D) (st : Store) : Res D :=
  if Nat.ble st.length n = true then .ok d st
  else if (d.cl n && Closed n (st.take n)) = true then .ok d (st.take n) else .ok d st
def runFn (C : Call) (G : Nat → D) (N : Nat) (F : Fn) (ds : List D) (st : Store) : Res D :=
  if Nat.beq ds.length F.np = true then
    (match execSs C G N F.body (ds.map some ++ List.replicate (F.ns - F.np) none) st with
      | .ok (.rt d) st' => gc st.length d st'
      | .ok (.nx _) st' => gc st.length .non st'
      | .exc x Γ st' => .exc x Γ st'
      | _ => .bad)
  else .bad
def callN (G : Nat → D) (N : Nat) (T : Nat → Fn) : Nat → Call
  | 0 => fun _ _ _ => .bad
  | k + 1 => fun f ds st => runFn (callN G N T k) G N (T f) ds st
end DL

set_option Elab.async false
set_option linter.all false
set_option maxRecDepth 100000
set_option maxHeartbeats 2000000
set_option autoImplicit false
/-! DenB: how data lie in the heap; that they stay; the store's steps. -/
namespace DL
open PySem PySem.Spec PyProof.Rows L2

/-- c: the live cells' addresses (none: dead); z: addresses that a value must not reach (a list that a comprehension is making) -/
structure LL where
  c : List (Option Addr)
  z : List Addr
def LL.out (L : LL) (a : Addr) : Prop := some a ∉ L.c ∧ a ∉ L.z
section
variable (K : PySem.W.Frag)
def KT (a : Addr) (vs : List V) : Prop := ∃ (o : Obj) (its : Array Value) (n : Nat), K.lookup a = some o ∧ o.cls = .type "tuple" ∧ o.data = .seq its n ∧ its.size ≤ sizeLine ∧ Vals vs its.toList
def FzT (L : LL) (H : Hp) (a : Addr) (vs : List V) : Prop := (L.out a ∧ Rd H a (.tup vs)) ∨ KT K a vs
def KL (a : Addr) (vs : List V) : Prop := ∃ (o : Obj) (its : Array Value) (n : Nat), K.lookup a = some o ∧ o.cls = .type "list" ∧ o.dict = none ∧ o.data = .seq its n ∧ its.size ≤ sizeLine ∧ Vals vs its.toList
def FzL (L : LL) (H : Hp) (a : Addr) (vs : List V) : Prop := (L.out a ∧ Rd H a (.lst vs)) ∨ KL K a vs
mutual
def Rep (L : LL) (H : Hp) : D → V → Prop
  | .non, v => v = .non
  | .bl b, v => v = .bl b
  | .int i, v => v = .int i
  | .str s, v => v = .str s
  | .tup xs, v => ∃ a vs, v = .ref a ∧ FzT K L H a vs ∧ Reps L H xs vs
  | .lst xs, v => ∃ a vs, v = .ref a ∧ FzL K L H a vs ∧ Reps L H xs vs
  | .dct ks vs, v => ks = [] ∧ vs = [] ∧ ∃ a, v = .ref a ∧ L.out a ∧ H a = some (.dK [])
  | .ref i, v => ∃ o, L.c[i]? = some o ∧ ∀ a, o = some a → v = .ref a
  | .fn _, _ => False
def Reps (L : LL) (H : Hp) : List D → List V → Prop
  | [], vs => vs = []
  | x :: xs, vs => ∃ v r, vs = v :: r ∧ Rep L H x v ∧ Reps L H xs r
end
def CellOk (L : LL) (H : Hp) (i : Nat) : Cell → Prop
  | .lst xs => ∃ a vs, L.c[i]? = some (some a) ∧ H a = some (.lst vs) ∧ Reps K L H xs vs
  | .dct _ _ => False
  | .dead => L.c[i]? = some none
structure RelSt (L : LL) (H : Hp) (st : Store) : Prop where
  len : L.c.length = st.length
  inj : ∀ (i j : Nat) (a : Addr), L.c[i]? = some (some a) → L.c[j]? = some (some a) → i = j
  dis : ∀ (i : Nat) (a : Addr), L.c[i]? = some (some a) → a ∉ L.z
  zs : ∀ a ∈ L.z, ∃ o, H a = some o
  cell : ∀ (i : Nat) (c : Cell), st[i]? = some c → CellOk K L H i c
structure RelE (L : LL) (H : Hp) (σ : L2.St) (Γ : Env) : Prop where
  len : Γ.length = σ.length
  at_ : ∀ (i : Nat) (d : D), Γ[i]? = some (some d) → ∃ v, σ[i]? = some (some v) ∧ Rep K L H d v
end
/-- what data lean on stays -/
structure Stab (L M : LL) (H H2 : Hp) : Prop where
  len : L.c.length ≤ M.c.length
  old : ∀ (i : Nat) (a : Addr), i < L.c.length → M.c[i]? = some (some a) → L.c[i]? = some (some a)
  out : ∀ a o, L.out a → H a = some o → M.out a ∧ H2 a = some o
/-- what a step of the evaluator may do -/
structure Ext (L M : LL) (H H2 : Hp) : Prop where
  len : L.c.length ≤ M.c.length
  zz : M.z = L.z
  old : ∀ (i : Nat) (a : Addr), i < L.c.length → M.c[i]? = some (some a) → L.c[i]? = some (some a)
  new : ∀ (i : Nat) (a : Addr), L.c.length ≤ i → M.c[i]? = some (some a) → H a = none
  keep : ∀ a o, L.out a → H a = some o → H2 a = some o
  priv : ∀ a, a ∈ L.z → H2 a = H a
  there : ∀ a o, H a = some o → ∃ o', H2 a = some o'
theorem Ext.refl (L : LL) (H : Hp) : Ext L L H H :=
  ⟨Nat.le_refl _, rfl, fun _ _ _ h => h, fun i a hi h => (by rw [List.getElem?_eq_none hi] at h; cases h), fun _ _ _ h => h, fun _ _ => rfl, fun _ o h => ⟨o, h⟩⟩
theorem mem_of_get {L : List (Option Addr)} {i : Nat} {a : Addr} (h : L[i]? = some (some a)) : some a ∈ L := List.mem_of_getElem? h
theorem get_of_mem {L : List (Option Addr)} {a : Addr} (h : some a ∈ L) : ∃ i : Nat, i < L.length ∧ L[i]? = some (some a) := by
  obtain ⟨i, hi, e⟩ := List.getElem_of_mem h
  exact ⟨i, hi, by rw [List.getElem?_eq_getElem hi, e]⟩
theorem Ext.stab {L M : LL} {H H2 : Hp} (x : Ext L M H H2) : Stab L M H H2 where
  len := x.len
  old := x.old
  out := fun a o h e => by
    refine ⟨⟨fun hm => ?_, by rw [x.zz]; exact h.2⟩, x.keep a o h e⟩
    obtain ⟨i, hi, e2⟩ := get_of_mem hm
    by_cases h2 : i < L.c.length
    · exact h.1 (mem_of_get (x.old i a h2 e2))
    · have z := x.new i a (Nat.le_of_not_lt h2) e2
      rw [e] at z; cases z
theorem Ext.trans {L M L3 : LL} {H H2 H3 : Hp} (a : Ext L M H H2) (b : Ext M L3 H2 H3) : Ext L L3 H H3 where
  len := Nat.le_trans a.len b.len
  zz := b.zz.trans a.zz
  old := fun i x hi h => a.old i x hi (b.old i x (Nat.lt_of_lt_of_le hi a.len) h)
  new := fun i x hi h => by
    by_cases h2 : i < M.c.length
    · exact a.new i x hi (b.old i x h2 h)
    · have e := b.new i x (Nat.le_of_not_lt h2) h
      cases q : H x with
      | none => rfl
      | some o =>
        obtain ⟨o', e'⟩ := a.there x o q
        rw [e] at e'; cases e'
  keep := fun x o hx h => let ⟨h1, h2⟩ := a.stab.out x o hx h; b.keep x o h1 h2
  priv := fun x hx => (b.priv x (by rw [a.zz]; exact hx)).trans (a.priv x hx)
  there := fun x o h => by
    obtain ⟨o', e⟩ := a.there x o h
    exact b.there x o' e
section
variable {K : PySem.W.Frag} {L M : LL} {H H2 : Hp}
theorem Stab.rd (x : Stab L M H H2) {a : Addr} {u : HO} (hn : L.out a) (h : Rd H a u) : M.out a ∧ Rd H2 a u := by
  rcases h with h | ⟨o, h⟩
  · obtain ⟨h1, h2⟩ := x.out a _ hn h
    exact ⟨h1, .inl h2⟩
  · obtain ⟨h1, h2⟩ := x.out a _ hn h
    exact ⟨h1, .inr ⟨o, h2⟩⟩
theorem FzT.stab {a : Addr} {vs : List V} (x : Stab L M H H2) (h : FzT K L H a vs) : FzT K M H2 a vs := by
  rcases h with ⟨hn, h⟩ | h
  · exact .inl (x.rd hn h)
  · exact .inr h
theorem FzL.stab {a : Addr} {vs : List V} (x : Stab L M H H2) (h : FzL K L H a vs) : FzL K M H2 a vs := by
  rcases h with ⟨hn, h⟩ | h
  · exact .inl (x.rd hn h)
  · exact .inr h
theorem FzT.ext {a : Addr} {vs : List V} (x : Ext L M H H2) (h : FzT K L H a vs) : FzT K M H2 a vs := h.stab x.stab
theorem FzL.ext {a : Addr} {vs : List V} (x : Ext L M H H2) (h : FzL K L H a vs) : FzL K M H2 a vs := h.stab x.stab
theorem FzT.sq {a : Addr} {vs : List V} (h : FzT K L H a vs) : SqT K H a vs := by
  rcases h with ⟨_, h⟩ | h
  · exact .inl h
  · exact .inr h
theorem FzL.sq {a : Addr} {vs : List V} (h : FzL K L H a vs) : SqL K H a vs := by
  rcases h with ⟨_, h⟩ | h
  · exact .inl h
  · exact .inr h
mutual
theorem Rep.stab (x : Stab L M H H2) : ∀ (d : D) (v : V), Rep K L H d v → Rep K M H2 d v
  | .non, _, h => by unfold Rep at h ⊢; exact h
  | .bl _, _, h => by unfold Rep at h ⊢; exact h
  | .int _, _, h => by unfold Rep at h ⊢; exact h
  | .str _, _, h => by unfold Rep at h ⊢; exact h
  | .tup xs, v, h => by
    unfold Rep at h ⊢
    obtain ⟨a, vs, e, f, r⟩ := h
    exact ⟨a, vs, e, f.stab x, Reps.stab x xs vs r⟩
  | .lst xs, v, h => by
    unfold Rep at h ⊢
    obtain ⟨a, vs, e, f, r⟩ := h
    exact ⟨a, vs, e, f.stab x, Reps.stab x xs vs r⟩
  | .dct _ _, v, h => by
    unfold Rep at h ⊢
    obtain ⟨e1, e2, a, e, hn, h⟩ := h
    obtain ⟨h1, h2⟩ := x.out a _ hn h
    exact ⟨e1, e2, a, e, h1, h2⟩
  | .ref i, v, h => by
    unfold Rep at h ⊢
    obtain ⟨o, e, k⟩ := h
    have hi : i < L.c.length := (List.getElem?_eq_some_iff.mp e).1
    have hi2 : i < M.c.length := Nat.lt_of_lt_of_le hi x.len
    refine ⟨M.c[i], List.getElem?_eq_getElem hi2, fun a ea => ?_⟩
    have z := x.old i a hi (by rw [List.getElem?_eq_getElem hi2, ea])
    rw [e] at z
    exact k a (Option.some.inj z)
  | .fn _, v, h => by unfold Rep at h; exact h.elim
theorem Reps.stab (x : Stab L M H H2) : ∀ (ds : List D) (vs : List V), Reps K L H ds vs → Reps K M H2 ds vs
  | [], _, h => by unfold Reps at h ⊢; exact h
  | d :: ds, _, h => by
    unfold Reps at h ⊢
    obtain ⟨v, r, e, h1, h2⟩ := h
    exact ⟨v, r, e, Rep.stab x d v h1, Reps.stab x ds r h2⟩
end
theorem Rep.ext (x : Ext L M H H2) (d : D) (v : V) (h : Rep K L H d v) : Rep K M H2 d v := Rep.stab x.stab d v h
theorem Reps.ext (x : Ext L M H H2) (d : List D) (v : List V) (h : Reps K L H d v) : Reps K M H2 d v := Reps.stab x.stab d v h
theorem RelE.stab {σ : L2.St} {Γ : Env} (x : Stab L M H H2) (h : RelE K L H σ Γ) : RelE K M H2 σ Γ :=
  ⟨h.len, fun i d e => let ⟨v, e1, r⟩ := h.at_ i d e; ⟨v, e1, Rep.stab x d v r⟩⟩
theorem RelE.ext {σ : L2.St} {Γ : Env} (x : Ext L M H H2) (h : RelE K L H σ Γ) : RelE K M H2 σ Γ := h.stab x.stab
theorem RelE.set {σ : L2.St} {Γ : Env} (h : RelE K L H σ Γ) {d : D} {v : V} (r : Rep K L H d v) (i : Nat) : RelE K L H (σ.set i (some v)) (Γ.set i (some d)) where
  len := by rw [List.length_set, List.length_set, h.len]
  at_ := fun j e hj => by
    by_cases hij : i = j
    · subst hij
      by_cases hi : i < Γ.length
      · rw [List.getElem?_set_self hi] at hj
        cases hj
        exact ⟨v, List.getElem?_set_self (by rw [← h.len]; exact hi), r⟩
      · rw [List.getElem?_eq_none (by rw [List.length_set]; omega)] at hj; cases hj
    · rw [List.getElem?_set_ne hij] at hj ⊢
      exact h.at_ j e hj
theorem RelE.setN {σ : L2.St} {Γ : Env} (h : RelE K L H σ Γ) (i : Nat) : RelE K L H (σ.set i none) (Γ.set i none) where
  len := by rw [List.length_set, List.length_set, h.len]
  at_ := fun j e hj => by
    by_cases hij : i = j
    · subst hij
      by_cases hi : i < Γ.length
      · rw [List.getElem?_set_self hi] at hj; cases hj
      · rw [List.getElem?_eq_none (by rw [List.length_set]; omega)] at hj; cases hj
    · rw [List.getElem?_set_ne hij] at hj ⊢
      exact h.at_ j e hj
theorem RelE.wipe {σ : L2.St} {Γ : Env} (h : RelE K L H σ Γ) : ∀ vs : List Nat, RelE K L H (L2.wipe σ vs) (wipeΓ Γ vs)
  | [] => h
  | v :: vs => (RelE.wipe h vs).setN v
theorem CellOk.map {i : Nat} {c : Cell} (h : CellOk K L H i c) (x : Stab L M H H2) (hl : M.c[i]? = L.c[i]?) (hH : ∀ a, L.c[i]? = some (some a) → H2 a = H a) : CellOk K M H2 i c := by
  cases c with
  | lst xs =>
    obtain ⟨a, vs, e, ha, r⟩ := h
    exact ⟨a, vs, hl.trans e, (hH a e).trans ha, Reps.stab x xs vs r⟩
  | dct _ _ => exact h
  | dead => exact hl.trans h
theorem RelSt.live {st : Store} (h : RelSt K L H st) {i : Nat} {a : Addr} (e : L.c[i]? = some (some a)) : ∃ xs vs, st[i]? = some (.lst xs) ∧ H a = some (.lst vs) ∧ Reps K L H xs vs := by
  have hi : i < L.c.length := (List.getElem?_eq_some_iff.mp e).1
  have hs : i < st.length := by rw [← h.len]; exact hi
  have hc := h.cell i st[i] (List.getElem?_eq_getElem hs)
  cases q : st[i] with
  | lst xs =>
    rw [q] at hc
    obtain ⟨a', vs, e', ha, r⟩ := hc
    rw [e] at e'
    cases e'
    exact ⟨xs, vs, by rw [List.getElem?_eq_getElem hs, q], ha, r⟩
  | dct _ _ => rw [q] at hc; exact hc.elim
  | dead =>
    rw [q] at hc
    rw [show L.c[i]? = some none from hc] at e; cases e
theorem RelSt.fresh {st : Store} (h : RelSt K L H st) {p : Addr} (hp : H p = none) : L.out p := by
  refine ⟨fun hm => ?_, fun hm => ?_⟩
  · obtain ⟨i, _, e⟩ := get_of_mem hm
    obtain ⟨_, _, _, ha, _⟩ := h.live e
    rw [hp] at ha; cases ha
  · obtain ⟨o, e⟩ := h.zs p hm
    rw [hp] at e; cases e
/-- a new object beside the cells -/
theorem Ext.alloc {st : Store} {p : Addr} {o : HO} (r : RelSt K L H st) (hp : H p = none) : Ext L L H (upd H p o) where
  len := Nat.le_refl _
  zz := rfl
  old := fun _ _ _ h => h
  new := fun i a hi h => by rw [List.getElem?_eq_none hi] at h; cases h
  keep := fun a u _ h => by rw [upd_ne (ne_of_none h hp)]; exact h
  priv := fun a ha => by
    obtain ⟨u, e⟩ := r.zs a ha
    exact upd_ne (ne_of_none e hp)
  there := fun a u h => ⟨u, by rw [upd_ne (ne_of_none h hp)]; exact h⟩
theorem RelSt.alloc {st : Store} {p : Addr} {o : HO} (h : RelSt K L H st) (hp : H p = none) : RelSt K L (upd H p o) st where
  len := h.len
  inj := h.inj
  dis := h.dis
  zs := fun a ha => let ⟨u, e⟩ := h.zs a ha; ⟨u, (upd_ne (ne_of_none e hp)).trans e⟩
  cell := fun i c e => by
    refine (h.cell i c e).map (Ext.alloc h hp).stab rfl fun a ea => ?_
    obtain ⟨_, _, _, ha, _⟩ := h.live ea
    exact upd_ne (ne_of_none ha hp)
/-- a new cell -/
abbrev LL.push (L : LL) (p : Addr) : LL := ⟨L.c ++ [some p], L.z⟩
theorem Ext.push {st : Store} {p : Addr} {o : HO} (r : RelSt K L H st) (hp : H p = none) : Ext L (L.push p) H (upd H p o) where
  len := by rw [List.length_append]; exact Nat.le_add_right _ _
  zz := rfl
  old := fun i a hi h => by rw [List.getElem?_append_left hi] at h; exact h
  new := fun i a hi h => by
    rw [List.getElem?_append_right hi] at h
    have hm := List.mem_of_getElem? h
    simp only [List.mem_singleton, Option.some.injEq] at hm
    rw [hm]; exact hp
  keep := fun a u _ h => by rw [upd_ne (ne_of_none h hp)]; exact h
  priv := (Ext.alloc r hp).priv
  there := fun a u h => ⟨u, by rw [upd_ne (ne_of_none h hp)]; exact h⟩
theorem RelSt.push {st : Store} {p : Addr} {xs : List D} {vs : List V} (h : RelSt K L H st) (hp : H p = none) (r : Reps K L H xs vs) : RelSt K (L.push p) (upd H p (.lst vs)) (st ++ [.lst xs]) := by
  have key : ∀ (i : Nat) (a : Addr), (L.c ++ [some p])[i]? = some (some a) → (i < L.c.length ∧ L.c[i]? = some (some a)) ∨ (i = L.c.length ∧ a = p) := fun i a e => by
    by_cases hi : i < L.c.length
    · rw [List.getElem?_append_left hi] at e
      exact .inl ⟨hi, e⟩
    · have hi' := Nat.le_of_not_lt hi
      have hlt : i < (L.c ++ [some p]).length := (List.getElem?_eq_some_iff.mp e).1
      rw [List.length_append, List.length_singleton] at hlt
      have ei : i = L.c.length := by omega
      rw [List.getElem?_append_right hi'] at e
      have hm := List.mem_of_getElem? e
      simp only [List.mem_singleton, Option.some.injEq] at hm
      exact .inr ⟨ei, hm⟩
  have nf : ∀ k : Nat, L.c[k]? = some (some p) → False := fun k e => (h.fresh hp).1 (mem_of_get e)
  refine ⟨by rw [List.length_append, List.length_append, h.len]; rfl, fun i j a e1 e2 => ?_, fun i a e => ?_, (h.alloc hp).zs, fun i c e => ?_⟩
  · rcases key i a e1 with ⟨hi, q1⟩ | ⟨hi, q1⟩ <;> rcases key j a e2 with ⟨hj, q2⟩ | ⟨hj, q2⟩
    · exact h.inj i j a q1 q2
    · rw [q2] at q1; exact (nf _ q1).elim
    · rw [q1] at q2; exact (nf _ q2).elim
    · rw [hi, hj]
  · rcases key i a e with ⟨_, q⟩ | ⟨_, q⟩
    · exact h.dis i a q
    · rw [q]; exact (h.fresh hp).2
  · by_cases hi : i < st.length
    · rw [List.getElem?_append_left hi] at e
      refine (h.cell i c e).map (Ext.push h hp).stab (List.getElem?_append_left (by rw [h.len]; exact hi)) fun a ea => ?_
      obtain ⟨_, _, _, ha, _⟩ := h.live ea
      exact upd_ne (ne_of_none ha hp)
    · have hi' := Nat.le_of_not_lt hi
      have hlt : i < (st ++ [Cell.lst xs]).length := (List.getElem?_eq_some_iff.mp e).1
      rw [List.length_append, List.length_singleton] at hlt
      have ei : i = st.length := by omega
      rw [List.getElem?_append_right hi', ei, Nat.sub_self] at e
      cases e
      refine ⟨p, vs, ?_, upd_same, Reps.ext (Ext.push h hp) xs vs r⟩
      rw [ei, ← h.len]
      show (L.c ++ [some p])[L.c.length]? = _
      rw [List.getElem?_append_right (Nat.le_refl _), Nat.sub_self]
      rfl
/-- a cell's list changes -/
theorem Ext.write {st : Store} {i : Nat} {a : Addr} {u o : HO} (r : RelSt K L H st) (e : L.c[i]? = some (some a)) (ha : H a = some u) : Ext L L H (upd H a o) where
  len := Nat.le_refl _
  zz := rfl
  old := fun _ _ _ h => h
  new := fun i a hi h => by rw [List.getElem?_eq_none hi] at h; cases h
  keep := fun b w hb h => by
    rw [upd_ne (fun z => hb.1 (by rw [z]; exact mem_of_get e))]; exact h
  priv := fun b hb => upd_ne fun z => r.dis i a e (by rw [← z]; exact hb)
  there := fun b w h => by
    by_cases z : b = a
    · exact ⟨o, by rw [z, upd_same]⟩
    · exact ⟨w, by rw [upd_ne z]; exact h⟩
theorem RelSt.write {st : Store} {i : Nat} {a : Addr} {xs : List D} {vs : List V} (h : RelSt K L H st) (e : L.c[i]? = some (some a)) (r : Reps K L H xs vs) : RelSt K L (upd H a (.lst vs)) (st.set i (.lst xs)) := by
  obtain ⟨xs0, vs0, e0, ha, r0⟩ := h.live e
  have x : Ext L L H (upd H a (.lst vs)) := Ext.write h e ha
  have hi : i < st.length := (List.getElem?_eq_some_iff.mp e0).1
  refine ⟨by rw [List.length_set, h.len], h.inj, h.dis, fun b hb => let ⟨o, q⟩ := h.zs b hb; ⟨o, (x.priv b hb).trans q⟩, fun j c ej => ?_⟩
  by_cases hij : i = j
  · subst hij
    rw [List.getElem?_set_self hi] at ej
    cases ej
    exact ⟨a, vs, e, upd_same, Reps.ext x xs vs r⟩
  · rw [List.getElem?_set_ne hij] at ej
    refine (h.cell j c ej).map x.stab rfl fun b eb => upd_ne fun z => hij ?_
    rw [z] at eb
    exact h.inj i j a e eb
/-- a cell dies: its list stands still from now on -/
abbrev LL.kill (L : LL) (i : Nat) : LL := ⟨L.c.set i none, L.z⟩
theorem Ext.kill {i : Nat} : Ext L (L.kill i) H H where
  len := by rw [List.length_set]; exact Nat.le_refl _
  zz := rfl
  old := fun j a hj h => by
    by_cases hij : i = j
    · subst hij
      rw [List.getElem?_set_self hj] at h; cases h
    · rw [List.getElem?_set_ne hij] at h; exact h
  new := fun j a hj h => by rw [List.getElem?_eq_none (by rw [List.length_set]; exact hj)] at h; cases h
  keep := fun _ _ _ h => h
  priv := fun _ _ => rfl
  there := fun _ o h => ⟨o, h⟩
theorem RelSt.kill {st : Store} {i : Nat} {a : Addr} (h : RelSt K L H st) (e : L.c[i]? = some (some a)) : RelSt K (L.kill i) H (st.set i .dead) ∧ (L.kill i).out a := by
  have hi : i < L.c.length := (List.getElem?_eq_some_iff.mp e).1
  have x : Ext L (L.kill i) H H := Ext.kill
  have key : ∀ (j : Nat) (b : Addr), (L.c.set i none)[j]? = some (some b) → j ≠ i ∧ L.c[j]? = some (some b) := fun j b ej => by
    by_cases hij : i = j
    · subst hij
      rw [List.getElem?_set_self hi] at ej; cases ej
    · rw [List.getElem?_set_ne hij] at ej
      exact ⟨fun z => hij z.symm, ej⟩
  refine ⟨⟨by rw [List.length_set, List.length_set, h.len], fun j k b e1 e2 => h.inj j k b (key j b e1).2 (key k b e2).2, fun j b e1 => h.dis j b (key j b e1).2, h.zs, fun j c ej => ?_⟩, ⟨fun hm => ?_, h.dis i a e⟩⟩
  · by_cases hij : i = j
    · subst hij
      rw [List.getElem?_set_self (by rw [← h.len]; exact hi)] at ej
      cases ej
      exact List.getElem?_set_self hi
    · rw [List.getElem?_set_ne hij] at ej
      exact (h.cell j c ej).map x.stab (List.getElem?_set_ne hij) fun _ _ => rfl
  · obtain ⟨j, _, ej⟩ := get_of_mem hm
    obtain ⟨h1, h2⟩ := key j a ej
    exact h1 (h.inj j i a h2 e)

/-! ### lists of data -/
theorem Reps.length : ∀ (ds : List D) (vs : List V), Reps K L H ds vs → vs.length = ds.length
  | [], _, h => by unfold Reps at h; rw [h]; rfl
  | _ :: ds, _, h => by
    unfold Reps at h
    obtain ⟨v, r, e, _, h2⟩ := h
    rw [e, List.length_cons, List.length_cons, Reps.length ds r h2]
theorem Reps.append : ∀ (ds : List D) (vs : List V) {es : List D} {ws : List V}, Reps K L H ds vs → Reps K L H es ws → Reps K L H (ds ++ es) (vs ++ ws)
  | [], _, _, _, h, h2 => by unfold Reps at h; rw [h]; exact h2
  | d :: ds, _, _, _, h, h2 => by
    unfold Reps at h
    obtain ⟨v, r, e, h3, h4⟩ := h
    rw [e, List.cons_append, List.cons_append]
    unfold Reps
    exact ⟨v, _, rfl, h3, Reps.append ds r h4 h2⟩
theorem Reps.get : ∀ (ds : List D) (vs : List V) (i : Nat) (d : D), Reps K L H ds vs → ds[i]? = some d → ∃ v, vs[i]? = some v ∧ Rep K L H d v
  | [], _, _, _, _, e => by simp at e
  | d :: ds, _, 0, _, h, e => by
    unfold Reps at h
    obtain ⟨v, r, q, h1, _⟩ := h
    simp only [List.getElem?_cons_zero, Option.some.injEq] at e
    subst e
    exact ⟨v, by rw [q]; rfl, h1⟩
  | d :: ds, _, i + 1, d', h, e => by
    unfold Reps at h
    obtain ⟨v, r, q, _, h2⟩ := h
    rw [q]
    simpa using Reps.get ds r i d' h2 (by simpa using e)
theorem Reps.set : ∀ (ds : List D) (vs : List V) (i : Nat) {d : D} {v : V}, Reps K L H ds vs → Rep K L H d v → Reps K L H (ds.set i d) (vs.set i v)
  | [], _, _, _, _, h, _ => by unfold Reps at h; rw [h]; unfold Reps; rfl
  | _ :: ds, _, 0, _, _, h, q => by
    unfold Reps at h
    obtain ⟨v, r, e, _, h2⟩ := h
    rw [e]
    unfold Reps
    exact ⟨_, _, rfl, q, h2⟩
  | _ :: ds, _, i + 1, _, _, h, q => by
    unfold Reps at h
    obtain ⟨v, r, e, h1, h2⟩ := h
    rw [e]
    unfold Reps
    exact ⟨_, _, rfl, h1, Reps.set ds r i h2 q⟩
theorem Reps.drop : ∀ (n : Nat) (ds : List D) (vs : List V), Reps K L H ds vs → Reps K L H (ds.drop n) (vs.drop n)
  | 0, _, _, h => h
  | n + 1, [], _, h => by unfold Reps at h; rw [h]; unfold Reps; rfl
  | n + 1, _ :: ds, _, h => by
    unfold Reps at h
    obtain ⟨v, r, e, _, h2⟩ := h
    rw [e]
    exact Reps.drop n ds r h2
theorem Reps.take : ∀ (n : Nat) (ds : List D) (vs : List V), Reps K L H ds vs → Reps K L H (ds.take n) (vs.take n)
  | 0, _, _, _ => by rw [List.take_zero, List.take_zero]; unfold Reps; rfl
  | n + 1, [], _, h => by unfold Reps at h; rw [h]; unfold Reps; rfl
  | n + 1, _ :: ds, _, h => by
    unfold Reps at h
    obtain ⟨v, r, e, h1, h2⟩ := h
    rw [e]
    show Reps K L H (_ :: ds.take n) (v :: r.take n)
    unfold Reps
    exact ⟨v, _, rfl, h1, Reps.take n ds r h2⟩
theorem Reps.cut {ds : List D} {vs : List V} (h : Reps K L H ds vs) (lo hi : Option Int) : Reps K L H (cutD ds lo hi) (cutV vs lo hi) := by
  have e := Reps.length ds vs h
  unfold cutD cutV
  rw [e]
  exact Reps.take _ _ _ (Reps.drop _ _ _ h)
theorem Reps.reverse : ∀ (ds : List D) (vs : List V), Reps K L H ds vs → Reps K L H ds.reverse vs.reverse
  | [], _, h => by unfold Reps at h; rw [h]; unfold Reps; rfl
  | _ :: ds, _, h => by
    unfold Reps at h
    obtain ⟨v, r, e, h1, h2⟩ := h
    rw [e, List.reverse_cons, List.reverse_cons]
    refine Reps.append _ _ (Reps.reverse ds r h2) ?_
    unfold Reps
    exact ⟨v, [], rfl, h1, by unfold Reps; rfl⟩
theorem Reps.nil : Reps K L H [] [] := by unfold Reps; rfl
theorem Reps.cons {d : D} {v : V} {ds : List D} {vs : List V} (h : Rep K L H d v) (t : Reps K L H ds vs) : Reps K L H (d :: ds) (v :: vs) := by
  unfold Reps
  exact ⟨v, vs, rfl, h, t⟩
mutual
/-- what == reads -/
theorem Rep.dp : ∀ (d : D) (v : V) (p : PyData), Rep K L H d v → d.pd = some p → Dp K H v p
  | .non, _, _, h, e => by
    unfold Rep at h; unfold D.pd at e; cases e; rw [h]; exact .non
  | .bl b, _, _, h, e => by
    unfold Rep at h; unfold D.pd at e; cases e; rw [h]; exact .bl b
  | .int i, _, _, h, e => by
    unfold Rep at h; unfold D.pd at e; cases e; rw [h]; exact .int i
  | .str s, _, _, h, e => by
    unfold Rep at h; unfold D.pd at e; cases e; rw [h]; exact .str s
  | .tup xs, _, p, h, e => by
    unfold Rep at h; unfold D.pd at e
    obtain ⟨a, vs, ev, f, r⟩ := h
    cases q : pds xs with
    | none => rw [q] at e; cases e
    | some ds =>
      rw [q] at e
      cases e
      rw [ev]
      exact .tup f.sq (Reps.dp xs vs ds r q)
  | .lst xs, _, p, h, e => by
    unfold Rep at h; unfold D.pd at e
    obtain ⟨a, vs, ev, f, r⟩ := h
    cases q : pds xs with
    | none => rw [q] at e; cases e
    | some ds =>
      rw [q] at e
      cases e
      rw [ev]
      exact .lst f.sq (Reps.dp xs vs ds r q)
  | .dct _ _, _, _, _, e => by unfold D.pd at e; cases e
  | .ref _, _, _, _, e => by unfold D.pd at e; cases e
  | .fn _, _, _, _, e => by unfold D.pd at e; cases e
theorem Reps.dp : ∀ (ds : List D) (vs : List V) (ps : List PyData), Reps K L H ds vs → pds ds = some ps → DpAll K H vs ps
  | [], _, _, h, e => by
    unfold Reps at h; unfold pds at e; cases e; rw [h]; exact .nil
  | d :: ds, _, ps, h, e => by
    unfold Reps at h; unfold pds at e
    obtain ⟨v, r, ev, h1, h2⟩ := h
    cases q : d.pd with
    | none => rw [q] at e; cases e
    | some p =>
      rw [q] at e
      cases q2 : pds ds with
      | none => rw [q2] at e; cases e
      | some ps' =>
        rw [q2] at e
        cases e
        rw [ev]
        exact .cons (Rep.dp d v p h1 q) (Reps.dp ds r ps' h2 q2)
end
/-- behind a call: what only the callee reached is forgotten -/
theorem take_get {L : List (Option Addr)} {n i : Nat} {a : Option Addr} (h : (L.take n)[i]? = some a) : i < n ∧ L[i]? = some a := by
  rw [List.getElem?_take] at h
  split at h
  · exact ⟨by assumption, h⟩
  · cases h
abbrev LL.take (L : LL) (n : Nat) : LL := ⟨L.c.take n, L.z⟩
theorem out_take {a : Addr} {n : Nat} (h : L.out a) : (L.take n).out a := ⟨fun z => h.1 (List.mem_of_mem_take z), h.2⟩
mutual
theorem Rep.take (n : Nat) : ∀ (d : D) (v : V), Rep K L H d v → d.cl n = true → Rep K (L.take n) H d v
  | .non, _, h, _ => by unfold Rep at h ⊢; exact h
  | .bl _, _, h, _ => by unfold Rep at h ⊢; exact h
  | .int _, _, h, _ => by unfold Rep at h ⊢; exact h
  | .str _, _, h, _ => by unfold Rep at h ⊢; exact h
  | .tup xs, v, h, c => by
    unfold Rep at h ⊢
    unfold D.cl at c
    obtain ⟨a, vs, e, f, r⟩ := h
    refine ⟨a, vs, e, ?_, Reps.take' n xs vs r c⟩
    rcases f with ⟨f1, f2⟩ | f
    · exact .inl ⟨out_take f1, f2⟩
    · exact .inr f
  | .lst xs, v, h, c => by
    unfold Rep at h ⊢
    unfold D.cl at c
    obtain ⟨a, vs, e, f, r⟩ := h
    refine ⟨a, vs, e, ?_, Reps.take' n xs vs r c⟩
    rcases f with ⟨f1, f2⟩ | f
    · exact .inl ⟨out_take f1, f2⟩
    · exact .inr f
  | .dct _ _, v, h, _ => by
    unfold Rep at h ⊢
    obtain ⟨e1, e2, a, e, hn, h⟩ := h
    exact ⟨e1, e2, a, e, out_take hn, h⟩
  | .ref i, v, h, c => by
    unfold Rep at h ⊢
    unfold D.cl at c
    obtain ⟨o, e, k⟩ := h
    have hi : i < n := Nat.le_of_ble_eq_true c
    exact ⟨o, (List.getElem?_take_of_lt hi).trans e, k⟩
  | .fn _, v, h, _ => by unfold Rep at h; exact h.elim
theorem Reps.take' (n : Nat) : ∀ (ds : List D) (vs : List V), Reps K L H ds vs → DL.cls n ds = true → Reps K (L.take n) H ds vs
  | [], _, h, _ => by unfold Reps at h ⊢; exact h
  | d :: ds, _, h, c => by
    unfold Reps at h ⊢
    unfold DL.cls at c
    rw [Bool.and_eq_true] at c
    obtain ⟨v, r, e, h1, h2⟩ := h
    exact ⟨v, r, e, Rep.take n d v h1 c.1, Reps.take' n ds r h2 c.2⟩
end
theorem RelSt.take {st : Store} {n : Nat} (h : RelSt K L H st) (c : Closed n (st.take n) = true) : RelSt K (L.take n) H (st.take n) where
  len := by rw [List.length_take, List.length_take, h.len]
  inj := fun i j a e1 e2 => h.inj i j a (take_get e1).2 (take_get e2).2
  dis := fun i a e => h.dis i a (take_get e).2
  zs := h.zs
  cell := fun i c' e => by
    have hi : i < n ∧ st[i]? = some c' := by
      rw [List.getElem?_take] at e
      split at e
      · exact ⟨by assumption, e⟩
      · cases e
    have hc := h.cell i c' hi.2
    have cc : c'.cl n = true := by
      unfold Closed at c
      rw [List.all_eq_true] at c
      exact c c' (List.mem_of_getElem? e)
    have eL : (L.c.take n)[i]? = L.c[i]? := List.getElem?_take_of_lt hi.1
    cases c' with
    | lst xs =>
      obtain ⟨a, vs, e1, e2, r⟩ := hc
      exact ⟨a, vs, eL.trans e1, e2, Reps.take' n xs vs r cc⟩
    | dct _ _ => exact hc
    | dead => exact eL.trans hc
theorem Ext.take {n : Nat} (x : Ext L M H H2) (hn : n = L.c.length) : Ext L (M.take n) H H2 where
  len := by rw [List.length_take]; have := x.len; omega
  zz := x.zz
  old := fun i a hi h => x.old i a hi (take_get h).2
  new := fun i a hi h => by
    have := (take_get h).1
    omega
  keep := x.keep
  priv := x.priv
  there := x.there
end
end DL

set_option Elab.async false
set_option linter.all false
set_option maxRecDepth 100000
set_option maxHeartbeats 2000000
set_option autoImplicit false
/-! DenC: each construct's rule, from the layer's rules. -/
namespace DL
open PySem PySem.Spec PyProof.Rows L2

theorem _root_.L2.PE.imp {X : Cx} {e : Expr} {t t' : TE} (h : PE X e t) (i : ∀ σ H Q, t' σ H Q → t σ H Q) : PE X e t' := ⟨fun pins s σ H Q I q => h.run pins s σ H Q I (i σ H Q q)⟩
theorem _root_.L2.PT.imp {X : Cx} {e : Expr} {t t' : TT} (h : PT X e t) (i : ∀ σ H Q, t' σ H Q → t σ H Q) : PT X e t' := ⟨fun pins s σ H Q I q => h.run pins s σ H Q I (i σ H Q q)⟩
theorem _root_.L2.PW.imp {X : Cx} {e : Expr} {t t' : TT} (h : PW X e t) (i : ∀ σ H Q, t' σ H Q → t σ H Q) : PW X e t' := ⟨fun wh pins s σ H Q I q => h.run wh pins s σ H Q I (i σ H Q q)⟩
theorem _root_.L2.PA.imp {X : Cx} {es : List Expr} {t t' : TA} (h : PA X es t) (i : ∀ σ H Q, t' σ H Q → t σ H Q) : PA X es t' := ⟨fun pos pins s σ H Q I q => h.run pos pins s σ H Q I (i σ H Q q)⟩
theorem _root_.L2.PS.imp {X : Cx} {st : Stmt} {t t' : TS} (h : PS X st t) (i : ∀ D σ H, t' D σ H → t D σ H) : PS X st t' := ⟨fun pins s σ H D I q => h.run pins s σ H D I (i D σ H q)⟩
theorem _root_.L2.PSs.imp {X : Cx} {st : List Stmt} {t t' : TS} (h : PSs X st t) (i : ∀ D σ H, t' D σ H → t D σ H) : PSs X st t' := ⟨fun pins s σ H D I q => h.run pins s σ H D I (i D σ H q)⟩
theorem _root_.L2.PI.imp {X : Cx} {tg iter : Expr} {t t' : TI} (h : PI X tg iter t) (i : ∀ σ H R, t' σ H R → t σ H R) : PI X tg iter t' := ⟨fun pins s σ H R I q => h.run pins s σ H R I (i σ H R q)⟩
theorem _root_.L2.PTs.imp {X : Cx} {ifs : List Expr} {t t' : TT} (h : PTs X ifs t) (i : ∀ σ H Q, t' σ H Q → t σ H Q) : PTs X ifs t' := ⟨fun pins s σ H Q I q => h.run pins s σ H Q I (i σ H Q q)⟩

section
variable (K : PySem.W.Frag)
def OKr {α : Type} (L : LL) (H : Hp) (r : Res α) (P : α → LL → Hp → Prop) : Prop :=
  match r with
  | .ok a st' => ∀ M H2, Ext L M H H2 → RelSt K M H2 st' → P a M H2
  | _ => False
abbrev PD (Q : VK) : D → LL → Hp → Prop := fun d M H2 => ∀ v, Rep K M H2 d v → Q v H2
abbrev PDs (Q : List V → Hp → Prop) : List D → LL → Hp → Prop := fun d M H2 => ∀ v, Reps K M H2 d v → Q v H2
variable (C : Call) (G : Nat → D)
def tE (e : IE) : TE := fun σ H Q => ∃ Γ L st, RelE K L H σ Γ ∧ RelSt K L H st ∧ OKr K L H (evalE C G e Γ st) (PD K Q)
def tEs (es : IEs) : TA := fun σ H Q => ∃ Γ L st, RelE K L H σ Γ ∧ RelSt K L H st ∧ OKr K L H (evalEs C G es Γ st) (PDs K Q)
def tB (e : IE) : TT := fun σ H Q => ∃ Γ L st, RelE K L H σ Γ ∧ RelSt K L H st ∧ OKr K L H (evalT C G e Γ st) (fun k _ H2 => Q k H2)
def tTs (es : IEs) : TT := fun σ H Q => ∃ Γ L st, RelE K L H σ Γ ∧ RelSt K L H st ∧ OKr K L H (evalTs C G es Γ st) (fun k _ H2 => Q k H2)
def tAn (es : IEs) : TE := fun σ H Q => ∃ Γ L st, RelE K L H σ Γ ∧ RelSt K L H st ∧ OKr K L H (evalAnd C G es Γ st) (PD K Q)
def tOn (es : IEs) : TE := fun σ H Q => ∃ Γ L st, RelE K L H σ Γ ∧ RelSt K L H st ∧ OKr K L H (evalOr C G es Γ st) (PD K Q)
end
section
variable {K : PySem.W.Frag} {C : Call} {G : Nat → D} {L M : LL} {H H1 : Hp} {α β : Type}
theorem OKr.ext {r : Res α} {P : α → LL → Hp → Prop} (h : OKr K L H r P) (x : Ext L M H H1) : OKr K M H1 r P := by
  cases r with
  | ok a st => exact fun M2 H2 x2 r2 => h M2 H2 (x.trans x2) r2
  | exc _ _ _ => exact h
  | bad => exact h
theorem OKr.now {a : α} {st : Store} {P : α → LL → Hp → Prop} (h : OKr K L H (.ok a st) P) (r : RelSt K L H st) : P a L H := h L H (Ext.refl _ _) r
theorem OKr.at_ {a : α} {st : Store} {P : α → LL → Hp → Prop} (h : OKr K L H (.ok a st) P) (x : Ext L M H H1) (r : RelSt K M H1 st) : P a M H1 := h M H1 x r
theorem OKr.lift {o : Option α} {st : Store} {P : α → LL → Hp → Prop} (h : OKr K L H (DL.lift o st) P) : ∃ a, o = some a ∧ OKr K L H (.ok a st) P := by
  cases o with
  | none => exact h.elim
  | some a => exact ⟨a, rfl, h⟩
/-- one part of a whole is read -/
theorem sE {e : IE} {Γ : Env} {st : Store} {σ : L2.St} {f : D → Store → Res β} {P : β → LL → Hp → Prop} {Q : VK} (rE : RelE K L H σ Γ) (rS : RelSt K L H st) (h : OKr K L H ((evalE C G e Γ st).bind f) P)
    (k : ∀ d st1 v M H1, Ext L M H H1 → RelE K M H1 σ Γ → RelSt K M H1 st1 → Rep K M H1 d v → OKr K M H1 (f d st1) P → Q v H1) : tE K C G e σ H Q := by
  refine ⟨Γ, L, st, rE, rS, ?_⟩
  cases q : evalE C G e Γ st with
  | ok d st1 =>
    rw [q] at h
    exact fun M H1 x r v rv => k d st1 v M H1 x (rE.ext x) r rv (OKr.ext h x)
  | exc _ _ _ => rw [q] at h; exact h
  | bad => rw [q] at h; exact h
theorem sEs {e : IEs} {Γ : Env} {st : Store} {σ : L2.St} {f : List D → Store → Res β} {P : β → LL → Hp → Prop} {Q : List V → Hp → Prop} (rE : RelE K L H σ Γ) (rS : RelSt K L H st) (h : OKr K L H ((evalEs C G e Γ st).bind f) P)
    (k : ∀ d st1 v M H1, Ext L M H H1 → RelE K M H1 σ Γ → RelSt K M H1 st1 → Reps K M H1 d v → OKr K M H1 (f d st1) P → Q v H1) : tEs K C G e σ H Q := by
  refine ⟨Γ, L, st, rE, rS, ?_⟩
  cases q : evalEs C G e Γ st with
  | ok d st1 =>
    rw [q] at h
    exact fun M H1 x r v rv => k d st1 v M H1 x (rE.ext x) r rv (OKr.ext h x)
  | exc _ _ _ => rw [q] at h; exact h
  | bad => rw [q] at h; exact h
theorem sB {e : IE} {Γ : Env} {st : Store} {σ : L2.St} {f : Bool → Store → Res β} {P : β → LL → Hp → Prop} {Q : Bool → Hp → Prop} (rE : RelE K L H σ Γ) (rS : RelSt K L H st) (h : OKr K L H ((evalT C G e Γ st).bind f) P)
    (k : ∀ d st1 M H1, Ext L M H H1 → RelE K M H1 σ Γ → RelSt K M H1 st1 → OKr K M H1 (f d st1) P → Q d H1) : tB K C G e σ H Q := by
  refine ⟨Γ, L, st, rE, rS, ?_⟩
  cases q : evalT C G e Γ st with
  | ok d st1 =>
    rw [q] at h
    exact fun M H1 x r => k d st1 M H1 x (rE.ext x) r (OKr.ext h x)
  | exc _ _ _ => rw [q] at h; exact h
  | bad => rw [q] at h; exact h
/-- evalT of e opened -/
theorem bindT {e : IE} {Γ : Env} {st : Store} {f : Bool → Store → Res β} : (evalT C G e Γ st).bind f = (evalE C G e Γ st).bind fun x st => (DL.lift (truth x st) st).bind f := by
  unfold evalT
  cases evalE C G e Γ st <;> rfl
theorem bind_id (r : Res α) : (r.bind fun x st => .ok x st) = r := by cases r <;> rfl

theorem sizeLine_num : (sizeLine : Nat) = 16777216 := sizeLine_eq
theorem lim_le {n : Nat} (h : lim n = true) : n ≤ sizeLine := by
  rw [sizeLine_num]
  exact Nat.le_of_ble_eq_true h
theorem blt_lt {n : Nat} (h : Nat.blt n 16777216 = true) : n < sizeLine := by
  rw [sizeLine_num]
  exact Nat.le_of_ble_eq_true h
/-- what items reads stands in the heap -/
theorem items_sq {x : D} {v : V} {st : Store} {xs : List D} (rv : Rep K L H x v) (rS : RelSt K L H st) (h : items x st = some xs) : ∃ a vs, v = .ref a ∧ (SqL K H a vs ∨ SqT K H a vs) ∧ Reps K L H xs vs := by
  unfold items at h
  cases x with
  | tup ys =>
    cases h
    unfold Rep at rv
    obtain ⟨a, vs, e, f, r⟩ := rv
    exact ⟨a, vs, e, .inr f.sq, r⟩
  | lst ys =>
    cases h
    unfold Rep at rv
    obtain ⟨a, vs, e, f, r⟩ := rv
    exact ⟨a, vs, e, .inl f.sq, r⟩
  | ref i =>
    unfold Rep at rv
    obtain ⟨o, e, k⟩ := rv
    simp only at h
    split at h
    · rename_i ys q
      cases h
      obtain ⟨a, vs, e1, e2, r⟩ := rS.cell i _ q
      rw [e1] at e
      cases e
      exact ⟨a, vs, k a rfl, .inl (.inl (.inl e2)), r⟩
    · cases h
  | non => cases h
  | bl _ => cases h
  | int _ => cases h
  | str _ => cases h
  | dct _ _ => cases h
  | fn _ => cases h
theorem isEmpty_rep {xs : List D} {vs : List V} (r : Reps K L H xs vs) : (!vs.isEmpty) = !xs.isEmpty := by
  have e := Reps.length xs vs r
  cases xs <;> cases vs <;> simp at e ⊢
theorem truth_ok {x : D} {v : V} {st : Store} {k : Bool} (rv : Rep K L H x v) (rS : RelSt K L H st) (h : truth x st = some k) : TruV K v H k := by
  unfold truth at h
  cases x with
  | non => unfold Rep at rv; cases h; rw [rv]; rfl
  | bl b => unfold Rep at rv; cases h; rw [rv]; rfl
  | int i => unfold Rep at rv; cases h; rw [rv]; rfl
  | str s =>
    unfold Rep at rv
    simp only at h
    split at h
    · rename_i q
      cases h
      rw [rv]
      exact ⟨lim_le q, rfl⟩
    · cases h
  | tup ys =>
    unfold Rep at rv
    obtain ⟨a, vs, e, f, r⟩ := rv
    cases h
    rw [e]
    exact .inr (.inl ⟨vs, f.sq, (isEmpty_rep r).symm⟩)
  | lst ys =>
    unfold Rep at rv
    obtain ⟨a, vs, e, f, r⟩ := rv
    cases h
    rw [e]
    exact .inl ⟨vs, f.sq, (isEmpty_rep r).symm⟩
  | ref i =>
    unfold Rep at rv
    obtain ⟨o, e, k'⟩ := rv
    simp only at h
    split at h
    · rename_i ys q
      cases h
      obtain ⟨a, vs, e1, e2, r⟩ := rS.cell i _ q
      rw [e1] at e
      cases e
      rw [k' a rfl]
      exact .inl ⟨vs, .inl (.inl e2), (isEmpty_rep r).symm⟩
    · cases h
  | dct _ _ => cases h
  | fn _ => cases h
end

/-! ### names, constants, displays -/
section
variable {X : Cx} {C : Call} {G : Nat → D} {pos : Pos}
theorem r_slot {i : Nat} {x : Str} (hN : X.N[i]? = some x) (hv : Vis X.env.scope x) (hd : (x == ("__debug__" : Str)) = false) (hcd : (x == ("__classdict__" : Str)) = false) : PE X (.Name x pos) (tE X.K C G (.slot i)) := by
  refine (pe_var (i := i) hN hv hd hcd).imp fun σ H Q h => ?_
  obtain ⟨Γ, L, st, rE, rS, h⟩ := h
  unfold evalE at h
  obtain ⟨d, e, h⟩ := h.lift
  unfold slotD at e
  split at e
  · rename_i d' q
    cases e
    obtain ⟨v, ev, rv⟩ := rE.at_ i _ q
    exact ⟨v, ev, h.now rS v rv⟩
  · cases e
theorem r_con {d : D} {k : Const} {j : Nat} (h : match d, k with | .non, .none => True | .bl b, .bool c => b = c | .int a, .int b => a = b | .str a, .str b => a = b | _, _ => False) : PE X (.Constant k j pos) (tE X.K C G (.con d)) := by
  have go : ∀ (v : V), PE X (.Constant k j pos) (tC v) → (∀ L H, Rep X.K L H d v) → PE X (.Constant k j pos) (tE X.K C G (.con d)) := fun v p r => p.imp fun σ H Q h => by
    obtain ⟨Γ, L, st, rE, rS, h⟩ := h
    unfold evalE at h
    exact h.now rS v (r L H)
  cases d <;> cases k <;> first
    | exact go .non pe_non fun L H => by unfold Rep; rfl
    | (have e : _ = _ := h; exact go (.bl _) pe_bl fun L H => by unfold Rep; rw [e])
    | (have e : _ = _ := h; exact go (.int _) pe_int fun L H => by unfold Rep; rw [e])
    | (have e : _ = _ := h; exact go (.str _) pe_str fun L H => by unfold Rep; rw [e])
    | exact (show False from h).elim
theorem r_glob {g : Nat} {x : Str} {v : V} {u : Value} (hg : Gl X x) (hm : X.mg x = some u) (r : RelV v u) (hr : ∀ L H, Rep X.K L H (G g) v) (hd : (x == ("__debug__" : Str)) = false) : PE X (.Name x pos) (tE X.K C G (.glob g)) := by
  refine (pe_glob hg hm r hd).imp fun σ H Q h => ?_
  obtain ⟨Γ, L, st, rE, rS, h⟩ := h
  unfold evalE at h
  exact h.now rS v (hr L H)
theorem r_nil : PA X [] (tEs X.K C G .nil) := by
  refine pa_nil.imp fun σ H Q h => ?_
  obtain ⟨Γ, L, st, rE, rS, h⟩ := h
  unfold evalEs at h
  exact h.now rS [] Reps.nil
theorem r_cons {a : Expr} {as : List Expr} {e : IE} {es : IEs} (ha : PE X a (tE X.K C G e)) (hr : PA X as (tEs X.K C G es)) (hs : starEach (a :: as) X.env = (false, eval a X.env) :: starEach as X.env) : PA X (a :: as) (tEs X.K C G (.cons e es)) := by
  refine (pa_cons ha hr hs).imp fun σ H Q h => ?_
  obtain ⟨Γ, L, st, rE, rS, h⟩ := h
  unfold evalEs at h
  refine sE rE rS h fun d st1 v M H1 x rE1 rS1 rv h1 => ?_
  refine sEs rE1 rS1 h1 fun ds st2 vs M2 H2 x2 rE2 rS2 rvs h2 => ?_
  exact h2.now rS2 (v :: vs) (Reps.cons (Rep.ext x2 d v rv) rvs)
theorem rep_tup {K : PySem.W.Frag} {L : LL} {H : Hp} {p : Addr} {xs : List D} {vs : List V} {st : Store} (rS : RelSt K L H st) (hp : H p = none) (r : Reps K L H xs vs) : Rep K L (upd H p (.tup vs)) (.tup xs) (.ref p) := by
  unfold Rep
  exact ⟨p, vs, rfl, .inl ⟨rS.fresh hp, .inl upd_same⟩, Reps.ext (Ext.alloc rS hp) xs vs r⟩
theorem rep_lst {K : PySem.W.Frag} {L : LL} {H : Hp} {p : Addr} {xs : List D} {vs : List V} {st : Store} (rS : RelSt K L H st) (hp : H p = none) (r : Reps K L H xs vs) : Rep K L (upd H p (.lst vs)) (.lst xs) (.ref p) := by
  unfold Rep
  exact ⟨p, vs, rfl, .inl ⟨rS.fresh hp, .inl upd_same⟩, Reps.ext (Ext.alloc rS hp) xs vs r⟩
theorem r_tup {as : List Expr} {es : IEs} {k : Nat} (ha : PA X as (tEs X.K C G es)) : PE X (.Tuple as k pos) (tE X.K C G (.tup es)) := by
  refine (pe_tup ha).imp fun σ H Q h => ?_
  obtain ⟨Γ, L, st, rE, rS, h⟩ := h
  unfold evalE at h
  refine sEs rE rS h fun ds st1 vs M H1 x rE1 rS1 rvs h1 => ?_
  split at h1
  · rename_i q
    refine ⟨by rw [Reps.length ds vs rvs]; exact lim_le q, fun p hp => ?_⟩
    exact h1.at_ (Ext.alloc rS1 hp) (rS1.alloc hp) _ (rep_tup rS1 hp rvs)
  · exact h1.elim
theorem r_lst {as : List Expr} {es : IEs} (ha : PA X as (tEs X.K C G es)) : PE X (.List as pos) (tE X.K C G (.lst es)) := by
  refine (pe_lst ha).imp fun σ H Q h => ?_
  obtain ⟨Γ, L, st, rE, rS, h⟩ := h
  unfold evalE at h
  refine sEs rE rS h fun ds st1 vs M H1 x rE1 rS1 rvs h1 => ?_
  split at h1
  · rename_i q
    refine ⟨by rw [Reps.length ds vs rvs]; exact lim_le q, fun p hp => ?_⟩
    exact h1.at_ (Ext.alloc rS1 hp) (rS1.alloc hp) _ (rep_lst rS1 hp rvs)
  · exact h1.elim
theorem rep_new {K : PySem.W.Frag} {L : LL} {H H' : Hp} {p : Addr} {st : Store} (rS : RelSt K L H st) : Rep K (L.push p) H' (.ref st.length) (.ref p) := by
  unfold Rep
  refine ⟨some p, ?_, fun a e => by cases e; rfl⟩
  rw [← rS.len, List.getElem?_append_right (Nat.le_refl _), Nat.sub_self]
  rfl
theorem r_new {as : List Expr} {es : IEs} (ha : PA X as (tEs X.K C G es)) : PE X (.List as pos) (tE X.K C G (.new es)) := by
  refine (pe_lst ha).imp fun σ H Q h => ?_
  obtain ⟨Γ, L, st, rE, rS, h⟩ := h
  unfold evalE at h
  refine sEs rE rS h fun ds st1 vs M H1 x rE1 rS1 rvs h1 => ?_
  split at h1
  · rename_i q
    refine ⟨by rw [Reps.length ds vs rvs]; exact lim_le q, fun p hp => ?_⟩
    exact h1.at_ (Ext.push rS1 hp) (rS1.push hp rvs) _ (rep_new rS1)
  · exact h1.elim
theorem r_emp : PE X (.Dict [] [] pos) (tE X.K C G .emp) := by
  refine (pe_dnewK).imp fun σ H Q h => ?_
  obtain ⟨Γ, L, st, rE, rS, h⟩ := h
  unfold evalE at h
  refine fun p hp => h.at_ (Ext.alloc rS hp) (rS.alloc hp) _ ?_
  unfold Rep
  exact ⟨rfl, rfl, p, rfl, rS.fresh hp, upd_same⟩
end

/-! ### operators -/
section
variable {X : Cx} {C : Call} {G : Nat → D} {pos : Pos} {a b c : Expr} {ea eb ec : IE}
/-- two data in, a fact about them, data out -/
def rF (K : PySem.W.Frag) (f : D → D → Option D) : R2 := fun x y H Q => ∃ L st dx dy d, RelSt K L H st ∧ Rep K L H dx x ∧ Rep K L H dy y ∧ f dx dy = some d ∧ OKr K L H (.ok d st) (PD K Q)
theorem rF_step {K : PySem.W.Frag} {f : D → D → Option D} {σ : L2.St} {H : Hp} {Q : VK} {Γ : Env} {L : LL} {st : Store} (rE : RelE K L H σ Γ) (rS : RelSt K L H st)
    (h : OKr K L H ((evalE C G ea Γ st).bind fun x st => (evalE C G eb Γ st).bind fun y st => lift (f x y) st) (PD K Q)) : tOp (rF K f) (tE K C G ea) (tE K C G eb) σ H Q := by
  refine sE rE rS h fun dx st1 vx M H1 x rE1 rS1 rx h1 => ?_
  refine sE rE1 rS1 h1 fun dy st2 vy M2 H2 x2 rE2 rS2 ry h2 => ?_
  obtain ⟨d, e, h3⟩ := h2.lift
  exact ⟨M2, st2, dx, dy, d, rS2, Rep.ext x2 dx vx rx, ry, e, h3⟩
theorem Rep.int_inv {K : PySem.W.Frag} {L : LL} {H : Hp} {i : Int} {v : V} (h : Rep K L H (.int i) v) : v = .int i := by unfold Rep at h; exact h
theorem Rep.str_inv {K : PySem.W.Frag} {L : LL} {H : Hp} {i : Str} {v : V} (h : Rep K L H (.str i) v) : v = .str i := by unfold Rep at h; exact h
theorem Rep.bl_inv {K : PySem.W.Frag} {L : LL} {H : Hp} {i : Bool} {v : V} (h : Rep K L H (.bl i) v) : v = .bl i := by unfold Rep at h; exact h
theorem Rep.lst_inv {K : PySem.W.Frag} {L : LL} {H : Hp} {xs : List D} {v : V} (h : Rep K L H (.lst xs) v) : ∃ a vs, v = .ref a ∧ FzL K L H a vs ∧ Reps K L H xs vs := by unfold Rep at h; exact h
theorem Rep.tup_inv {K : PySem.W.Frag} {L : LL} {H : Hp} {xs : List D} {v : V} (h : Rep K L H (.tup xs) v) : ∃ a vs, v = .ref a ∧ FzT K L H a vs ∧ Reps K L H xs vs := by unfold Rep at h; exact h
theorem rep_int {K : PySem.W.Frag} {L : LL} {H : Hp} (i : Int) : Rep K L H (.int i) (.int i) := by unfold Rep; rfl
theorem rep_bl {K : PySem.W.Frag} {L : LL} {H : Hp} (i : Bool) : Rep K L H (.bl i) (.bl i) := by unfold Rep; rfl
theorem rep_str {K : PySem.W.Frag} {L : LL} {H : Hp} (i : Str) : Rep K L H (.str i) (.str i) := by unfold Rep; rfl
theorem rep_non {K : PySem.W.Frag} {L : LL} {H : Hp} : Rep K L H .non .non := by unfold Rep; rfl
theorem rdM {pins : List (Addr × Obj)} {σ : L2.St} {H : Hp} {s : Shared} {l : Addr} {xs : List V} (I : Inv X pins σ H s) (h : Rd H l (.lst xs)) : xs.length ≤ sizeLine ∧ ∃ (its : List Value) (n : Nat), Vals xs its ∧ s.heap.get? l = some { cls := .type "list", data := .seq its.toArray n } := h.ok I.hok
def rCatR (K : PySem.W.Frag) : R2 := fun x y H Q => ∃ l b xs zs, x = .ref l ∧ y = .ref b ∧ SqL K H l xs ∧ SqL K H b zs ∧ xs.length + zs.length ≤ sizeLine ∧ ∀ p, H p = none → Q (.ref p) (upd H p (.lst (xs ++ zs)))
theorem op_catR : OpR X (binaryOp .Add) (rCatR X.K) := by
  intro pins s σ H x y v u Q I rx ry h
  obtain ⟨l, b, xs, zs, rfl, rfl, hH, hB, hz, q⟩ := h
  cases rx
  cases ry
  obtain ⟨its, r, ⟨⟨cls, dd, data, sl⟩, n, e, hc, hd, hs⟩, z⟩ := I.list hH
  obtain ⟨its2, r2, ⟨⟨cls2, dd2, data2, sl2⟩, n2, e2, hc2, hd2, hs2⟩, z2⟩ := I.list hB
  simp only at hc hd hs hc2 hd2 hs2
  subst hc hd hs hc2 hd2 hs2
  have hl := r.length
  have hl2 := r2.length
  have ea : its.toArray ++ its2.toArray = (its ++ its2).toArray := by simp
  refine PySem.concat_meets ⟨_, e, rfl⟩ ⟨_, e2, rfl⟩ PySem.noFill_list_add PySem.seq_list_add PySem.F.slot_list_add PySem.F.entry_list_add (PySem.F.args_list_add_2 _ _) (list_addW l b its.toArray its2.toArray n n2 none none sl sl2 (by show its.length + its2.length ≤ sizeLine; omega)) ⟨e, e2, ?_⟩
  rw [ea]
  exact ⟨.ref _, _, I.lnew (t' := s.toks) (r.append r2) (by rw [List.length_append]; omega), rfl, q _ I.fresh⟩
theorem mulOk_ok {i j : Int} (h : mulOk i j = true) : CMulW i j := by
  unfold mulOk at h
  show i.natAbs.log2 + j.natAbs.log2 < 1000000
  exact of_decide_eq_true h
theorem divOk_ok {j : Int} (i : Int) (h : divOk j = true) : CDivW i j := by
  unfold divOk at h
  rw [Bool.and_eq_true] at h
  exact ⟨of_decide_eq_true h.1, of_decide_eq_true h.2⟩
theorem powOk_ok {i j : Int} (h : powOk i j = true) : CPow i j := by
  unfold powOk at h
  rw [Bool.and_eq_true, Bool.and_eq_true] at h
  exact ⟨of_decide_eq_true h.1.1, of_decide_eq_true h.1.2, of_decide_eq_true h.2⟩
theorem op_bin (op : Operator) : OpR X (binaryOp op) (rF X.K (binop op)) := by
  intro pins s σ H x y v u Q I rx ry h
  obtain ⟨L, st, dx, dy, d, rS, hx, hy, e, h⟩ := h
  unfold binop at e
  split at e
  · rename_i i j
    have ex := hx.int_inv
    have ey := hy.int_inv
    split at e
    · cases e
      exact op_add pins s σ H x y v u Q I rx ry ⟨i, j, ex, ey, h.now rS _ (rep_int _)⟩
    · cases e
      exact op_sub pins s σ H x y v u Q I rx ry ⟨i, j, ex, ey, h.now rS _ (rep_int _)⟩
    · split at e
      · rename_i c
        cases e
        exact op_mulW pins s σ H x y v u Q I rx ry ⟨i, j, ex, ey, mulOk_ok c, h.now rS _ (rep_int _)⟩
      · cases e
    · split at e
      · rename_i c
        cases e
        exact op_fdivW pins s σ H x y v u Q I rx ry ⟨i, j, ex, ey, divOk_ok i c, h.now rS _ (rep_int _)⟩
      · cases e
    · split at e
      · rename_i c
        cases e
        exact op_mod pins s σ H x y v u Q I rx ry ⟨i, j, ex, ey, c, h.now rS _ (rep_int _)⟩
      · cases e
    · split at e
      · rename_i c
        cases e
        exact op_pow pins s σ H x y v u Q I rx ry ⟨i, j, ex, ey, powOk_ok c, h.now rS _ (rep_int _)⟩
      · cases e
    · cases e
  · rename_i xs ys
    obtain ⟨p, vs, ex, fx, r⟩ := hx.lst_inv
    obtain ⟨q, ws, ey, fy, r2⟩ := hy.lst_inv
    split at e
    · split at e
      · rename_i c
        cases e
        refine op_catR pins s σ H x y v u Q I rx ry ⟨p, q, vs, ws, ex, ey, fx.sq, fy.sq, ?_, fun z hz => ?_⟩
        · rw [Reps.length _ _ r, Reps.length _ _ r2]
          exact lim_le c
        · exact h.at_ (Ext.alloc rS hz) (rS.alloc hz) _ (rep_lst rS hz (Reps.append _ _ r r2))
      · cases e
    · cases e
  · rename_i xs ys
    obtain ⟨p, vs, ex, fx, r⟩ := hx.tup_inv
    obtain ⟨q, ws, ey, fy, r2⟩ := hy.tup_inv
    split at e
    · split at e
      · rename_i c
        cases e
        refine op_catA pins s σ H x y v u Q I rx ry ⟨p, q, vs, ws, ex, ey, fx.sq, fy.sq, ?_, fun z => ?_, fun _ z => ?_, fun _ _ z hz => ?_⟩
        · rw [Reps.length _ _ r, Reps.length _ _ r2]
          exact lim_le c
        · have hr := Reps.append _ _ r r2
          rw [z, List.nil_append] at hr
          refine h.now rS _ ?_
          unfold Rep
          exact ⟨q, ws, rfl, fy, hr⟩
        · have hr := Reps.append _ _ r r2
          rw [z, List.append_nil] at hr
          refine h.now rS _ ?_
          unfold Rep
          exact ⟨p, vs, rfl, fx, hr⟩
        · exact h.at_ (Ext.alloc rS hz) (rS.alloc hz) _ (rep_tup rS hz (Reps.append _ _ r r2))
      · cases e
    · cases e
  · rename_i z1 z2
    split at e
    · split at e
      · rename_i c
        cases e
        exact op_add_str pins s σ H x y v u Q I rx ry ⟨z1, z2, hx.str_inv, hy.str_inv, lim_le c, h.now rS _ (rep_str _)⟩
      · cases e
    · cases e
  · cases e
theorem r_bin {op : Operator} (ha : PE X a (tE X.K C G ea)) (hb : PE X b (tE X.K C G eb)) : PE X (.BinOp a op b pos) (tE X.K C G (.bin op ea eb)) := by
  refine (pe_op (op_bin op) ha hb).imp fun σ H Q h => ?_
  obtain ⟨Γ, L, st, rE, rS, h⟩ := h
  unfold evalE at h
  exact rF_step rE rS h
theorem r_neg (ha : PE X a (tE X.K C G ea)) : PE X (.UnaryOp .USub a pos) (tE X.K C G (.neg ea)) := by
  refine (pe_un un_neg ha).imp fun σ H Q h => ?_
  obtain ⟨Γ, L, st, rE, rS, h⟩ := h
  unfold evalE at h
  refine sE rE rS h fun dx st1 vx M H1 x rE1 rS1 rx h1 => ?_
  cases dx with
  | int i => exact ⟨i, rx.int_inv, h1.now rS1 _ (rep_int _)⟩
  | _ => exact h1.elim
/-! ### comparisons -/
def dpOf {K : PySem.W.Frag} {L : LL} {H : Hp} {d : D} {v : V} {p : PyData} (r : Rep K L H d v) (e : d.pd = some p) : Dp K H v p := Rep.dp d v p r e
theorem eqD_inv {x y : D} {b : Bool} (h : eqD x y = some b) : ∃ p q, x.pd = some p ∧ y.pd = some q ∧ SeqAt.shaped p = true ∧ SeqAt.shaped q = true ∧ b = PyData.eqv p q := by
  unfold eqD at h
  split at h
  · rename_i p q e1 e2
    split at h
    · rename_i c
      rw [Bool.and_eq_true] at c
      cases h
      exact ⟨p, q, e1, e2, c.1, c.2, rfl⟩
    · cases h
  · cases h
def rInT (K : PySem.W.Frag) (neg : Bool) : R2 := fun x y H Q => ∃ d ds, Dp K H x d ∧ Dp K H y (.tuple ds) ∧ SeqAt.shaped d = true ∧ SeqAt.shaped (.tuple ds) = true ∧ Q (.bl (if neg then !(ds.any fun z => PyData.eqv z d) else ds.any fun z => PyData.eqv z d)) H
theorem canAll_tup {ds : List PyData} (h : SeqAt.shaped (.tuple ds) = true) : PyData.canLayAll0 ds = true := by
  have := SeqAt.canLay_of_shaped h
  unfold PyData.canLay0 at this
  exact this
theorem room_tup {A : Around} {ds : List PyData} {d : PyData} (h : SeqAt.shaped d = true) (hu : A.units + 65 < cLine) : A.units + 1 + min (PyData.depthAll ds) d.depth < cLine := by
  have := SeqAt.depth_of_shaped h
  have h2 : min (PyData.depthAll ds) d.depth ≤ d.depth := Nat.min_le_right _ _
  omega
theorem op_inT (hu : X.A.units + 65 < cLine) : OpR X (compareOp .In) (rInT X.K false) := by
  intro pins s σ H x y v u Q I rx ry h
  obtain ⟨d, ds, hd, he, sd, se, q⟩ := h
  obtain ⟨as, r1⟩ := Dp.reads I d x v hd rx
  obtain ⟨bs, r2⟩ := Dp.reads I (.tuple ds) y u he ry
  exact SeqAt.in_tuple_reads r2 r1 (canAll_tup se) (SeqAt.canLay_of_shaped sd) (room_tup sd hu) ⟨.bl _, H, I, rfl, q⟩
theorem op_notInT (hu : X.A.units + 65 < cLine) : OpR X (compareOp .NotIn) (rInT X.K true) := by
  intro pins s σ H x y v u Q I rx ry h
  obtain ⟨d, ds, hd, he, sd, se, q⟩ := h
  obtain ⟨as, r1⟩ := Dp.reads I d x v hd rx
  obtain ⟨bs, r2⟩ := Dp.reads I (.tuple ds) y u he ry
  exact SeqAt.notIn_tuple_reads r2 r1 (canAll_tup se) (SeqAt.canLay_of_shaped sd) (room_tup sd hu) ⟨.bl _, H, I, rfl, q⟩
theorem isNon_ok {K : PySem.W.Frag} {L : LL} {H : Hp} {d : D} {v : V} {k : Bool} (r : Rep K L H d v) (h : isNon d = some k) : decide (v = .non) = k := by
  cases d with
  | non => cases h; unfold Rep at r; rw [r]; rfl
  | bl b => cases h; rw [r.bl_inv]; rfl
  | int b => cases h; rw [r.int_inv]; rfl
  | str b => cases h; rw [r.str_inv]; rfl
  | tup _ => cases h; obtain ⟨a, vs, e, _⟩ := r.tup_inv; rw [e]; rfl
  | lst _ => cases h; obtain ⟨a, vs, e, _⟩ := r.lst_inv; rw [e]; rfl
  | dct _ _ => cases h; unfold Rep at r; obtain ⟨_, _, a, e, _⟩ := r; rw [e]; rfl
  | ref i => cases h
  | fn _ => cases h
theorem inD_inv {x y : D} {b : Bool} (h : inD x y = some b) : ∃ p ds, x.pd = some p ∧ SeqAt.shaped p = true ∧ b = ds.any (fun z => PyData.eqv z p) ∧ ((∃ ys, y = .tup ys ∧ pds ys = some ds ∧ SeqAt.shaped (.tuple ds) = true) ∨ (∃ ys, y = .lst ys ∧ pds ys = some ds ∧ SeqAt.shaped (.list ds) = true)) := by
  unfold inD at h
  split at h
  · rename_i ys
    split at h
    · rename_i p ds e1 e2
      split at h
      · rename_i c
        rw [Bool.and_eq_true] at c
        cases h
        exact ⟨p, ds, e1, c.1, rfl, .inl ⟨ys, rfl, e2, c.2⟩⟩
      · cases h
    · cases h
  · rename_i ys
    split at h
    · rename_i p ds e1 e2
      split at h
      · rename_i c
        rw [Bool.and_eq_true] at c
        cases h
        exact ⟨p, ds, e1, c.1, rfl, .inr ⟨ys, rfl, e2, c.2⟩⟩
      · cases h
    · cases h
  · cases h
theorem pd_tup {ys : List D} {ds : List PyData} (h : pds ys = some ds) : (D.tup ys).pd = some (.tuple ds) := by unfold D.pd; rw [h]; rfl
theorem pd_lst {ys : List D} {ds : List PyData} (h : pds ys = some ds) : (D.lst ys).pd = some (.list ds) := by unfold D.pd; rw [h]; rfl
theorem op_cmpD (hu : X.A.units + 65 < cLine) (op : CmpOp) : OpR X (compareOp op) (rF X.K fun x y => (cmpop op x y).map D.bl) := by
  intro pins s σ H x y v u Q I rx ry h
  obtain ⟨L, st, dx, dy, d, rS, hx, hy, e, h⟩ := h
  replace e : (cmpop op dx dy).map D.bl = some d := e
  cases q : cmpop op dx dy with
  | none => rw [q] at e; cases e
  | some k =>
    rw [q] at e
    cases e
    have fin : Q (.bl k) H := h.now rS _ (rep_bl _)
    unfold cmpop at q
    cases op with
    | Eq =>
      obtain ⟨p, p', e1, e2, s1, s2, rfl⟩ := eqD_inv q
      exact op_eqD (by omega) pins s σ H x y v u Q I rx ry ⟨p, p', dpOf hx e1, dpOf hy e2, s1, s2, fin⟩
    | NotEq =>
      simp only at q
      cases q' : eqD dx dy with
      | none => rw [q'] at q; cases q
      | some k' =>
        rw [q'] at q
        cases q
        obtain ⟨p, p', e1, e2, s1, s2, rfl⟩ := eqD_inv q'
        exact op_neD (by omega) pins s σ H x y v u Q I rx ry ⟨p, p', dpOf hx e1, dpOf hy e2, s1, s2, fin⟩
    | Lt =>
      simp only at q
      split at q
      · rename_i i j
        cases q
        exact op_lt pins s σ H x y v u Q I rx ry ⟨i, j, hx.int_inv, hy.int_inv, fin⟩
      · cases q
    | LtE =>
      simp only at q
      split at q
      · rename_i i j
        cases q
        exact op_le pins s σ H x y v u Q I rx ry ⟨i, j, hx.int_inv, hy.int_inv, fin⟩
      · cases q
    | Gt =>
      simp only at q
      split at q
      · rename_i i j
        cases q
        exact op_gt pins s σ H x y v u Q I rx ry ⟨i, j, hx.int_inv, hy.int_inv, fin⟩
      · cases q
    | GtE =>
      simp only at q
      split at q
      · rename_i i j
        cases q
        exact op_ge pins s σ H x y v u Q I rx ry ⟨i, j, hx.int_inv, hy.int_inv, fin⟩
      · cases q
    | Is =>
      simp only at q
      split at q
      · have e1 := isNon_ok hx q
        exact op_isN pins s σ H x y v u Q I rx ry ⟨by unfold Rep at hy; exact hy, by rw [e1]; exact fin⟩
      · cases q
    | IsNot =>
      simp only at q
      split at q
      · cases q' : isNon dx with
        | none => rw [q'] at q; cases q
        | some k' =>
          rw [q'] at q
          cases q
          have e1 := isNon_ok hx q'
          exact op_notN pins s σ H x y v u Q I rx ry ⟨by unfold Rep at hy; exact hy, by rw [e1]; exact fin⟩
      · cases q
    | In =>
      simp only at q
      obtain ⟨p, ds, e1, s1, rfl, q | q⟩ := inD_inv q
      · obtain ⟨ys, rfl, e2, s2⟩ := q
        exact op_inT hu pins s σ H x y v u Q I rx ry ⟨p, ds, dpOf hx e1, dpOf hy (pd_tup e2), s1, s2, fin⟩
      · obtain ⟨ys, rfl, e2, s2⟩ := q
        exact op_inD hu pins s σ H x y v u Q I rx ry ⟨p, ds, dpOf hx e1, dpOf hy (pd_lst e2), s1, s2, fin⟩
    | NotIn =>
      simp only at q
      cases q' : inD dx dy with
      | none => rw [q'] at q; cases q
      | some k' =>
        rw [q'] at q
        cases q
        obtain ⟨p, ds, e1, s1, rfl, q | q⟩ := inD_inv q'
        · obtain ⟨ys, rfl, e2, s2⟩ := q
          exact op_notInT hu pins s σ H x y v u Q I rx ry ⟨p, ds, dpOf hx e1, dpOf hy (pd_tup e2), s1, s2, fin⟩
        · obtain ⟨ys, rfl, e2, s2⟩ := q
          exact op_notInD hu pins s σ H x y v u Q I rx ry ⟨p, ds, dpOf hx e1, dpOf hy (pd_lst e2), s1, s2, fin⟩
theorem r_cmp (hu : X.A.units + 65 < cLine) {op : CmpOp} (ha : PE X a (tE X.K C G ea)) (hb : PE X b (tE X.K C G eb)) (hm : behindInMarks op b = false) : PE X (.Compare a [op] [b] pos) (tE X.K C G (.cmp op ea eb)) := by
  refine (pe_cmpR (op_cmpD hu op) ha hb hm).imp fun σ H Q h => ?_
  obtain ⟨Γ, L, st, rE, rS, h⟩ := h
  unfold evalE at h
  exact rF_step rE rS h
theorem map_bl {o : Option Bool} {d : D} (h : o.map D.bl = some d) : ∃ k, o = some k ∧ d = .bl k := by
  cases o with
  | none => cases h
  | some k => cases h; exact ⟨k, rfl, rfl⟩
theorem cmp2_step {op op' : CmpOp} {K : PySem.W.Frag} {σ : L2.St} {H : Hp} {Q : VK} {Γ : Env} {L : LL} {st : Store} (rE : RelE K L H σ Γ) (rS : RelSt K L H st) (h : OKr K L H (evalE C G (.cmp2 op op' ea eb ec) Γ st) (PD K Q)) :
    tChain (rF K fun x y => (cmpop op x y).map D.bl) (rF K fun x y => (cmpop op' x y).map D.bl) (tE K C G ea) (tE K C G eb) (tE K C G ec) σ H Q := by
  unfold evalE at h
  refine sE rE rS h fun dx st1 vx M H1 x rE1 rS1 rx h1 => ?_
  refine sE rE1 rS1 h1 fun dy st2 vy M2 H2 x2 rE2 rS2 ry h2 => ?_
  cases q : cmpop op dx dy with
  | none => rw [q] at h2; exact h2.elim
  | some k =>
    rw [q] at h2
    replace h2 : OKr K M2 H2 (if k = true then (evalE C G ec Γ st2).bind fun z st => lift ((cmpop op' dy z).map .bl) st else .ok (.bl false) st2) (PD K Q) := h2
    refine ⟨M2, st2, dx, dy, .bl k, rS2, Rep.ext x2 dx vx rx, ry, (by show (cmpop op dx dy).map D.bl = _; rw [q]; rfl), fun M3 H3 x3 rS3 v rv => ⟨k, rv.bl_inv, ?_⟩⟩
    replace h2 := OKr.ext h2 x3
    cases k with
    | false => exact h2.now rS3 _ (rep_bl _)
    | true =>
      refine sE (rE2.ext x3) rS3 h2 fun dz st4 vz M4 H4 x4 rE4 rS4 rz h4 => ?_
      obtain ⟨d, e, h5⟩ := h4.lift
      exact ⟨M4, st4, dy, dz, d, rS4, Rep.ext (x3.trans x4) dy vy ry, rz, e, h5⟩
theorem r_cmp2 (hu : X.A.units + 65 < cLine) {op op' : CmpOp} (ha : PE X a (tE X.K C G ea)) (hb : PE X b (tE X.K C G eb)) (hc : PE X c (tE X.K C G ec)) (hm : lastMarks [op, op'] [b, c] = false) : PE X (.Compare a [op, op'] [b, c] pos) (tE X.K C G (.cmp2 op op' ea eb ec)) := by
  refine (pe_chain (op_cmpD hu op) (op_cmpD hu op') ha hb hc hm).imp fun σ H Q h => ?_
  obtain ⟨Γ, L, st, rE, rS, h⟩ := h
  exact cmp2_step rE rS h
/-- a value that is a truth value, as a test -/
theorem tB_bl {K : PySem.W.Frag} {e : IE} {σ : L2.St} {H : Hp} {Q : Bool → Hp → Prop} (hb : ∀ Γ st d st', evalE C G e Γ st = .ok d st' → ∃ k, d = .bl k) (h : tB K C G e σ H Q) : tE K C G e σ H (fun x H' => ∃ k, x = .bl k ∧ Q k H') := by
  obtain ⟨Γ, L, st, rE, rS, h⟩ := h
  unfold evalT at h
  refine ⟨Γ, L, st, rE, rS, ?_⟩
  cases q : evalE C G e Γ st with
  | ok d st1 =>
    rw [q] at h
    obtain ⟨k, rfl⟩ := hb Γ st d st1 q
    exact fun M H1 x r v rv => ⟨k, rv.bl_inv, h.at_ x r⟩
  | exc _ _ _ => rw [q] at h; exact h
  | bad => rw [q] at h; exact h
theorem ok_bind {α β : Type} {r : Res α} {f : α → Store → Res β} {b : β} {st : Store} (h : r.bind f = .ok b st) : ∃ a st1, r = .ok a st1 ∧ f a st1 = .ok b st := by
  cases r with
  | ok a st1 => exact ⟨a, st1, rfl, h⟩
  | exc _ _ _ => cases h
  | bad => cases h
theorem ok_lift {α : Type} {o : Option α} {b : α} {st st' : Store} (h : lift o st = .ok b st') : o = some b ∧ st' = st := by
  cases o with
  | none => cases h
  | some a => cases h; exact ⟨rfl, rfl⟩
theorem cmp_bl {op : CmpOp} (Γ : Env) (st : Store) (d : D) (st' : Store) (h : evalE C G (.cmp op ea eb) Γ st = .ok d st') : ∃ k, d = .bl k := by
  unfold evalE at h
  obtain ⟨_, _, _, h⟩ := ok_bind h
  obtain ⟨_, _, _, h⟩ := ok_bind h
  obtain ⟨e, _⟩ := ok_lift h
  obtain ⟨k, _, e⟩ := map_bl e
  exact ⟨k, e⟩
theorem cmp2_bl {op op' : CmpOp} (Γ : Env) (st : Store) (d : D) (st' : Store) (h : evalE C G (.cmp2 op op' ea eb ec) Γ st = .ok d st') : ∃ k, d = .bl k := by
  unfold evalE at h
  obtain ⟨_, _, _, h⟩ := ok_bind h
  obtain ⟨_, _, _, h⟩ := ok_bind h
  obtain ⟨k, _, _, h⟩ := ok_bind h
  split at h
  · obtain ⟨_, _, _, h⟩ := ok_bind h
    obtain ⟨e, _⟩ := ok_lift h
    obtain ⟨k, _, e⟩ := map_bl e
    exact ⟨k, e⟩
  · cases h; exact ⟨_, rfl⟩
theorem b_cmp (hu : X.A.units + 65 < cLine) {op : CmpOp} (ha : PE X a (tE X.K C G ea)) (hb : PE X b (tE X.K C G eb)) (hm : behindInMarks op b = false) : PT X (.Compare a [op] [b] pos) (tB X.K C G (.cmp op ea eb)) := by
  refine (pt_cmpR (op_cmpD hu op) ha hb hm).imp fun σ H Q h => ?_
  obtain ⟨Γ, L, st, rE, rS, h⟩ := tB_bl cmp_bl h
  unfold evalE at h
  exact rF_step rE rS h
theorem b_cmp2 (hu : X.A.units + 65 < cLine) {op op' : CmpOp} (ha : PE X a (tE X.K C G ea)) (hb : PE X b (tE X.K C G eb)) (hc : PE X c (tE X.K C G ec)) (hm : lastMarks [op, op'] [b, c] = false) : PT X (.Compare a [op, op'] [b, c] pos) (tB X.K C G (.cmp2 op op' ea eb ec)) := by
  refine (pt_chain (op_cmpD hu op) (op_cmpD hu op') ha hb hc hm).imp fun σ H Q h => ?_
  obtain ⟨Γ, L, st, rE, rS, h⟩ := tB_bl cmp2_bl h
  exact cmp2_step rE rS h
end
end DL

set_option Elab.async false
set_option linter.all false
set_option maxRecDepth 100000
set_option maxHeartbeats 2000000
set_option autoImplicit false
/-! DenD: and, or, not, subscripts, calls of built-ins. -/
namespace DL
open PySem PySem.Spec PyProof.Rows L2
section
variable {X : Cx} {C : Call} {G : Nat → D} {pos : Pos} {a b c : Expr} {ea eb ec : IE} {as : List Expr} {es : IEs}
theorem truth_step {K : PySem.W.Frag} {β : Type} {L : LL} {H : Hp} {x : D} {v : V} {st : Store} {f : Bool → Store → Res β} {P : β → LL → Hp → Prop} (rv : Rep K L H x v) (rS : RelSt K L H st) (h : OKr K L H ((lift (truth x st) st).bind f) P) : ∃ k, TruV K v H k ∧ truth x st = some k ∧ OKr K L H (f k st) P := by
  cases q : truth x st with
  | none => rw [q] at h; exact h.elim
  | some k =>
    rw [q] at h
    exact ⟨k, truth_ok rv rS q, rfl, h⟩
theorem r_nt (ha : PE X a (tE X.K C G ea)) : PE X (.UnaryOp .Not a pos) (tE X.K C G (.nt ea)) := by
  refine (pe_notT ha).imp fun σ H Q h => ?_
  obtain ⟨Γ, L, st, rE, rS, h⟩ := h
  unfold evalE at h
  refine sE rE rS h fun dx st1 vx M H1 x rE1 rS1 rx h1 => ?_
  obtain ⟨d, e, h2⟩ := h1.lift
  cases q : truth dx st1 with
  | none => rw [q] at e; cases e
  | some k =>
    rw [q] at e
    cases e
    exact ⟨k, truth_ok rx rS1 q, h2.now rS1 _ (rep_bl _)⟩
theorem b_nt (ha : PT X a (tB X.K C G ea)) : PT X (.UnaryOp .Not a pos) (tB X.K C G (.nt ea)) := by
  refine (pt_not ha).imp fun σ H Q h => ?_
  obtain ⟨Γ, L, st, rE, rS, h⟩ := h
  unfold evalT evalE at h
  refine ⟨Γ, L, st, rE, rS, ?_⟩
  unfold evalT
  cases q : evalE C G ea Γ st with
  | exc _ _ _ => rw [q] at h; exact h
  | bad => rw [q] at h; exact h
  | ok d st1 =>
    rw [q] at h
    replace h : OKr X.K L H (((lift ((truth d st1).map fun b => D.bl (!b)) st1).bind fun x st => lift (truth x st) st)) _ := h
    show OKr X.K L H (lift (truth d st1) st1) _
    cases q2 : truth d st1 with
    | none => rw [q2] at h; exact h
    | some k =>
      rw [q2] at h
      exact h
theorem b_plain (ha : PE X a (tE X.K C G ea)) (he : ∀ whole, isTrue a X.env whole = (do let v ← whole; standAt a.pos; holding [v] (truthy v))) : PT X a (tB X.K C G ea) := by
  refine (pt_truth ha he).imp fun σ H Q h => ?_
  obtain ⟨Γ, L, st, rE, rS, h⟩ := h
  unfold evalT at h
  refine sE rE rS h fun dx st1 vx M H1 x rE1 rS1 rx h1 => ?_
  obtain ⟨k, e, h2⟩ := h1.lift
  exact ⟨k, truth_ok rx rS1 e, h2.now rS1⟩
theorem r_an1 (ha : PE X a (tE X.K C G ea)) : PE X (.BoolOp .And [a] pos) (tAn X.K C G (.cons ea .nil)) := by
  refine (pe_one ha).imp fun σ H Q h => ?_
  obtain ⟨Γ, L, st, rE, rS, h⟩ := h
  unfold evalAnd at h
  exact ⟨Γ, L, st, rE, rS, h⟩
theorem r_an (ha : PE X a (tE X.K C G ea)) (hr : PE X (.BoolOp .And (b :: as) pos) (tAn X.K C G (.cons eb es))) : PE X (.BoolOp .And (a :: b :: as) pos) (tAn X.K C G (.cons ea (.cons eb es))) := by
  refine (pe_andT ha hr).imp fun σ H Q h => ?_
  obtain ⟨Γ, L, st, rE, rS, h⟩ := h
  unfold evalAnd at h
  refine sE rE rS h fun dx st1 vx M H1 x rE1 rS1 rx h1 => ?_
  obtain ⟨k, tk, _, h2⟩ := truth_step rx rS1 h1
  refine ⟨k, tk, ?_⟩
  cases k with
  | true => exact ⟨Γ, M, st1, rE1, rS1, h2⟩
  | false => exact h2.now rS1 _ rx
theorem r_on1 (ha : PE X a (tE X.K C G ea)) : PE X (.BoolOp .Or [a] pos) (tOn X.K C G (.cons ea .nil)) := by
  refine (pe_one ha).imp fun σ H Q h => ?_
  obtain ⟨Γ, L, st, rE, rS, h⟩ := h
  unfold evalOr at h
  exact ⟨Γ, L, st, rE, rS, h⟩
theorem r_on (ha : PE X a (tE X.K C G ea)) (hr : PE X (.BoolOp .Or (b :: as) pos) (tOn X.K C G (.cons eb es))) : PE X (.BoolOp .Or (a :: b :: as) pos) (tOn X.K C G (.cons ea (.cons eb es))) := by
  refine (pe_orT ha hr).imp fun σ H Q h => ?_
  obtain ⟨Γ, L, st, rE, rS, h⟩ := h
  unfold evalOr at h
  refine sE rE rS h fun dx st1 vx M H1 x rE1 rS1 rx h1 => ?_
  obtain ⟨k, tk, _, h2⟩ := truth_step rx rS1 h1
  refine ⟨k, tk, ?_⟩
  cases k with
  | true => exact h2.now rS1 _ rx
  | false => exact ⟨Γ, M, st1, rE1, rS1, h2⟩
theorem r_and (h : PE X (.BoolOp .And as pos) (tAn X.K C G es)) : PE X (.BoolOp .And as pos) (tE X.K C G (.and es)) := h.imp fun σ H Q h => by
  obtain ⟨Γ, L, st, rE, rS, h⟩ := h
  unfold evalE at h
  exact ⟨Γ, L, st, rE, rS, h⟩
theorem r_or (h : PE X (.BoolOp .Or as pos) (tOn X.K C G es)) : PE X (.BoolOp .Or as pos) (tE X.K C G (.or es)) := h.imp fun σ H Q h => by
  obtain ⟨Γ, L, st, rE, rS, h⟩ := h
  unfold evalE at h
  exact ⟨Γ, L, st, rE, rS, h⟩
/-- .. as tests -/
def tAnB (K : PySem.W.Frag) (C : Call) (G : Nat → D) (es : IEs) : TT := fun σ H Q => ∃ Γ L st, RelE K L H σ Γ ∧ RelSt K L H st ∧ OKr K L H ((evalAnd C G es Γ st).bind fun x st => lift (truth x st) st) (fun k _ H2 => Q k H2)
def tOnB (K : PySem.W.Frag) (C : Call) (G : Nat → D) (es : IEs) : TT := fun σ H Q => ∃ Γ L st, RelE K L H σ Γ ∧ RelSt K L H st ∧ OKr K L H ((evalOr C G es Γ st).bind fun x st => lift (truth x st) st) (fun k _ H2 => Q k H2)
theorem b_an1 (ha : PT X a (tB X.K C G ea)) : PW X (.BoolOp .And [a] pos) (tAnB X.K C G (.cons ea .nil)) := by
  refine (pw_and1 ha).imp fun σ H Q h => ?_
  obtain ⟨Γ, L, st, rE, rS, h⟩ := h
  unfold evalAnd at h
  exact ⟨Γ, L, st, rE, rS, h⟩
theorem b_an (ha : PT X a (tB X.K C G ea)) (hr : PW X (.BoolOp .And (b :: as) pos) (tAnB X.K C G (.cons eb es))) : PW X (.BoolOp .And (a :: b :: as) pos) (tAnB X.K C G (.cons ea (.cons eb es))) := by
  refine (pw_and ha hr).imp fun σ H Q h => ?_
  obtain ⟨Γ, L, st, rE, rS, h⟩ := h
  unfold evalAnd at h
  refine ⟨Γ, L, st, rE, rS, ?_⟩
  unfold evalT
  cases q : evalE C G ea Γ st with
  | exc _ _ _ => rw [q] at h; exact h
  | bad => rw [q] at h; exact h
  | ok d st1 =>
    rw [q] at h
    show OKr X.K L H (lift (truth d st1) st1) _
    replace h : OKr X.K L H (((lift (truth d st1) st1).bind fun k st => if k = true then evalAnd C G (.cons eb es) Γ st else .ok d st).bind fun x st => lift (truth x st) st) _ := h
    cases q2 : truth d st1 with
    | none => rw [q2] at h; exact h
    | some k =>
      rw [q2] at h
      cases k with
      | true => exact fun M H1 x r => ⟨Γ, M, st1, rE.ext x, r, OKr.ext h x⟩
      | false =>
        replace h : OKr X.K L H (lift (truth d st1) st1) _ := h
        rw [q2] at h
        exact fun M H1 x r => h.at_ x r
theorem b_on1 (ha : PT X a (tB X.K C G ea)) : PW X (.BoolOp .Or [a] pos) (tOnB X.K C G (.cons ea .nil)) := by
  refine (pw_or1 ha).imp fun σ H Q h => ?_
  obtain ⟨Γ, L, st, rE, rS, h⟩ := h
  unfold evalOr at h
  exact ⟨Γ, L, st, rE, rS, h⟩
theorem b_on (ha : PT X a (tB X.K C G ea)) (hr : PW X (.BoolOp .Or (b :: as) pos) (tOnB X.K C G (.cons eb es))) : PW X (.BoolOp .Or (a :: b :: as) pos) (tOnB X.K C G (.cons ea (.cons eb es))) := by
  refine (pw_or ha hr).imp fun σ H Q h => ?_
  obtain ⟨Γ, L, st, rE, rS, h⟩ := h
  unfold evalOr at h
  refine ⟨Γ, L, st, rE, rS, ?_⟩
  unfold evalT
  cases q : evalE C G ea Γ st with
  | exc _ _ _ => rw [q] at h; exact h
  | bad => rw [q] at h; exact h
  | ok d st1 =>
    rw [q] at h
    show OKr X.K L H (lift (truth d st1) st1) _
    replace h : OKr X.K L H (((lift (truth d st1) st1).bind fun k st => if k = true then .ok d st else evalOr C G (.cons eb es) Γ st).bind fun x st => lift (truth x st) st) _ := h
    cases q2 : truth d st1 with
    | none => rw [q2] at h; exact h
    | some k =>
      rw [q2] at h
      cases k with
      | false => exact fun M H1 x r => ⟨Γ, M, st1, rE.ext x, r, OKr.ext h x⟩
      | true =>
        replace h : OKr X.K L H (lift (truth d st1) st1) _ := h
        rw [q2] at h
        exact fun M H1 x r => h.at_ x r
theorem b_and (h : PW X (.BoolOp .And as pos) (tAnB X.K C G es)) : PT X (.BoolOp .And as pos) (tB X.K C G (.and es)) := (PW.pt h).imp fun σ H Q h => by
  obtain ⟨Γ, L, st, rE, rS, h⟩ := h
  unfold evalT evalE at h
  exact ⟨Γ, L, st, rE, rS, h⟩
theorem b_or (h : PW X (.BoolOp .Or as pos) (tOnB X.K C G es)) : PT X (.BoolOp .Or as pos) (tB X.K C G (.or es)) := (PW.pt h).imp fun σ H Q h => by
  obtain ⟨Γ, L, st, rE, rS, h⟩ := h
  unfold evalT evalE at h
  exact ⟨Γ, L, st, rE, rS, h⟩
theorem r_ife (hc : PT X c (tB X.K C G ec)) (ha : PE X a (tE X.K C G ea)) (hb : PE X b (tE X.K C G eb)) : PE X (.IfExp c a b pos) (tE X.K C G (.ife ec ea eb)) := by
  refine (pe_ifExp hc ha hb).imp fun σ H Q h => ?_
  obtain ⟨Γ, L, st, rE, rS, h⟩ := h
  unfold evalE at h
  rw [← bindT] at h
  refine sB rE rS h fun k st1 M H1 x rE1 rS1 h1 => ?_
  cases k with
  | true => exact ⟨Γ, M, st1, rE1, rS1, h1⟩
  | false => exact ⟨Γ, M, st1, rE1, rS1, h1⟩
/-- the test of an if-expression -/
theorem b_ife (hc : PE X (.IfExp c a b pos) (tE X.K C G (.ife ec ea eb))) (h1 : PT X c (tB X.K C G ec)) (h2 : PT X a (tB X.K C G ea)) (h3 : PT X b (tB X.K C G eb)) : PT X (.IfExp c a b pos) (tB X.K C G (.ife ec ea eb)) := by
  refine ⟨fun pins s σ H Q I h => ?_⟩
  obtain ⟨Γ, L, st, rE, rS, h⟩ := h
  unfold evalT evalE at h
  show wpAny (model X.prog X.w) X.A (do if ← isTrue c X.env (eval c X.env) then isTrue a X.env (eval a X.env) else isTrue b X.env (eval b X.env)) _ _ s
  refine wpAny_bind (thn (h1.run pins s σ H (fun k H1 => if k = true then tB X.K C G ea σ H1 Q else tB X.K C G eb σ H1 Q) I ⟨Γ, L, st, rE, rS, ?_⟩) fun k s1 ⟨H1, I1, q1⟩ => ?_)
  · unfold evalT
    cases q : evalE C G ec Γ st with
    | exc _ _ _ => rw [q] at h; exact h
    | bad => rw [q] at h; exact h
    | ok d st1 =>
      rw [q] at h
      show OKr X.K L H (lift (truth d st1) st1) _
      replace h : OKr X.K L H (((lift (truth d st1) st1).bind fun k st => if k = true then evalE C G ea Γ st else evalE C G eb Γ st).bind fun x st => lift (truth x st) st) _ := h
      cases q2 : truth d st1 with
      | none => rw [q2] at h; exact h
      | some k =>
        rw [q2] at h
        cases k with
        | true => exact fun M H1 x r => ⟨Γ, M, st1, rE.ext x, r, OKr.ext h x⟩
        | false => exact fun M H1 x r => ⟨Γ, M, st1, rE.ext x, r, OKr.ext h x⟩
  · cases k with
    | true => exact h2.run pins s1 σ H1 Q I1 q1
    | false => exact h3.run pins s1 σ H1 Q I1 q1

/-! ### subscripts -/
theorem atI_rep {K : PySem.W.Frag} {L : LL} {H : Hp} {xs : List D} {vs : List V} {i : Int} {d : D} (r : Reps K L H xs vs) (h : atI xs i = some d) : ∃ v, atI vs i = some v ∧ Rep K L H d v := by
  unfold atI at h ⊢
  rw [Reps.length xs vs r]
  cases q : ixN xs.length i with
  | none => rw [q] at h; cases h
  | some j =>
    rw [q] at h
    exact Reps.get xs vs j d r h
theorem r_idx (ha : PE X a (tE X.K C G ea)) (hb : PE X b (tE X.K C G eb)) (hs : PlainIx b) : PE X (.Subscript a b pos) (tE X.K C G (.idx ea eb)) := by
  refine (pe_ix ix_seq ha hb hs).imp fun σ H Q h => ?_
  obtain ⟨Γ, L, st, rE, rS, h⟩ := h
  unfold evalE at h
  refine sE rE rS h fun dx st1 vx M H1 x rE1 rS1 rx h1 => ?_
  refine sE rE1 rS1 h1 fun dy st2 vy M2 H2 x2 rE2 rS2 ry h2 => ?_
  obtain ⟨d, e, h3⟩ := h2.lift
  unfold DL.idx at e
  split at e
  · rename_i i
    cases q : items dx st2 with
    | none => rw [q] at e; cases e
    | some xs =>
      rw [q] at e
      obtain ⟨p, vs, ev, sq, r⟩ := items_sq (Rep.ext x2 dx vx rx) rS2 q
      obtain ⟨v, ev2, rv⟩ := atI_rep r e
      have fin := h3.now rS2 v rv
      rcases sq with sq | sq
      · exact .inl ⟨p, vs, i, v, ev, ry.int_inv, sq, ev2, fin⟩
      · exact .inr (.inl ⟨p, vs, i, v, ev, ry.int_inv, sq, ev2, fin⟩)
  · cases e
theorem po_of {o : Option Expr} (h : match o, es with | none, .nil => True | some e, .cons ei .nil => PE X e (tE X.K C G ei) | _, _ => False) :
    PO X o (fun σ H Q => ∃ Γ L st, RelE X.K L H σ Γ ∧ RelSt X.K L H st ∧ ∃ β, ∃ (f : Option Int → Store → Res β) (P : β → LL → Hp → Prop), OKr X.K L H ((evalEs C G es Γ st).bind fun l st => match partI l with | some l => f l st | none => .bad) P ∧
      ∀ l st1 M H1, Ext L M H H1 → RelE X.K M H1 σ Γ → RelSt X.K M H1 st1 → OKr X.K M H1 (f l st1) P → Q l H1) := by
  cases o with
  | none =>
    cases es with
    | nil =>
      refine ⟨fun pins s σ H Q I h => po_none.run pins s σ H Q I ?_⟩
      obtain ⟨Γ, L, st, rE, rS, β, f, P, h, k⟩ := h
      unfold evalEs at h
      exact k none st L H (Ext.refl _ _) rE rS h
    | cons _ _ => exact (show False from h).elim
  | some e =>
    cases es with
    | nil => exact (show False from h).elim
    | cons ei r =>
      cases r with
      | cons _ _ => exact (show False from h).elim
      | nil =>
        refine ⟨fun pins s σ H Q I h' => (po_some h).run pins s σ H Q I ?_⟩
        obtain ⟨Γ, L, st, rE, rS, β, f, P, h', k⟩ := h'
        have h2 : OKr X.K L H ((evalE C G ei Γ st).bind fun x st => match partI [x] with | some l => f l st | none => .bad) P := by
          unfold evalEs at h'
          cases q : evalE C G ei Γ st with
          | exc _ _ _ => rw [q] at h'; exact h'
          | bad => rw [q] at h'; exact h'
          | ok d st1 =>
            rw [q] at h'
            unfold evalEs at h'
            exact h'
        refine sE rE rS h2 fun d st1 v M H1 x rE1 rS1 rv h3 => ?_
        cases d with
        | int i => exact ⟨i, rv.int_inv, k (some i) st1 M H1 x rE1 rS1 h3⟩
        | _ => exact h3.elim
theorem r_slc {p2 : Pos} {lo hi : Option Expr} {el eh : IEs} (ha : PE X a (tE X.K C G ea)) (hl : match lo, el with | none, .nil => True | some e, .cons ei .nil => PE X e (tE X.K C G ei) | _, _ => False)
    (hh : match hi, eh with | none, .nil => True | some e, .cons ei .nil => PE X e (tE X.K C G ei) | _, _ => False) : PE X (.Subscript a (.Slice lo hi none p2) pos) (tE X.K C G (.slc ea el eh)) := by
  refine (pe_slice (sl_tupA.or sl_list) ha (po_of (es := el) hl) (po_of (es := eh) hh)).imp fun σ H Q h => ?_
  obtain ⟨Γ, L, st, rE, rS, h⟩ := h
  unfold evalE at h
  refine sE rE rS h fun dx st1 vx M H1 x rE1 rS1 rx h1 => ?_
  have key : ∀ {y : List D → List D → Store → Res D}, True := fun {_} => trivial
  -- the lower end, then the upper one
  let F : Option Int → Option Int → Store → Res D := fun l h st => match dx with
    | .tup xs => .ok (.tup (cutD xs l h)) st
    | .lst xs => .ok (.lst (cutD xs l h)) st
    | _ => .bad
  have h1' : OKr X.K M H1 ((evalEs C G el Γ st1).bind fun l st => match partI l with | some l => ((evalEs C G eh Γ st).bind fun h st => match partI h with | some h => F l h st | none => .bad) | none => .bad) (PD X.K Q) := by
    cases q : evalEs C G el Γ st1 with
    | exc _ _ _ => rw [q] at h1; exact h1
    | bad => rw [q] at h1; exact h1
    | ok l st2 =>
      rw [q] at h1
      replace h1 : OKr X.K M H1 ((evalEs C G eh Γ st2).bind fun h st => match dx, partI l, partI h with
        | .tup xs, some l, some h => .ok (.tup (cutD xs l h)) st
        | .lst xs, some l, some h => .ok (.lst (cutD xs l h)) st
        | _, _, _ => .bad) (PD X.K Q) := h1
      show OKr X.K M H1 (match partI l with | some l => ((evalEs C G eh Γ st2).bind fun h st => match partI h with | some h => F l h st | none => .bad) | none => .bad) (PD X.K Q)
      cases q2 : evalEs C G eh Γ st2 with
      | exc _ _ _ =>
        rw [q2] at h1
        cases partI l <;> exact h1
      | bad =>
        rw [q2] at h1
        cases partI l <;> exact h1
      | ok hh st3 =>
        rw [q2] at h1
        replace h1 : OKr X.K M H1 (match dx, partI l, partI hh with
          | .tup xs, some l, some h => .ok (.tup (cutD xs l h)) st3
          | .lst xs, some l, some h => .ok (.lst (cutD xs l h)) st3
          | _, _, _ => .bad) (PD X.K Q) := h1
        cases e1 : partI l with
        | none => rw [e1] at h1; cases dx <;> exact h1
        | some l' =>
          show OKr X.K M H1 (match partI hh with | some h => F l' h st3 | none => .bad) (PD X.K Q)
          cases e2 : partI hh with
          | none => rw [e1, e2] at h1; cases dx <;> exact h1
          | some h' =>
            rw [e1, e2] at h1
            show OKr X.K M H1 (F l' h' st3) (PD X.K Q)
            cases dx <;> exact h1
  refine ⟨Γ, M, st1, rE1, rS1, D, _, _, h1', fun l st2 M2 H2 x2 rE2 rS2 h2 => ?_⟩
  refine ⟨Γ, M2, st2, rE2, rS2, D, _, _, h2, fun u st3 M3 H3 x3 rE3 rS3 h3 => ?_⟩
  have rx3 := Rep.ext (x2.trans x3) dx vx rx
  replace h3 : OKr X.K M3 H3 (F l u st3) (PD X.K Q) := h3
  cases dx with
  | tup xs =>
    obtain ⟨p, vs, ev, f, r⟩ := rx3.tup_inv
    have hc := r.cut l u
    refine .inl ⟨p, vs, ev, f.sq, fun hw => ?_, fun _ p hp => h3.at_ (Ext.alloc rS3 hp) (rS3.alloc hp) _ (rep_tup rS3 hp hc)⟩
    refine h3.now rS3 _ ?_
    have e1 := Reps.length _ _ r
    have ec : cutD xs l u = xs := by
      unfold cutD
      rw [e1] at hw
      rw [hw.1, hw.2, List.drop_zero, Nat.sub_zero, List.take_length]
    rw [ec]
    unfold Rep
    exact ⟨p, vs, rfl, f, r⟩
  | lst xs =>
    obtain ⟨p, vs, ev, f, r⟩ := rx3.lst_inv
    exact .inr ⟨p, vs, ev, f.sq, fun p hp => h3.at_ (Ext.alloc rS3 hp) (rS3.alloc hp) _ (rep_lst rS3 hp (r.cut l u))⟩
  | _ => exact h3.elim
theorem r_rev {k : Nat} {p1 p2 p3 : Pos} (ha : PE X a (tE X.K C G ea)) : PE X (.Subscript a (.Slice none none (some (.UnaryOp .USub (.Constant (.int 1) k p1) p2)) p3) pos) (tE X.K C G (.rev ea)) := by
  refine (pe_revL ha).imp fun σ H Q h => ?_
  obtain ⟨Γ, L, st, rE, rS, h⟩ := h
  unfold evalE at h
  refine sE rE rS h fun dx st1 vx M H1 x rE1 rS1 rx h1 => ?_
  cases dx with
  | lst xs =>
    obtain ⟨p, vs, ev, f, r⟩ := rx.lst_inv
    exact ⟨p, vs, ev, f.sq, fun p hp => h1.at_ (Ext.alloc rS1 hp) (rS1.alloc hp) _ (rep_lst rS1 hp (Reps.reverse _ _ r))⟩
  | _ => exact h1.elim

/-! ### built-ins -/
def rBlt (K : PySem.W.Frag) (b : Blt) : List V → Hp → VK → Prop := fun vs H Q => ∃ L st ds d, RelSt K L H st ∧ Reps K L H ds vs ∧ blt b ds st = some d ∧ OKr K L H (.ok d st) (PD K Q)
def bltV : Blt → Value
  | .len => .builtin "len" | .abs => .builtin "abs" | .int_ => .type "int" | .min2 => .builtin "min" | .max2 => .builtin "max" | .tuple => .type "tuple" | .list => .type "list" | .all => .builtin "all" | .any => .builtin "any" | .sum => .builtin "sum" | .str => .type "str" | .repr => .builtin "repr" | .min1 => .builtin "min" | .max1 => .builtin "max"
theorem Reps.one {K : PySem.W.Frag} {L : LL} {H : Hp} {d : D} {vs : List V} (h : Reps K L H [d] vs) : ∃ v, vs = [v] ∧ Rep K L H d v := by
  unfold Reps at h
  obtain ⟨v, r, e, h1, h2⟩ := h
  unfold Reps at h2
  rw [h2] at e
  exact ⟨v, e, h1⟩
theorem Reps.two {K : PySem.W.Frag} {L : LL} {H : Hp} {d d' : D} {vs : List V} (h : Reps K L H [d, d'] vs) : ∃ v v', vs = [v, v'] ∧ Rep K L H d v ∧ Rep K L H d' v' := by
  unfold Reps at h
  obtain ⟨v, r, e, h1, h2⟩ := h
  obtain ⟨v', e2, h3⟩ := h2.one
  rw [e2] at e
  exact ⟨v, v', e, h1, h3⟩
theorem allB_rep {K : PySem.W.Frag} {L : LL} {H : Hp} : ∀ (xs : List D) (vs : List V) (bs : List Bool), Reps K L H xs vs → allB xs = some bs → vs = bs.map V.bl
  | [], _, _, r, h => by
    unfold Reps at r; unfold allB at h; cases h; rw [r]; rfl
  | d :: xs, _, bs, r, h => by
    unfold Reps at r
    obtain ⟨v, t, e, h1, h2⟩ := r
    cases d with
    | bl b =>
      unfold allB at h
      cases q : allB xs with
      | none => rw [q] at h; cases h
      | some bs' =>
        rw [q] at h
        cases h
        rw [e, h1.bl_inv, allB_rep xs t bs' h2 q]
        rfl
    | _ => unfold allB at h; cases h
theorem allI_rep {K : PySem.W.Frag} {L : LL} {H : Hp} : ∀ (xs : List D) (vs : List V) (bs : List Int), Reps K L H xs vs → allI xs = some bs → vs = bs.map V.int
  | [], _, _, r, h => by
    unfold Reps at r; unfold allI at h; cases h; rw [r]; rfl
  | d :: xs, _, bs, r, h => by
    unfold Reps at r
    obtain ⟨v, t, e, h1, h2⟩ := r
    cases d with
    | int b =>
      unfold allI at h
      cases q : allI xs with
      | none => rw [q] at h; cases h
      | some bs' =>
        rw [q] at h
        cases h
        rw [e, h1.int_inv, allI_rep xs t bs' h2 q]
        rfl
    | _ => unfold allI at h; cases h
theorem itemsL_sq {K : PySem.W.Frag} {L : LL} {H : Hp} {x : D} {v : V} {st : Store} {xs : List D} (rv : Rep K L H x v) (rS : RelSt K L H st) (h : itemsL x st = some xs) : ∃ a vs, v = .ref a ∧ SqL K H a vs ∧ Reps K L H xs vs := by
  unfold itemsL at h
  split at h
  · cases h
  · rename_i hn
    cases x with
    | lst ys =>
      cases h
      obtain ⟨a, vs, e, f, r⟩ := rv.lst_inv
      exact ⟨a, vs, e, f.sq, r⟩
    | ref i =>
      unfold items at h
      unfold Rep at rv
      obtain ⟨o, e, k⟩ := rv
      simp only at h
      split at h
      · rename_i ys q
        cases h
        obtain ⟨a, vs, e1, e2, r⟩ := rS.cell i _ q
        rw [e1] at e
        cases e
        exact ⟨a, vs, k a rfl, .inl (.inl e2), r⟩
      · cases h
    | tup _ => exact absurd rfl (hn _)
    | _ => unfold items at h; cases h
theorem reads_ints {h : Heap} : ∀ {ns : List Int} {us : List Value}, Vals (ns.map V.int) us → ReadsAll h us (ns.map PyData.int) []
  | [], us, r => by cases r; exact .nil
  | n :: ns, us, r => by
    cases r with
    | cons r1 r2 =>
      obtain ⟨t, rfl⟩ := r1
      exact .cons (as := []) (bs := []) (.int _ _) (reads_ints r2)
theorem alike_ints (ns : List Int) : PySem.W.AlikeAll (ns.map PyData.int) := by
  refine ⟨fun x hx y hy => ?_, fun x hx => ?_⟩
  · obtain ⟨i, _, rfl⟩ := List.mem_map.mp hx
    obtain ⟨j, _, rfl⟩ := List.mem_map.mp hy
    unfold PySem.W.alike
    rfl
  · obtain ⟨i, _, rfl⟩ := List.mem_map.mp hx
    exact fun e => by cases e
theorem depth_ints : ∀ ns : List Int, PyData.depthAll (ns.map PyData.int) = 0
  | [] => by unfold PyData.depthAll; rfl
  | n :: ns => by
    rw [List.map_cons]
    unfold PyData.depthAll
    rw [depth_ints ns]
    unfold PyData.depth
    rfl
theorem isTuple_of {h : Heap} {a : Addr} {its : Array Value} (t : IsTup h a its) : h.IsTuple a its := t
theorem call_maxT (hc : X.calm = true) (hu : X.A.units + 65 < cLine) : CallR X (.builtin "max") (fun xs H Q => ∃ a n ns, xs = [.ref a] ∧ SqT X.K H a ((n :: ns).map V.int) ∧ Q (.int (ns.foldl max n)) H) := by
  intro pins s σ H vs us Q I r h
  obtain ⟨a, n, ns, rfl, hs, q⟩ := h
  obtain ⟨its, rv, ht, _⟩ := I.tuple hs
  rw [Vals.ref1 r]
  refine PySem.W.max_tuple_data (I.ok.hd hc) (isTuple_of ht) (x := .int n) (xs := ns.map .int) (reads_ints rv) (alike_ints (n :: ns)) (by rw [show PyData.int n :: ns.map PyData.int = (n :: ns).map PyData.int from rfl, depth_ints]; omega) fun i v h' tk bs _ hr hk => ?_
  rw [PySem.W.maxD_ints] at hr
  cases hr
  exact ⟨.int _, H, I.kept hk, ⟨_, rfl⟩, q⟩
theorem call_minT (hc : X.calm = true) (hu : X.A.units + 65 < cLine) : CallR X (.builtin "min") (fun xs H Q => ∃ a n ns, xs = [.ref a] ∧ SqT X.K H a ((n :: ns).map V.int) ∧ Q (.int (ns.foldl min n)) H) := by
  intro pins s σ H vs us Q I r h
  obtain ⟨a, n, ns, rfl, hs, q⟩ := h
  obtain ⟨its, rv, ht, _⟩ := I.tuple hs
  rw [Vals.ref1 r]
  refine PySem.W.min_tuple_data (I.ok.hd hc) (isTuple_of ht) (x := .int n) (xs := ns.map .int) (reads_ints rv) (alike_ints (n :: ns)) (by rw [show PyData.int n :: ns.map PyData.int = (n :: ns).map PyData.int from rfl, depth_ints]; omega) fun i v h' tk bs _ hr hk => ?_
  rw [PySem.W.minD_ints] at hr
  cases hr
  exact ⟨.int _, H, I.kept hk, ⟨_, rfl⟩, q⟩
theorem call_maxL (hc : X.calm = true) (hu : X.A.units + 65 < cLine) : CallR X (.builtin "max") (fun xs H Q => ∃ a n ns, xs = [.ref a] ∧ SqL X.K H a ((n :: ns).map V.int) ∧ Q (.int (ns.foldl max n)) H) := by
  intro pins s σ H vs us Q I r h
  obtain ⟨a, n, ns, rfl, hs, q⟩ := h
  obtain ⟨its, rv, hl, _⟩ := I.list hs
  rw [Vals.ref1 r]
  refine PySem.W.max_list_data (I.ok.hd hc) hl.isList (x := .int n) (xs := ns.map .int) (reads_ints rv) (alike_ints (n :: ns)) (by rw [show PyData.int n :: ns.map PyData.int = (n :: ns).map PyData.int from rfl, depth_ints]; omega) fun i v h' tk bs _ hr hk => ?_
  rw [PySem.W.maxD_ints] at hr
  cases hr
  exact ⟨.int _, H, I.kept hk, ⟨_, rfl⟩, q⟩
theorem call_minL (hc : X.calm = true) (hu : X.A.units + 65 < cLine) : CallR X (.builtin "min") (fun xs H Q => ∃ a n ns, xs = [.ref a] ∧ SqL X.K H a ((n :: ns).map V.int) ∧ Q (.int (ns.foldl min n)) H) := by
  intro pins s σ H vs us Q I r h
  obtain ⟨a, n, ns, rfl, hs, q⟩ := h
  obtain ⟨its, rv, hl, _⟩ := I.list hs
  rw [Vals.ref1 r]
  refine PySem.W.min_list_data (I.ok.hd hc) hl.isList (x := .int n) (xs := ns.map .int) (reads_ints rv) (alike_ints (n :: ns)) (by rw [show PyData.int n :: ns.map PyData.int = (n :: ns).map PyData.int from rfl, depth_ints]; omega) fun i v h' tk bs _ hr hk => ?_
  rw [PySem.W.minD_ints] at hr
  cases hr
  exact ⟨.int _, H, I.kept hk, ⟨_, rfl⟩, q⟩
theorem call_blt (hc : X.calm = true) (hu : X.A.units + 65 < cLine) (b : Blt) : CallR X (bltV b) (rBlt X.K b) := by
  intro pins s σ H vs us Q I rv h
  obtain ⟨L, st, ds, d, rS, r, e, h⟩ := h
  unfold blt at e
  split at e
  · -- len
    rename_i x
    obtain ⟨v, rfl, r1⟩ := r.one
    split at e
    · split at e
      · rename_i c
        cases e
        refine call_len pins s σ H _ us Q I rv ⟨v, _, rfl, ?_, h.now rS _ (rep_int _)⟩
        rw [r1.str_inv]
        exact ⟨lim_le c, rfl⟩
      · cases e
    · cases q : items x st with
      | none => rw [q] at e; cases e
      | some xs =>
        rw [q] at e
        cases e
        obtain ⟨a, ws, ev, sq, rr⟩ := items_sq r1 rS q
        have el := Reps.length _ _ rr
        refine call_len pins s σ H _ us Q I rv ⟨v, ws.length, rfl, ?_, by rw [el]; exact h.now rS _ (rep_int _)⟩
        rw [ev]
        rcases sq with sq | sq
        · exact .inl ⟨ws, sq, rfl⟩
        · exact .inr ⟨ws, sq, rfl⟩
  · cases e
    obtain ⟨v, rfl, r1⟩ := r.one
    exact call_abs pins s σ H _ us Q I rv ⟨_, by rw [r1.int_inv], h.now rS _ (rep_int _)⟩
  · cases e
    obtain ⟨v, rfl, r1⟩ := r.one
    exact call_int1 pins s σ H _ us Q I rv (.inl ⟨_, by rw [r1.int_inv], h.now rS _ (rep_int _)⟩)
  · cases e
    obtain ⟨v, rfl, r1⟩ := r.one
    exact call_int1 pins s σ H _ us Q I rv (.inr ⟨_, by rw [r1.bl_inv], h.now rS _ (rep_int _)⟩)
  · cases e
    obtain ⟨v, v', rfl, r1, r2⟩ := r.two
    exact call_min2 hc pins s σ H _ us Q I rv ⟨_, _, by rw [r1.int_inv, r2.int_inv], h.now rS _ (rep_int _)⟩
  · cases e
    obtain ⟨v, v', rfl, r1, r2⟩ := r.two
    exact call_max2 hc pins s σ H _ us Q I rv ⟨_, _, by rw [r1.int_inv, r2.int_inv], h.now rS _ (rep_int _)⟩
  · -- tuple
    rename_i x
    obtain ⟨v, rfl, r1⟩ := r.one
    cases x with
    | tup ys =>
      cases e
      obtain ⟨a, ws, ev, f, rr⟩ := r1.tup_inv
      refine call_tuple_of pins s σ H _ us Q I rv ⟨a, ws, by rw [ev], .inr ⟨f.sq, ?_⟩⟩
      refine h.now rS _ ?_
      unfold Rep
      exact ⟨a, ws, rfl, f, rr⟩
    | lst ys =>
      cases e
      obtain ⟨a, ws, ev, f, rr⟩ := r1.lst_inv
      exact call_tuple_of pins s σ H _ us Q I rv ⟨a, ws, by rw [ev], .inl ⟨f.sq, fun p hp => h.at_ (Ext.alloc rS hp) (rS.alloc hp) _ (rep_tup rS hp rr)⟩⟩
    | ref i =>
      cases q : itemsL (.ref i) st with
      | none =>
        have q' : items (.ref i) st = none := q
        rw [q'] at e; cases e
      | some xs =>
        have q' : items (.ref i) st = some xs := q
        rw [q'] at e
        cases e
        obtain ⟨a, ws, ev, sq, rr⟩ := itemsL_sq r1 rS q
        exact call_tuple_of pins s σ H _ us Q I rv ⟨a, ws, by rw [ev], .inl ⟨sq, fun p hp => h.at_ (Ext.alloc rS hp) (rS.alloc hp) _ (rep_tup rS hp rr)⟩⟩
    | _ => unfold items at e; cases e
  · -- list
    rename_i x
    obtain ⟨v, rfl, r1⟩ := r.one
    cases q : items x st with
    | none => rw [q] at e; cases e
    | some xs =>
      rw [q] at e
      cases e
      obtain ⟨a, ws, ev, sq, rr⟩ := items_sq r1 rS q
      exact call_list_of pins s σ H _ us Q I rv ⟨a, ws, by rw [ev], sq, fun p hp => h.at_ (Ext.alloc rS hp) (rS.alloc hp) _ (rep_lst rS hp rr)⟩
  · -- all
    rename_i x
    obtain ⟨v, rfl, r1⟩ := r.one
    cases q : itemsL x st with
    | none => rw [q] at e; cases e
    | some xs =>
      rw [q] at e
      replace e : (allB xs).map (fun bs => D.bl (bs.all id)) = some d := e
      cases q2 : allB xs with
      | none => rw [q2] at e; cases e
      | some bs =>
        rw [q2] at e
        cases e
        obtain ⟨a, ws, ev, sq, rr⟩ := itemsL_sq r1 rS q
        have ew := allB_rep _ _ _ rr q2
        subst ew
        exact cr_all hc pins s σ H _ us Q I rv ⟨a, bs, by rw [ev], sq, h.now rS _ (rep_bl _)⟩
  · rename_i x
    obtain ⟨v, rfl, r1⟩ := r.one
    cases q : itemsL x st with
    | none => rw [q] at e; cases e
    | some xs =>
      rw [q] at e
      replace e : (allB xs).map (fun bs => D.bl (bs.any id)) = some d := e
      cases q2 : allB xs with
      | none => rw [q2] at e; cases e
      | some bs =>
        rw [q2] at e
        cases e
        obtain ⟨a, ws, ev, sq, rr⟩ := itemsL_sq r1 rS q
        have ew := allB_rep _ _ _ rr q2
        subst ew
        exact cr_any hc pins s σ H _ us Q I rv ⟨a, bs, by rw [ev], sq, h.now rS _ (rep_bl _)⟩
  · rename_i x
    obtain ⟨v, rfl, r1⟩ := r.one
    cases q : itemsL x st with
    | none => rw [q] at e; cases e
    | some xs =>
      rw [q] at e
      replace e : (allI xs).map (fun bs => D.int bs.sum) = some d := e
      cases q2 : allI xs with
      | none => rw [q2] at e; cases e
      | some bs =>
        rw [q2] at e
        cases e
        obtain ⟨a, ws, ev, sq, rr⟩ := itemsL_sq r1 rS q
        have ew := allI_rep _ _ _ rr q2
        subst ew
        exact cr_sum hc pins s σ H _ us Q I rv ⟨a, bs, by rw [ev], sq, h.now rS _ (rep_int _)⟩
  · obtain ⟨v, rfl, r1⟩ := r.one
    split at e
    · rename_i c
      cases e
      exact call_str_int pins s σ H _ us Q I rv ⟨_, by rw [r1.int_inv], c, h.now rS _ (rep_str _)⟩
    · cases e
  · cases e
    rename_i b
    obtain ⟨v, rfl, r1⟩ := r.one
    obtain ⟨u, rfl, ru⟩ := vals1 rv
    rw [r1.bl_inv] at ru
    cases ru
    exact PySem.P.repr_of_bool ⟨.str _, H, I.tok _, ⟨_, rfl⟩, h.now rS _ (rep_str _)⟩
  · rename_i x
    obtain ⟨v, rfl, r1⟩ := r.one
    obtain ⟨ys, q, e⟩ := Option.bind_eq_some_iff.mp e
    obtain ⟨bs, q2, e⟩ := Option.bind_eq_some_iff.mp e
    cases bs with
    | nil => cases e
    | cons n ns =>
      cases e
      cases x with
      | tup zs =>
        cases q
        obtain ⟨a, ws, ev, f, rr⟩ := r1.tup_inv
        have ew := allI_rep _ _ _ rr q2
        subst ew
        exact call_minT hc hu pins s σ H _ us Q I rv ⟨a, n, ns, by rw [ev], f.sq, h.now rS _ (rep_int _)⟩
      | _ =>
        obtain ⟨a, ws, ev, sq, rr⟩ := itemsL_sq r1 rS q
        have ew := allI_rep _ _ _ rr q2
        subst ew
        exact call_minL hc hu pins s σ H _ us Q I rv ⟨a, n, ns, by rw [ev], sq, h.now rS _ (rep_int _)⟩
  · rename_i x
    obtain ⟨v, rfl, r1⟩ := r.one
    obtain ⟨ys, q, e⟩ := Option.bind_eq_some_iff.mp e
    obtain ⟨bs, q2, e⟩ := Option.bind_eq_some_iff.mp e
    cases bs with
    | nil => cases e
    | cons n ns =>
      cases e
      cases x with
      | tup zs =>
        cases q
        obtain ⟨a, ws, ev, f, rr⟩ := r1.tup_inv
        have ew := allI_rep _ _ _ rr q2
        subst ew
        exact call_maxT hc hu pins s σ H _ us Q I rv ⟨a, n, ns, by rw [ev], f.sq, h.now rS _ (rep_int _)⟩
      | _ =>
        obtain ⟨a, ws, ev, sq, rr⟩ := itemsL_sq r1 rS q
        have ew := allI_rep _ _ _ rr q2
        subst ew
        exact call_maxL hc hu pins s σ H _ us Q I rv ⟨a, n, ns, by rw [ev], sq, h.now rS _ (rep_int _)⟩
  · cases e
theorem r_blt (hc : X.calm = true) (hu : X.A.units + 65 < cLine) {b : Blt} {x : Str} {p : Pos} (hx : x = bltName b) (hg : Gl X x) (hm : X.mg x = none) (ha : PA X (a :: as) (tEs X.K C G es))
    (he : starEach (a :: as) X.env = (false, eval a X.env) :: starEach as X.env) (hpl : (backTo pos (starEach as X.env)).any (·.1) = false) : PE X (.Call (.Name x p) (a :: as) [] pos) (tE X.K C G (.blt b es)) := by
  have key : PE X (.Call (.Name x p) (a :: as) [] pos) (tCB (rBlt X.K b) (tEs X.K C G es)) := by
    cases b <;> subst hx <;> first
      | exact pe_callB (call_blt hc hu _) hg hm (by decide +kernel) ha (by decide) (by decide) he hpl
      | exact pe_callTy (call_blt hc hu _) hg hm (by decide +kernel) ha (by decide) (by decide) he hpl
  refine key.imp fun σ H Q h => ?_
  obtain ⟨Γ, L, st, rE, rS, h⟩ := h
  unfold evalE at h
  refine sEs rE rS h fun ds st1 vs M H1 x rE1 rS1 rvs h1 => ?_
  obtain ⟨d, e, h2⟩ := h1.lift
  exact ⟨M, st1, ds, d, rS1, rvs, e, h2⟩
end
end DL

set_option Elab.async false
set_option linter.all false
set_option maxRecDepth 100000
set_option maxHeartbeats 2000000
set_option autoImplicit false
/-! DenE: isinstance, append, calls of defs, what is walked, comprehensions. -/
namespace DL
open PySem PySem.Spec PyProof.Rows L2
section
variable {X : Cx} {C : Call} {G : Nat → D} {pos : Pos} {a b c : Expr} {ea eb ec : IE} {as : List Expr} {es : IEs}
theorem rep_ty {K : PySem.W.Frag} {L : LL} {H : Hp} {d : D} {v : V} {st : Store} {n : String} (r : Rep K L H d v) (rS : RelSt K L H st) (h : tyOf d st = some n) : TyX K H v (.type n) := by
  unfold tyOf at h
  cases d with
  | non => cases h; unfold Rep at r; rw [r]; exact .base .non
  | bl b => cases h; rw [r.bl_inv]; exact .base (.bl b)
  | int b => cases h; rw [r.int_inv]; exact .base (.int b)
  | str b => cases h; rw [r.str_inv]; exact .base (.str b)
  | tup xs =>
    cases h
    obtain ⟨a, vs, e, f, _⟩ := r.tup_inv
    rw [e]
    rcases f with ⟨_, f | ⟨o, f⟩⟩ | ⟨o, its, n, f1, f2, _⟩
    · exact .base (.tup f)
    · exact .fTuple f
    · exact .kTuple f1 f2
  | lst xs =>
    cases h
    obtain ⟨a, vs, e, f, _⟩ := r.lst_inv
    rw [e]
    rcases f with ⟨_, f | ⟨o, f⟩⟩ | ⟨o, its, n, f1, f2, _⟩
    · exact .base (.lst f)
    · exact .base (.frz f)
    · exact .kList f1 f2
  | dct _ _ =>
    cases h
    unfold Rep at r
    obtain ⟨_, _, a, e, _, f⟩ := r
    rw [e]
    exact .base (.dK f)
  | ref i =>
    unfold Rep at r
    obtain ⟨o, e, k⟩ := r
    simp only at h
    split at h
    · rename_i ys q
      cases h
      obtain ⟨a, vs, e1, e2, _⟩ := rS.cell i _ q
      rw [e1] at e
      cases e
      rw [k a rfl]
      exact .base (.lst e2)
    · rename_i ks vs q
      exact (rS.cell i _ q).elim
    · cases h
  | fn _ => cases h
theorem isi_ty {d : D} {t : Ty} {st : Store} {k : Bool} (h : isiD d t st = some k) : ∃ n, tyOf d st = some n ∧ kitB n t.nm = some k := by
  unfold isiD at h
  unfold tyOf
  cases d with
  | ref i =>
    simp only at h ⊢
    split at h
    · rename_i ys q
      cases h
      exact ⟨"list", by rw [q], by cases t <;> decide +kernel⟩
    · cases h
  | fn _ => cases h
  | non => cases h; exact ⟨_, rfl, by cases t <;> decide +kernel⟩
  | bl _ => cases h; exact ⟨_, rfl, by cases t <;> decide +kernel⟩
  | int _ => cases h; exact ⟨_, rfl, by cases t <;> decide +kernel⟩
  | str _ => cases h; exact ⟨_, rfl, by cases t <;> decide +kernel⟩
  | tup _ => cases h; exact ⟨_, rfl, by cases t <;> decide +kernel⟩
  | lst _ => cases h; exact ⟨_, rfl, by cases t <;> decide +kernel⟩
  | dct _ _ => cases h; exact ⟨_, rfl, by cases t <;> decide +kernel⟩
theorem boot_ty (t : Ty) : bootBuiltins (Str.ofString t.nm) = some (.type t.nm) := by cases t <;> decide +kernel
theorem r_isi {x y : Str} {p p2 : Pos} {t : Ty} (hx : x = ("isinstance" : Str)) (hy : y = Str.ofString t.nm) (hg : Gl X x) (hg2 : Gl X y) (hm : X.mg x = none) (hm2 : X.mg y = none) (ha : PE X a (tE X.K C G ea))
    (he : starEach [a, .Name y p2] X.env = (false, eval a X.env) :: starEach [.Name y p2] X.env) (hpl : (backTo pos (starEach [.Name y p2] X.env)).any (·.1) = false) : PE X (.Call (.Name x p) [a, .Name y p2] [] pos) (tE X.K C G (.isi ea t)) := by
  have pb : PE X (.Name y p2) (tC (.ty t.nm)) := by
    subst hy
    refine pe_bltn hg2 hm2 (boot_ty t) rfl ?_ ?_
    · cases t <;> decide
    · cases t <;> decide
  subst hx
  refine (pe_callB call_isi hg hm (by decide +kernel) (pa_cons ha (pa_cons pb pa_nil) he) (by decide) (by decide) he hpl).imp fun σ H Q h => ?_
  obtain ⟨Γ, L, st, rE, rS, h⟩ := h
  unfold evalE at h
  refine sE rE rS h fun dx st1 vx M H1 x rE1 rS1 rx h1 => ?_
  obtain ⟨d, e, h2⟩ := h1.lift
  obtain ⟨k, e2, rfl⟩ := map_bl e
  obtain ⟨n, e3, e4⟩ := isi_ty e2
  exact ⟨vx, .ty t.nm, .type n, .type t.nm, k, rfl, .ty _, rep_ty rx rS1 e3, kit_ty e4, h2.now rS1 _ (rep_bl _)⟩
/-! ### xs.append(y) -/
theorem r_app {apos : Pos} (ho : PE X a (tE X.K C G ea)) (hb : PE X b (tE X.K C G eb)) (hbase : attributeBase a "append" X.env (eval a X.env) = eval a X.env) (hline : (apos.endLine == pos.line) = true) (hs : starEach [b] X.env = [(false, eval b X.env)]) :
    PE X (.Call (.Attribute a "append" apos) [b] [] pos) (tE X.K C G (.app ea eb)) := by
  refine (pe_bm PySem.F.plainAttrs_list PySem.F.slot_list_append PySem.F.type_list_append mt_append ho (pa_cons hb pa_nil hs) hbase (by rw [hs]; rfl) hline hs (by rfl)).imp fun σ H Q h => ?_
  obtain ⟨Γ, L, st, rE, rS, h⟩ := h
  unfold evalE at h
  refine sE rE rS h fun dx st1 vx M H1 x rE1 rS1 rx h1 => ?_
  cases dx with
  | ref i =>
    replace h1 : OKr X.K M H1 (match st1[i]? with
          | some (.lst _) => (evalE C G eb Γ st1).bind fun y st => (match st[i]? with
            | some (.lst xs) => if Nat.blt xs.length 16777216 = true then .ok .non (st.set i (.lst (xs ++ [y]))) else .bad
            | _ => .bad)
          | _ => .bad) (PD X.K Q) := h1
    split at h1
    · rename_i xs0 q0
      obtain ⟨p, vs0, e1, e2, _⟩ := rS1.cell i _ q0
      have ev : vx = .ref p := by
        have r := rx
        unfold Rep at r
        obtain ⟨o, e, k⟩ := r
        rw [e1] at e
        cases e
        exact k p rfl
      refine ⟨by rw [ev]; exact .inl ⟨rfl, vs0, .inl (.inl e2)⟩, ?_⟩
      refine sE rE1 rS1 h1 fun dy st2 vy M2 H2 x2 rE2 rS2 ry h2 => ?_
      split at h2
      · rename_i xs q
        split at h2
        · rename_i c
          obtain ⟨p', vs, f1, f2, rr⟩ := rS2.cell i _ q
          have ep : p' = p := by
            have := x2.old i p' (by exact (List.getElem?_eq_some_iff.mp e1).1) f1
            rw [e1] at this
            cases this; rfl
          subst ep
          refine ⟨p', vs, vy, ev, rfl, f2, ?_, ?_⟩
          · rw [Reps.length _ _ rr]; exact blt_lt c
          · have rr2 := Reps.append _ _ rr (Reps.cons ry Reps.nil)
            exact h2.at_ (Ext.write rS2 f1 f2) (rS2.write f1 rr2) _ rep_non
        · exact h2.elim
      · exact h2.elim
    · exact h1.elim
  | _ => exact h1.elim
end
end DL

set_option Elab.async false
set_option linter.all false
set_option maxRecDepth 100000
set_option maxHeartbeats 2000000
set_option autoImplicit false
/-! DenF: what is walked; comprehensions. -/
namespace DL
open PySem PySem.Spec PyProof.Rows L2
/-- J walks the data xs, from the state on in which it was made -/
structure Wk (K : PySem.W.Frag) (L0 : LL) (H0 : Hp) (J : It) (xs : List D) : Prop where
  go : ∀ i M H, Stab L0 M H0 H → i < xs.length → J.go i H
  yld : ∀ i M H x v H', Stab L0 M H0 H → xs[i]? = some x → J.yld i H v H' → ∀ st, RelSt K M H st → Ext M M H H' ∧ RelSt K M H' st ∧ Rep K M H' x v
  stop : ∀ i M H, Stab L0 M H0 H → xs.length ≤ i → J.stop i H
section
variable {K : PySem.W.Frag} {L : LL} {H : Hp}
theorem get_lt {xs : List D} {vs : List V} {i : Nat} (r : Reps K L H xs vs) (h : i < xs.length) : ∃ v, vs[i]? = some v := by
  obtain ⟨v, e, _⟩ := Reps.get xs vs i xs[i] r (List.getElem?_eq_getElem h)
  exact ⟨v, e⟩
theorem wk_tup {a : Addr} {vs : List V} {xs : List D} (f : FzT K L H a vs) (r : Reps K L H xs vs) : Wk K L H (Itt K a) xs where
  go := fun i M H' x hi => by
    obtain ⟨v, e⟩ := get_lt r hi
    exact ⟨vs, v, (f.stab x).sq, e⟩
  yld := fun i M H1 d v H' x hd hy => by
    obtain ⟨e, k⟩ := hy
    subst e
    refine fun st rS => ⟨Ext.refl _ _, rS, ?_⟩
    obtain ⟨v', e, rv⟩ := Reps.get xs vs i d (Reps.stab x xs vs r) hd
    have := k vs (f.stab x).sq
    rw [e] at this
    cases this
    exact rv
  stop := fun i M H' x hi => ⟨vs, (f.stab x).sq, by rw [Reps.length xs vs r]; exact hi⟩
theorem wk_lst {a : Addr} {vs : List V} {xs : List D} (f : FzL K L H a vs) (r : Reps K L H xs vs) : Wk K L H (Itl K a) xs where
  go := fun i M H' x hi => by
    obtain ⟨v, e⟩ := get_lt r hi
    exact ⟨vs, v, (f.stab x).sq, e⟩
  yld := fun i M H1 d v H' x hd hy => by
    obtain ⟨e, k⟩ := hy
    subst e
    refine fun st rS => ⟨Ext.refl _ _, rS, ?_⟩
    obtain ⟨v', e, rv⟩ := Reps.get xs vs i d (Reps.stab x xs vs r) hd
    have := k vs (f.stab x).sq
    rw [e] at this
    cases this
    exact rv
  stop := fun i M H' x hi => ⟨vs, (f.stab x).sq, by rw [Reps.length xs vs r]; exact hi⟩
theorem rngD_len (lo : Int) (n : Nat) : (rngD lo n).length = n := by unfold rngD; rw [List.length_map, List.length_range]
theorem rngD_get {lo : Int} {n i : Nat} {d : D} (h : (rngD lo n)[i]? = some d) : d = .int (lo + i) := by
  unfold rngD at h
  rw [List.getElem?_map] at h
  by_cases hi : i < n
  · rw [List.getElem?_range hi] at h
    cases h; rfl
  · rw [List.getElem?_eq_none (by rw [List.length_range]; omega)] at h
    cases h
theorem wk_rng (lo : Int) (n : Nat) : Wk K L H (Itr lo n) (rngD lo n) where
  go := fun i M H' x hi => by rw [rngD_len] at hi; exact hi
  yld := fun i M H1 d v H' x hd hy => by
    obtain ⟨e, k⟩ := hy
    subst e
    refine fun st rS => ⟨Ext.refl _ _, rS, ?_⟩
    rw [rngD_get hd, k]
    exact rep_int _
  stop := fun i M H' x hi => by rw [rngD_len] at hi; exact hi
theorem zipD_get : ∀ {xs ys : List D} {i : Nat} {d : D}, (zipD xs ys)[i]? = some d → ∃ x y, d = .tup [x, y] ∧ xs[i]? = some x ∧ ys[i]? = some y
  | [], _, _, _, h => by simp [zipD] at h
  | _ :: _, [], _, _, h => by simp [zipD] at h
  | x :: xs, y :: ys, 0, d, h => by
    simp only [zipD, List.getElem?_cons_zero, Option.some.injEq] at h
    exact ⟨x, y, h.symm, rfl, rfl⟩
  | x :: xs, y :: ys, i + 1, d, h => by
    simp only [zipD, List.getElem?_cons_succ] at h
    obtain ⟨x', y', e, h1, h2⟩ := zipD_get h
    exact ⟨x', y', e, by simpa using h1, by simpa using h2⟩
theorem zipD_len : ∀ (xs ys : List D), (zipD xs ys).length = min xs.length ys.length
  | [], ys => by simp [zipD]
  | _ :: _, [] => by simp [zipD]
  | x :: xs, y :: ys => by
    simp only [zipD, List.length_cons, zipD_len xs ys]
    omega
theorem rep_pair {M : LL} {H : Hp} {st : Store} {T : Addr} {x y : D} {v w : V} (rS : RelSt K M H st) (hT : H T = none) (r1 : Rep K M H x v) (r2 : Rep K M H y w) : RelSt K M (upd H T (.tup [v, w])) st ∧ Rep K M (upd H T (.tup [v, w])) (.tup [x, y]) (.ref T) :=
  ⟨rS.alloc hT, rep_tup rS hT (Reps.cons r1 (Reps.cons r2 Reps.nil))⟩
theorem wk_zipT {a b : Addr} {vs ws : List V} {xs ys : List D} (f : FzT K L H a vs) (r : Reps K L H xs vs) (g : FzT K L H b ws) (q : Reps K L H ys ws) : Wk K L H (RZ.ItzT K a b) (zipD xs ys) where
  go := fun i M H' x hi => by
    rw [zipD_len] at hi
    obtain ⟨v, e⟩ := get_lt r (show i < xs.length by omega)
    obtain ⟨w, e2⟩ := get_lt q (show i < ys.length by omega)
    exact ⟨vs, ws, v, w, (f.stab x).sq, (g.stab x).sq, e, e2⟩
  yld := fun i M H1 d v H' x hd hy => by
    obtain ⟨T, v1, v2, ev, hT, e, k1, k2⟩ := hy
    subst e
    obtain ⟨d1, d2, e, h1, h2⟩ := zipD_get hd
    obtain ⟨u1, e1, r1⟩ := Reps.get xs vs i d1 (Reps.stab x xs vs r) h1
    obtain ⟨u2, e2, r2⟩ := Reps.get ys ws i d2 (Reps.stab x ys ws q) h2
    have z1 := k1 vs (f.stab x).sq
    have z2 := k2 ws (g.stab x).sq
    rw [e1] at z1
    rw [e2] at z2
    cases z1
    cases z2
    refine fun st rS => ⟨Ext.alloc rS hT, ?_⟩
    rw [e, ev]
    exact rep_pair rS hT r1 r2
  stop := fun i M H' x hi => by
    rw [zipD_len] at hi
    refine ⟨vs, ws, (f.stab x).sq, (g.stab x).sq, ?_⟩
    rw [Reps.length xs vs r, Reps.length ys ws q]
    omega
theorem wk_zipL {a b : Addr} {vs ws : List V} {xs ys : List D} (f : FzL K L H a vs) (r : Reps K L H xs vs) (g : FzL K L H b ws) (q : Reps K L H ys ws) : Wk K L H (Itz K a b) (zipD xs ys) where
  go := fun i M H' x hi => by
    rw [zipD_len] at hi
    obtain ⟨v, e⟩ := get_lt r (show i < xs.length by omega)
    obtain ⟨w, e2⟩ := get_lt q (show i < ys.length by omega)
    exact ⟨vs, ws, v, w, (f.stab x).sq, (g.stab x).sq, e, e2⟩
  yld := fun i M H1 d v H' x hd hy => by
    obtain ⟨T, v1, v2, ev, hT, e, k1, k2⟩ := hy
    subst e
    obtain ⟨d1, d2, e, h1, h2⟩ := zipD_get hd
    obtain ⟨u1, e1, r1⟩ := Reps.get xs vs i d1 (Reps.stab x xs vs r) h1
    obtain ⟨u2, e2, r2⟩ := Reps.get ys ws i d2 (Reps.stab x ys ws q) h2
    have z1 := k1 vs (f.stab x).sq
    have z2 := k2 ws (g.stab x).sq
    rw [e1] at z1
    rw [e2] at z2
    cases z1
    cases z2
    refine fun st rS => ⟨Ext.alloc rS hT, ?_⟩
    rw [e, ev]
    exact rep_pair rS hT r1 r2
  stop := fun i M H' x hi => by
    rw [zipD_len] at hi
    refine ⟨vs, ws, (f.stab x).sq, (g.stab x).sq, ?_⟩
    rw [Reps.length xs vs r, Reps.length ys ws q]
    omega
theorem enumD_len : ∀ (n : Nat) (xs : List D), (enumD n xs).length = xs.length
  | _, [] => rfl
  | n, x :: xs => by simp only [enumD, List.length_cons, enumD_len (n + 1) xs]
theorem enumD_get : ∀ {n : Nat} {xs : List D} {i : Nat} {d : D}, (enumD n xs)[i]? = some d → ∃ x, d = .tup [.int ((n + i : Nat) : Int), x] ∧ xs[i]? = some x
  | _, [], _, _, h => by simp [enumD] at h
  | n, x :: xs, 0, d, h => by
    simp only [enumD, List.getElem?_cons_zero, Option.some.injEq] at h
    exact ⟨x, h.symm, rfl⟩
  | n, x :: xs, i + 1, d, h => by
    simp only [enumD, List.getElem?_cons_succ] at h
    obtain ⟨x', e, h1⟩ := enumD_get h
    exact ⟨x', by rw [e]; congr 4; omega, by simpa using h1⟩
theorem wk_enum {a : Addr} {vs : List V} {xs : List D} (f : FzL K L H a vs) (r : Reps K L H xs vs) : Wk K L H (Ite K a) (enumD 0 xs) where
  go := fun i M H' x hi => by
    rw [enumD_len] at hi
    obtain ⟨v, e⟩ := get_lt r hi
    exact ⟨vs, v, (f.stab x).sq, e⟩
  yld := fun i M H1 d v H' x hd hy => by
    obtain ⟨T, v1, ev, hT, e, k1⟩ := hy
    subst e
    obtain ⟨d1, e, h1⟩ := enumD_get hd
    obtain ⟨u1, e1, r1⟩ := Reps.get xs vs i d1 (Reps.stab x xs vs r) h1
    have z1 := k1 vs (f.stab x).sq
    rw [e1] at z1
    cases z1
    refine fun st rS => ⟨Ext.alloc rS hT, ?_⟩
    rw [e, ev, Nat.zero_add]
    exact rep_pair rS hT (rep_int _) r1
  stop := fun i M H' x hi => by
    rw [enumD_len] at hi
    exact ⟨vs, (f.stab x).sq, by rw [Reps.length xs vs r]; exact hi⟩
end
section
variable {X : Cx} {C : Call} {G : Nat → D} {pos : Pos} {tg a b c : Expr} {ea eb ec : IE} {as : List Expr} {es : IEs}
def tI (K : PySem.W.Frag) (C : Call) (G : Nat → D) (it : IIt) : TI := fun σ H R => ∃ Γ L st, RelE K L H σ Γ ∧ RelSt K L H st ∧ OKr K L H (evalIt C G it Γ st) (fun xs M H1 => ∀ J, Wk K M H1 J xs → R J H1)
/-- a list or a tuple -/
theorem pi_seq {l : Expr} {tl : TE} (hl : PE X l tl) : PI X tg l (fun σ H R => tl σ H fun x H1 => ∃ a, x = .ref a ∧ (((∃ xs, SqL X.K H1 a xs) ∧ R (Itl X.K a) H1) ∨ ((∃ xs, SqT X.K H1 a xs) ∧ R (Itt X.K a) H1))) := by
  refine ⟨fun pins s σ H R I h => ?_⟩
  refine thn (hl.run pins s σ H _ I h) fun v s1 ⟨x, H1, I1, r1, q1⟩ => ?_
  obtain ⟨a, e, q1⟩ := q1
  subst e
  cases r1
  rcases q1 with ⟨⟨xs, hq⟩, q⟩ | ⟨⟨xs, hq⟩, q⟩
  · obtain ⟨its, rv, p, hz⟩ := I1.list hq
    refine wpAny_pyIter_list p.isList ?_
    refine ⟨s1.heap.objs.size, [s1.heap.objs.size], _, _, H1, rfl, I1.kept (t' := s1.toks) fun b o e => Heap.get?_push_of_some _ e, turn_list a _, ⟨_, Heap.get?_push_size _ rfl, rfl, rfl⟩, fun b hb => ?_, q⟩
    have e : b = s1.heap.objs.size := by simpa using hb
    subst e
    exact I1.fpOk (Nat.le_refl _) (I1.hok.fresh (Nat.le_refl _))
  · obtain ⟨its, rv, p, hz⟩ := I1.tuple hq
    refine wpAny_pyIter_tuple (show s1.heap.IsTuple a its.toArray from p) ?_
    refine ⟨s1.heap.objs.size, [s1.heap.objs.size], _, _, H1, rfl, I1.kept (t' := s1.toks) fun b o e => Heap.get?_push_of_some _ e, turn_tuple a _, ⟨_, Heap.get?_push_size _ rfl, rfl, rfl⟩, fun b hb => ?_, q⟩
    have e : b = s1.heap.objs.size := by simpa using hb
    subst e
    exact I1.fpOk (Nat.le_refl _) (I1.hok.fresh (Nat.le_refl _))
theorem i_val (ha : PE X a (tE X.K C G ea)) : PI X tg a (tI X.K C G (.val ea)) := by
  refine (pi_seq ha).imp fun σ H R h => ?_
  obtain ⟨Γ, L, st, rE, rS, h⟩ := h
  unfold evalIt at h
  refine sE rE rS h fun dx st1 vx M H1 x rE1 rS1 rx h1 => ?_
  obtain ⟨xs, e, h2⟩ := h1.lift
  unfold still at e
  split at e
  · cases e
    obtain ⟨p, vs, ev, f, r⟩ := rx.tup_inv
    exact ⟨p, ev, .inr ⟨⟨vs, f.sq⟩, h2.now rS1 _ (wk_tup f r)⟩⟩
  · cases e
    obtain ⟨p, vs, ev, f, r⟩ := rx.lst_inv
    exact ⟨p, ev, .inl ⟨⟨vs, f.sq⟩, h2.now rS1 _ (wk_lst f r)⟩⟩
  · cases e
theorem small62_ok {i : Int} (h : small62 i = true) : -(2 ^ 62) ≤ i ∧ i < 2 ^ 62 := by
  unfold small62 at h
  rw [Bool.and_eq_true] at h
  exact ⟨of_decide_eq_true h.1, of_decide_eq_true h.2⟩
theorem i_rng1 {p : Pos} (hg : Gl X "range") (hm : X.mg "range" = none) (ha : PE X a (tE X.K C G ea)) (hs : starEach [a] X.env = [(false, eval a X.env)]) : PI X tg (.Call (.Name "range" p) [a] [] pos) (tI X.K C G (.rng1 ea)) := by
  refine (pi_range1 hg hm (pa_cons ha pa_nil hs) hs).imp fun σ H R h => ?_
  obtain ⟨Γ, L, st, rE, rS, h⟩ := h
  unfold evalIt at h
  refine sE rE rS h fun dx st1 vx M H1 x rE1 rS1 rx h1 => ?_
  cases dx with
  | int j =>
    replace h1 : OKr X.K M H1 (if small62 j = true then .ok (rngD 0 j.toNat) st1 else .bad) _ := h1
    split at h1
    · rename_i c
      obtain ⟨c1, c2⟩ := small62_ok c
      exact ⟨j, by rw [rx.int_inv], c1, c2, h1.now rS1 _ (wk_rng 0 j.toNat)⟩
    · exact h1.elim
  | _ => exact h1.elim
theorem i_rng2 {p : Pos} (hg : Gl X "range") (hm : X.mg "range" = none) (ha : PE X a (tE X.K C G ea)) (hb : PE X b (tE X.K C G eb)) (hs : starEach [a, b] X.env = [(false, eval a X.env), (false, eval b X.env)]) (hs2 : starEach [b] X.env = [(false, eval b X.env)]) :
    PI X tg (.Call (.Name "range" p) [a, b] [] pos) (tI X.K C G (.rng2 ea eb)) := by
  refine (pi_range2 hg hm (pa_cons ha (pa_cons hb pa_nil hs2) (by rw [hs, hs2])) hs hs2).imp fun σ H R h => ?_
  obtain ⟨Γ, L, st, rE, rS, h⟩ := h
  unfold evalIt at h
  refine sE rE rS h fun dx st1 vx M H1 x rE1 rS1 rx h1 => ?_
  refine sE rE1 rS1 h1 fun dy st2 vy M2 H2 x2 rE2 rS2 ry h2 => ?_
  replace rx := Rep.ext x2 dx vx rx
  cases dx with
  | int i =>
    cases dy with
    | int j =>
      replace h2 : OKr X.K M2 H2 (if (small62 i && small62 j) = true then .ok (rngD i (j - i).toNat) st2 else .bad) _ := h2
      split at h2
      · rename_i c
        rw [Bool.and_eq_true] at c
        obtain ⟨c1, c2⟩ := small62_ok c.1
        obtain ⟨c3, c4⟩ := small62_ok c.2
        exact ⟨i, j, by rw [rx.int_inv, ry.int_inv], ⟨c1, c2, c3, c4⟩, h2.now rS2 _ (wk_rng i _)⟩
      · exact h2.elim
    | _ => exact h2.elim
  | _ => exact h2.elim
theorem i_zip {p tpos : Pos} {elts : List Expr} {kk : Nat} (hg : Gl X "zip") (hm : X.mg "zip" = none) (ha : PE X a (tE X.K C G ea)) (hb : PE X b (tE X.K C G eb)) (hs : starEach [a, b] X.env = (false, eval a X.env) :: starEach [b] X.env) (hs2 : starEach [b] X.env = [(false, eval b X.env)]) :
    PI X (.Tuple elts kk tpos) (.Call (.Name "zip" p) [a, b] [] pos) (tI X.K C G (.zip ea eb)) := by
  refine (RZ.pi_zipA hg hm (pa_cons ha (pa_cons hb pa_nil hs2) hs) hs (by rw [hs2]; rfl)).imp fun σ H R h => ?_
  obtain ⟨Γ, L, st, rE, rS, h⟩ := h
  unfold evalIt at h
  refine sE rE rS h fun dx st1 vx M H1 x rE1 rS1 rx h1 => ?_
  refine sE rE1 rS1 h1 fun dy st2 vy M2 H2 x2 rE2 rS2 ry h2 => ?_
  replace rx := Rep.ext x2 dx vx rx
  cases dx with
  | tup xs =>
    cases dy with
    | tup ys =>
      obtain ⟨p, vs, ev, f, r⟩ := rx.tup_inv
      obtain ⟨p2, ws, ew, g, q⟩ := ry.tup_inv
      exact ⟨p, p2, vs, ws, by rw [ev, ew], .inr ⟨f.sq, g.sq, h2.now rS2 _ (wk_zipT f r g q)⟩⟩
    | _ => exact h2.elim
  | lst xs =>
    cases dy with
    | lst ys =>
      obtain ⟨p, vs, ev, f, r⟩ := rx.lst_inv
      obtain ⟨p2, ws, ew, g, q⟩ := ry.lst_inv
      exact ⟨p, p2, vs, ws, by rw [ev, ew], .inl ⟨f.sq, g.sq, h2.now rS2 _ (wk_zipL f r g q)⟩⟩
    | _ => exact h2.elim
  | _ => exact h2.elim
theorem i_enum {p tpos : Pos} {elts : List Expr} {kk : Nat} (hg : Gl X "enumerate") (hm : X.mg "enumerate" = none) (ha : PE X a (tE X.K C G ea)) (hs : starEach [a] X.env = [(false, eval a X.env)]) :
    PI X (.Tuple elts kk tpos) (.Call (.Name "enumerate" p) [a] [] pos) (tI X.K C G (.enum ea)) := by
  refine (pi_enum hg hm (pa_cons ha pa_nil hs) hs).imp fun σ H R h => ?_
  obtain ⟨Γ, L, st, rE, rS, h⟩ := h
  unfold evalIt at h
  refine sE rE rS h fun dx st1 vx M H1 x rE1 rS1 rx h1 => ?_
  cases dx with
  | lst xs =>
    obtain ⟨p, vs, ev, f, r⟩ := rx.lst_inv
    exact ⟨p, vs, by rw [ev], f.sq, h1.now rS1 _ (wk_enum f r)⟩
  | _ => exact h1.elim
end
end DL

set_option Elab.async false
set_option linter.all false
set_option maxRecDepth 100000
set_option maxHeartbeats 2000000
set_option autoImplicit false
/-! DenG: targets; list comprehensions. -/
namespace DL
open PySem PySem.Spec PyProof.Rows L2
mutual
def ITg.sl : ITg → List Nat
  | .slot i => [i]
  | .tup ts => ts.sl
def ITgs.sl : ITgs → List Nat
  | .nil => []
  | .cons t ts => t.sl ++ ts.sl
end
def ITgs.len : ITgs → Nat
  | .nil => 0
  | .cons _ ts => ts.len + 1
theorem asgPs_len : ∀ {ts : ITgs} {xs : List D} {Γ Γ' : Env}, asgPs ts xs Γ = some Γ' → xs.length = ts.len
  | .nil, [], _, _, _ => rfl
  | .nil, _ :: _, _, _, h => by unfold asgPs at h; cases h
  | .cons _ _, [], _, _, h => by unfold asgPs at h; cases h
  | .cons t ts, x :: xs, Γ, Γ', h => by
    unfold asgPs at h
    cases q : asgP t x Γ with
    | none => rw [q] at h; cases h
    | some Γ1 =>
      rw [q] at h
      show xs.length + 1 = ts.len + 1
      rw [asgPs_len (show asgPs ts xs Γ1 = some Γ' from h)]
theorem wipe_get (σ : L2.St) : ∀ (vs : List Nat) (j : Nat), (wipe σ vs)[j]? = if j ∈ vs ∧ j < σ.length then some none else σ[j]?
  | [], j => by simp [wipe]
  | v :: vs, j => by
    unfold wipe
    by_cases hj : v = j
    · subst hj
      by_cases hl : v < σ.length
      · rw [List.getElem?_set_self (by rw [wipe_length]; exact hl), if_pos ⟨by simp, hl⟩]
      · rw [List.getElem?_eq_none (by rw [List.length_set, wipe_length]; omega), if_neg (fun z => hl z.2), List.getElem?_eq_none (by omega)]
    · rw [List.getElem?_set_ne hj, wipe_get σ vs j]
      by_cases hm : j ∈ vs
      · simp [hm]
      · have : ¬ (j ∈ v :: vs) := by simp [hm]; exact fun e => hj e.symm
        simp [hm, this]
theorem wipe_eq {σ τ : L2.St} {vs : List Nat} (hl : σ.length = τ.length) (h : ∀ j, j ∉ vs → σ[j]? = τ[j]?) : wipe σ vs = wipe τ vs := by
  apply List.ext_getElem?
  intro j
  rw [wipe_get, wipe_get, hl]
  by_cases hm : j ∈ vs
  · by_cases hj : j < τ.length
    · rw [if_pos ⟨hm, hj⟩, if_pos ⟨hm, hj⟩]
    · rw [if_neg (fun z => hj z.2), if_neg (fun z => hj z.2), List.getElem?_eq_none (by omega), List.getElem?_eq_none (by omega)]
  · rw [if_neg (fun z => hm z.1), if_neg (fun z => hm z.1)]
    exact h j hm
theorem wipe_wipe (σ : L2.St) (vs : List Nat) : wipe (wipe σ vs) vs = wipe σ vs :=
  wipe_eq (wipe_length σ vs) fun j hj => by rw [wipe_get, if_neg (fun z => hj z.1)]
section
variable (K : PySem.W.Frag)
def tG (t : ITg) : TG := fun v σ H Q => ∃ Γ L d Γ', RelE K L H σ Γ ∧ Rep K L H d v ∧ asgP t d Γ = some Γ' ∧ ∀ σ', RelE K L H σ' Γ' → (∀ vs, (∀ i ∈ t.sl, i ∈ vs) → wipe σ' vs = wipe σ vs) → Q σ' H
def tGs (t : ITgs) : TGs := fun v σ H Q => ∃ Γ L d Γ', RelE K L H σ Γ ∧ Reps K L H d v ∧ asgPs t d Γ = some Γ' ∧ ∀ σ', RelE K L H σ' Γ' → (∀ vs, (∀ i ∈ t.sl, i ∈ vs) → wipe σ' vs = wipe σ vs) → Q σ' H
end
theorem _root_.L2.PG.imp {X : Cx} {e : Expr} {t t' : TG} (h : PG X e t) (i : ∀ v σ H Q, t' v σ H Q → t v σ H Q) : PG X e t' := ⟨fun pins s σ H v u Q I r q => h.run pins s σ H v u Q I r (i v σ H Q q)⟩
theorem _root_.L2.PGs.imp {X : Cx} {e : List Expr} {t t' : TGs} (h : PGs X e t) (i : ∀ v σ H Q, t' v σ H Q → t v σ H Q) : PGs X e t' := ⟨fun pins s σ H v u Q I r q => h.run pins s σ H v u Q I r (i v σ H Q q)⟩
theorem assignEach_star {e : Expr} {es : List Expr} {env : PySem.Env} (h : ∀ v p, e ≠ .Starred v p) : assignEach (e :: es) env = (false, assign e env) :: assignEach es env := by
  cases e <;> first | rfl | exact absurd rfl (h _ _)
section
variable {X : Cx} {pos : Pos}
theorem g_slot {i : Nat} {x : Str} (hN : X.N.Nodup) (hi : X.N[i]? = some x) (hx : Loc X.env.scope x) (hf : X.fn x = true ∨ X.env.scope.names.lookup x = some .local) : PG X (.Name x pos) (tG X.K (.slot i)) := by
  refine (pg_name hN hi hx hf).imp fun v σ H Q h => ?_
  obtain ⟨Γ, L, d, Γ', rE, r, e, k⟩ := h
  unfold asgP at e
  cases e
  refine k _ (rE.set r i) fun vs hv => ?_
  refine wipe_eq (by rw [List.length_set]) fun j hj => ?_
  exact List.getElem?_set_ne fun z => hj (by rw [← z]; exact hv i (by unfold ITg.sl; simp))
theorem g_nil : PGs X [] (tGs X.K .nil) := by
  refine pgs_nil.imp fun v σ H Q h => ?_
  obtain ⟨Γ, L, d, Γ', rE, r, e, k⟩ := h
  cases d with
  | nil =>
    unfold asgPs at e
    cases e
    unfold Reps at r
    exact ⟨r, k σ rE fun _ _ => rfl⟩
  | cons _ _ => unfold asgPs at e; cases e
theorem g_cons {e : Expr} {es : List Expr} {t : ITg} {ts : ITgs} (h1 : PG X e (tG X.K t)) (h2 : PGs X es (tGs X.K ts)) (hs : (assignEach (e :: es) X.env).map (·.2) = assign e X.env :: (assignEach es X.env).map (·.2)) : PGs X (e :: es) (tGs X.K (.cons t ts)) := by
  refine (pgs_cons h1 h2 hs).imp fun v σ H Q h => ?_
  obtain ⟨Γ, L, d, Γ', rE, r, e, k⟩ := h
  cases d with
  | nil => unfold asgPs at e; cases e
  | cons d ds =>
    unfold asgPs at e
    unfold Reps at r
    obtain ⟨v1, vr, ev, r1, r2⟩ := r
    cases q : asgP t d Γ with
    | none => rw [q] at e; cases e
    | some Γ1 =>
      rw [q] at e
      refine ⟨v1, vr, ev, Γ, L, d, Γ1, rE, r1, q, fun σ1 rE1 hw1 => ⟨Γ1, L, ds, Γ', rE1, r2, e, fun σ2 rE2 hw2 => k σ2 rE2 fun vs hv => ?_⟩⟩
      unfold ITgs.sl at hv
      rw [hw2 vs (fun i hi => hv i (List.mem_append_right _ hi)), hw1 vs (fun i hi => hv i (List.mem_append_left _ hi))]
theorem g_tup {es : List Expr} {k : Nat} {ts : ITgs} (hc : X.calm = true) (h : PGs X es (tGs X.K ts)) (hn : (assignEach es X.env).length = ts.len) (hst : (assignEach es X.env).findIdx? (·.1) = none) : PG X (.Tuple es k pos) (tG X.K (.tup ts)) := by
  refine (pg_tup hc h hn hst).imp fun v σ H Q h => ?_
  obtain ⟨Γ, L, d, Γ', rE, r, e, k⟩ := h
  cases d with
  | tup xs =>
    unfold asgP at e
    obtain ⟨a, vs, ev, f, rr⟩ := r.tup_inv
    exact ⟨a, vs, ev, f.sq, by rw [Reps.length _ _ rr]; exact asgPs_len e, Γ, L, xs, Γ', rE, rr, e, fun σ' rE' hw => k σ' rE' fun vs hv => hw vs (by unfold ITg.sl at hv; exact hv)⟩
  | _ => unfold asgP at e; cases e
end

/-! ### comprehensions -/
section
variable {K : PySem.W.Frag} {M M2 M4 : LL} {H1 H H4 : Hp} {D' : Addr}
theorem stabZ (x : Ext M ⟨M2.c, M.z⟩ H1 H) (hz : M2.z = D' :: M.z) (hD : H1 D' = none) : Stab M M2 H1 H where
  len := x.len
  old := x.old
  out := fun a o h e => by
    obtain ⟨h1, h2⟩ := x.stab.out a o h e
    refine ⟨⟨h1.1, ?_⟩, h2⟩
    rw [hz]
    intro hm
    rcases List.mem_cons.mp hm with z | z
    · rw [z, hD] at e; cases e
    · exact h1.2 z
theorem unz : Stab ⟨M2.c, D' :: M.z⟩ ⟨M2.c, M.z⟩ H H :=
  ⟨Nat.le_refl _, fun _ _ _ h => h, fun a o h e => ⟨⟨h.1, fun z => h.2 (List.mem_cons_of_mem _ z)⟩, e⟩⟩
theorem RelSt.unz {st : Store} (r : RelSt K ⟨M2.c, D' :: M.z⟩ H st) : RelSt K ⟨M2.c, M.z⟩ H st :=
  ⟨r.len, r.inj, fun i a e z => r.dis i a e (List.mem_cons_of_mem _ z), fun a ha => r.zs a (List.mem_cons_of_mem _ ha), fun i c e => (r.cell i c e).map DL.unz rfl fun _ _ => rfl⟩
theorem extZ (x : Ext M ⟨M2.c, M.z⟩ H1 H) (hz : M2.z = D' :: M.z) (hD : H1 D' = none) (y : Ext M2 M4 H H4) : Ext M ⟨M4.c, M.z⟩ H1 H4 where
  len := Nat.le_trans x.len y.len
  zz := rfl
  old := fun i a hi h => x.old i a hi (y.old i a (Nat.lt_of_lt_of_le hi x.len) h)
  new := fun i a hi h => by
    by_cases h2 : i < M2.c.length
    · exact x.new i a hi (y.old i a h2 h)
    · have e := y.new i a (Nat.le_of_not_lt h2) h
      cases q : H1 a with
      | none => rfl
      | some o =>
        obtain ⟨o', e'⟩ := x.there a o q
        rw [e] at e'; cases e'
  keep := fun a o h e => by
    obtain ⟨h1, h2⟩ := (stabZ x hz hD).out a o h e
    exact y.keep a o h1 h2
  priv := fun a ha => (y.priv a (by rw [hz]; exact List.mem_cons_of_mem _ ha)).trans (x.priv a ha)
  there := fun a o e => by
    obtain ⟨o', e'⟩ := x.there a o e
    exact y.there a o' e'
theorem extU {o : HO} (x : Ext M M2 H1 H) (hD : H1 D' = none) (hz : D' ∉ M.z) : Ext M M2 H1 (upd H D' o) where
  len := x.len
  zz := x.zz
  old := x.old
  new := x.new
  keep := fun a u h e => by rw [upd_ne (ne_of_none e hD)]; exact x.keep a u h e
  priv := fun a ha => by rw [upd_ne (fun z => hz (by rw [← z]; exact ha))]; exact x.priv a ha
  there := fun a u e => by rw [upd_ne (ne_of_none e hD)]; exact x.there a u e
theorem stabU {o : HO} (hz : D' ∈ M.z) : Stab M M H (upd H D' o) :=
  ⟨Nat.le_refl _, fun _ _ _ h => h, fun a u h e => ⟨h, by rw [upd_ne (fun z => h.2 (by rw [z]; exact hz))]; exact e⟩⟩
theorem RelSt.writeZ {st : Store} {o : HO} (r : RelSt K M H st) (hz : D' ∈ M.z) : RelSt K M (upd H D' o) st where
  len := r.len
  inj := r.inj
  dis := r.dis
  zs := fun a ha => by
    by_cases e : a = D'
    · exact ⟨o, by rw [e, upd_same]⟩
    · obtain ⟨u, q⟩ := r.zs a ha
      exact ⟨u, by rw [upd_ne e]; exact q⟩
  cell := fun i c e => (r.cell i c e).map (stabU hz) rfl fun a ea => upd_ne fun z => r.dis i a ea (by rw [z]; exact hz)
theorem RelSt.addZ {st : Store} {o : HO} (r : RelSt K M H st) (hD : H D' = none) : RelSt K ⟨M.c, D' :: M.z⟩ (upd H D' o) st := by
  have x : Ext M M H (upd H D' o) := Ext.alloc r hD
  refine ⟨r.len, r.inj, fun i a e hm => ?_, fun a ha => ?_, fun i c e => ?_⟩
  · obtain ⟨_, _, _, ha, _⟩ := r.live e
    rcases List.mem_cons.mp hm with z | z
    · rw [z, hD] at ha; cases ha
    · exact r.dis i a e z
  · rcases List.mem_cons.mp ha with z | z
    · exact ⟨o, by rw [z, upd_same]⟩
    · obtain ⟨u, q⟩ := r.zs a z
      exact ⟨u, (x.priv a z).trans q⟩
  · refine (r.cell i c e).map (stabZ (M2 := ⟨M.c, D' :: M.z⟩) x rfl hD) rfl fun a ea => ?_
    obtain ⟨_, _, _, ha, _⟩ := r.live ea
    exact upd_ne (ne_of_none ha hD)
end
section
variable {X : Cx} {C : Call} {G : Nat → D} {pos : Pos} {elt tg iter : Expr} {ifs : List Expr} {scope : Scope} {own : List (Str × Nat)} {e : IE} {t : ITg} {it : IIt} {es : IEs}
theorem comp_step {K : PySem.W.Frag} {σ : L2.St} {H : Hp} {Q : VK} {Γ : Env} {L : LL} {st : Store} (hsub : ∀ i ∈ t.sl, i ∈ own.map (·.2)) (rE : RelE K L H σ Γ) (rS : RelSt K L H st) (h : OKr K L H (evalE C G (.comp e t it own es) Γ st) (PD K Q)) :
    tLc (tI K C G it) (tG K t) (tTs K C G es) (tE K C G e) (own.map (·.2)) σ H Q := by
  unfold evalE at h
  refine ⟨Γ, L, st, rE, rS, ?_⟩
  cases q : evalIt C G it Γ st with
  | exc _ _ _ => rw [q] at h; exact h
  | bad => rw [q] at h; exact h
  | ok xs st1 =>
    rw [q] at h
    intro M H1 x1 rS1 J wk D' hD
    replace h := OKr.ext h x1
    replace rE := rE.ext x1
    generalize hvs : own.map (·.2) = vs at h hsub ⊢
    generalize hstep : (fun x st => match asgP t x (wipeΓ Γ vs) with
        | some Γ' => (evalTs C G es Γ' st).bind fun k st => if k = true then (evalE C G e Γ' st).bind fun y st => .ok (some y) st else .ok none st
        | none => (.bad : Res (Option D))) = step at h
    replace h : OKr K M H1 (if Nat.blt xs.length 16777216 = true then (compF step xs st1).bind fun ys st => .ok (.lst ys) st else .bad) (PD K Q) := h
    split at h
    · rename_i hlen
      cases q2 : compF step xs st1 with
      | exc _ _ _ => rw [q2] at h; exact h.elim
      | bad => rw [q2] at h; exact h.elim
      | ok ys st2 =>
        rw [q2] at h
        replace h : OKr K M H1 (.ok (.lst ys) st2) (PD K Q) := h
        have hDz : D' ∉ M.z := fun z => by obtain ⟨o, e⟩ := rS1.zs D' z; rw [hD] at e; cases e
        refine ⟨fun i m H' => i + m = xs.length ∧ ∃ (M2 : LL) (stc : Store) (acc : List D) (acs : List V) (rest : List D), M2.z = D' :: M.z ∧ Ext M ⟨M2.c, M.z⟩ H1 H' ∧ RelSt K M2 H' stc ∧ H' D' = some (.lst acs) ∧ Reps K M2 H' acc acs ∧
          compF step (xs.drop i) stc = .ok rest st2 ∧ ys = acc ++ rest ∧ acc.length ≤ i, ⟨xs.length, by omega, ⟨M.c, D' :: M.z⟩, st1, [], [], ys, rfl, Ext.alloc rS1 hD, rS1.addZ hD, upd_same, Reps.nil, q2, rfl, Nat.le_refl _⟩, ?_⟩
        rintro i m H' ⟨him, M2, stc, acc, acs, rest, hz, x2, rS2, hacs, racc, hc, hys, hal⟩
        have sb := stabZ x2 hz hD
        have hDm : D' ∈ M2.z := by rw [hz]; exact List.mem_cons_self
        by_cases hi : i < xs.length
        · refine .inr ⟨wk.go i M2 H' sb hi, fun H'' => i + 1 + (m - 1) = xs.length ∧ ∃ (M2 : LL) (stc : Store) (acc : List D) (acs : List V) (rest : List D), M2.z = D' :: M.z ∧ Ext M ⟨M2.c, M.z⟩ H1 H'' ∧ RelSt K M2 H'' stc ∧ H'' D' = some (.lst acs) ∧ Reps K M2 H'' acc acs ∧
            compF step (xs.drop (i + 1)) stc = .ok rest st2 ∧ ys = acc ++ rest ∧ acc.length ≤ i + 1, fun H'' w => ⟨m - 1, by omega, w⟩, fun v H3 hy => ?_⟩
          have hx : xs[i]? = some xs[i] := List.getElem?_eq_getElem hi
          obtain ⟨x3, rS3, rv⟩ := wk.yld i M2 H' xs[i] v H3 sb hx hy stc rS2
          rw [List.drop_eq_getElem_cons hi] at hc
          unfold compF at hc
          obtain ⟨o, st3, hst, hc⟩ := ok_bind hc
          obtain ⟨zs, st4, hc2, hc⟩ := ok_bind hc
          rw [← hstep] at hst
          simp only at hst
          split at hst
          · rename_i Γ' hasg
            refine ⟨wipeΓ Γ vs, M2, xs[i], Γ', ((rE.stab sb).ext x3).wipe vs, rv, hasg, fun σ2 rE2 hw => ⟨by rw [hw vs hsub, wipe_wipe], Γ', M2, stc, rE2, rS3, ?_⟩⟩
            obtain ⟨k, st5, hts, hst⟩ := ok_bind hst
            rw [hts]
            intro M4 H4 x4 rS4
            have x34 := x3.trans x4
            have hz4 : M4.z = D' :: M.z := x34.zz.trans hz
            cases k with
            | false =>
              rw [if_neg Bool.false_ne_true] at hst
              cases hst
              cases hc
              refine iteF ?_
              exact ⟨by omega, M4, _, acc, acs, zs, hz4, extZ x2 hz hD x34, rS4, (x34.priv D' hDm).trans hacs, Reps.ext x34 _ _ racc, hc2, hys, by omega⟩
            | true =>
              rw [if_pos rfl] at hst
              refine iteT ?_
              obtain ⟨y, st6, hel, hst⟩ := ok_bind hst
              cases hst
              cases hc
              refine ⟨Γ', M4, st5, rE2.ext x4, rS4, ?_⟩
              rw [hel]
              intro M5 H5 x5 rS5 w rw'
              have x35 := x34.trans x5
              have hz5 : M5.z = D' :: M.z := x35.zz.trans hz
              have hDm5 : D' ∈ M5.z := by rw [hz5]; exact List.mem_cons_self
              have ea := (x35.priv D' hDm).trans hacs
              have racc5 := Reps.ext x35 _ _ racc
              refine ⟨acs, ea, ?_, by omega, M5, st3, acc ++ [y], acs ++ [w], zs, hz5, extU (extZ x2 hz hD x35) hD hDz, rS5.writeZ hDm5, upd_same, ?_, hc2, by rw [hys, List.append_assoc]; rfl, by rw [List.length_append]; simp; omega⟩
              · rw [Reps.length _ _ racc]
                exact Nat.lt_of_le_of_lt hal (Nat.lt_trans hi (blt_lt hlen))
              · exact Reps.append _ _ (Reps.stab (stabU hDm5) _ _ racc5) (Reps.cons (Rep.stab (stabU hDm5) _ _ rw') Reps.nil)
          · cases hst
        · have ei : i = xs.length := by omega
          have hd : xs.drop i = [] := List.drop_eq_nil_of_le (by omega)
          rw [hd] at hc
          unfold compF at hc
          cases hc
          rw [List.append_nil] at hys
          subst hys
          refine .inl ⟨wk.stop i M2 H' sb (by omega), ?_⟩
          obtain ⟨c2, z2⟩ := M2
          simp only at hz
          subst hz
          refine h.at_ x2 rS2.unz _ ?_
          unfold Rep
          refine ⟨D', acs, rfl, .inl ⟨⟨fun hm => ?_, hDz⟩, .inl hacs⟩, Reps.stab unz _ _ racc⟩
          obtain ⟨j, _, ej⟩ := get_of_mem hm
          exact rS2.dis j D' ej hDm
    · exact h.elim
theorem r_comp (hc : X.calm = true) (hN : X.N.Nodup) (hi : PI X tg iter (tI X.K C G it)) (ok : BlkOk X.N X.env.scope scope own)
    (hg : ∀ (s : Shared) (H : Hp) (C' : Addr) (cl : List (Str × Addr)) (fp : List Addr), PG (X.blk s H scope (compEnvC scope cl C' X.env) fp) tg (tG X.K t)) (ht : ∀ (s : Shared) (H : Hp) (C' : Addr) (cl : List (Str × Addr)) (fp : List Addr), PTs (X.blk s H scope (compEnvC scope cl C' X.env) fp) ifs (tTs X.K C G es))
    (he : ∀ (s : Shared) (H : Hp) (C' : Addr) (cl : List (Str × Addr)) (fp : List Addr), PE (X.blk s H scope (compEnvC scope cl C' X.env) fp) elt (tE X.K C G e)) (hs : ∀ x, foldedSetIterable iter X.env x = pure x) (hsub : ∀ i ∈ t.sl, i ∈ own.map (·.2)) :
    PE X (.ListComp elt [⟨tg, iter, ifs, 0⟩] scope pos) (tE X.K C G (.comp e t it own es)) := by
  refine (pe_lc hc hN hi ok hg ht he hs).imp fun σ H Q h => ?_
  obtain ⟨Γ, L, st, rE, rS, h⟩ := h
  exact comp_step hsub rE rS h
end
end DL

set_option Elab.async false
set_option linter.all false
set_option maxRecDepth 100000
set_option maxHeartbeats 2000000
set_option autoImplicit false
/-! DenH: statements; the call of a def; a def's promise. -/
namespace DL
open PySem PySem.Spec PyProof.Rows L2
section
variable (K : PySem.W.Frag)
def PF (E : Ends) : Fl → LL → Hp → Prop
  | .nx Γ, M, H => ∀ σ, RelE K M H σ Γ → E.nx σ H
  | .rt d, M, H => ∀ v, Rep K M H d v → E.rt v H
  | .bk Γ, M, H => ∀ σ, RelE K M H σ Γ → E.bk σ H
  | .ct Γ, M, H => ∀ σ, RelE K M H σ Γ → E.ct σ H
variable (C : Call) (G : Nat → D) (N : Nat)
def tS (s : IS) : TS := fun E σ H => ∃ Γ L st, RelE K L H σ Γ ∧ RelSt K L H st ∧ OKr K L H (execS C G N s Γ st) (PF K E)
def tSs (s : ISs) : TS := fun E σ H => ∃ Γ L st, RelE K L H σ Γ ∧ RelSt K L H st ∧ OKr K L H (execSs C G N s Γ st) (PF K E)
end
section
variable {X : Cx} {C : Call} {G : Nat → D} {N : Nat} {pos : Pos} {a b c e : Expr} {ea eb ec ei : IE} {as : List Expr} {es : IEs} {t : ITg} {s : IS} {ss sa sb : ISs}
theorem sm_nil : PSs X [] (tSs X.K C G N .nil) := by
  refine pss_nil.imp fun E σ H h => ?_
  obtain ⟨Γ, L, st, rE, rS, h⟩ := h
  unfold execSs at h
  exact h.now rS σ rE
theorem seq_step {E : Ends} {σ : L2.St} {H : Hp} {K : PySem.W.Frag} (h : tSs K C G N (.cons s ss) E σ H) : tS K C G N s { E with nx := tSs K C G N ss E } σ H := by
  obtain ⟨Γ, L, st, rE, rS, h⟩ := h
  unfold execSs at h
  refine ⟨Γ, L, st, rE, rS, ?_⟩
  cases q : execS C G N s Γ st with
  | exc _ _ _ => rw [q] at h; exact h
  | bad => rw [q] at h; exact h
  | ok f st1 =>
    rw [q] at h
    intro M H1 x rS1
    cases f with
    | nx Γ' => exact fun σ' rE' => ⟨Γ', M, st1, rE', rS1, OKr.ext h x⟩
    | rt d => exact h.at_ x rS1
    | bk Γ' => exact h.at_ x rS1
    | ct Γ' => exact h.at_ x rS1
theorem sm_cons {st : Stmt} {rest : List Stmt} (h1 : PS X st (tS X.K C G N s)) (h2 : PSs X rest (tSs X.K C G N ss)) : PSs X (st :: rest) (tSs X.K C G N (.cons s ss)) :=
  (pss_cons h1 h2).imp fun E σ H h => seq_step h
/-- a cell dies: nothing of the text stands for it -/
theorem sm_frz {i : Nat} {rest : List Stmt} (h2 : PSs X rest (tSs X.K C G N ss)) : PSs X rest (tSs X.K C G N (.cons (.frz i) ss)) := by
  refine h2.imp fun E σ H h => ?_
  obtain ⟨Γ, L, st, rE, rS, h⟩ := h
  unfold execSs execS at h
  split at h
  · rename_i r q
    split at h
    · rename_i xs q2
      obtain ⟨p, vs, e1, e2, rr⟩ := rS.cell r _ q2
      obtain ⟨v, ev, rv⟩ := rE.at_ i _ q
      have evr : v = .ref p := by
        unfold Rep at rv
        obtain ⟨o, e, k⟩ := rv
        rw [e1] at e
        cases e
        exact k p rfl
      subst evr
      obtain ⟨rS2, ho⟩ := rS.kill e1
      have x : Ext L (L.kill r) H H := Ext.kill
      have rl : Rep X.K (L.kill r) H (.lst xs) (.ref p) := by
        unfold Rep
        exact ⟨p, vs, rfl, .inl ⟨ho, .inl e2⟩, Reps.ext x xs vs rr⟩
      have es : σ.set i (some (.ref p)) = σ := by
        apply List.ext_getElem?
        intro j
        by_cases hij : i = j
        · subst hij
          rw [List.getElem?_set_self (List.getElem?_eq_some_iff.mp ev).1, ev]
        · rw [List.getElem?_set_ne hij]
      have rE2 := (rE.ext x).set rl i
      rw [es] at rE2
      exact ⟨_, L.kill r, _, rE2, rS2, OKr.ext h x⟩
    · exact h.elim
  · exact h.elim
theorem s_asg {tg : Expr} (he : PE X e (tE X.K C G ea)) (hg : PG X tg (tG X.K t)) (hs : swapsWithSole [tg] e pos.line X.env = pure false) (hw : swappedStores [tg] e X.env = pure none)
    (h1 : (assignEach [tg] X.env).map (·.2) = [assign tg X.env]) : PS X (.Assign [tg] e pos) (tS X.K C G N (.asg t ea)) := by
  refine (ps_asg he hg hs hw h1).imp fun E σ H h => ?_
  obtain ⟨Γ, L, st, rE, rS, h⟩ := h
  unfold execS at h
  refine sE rE rS h fun d st1 v M H1 x rE1 rS1 rv h1 => ?_
  cases q : asgP t d Γ with
  | none => rw [q] at h1; exact h1.elim
  | some Γ' =>
    rw [q] at h1
    exact ⟨Γ, M, d, Γ', rE1, rv, q, fun σ' rE' _ => h1.now rS1 σ' rE'⟩
/-- name = value: what follows the value -/
theorem set_step {K : PySem.W.Frag} {i : Nat} {te : TE} {E : Ends} {σ : L2.St} {H : Hp} (hte : ∀ Γ L st, RelE K L H σ Γ → RelSt K L H st → ∀ Q, OKr K L H (evalE C G ea Γ st) (PD K Q) → te σ H Q) (h : tS K C G N (.asg (.slot i) ea) E σ H) : tAsg te (gName i) E σ H := by
  obtain ⟨Γ, L, st, rE, rS, h⟩ := h
  unfold execS at h
  refine hte Γ L st rE rS _ ?_
  cases q : evalE C G ea Γ st with
  | exc _ _ _ => rw [q] at h; exact h
  | bad => rw [q] at h; exact h
  | ok d st1 =>
    rw [q] at h
    intro M H1 x rS1 v rv
    replace h : OKr K L H (lift ((asgP (.slot i) d Γ).map .nx) st1) (PF K E) := h
    unfold asgP at h
    exact (OKr.ext h x).now rS1 _ ((rE.ext x).set rv i)
theorem s_set {i : Nat} {x : Str} {pos' : Pos} (hN : X.N.Nodup) (hi : X.N[i]? = some x) (hx : Loc X.env.scope x) (he : PE X e (tE X.K C G ea)) (hs : swapsWith e (some (.Name x pos')) pos.line X.env = pure false) (hf : X.fn x = true ∨ X.env.scope.names.lookup x = some .local) :
    PS X (.Assign [.Name x pos'] e pos) (tS X.K C G N (.asg (.slot i) ea)) :=
  (ps_set hN hi hx he hs hf).imp fun E σ H h => set_step (fun Γ L st rE rS Q q => ⟨Γ, L, st, rE, rS, q⟩) h
theorem s_setLc {i : Nat} {y : Str} {py spos : Pos} {elt tg iter : Expr} {ifs : List Expr} {scope : Scope} {own : List (Str × Nat)} {it : IIt} (hc : X.calm = true) (hN : X.N.Nodup) (hy : X.N[i]? = some y) (hyl : X.env.scope.names.lookup y = some .local)
    (hsw : swapsWith (.ListComp elt [⟨tg, iter, ifs, 0⟩] scope pos) (some (.Name y py)) spos.line X.env = pure true) (hi : PI X tg iter (tI X.K C G it)) (ok : BlkOk X.N X.env.scope scope own)
    (hg : ∀ (s : Shared) (H : Hp) (C' : Addr) (cl : List (Str × Addr)) (fp : List Addr), PG (X.blk s H scope (compEnvC scope cl C' X.env) fp) tg (tG X.K t)) (ht : ∀ (s : Shared) (H : Hp) (C' : Addr) (cl : List (Str × Addr)) (fp : List Addr), PTs (X.blk s H scope (compEnvC scope cl C' X.env) fp) ifs (tTs X.K C G es))
    (he : ∀ (s : Shared) (H : Hp) (C' : Addr) (cl : List (Str × Addr)) (fp : List Addr), PE (X.blk s H scope (compEnvC scope cl C' X.env) fp) elt (tE X.K C G ei)) (hs : ∀ x, foldedSetIterable iter X.env x = pure x) (hsub : ∀ i ∈ t.sl, i ∈ own.map (·.2)) :
    PS X (.Assign [.Name y py] (.ListComp elt [⟨tg, iter, ifs, 0⟩] scope pos) spos) (tS X.K C G N (.asg (.slot i) (.comp ei t it own es))) :=
  (ps_setLc hc hN hy hyl hsw hi ok hg ht he hs).imp fun E σ H h => set_step (fun Γ L st rE rS Q q => comp_step hsub rE rS q) h
theorem s_sub {spos : Pos} (ho : PE X a (tE X.K C G ea)) (hi : PE X b (tE X.K C G eb)) (he : PE X e (tE X.K C G ei)) (ha : ∀ v, assign (.Subscript a b spos) X.env v = (do
      let ov ← holding [v] (eval a X.env)
      let iv ← holding [v, ov] (eval b X.env)
      standAt spos
      holding [v, ov, iv] (setItem ov iv v)
      release [v, ov, iv] [])) (hs : swapsWithSole [.Subscript a b spos] e pos.line X.env = pure false) (hw : swappedStores [.Subscript a b spos] e X.env = pure none) : PS X (.Assign [.Subscript a b spos] e pos) (tS X.K C G N (.sub ea eb ei)) := by
  refine (ps_asg he (pg_sub ho hi set_list ha) hs hw (by rfl)).imp fun E σ H h => ?_
  obtain ⟨Γ, L, st, rE, rS, h⟩ := h
  unfold execS at h
  refine sE rE rS h fun d st1 v M H1 x rE1 rS1 rv h1 => ?_
  refine sE rE1 rS1 h1 fun dy st2 vy M2 H2 x2 rE2 rS2 ry h2 => ?_
  refine sE rE2 rS2 h2 fun dz st3 vz M3 H3 x3 rE3 rS3 rz h3 => ?_
  replace rv := Rep.ext (x2.trans x3) _ _ rv
  replace ry := Rep.ext x3 _ _ ry
  split at h3
  · rename_i r k
    split at h3
    · rename_i xs q
      split at h3
      · rename_i j q2
        obtain ⟨p, vs, e1, e2, rr⟩ := rS3.cell r _ q
        have ev : vy = .ref p := by
          unfold Rep at ry
          obtain ⟨o, e, k⟩ := ry
          rw [e1] at e
          cases e
          exact k p rfl
        refine ⟨p, vs, k, j, ev, rz.int_inv, e2, by rw [Reps.length _ _ rr]; exact q2, ?_⟩
        have x4 : Ext M3 M3 H3 (upd H3 p (.lst (vs.set j v))) := Ext.write rS3 e1 e2
        exact h3.at_ x4 (rS3.write e1 (Reps.set _ _ j rr rv)) σ (rE3.ext x4)
      · exact h3.elim
    · exact h3.elim
  · exact h3.elim
theorem s_par {i j : Nat} {x y : Str} {px py pt : Pos} {kt k2 : Nat} {pt2 : Pos} (hc : X.calm = true) (hN : X.N.Nodup) (hi : X.N[i]? = some x) (hj : X.N[j]? = some y) (hij : i ≠ j) (hx : X.env.scope.names.lookup x = some .local) (hy : X.env.scope.names.lookup y = some .local)
    (ha : PE X a (tE X.K C G ea)) (hb : PE X b (tE X.K C G eb)) (hst : starEach [a, b] X.env = (false, eval a X.env) :: starEach [b] X.env) (hst2 : starEach [b] X.env = [(false, eval b X.env)])
    (hw : swappedStores [.Tuple [.Name x px, .Name y py] kt pt] (.Tuple [a, b] k2 pt2) X.env = pure (some [x, y])) (hs : swapsWithSole [.Tuple [.Name x px, .Name y py] kt pt] (.Tuple [a, b] k2 pt2) pos.line X.env = pure false) :
    PS X (.Assign [.Tuple [.Name x px, .Name y py] kt pt] (.Tuple [a, b] k2 pt2) pos) (tS X.K C G N (.par i j ea eb)) := by
  refine (ps_par hc hN hi hj hij hx hy (pa_cons ha (pa_cons hb pa_nil hst2) hst) hw hs).imp fun E σ H h => ?_
  obtain ⟨Γ, L, st, rE, rS, h⟩ := h
  unfold execS at h
  refine sE rE rS h fun d st1 v M H1 x rE1 rS1 rv h1 => ?_
  refine sE rE1 rS1 h1 fun dy st2 vy M2 H2 x2 rE2 rS2 ry h2 => ?_
  exact ⟨v, vy, rfl, h2.now rS2 _ ((rE2.set (Rep.ext x2 _ _ rv) i).set ry j)⟩
theorem iop_mulW : OpR X (inplaceOp .Mult) (rI CMulW fun i j => .int (i * j)) := opI fun _ _ _ _ _ _ _ hc q => imul_int q hc.ok
def rAug (K : PySem.W.Frag) (op : Operator) : TIp := fun x y H Q => ∃ L st dx dy d, RelSt K L H st ∧ Rep K L H dx x ∧ Rep K L H dy y ∧ augOp op dx dy = some d ∧ OKr K L H (.ok d st) (PD K Q)
theorem ip_aug (op : Operator) : PIp X op (rAug X.K op) := by
  intro pins s σ H x y v u Q I rx ry h
  obtain ⟨L, st, dx, dy, d, rS, hx, hy, e, h⟩ := h
  unfold augOp at e
  split at e
  · cases e
    exact iop_add pins s σ H x y v u Q I rx ry ⟨_, _, hx.int_inv, hy.int_inv, h.now rS _ (rep_int _)⟩
  · cases e
    exact iop_sub pins s σ H x y v u Q I rx ry ⟨_, _, hx.int_inv, hy.int_inv, h.now rS _ (rep_int _)⟩
  · split at e
    · rename_i c
      cases e
      exact iop_mulW pins s σ H x y v u Q I rx ry ⟨_, _, hx.int_inv, hy.int_inv, mulOk_ok c, h.now rS _ (rep_int _)⟩
    · cases e
  · cases e
theorem s_aug {i : Nat} {x : Str} {pos' : Pos} {op : Operator} (hN : X.N.Nodup) (hi : X.N[i]? = some x) (hx : Loc X.env.scope x) (he : PE X e (tE X.K C G ea)) (hf : X.fn x = true ∨ X.env.scope.names.lookup x = some .local) :
    PS X (.AugAssign (.Name x pos') op e pos) (tS X.K C G N (.aug i op ea)) := by
  refine (ps_aug hN hi hx he (ip_aug op) hf).imp fun E σ H h => ?_
  obtain ⟨Γ, L, st, rE, rS, h⟩ := h
  unfold execS at h
  cases q : slotD Γ i with
  | none => rw [q] at h; exact h.elim
  | some d0 =>
    rw [q] at h
    have q' : Γ[i]? = some (some d0) := by
      unfold slotD at q
      split at q
      · cases q; assumption
      · cases q
    obtain ⟨v0, ev, rv⟩ := rE.at_ i d0 q'
    refine ⟨v0, ev, ?_⟩
    refine sE rE rS h fun dy st2 vy M2 H2 x2 rE2 rS2 ry h2 => ?_
    obtain ⟨f, e, h3⟩ := h2.lift
    cases q2 : augOp op d0 dy with
    | none => rw [q2] at e; cases e
    | some d =>
      rw [q2] at e
      cases e
      exact ⟨M2, st2, d0, dy, d, rS2, Rep.ext x2 _ _ rv, ry, q2, fun M3 H3 x3 rS3 v rv => h3.at_ x3 rS3 _ ((rE2.ext x3).set rv i)⟩
theorem s_expr (he : PE X e (tE X.K C G ea)) (hs : swapsWith e none pos.line X.env = pure false) : PS X (.Expr e pos) (tS X.K C G N (.expr ea)) := by
  refine (ps_expr he hs).imp fun E σ H h => ?_
  obtain ⟨Γ, L, st, rE, rS, h⟩ := h
  unfold execS at h
  exact sE rE rS h fun d st1 v M H1 x rE1 rS1 rv h1 => h1.now rS1 σ rE1
theorem s_ret (he : PE X e (tE X.K C G ea)) : PS X (.Return (some e) pos) (tS X.K C G N (.ret ea)) := by
  refine (ps_ret he).imp fun E σ H h => ?_
  obtain ⟨Γ, L, st, rE, rS, h⟩ := h
  unfold execS at h
  exact sE rE rS h fun d st1 v M H1 x rE1 rS1 rv h1 => h1.now rS1 v rv
theorem s_retN : PS X (.Return none pos) (tS X.K C G N .retN) := by
  refine ps_retN.imp fun E σ H h => ?_
  obtain ⟨Γ, L, st, rE, rS, h⟩ := h
  unfold execS at h
  exact h.now rS _ rep_non
theorem s_if {sta stb : List Stmt} (hc : PT X c (tB X.K C G ec)) (ha : PSs X sta (tSs X.K C G N sa)) (hb : PSs X stb (tSs X.K C G N sb)) : PS X (.If c sta stb pos) (tS X.K C G N (.ifs ec sa sb)) := by
  refine (ps_if hc ha hb).imp fun E σ H h => ?_
  obtain ⟨Γ, L, st, rE, rS, h⟩ := h
  unfold execS at h
  refine sB rE rS h fun k st1 M H1 x rE1 rS1 h1 => ?_
  cases k with
  | true => exact ⟨Γ, M, st1, rE1, rS1, h1⟩
  | false => exact ⟨Γ, M, st1, rE1, rS1, h1⟩
theorem s_brk : PS X (.Break pos) (tS X.K C G N .brk) := by
  refine ps_break.imp fun E σ H h => ?_
  obtain ⟨Γ, L, st, rE, rS, h⟩ := h
  unfold execS at h
  exact h.now rS σ rE
theorem s_cnt : PS X (.Continue pos) (tS X.K C G N .cnt) := by
  refine ps_continue.imp fun E σ H h => ?_
  obtain ⟨Γ, L, st, rE, rS, h⟩ := h
  unfold execS at h
  exact h.now rS σ rE
theorem s_pas : PS X (.Pass pos) (tS X.K C G N .pas) := by
  refine ps_pass.imp fun E σ H h => ?_
  obtain ⟨Γ, L, st, rE, rS, h⟩ := h
  unfold execS at h
  exact h.now rS σ rE
theorem s_never {st : Stmt} : PS X st (tS X.K C G N .never) := by
  refine ps_never.imp fun E σ H h => ?_
  obtain ⟨Γ, L, st, rE, rS, h⟩ := h
  unfold execS at h
  exact h.elim
/-- behind a loop's body -/
theorem loop_step {K : PySem.W.Frag} {E : Ends} {L : LL} {H : Hp} {r : Res Fl} {f : Env → Store → Res Fl} {Nx : L2.St → Hp → Prop} (h : OKr K L H (r.bind fun f' st => match f' with
    | .nx Γ' => f Γ' st
    | .ct Γ' => f Γ' st
    | .bk Γ' => .ok (.nx Γ') st
    | .rt d => .ok (.rt d) st) (PF K E)) (hn : ∀ Γ' st1 M H1 σ', Ext L M H H1 → RelE K M H1 σ' Γ' → RelSt K M H1 st1 → OKr K M H1 (f Γ' st1) (PF K E) → Nx σ' H1) : OKr K L H r (PF K { E with nx := Nx, ct := Nx, bk := E.nx }) := by
  cases r with
  | exc _ _ _ => exact h
  | bad => exact h
  | ok f' st1 =>
    intro M H1 x rS1
    cases f' with
    | nx Γ' => exact fun σ' rE' => hn Γ' st1 M H1 σ' x rE' rS1 (OKr.ext h x)
    | ct Γ' => exact fun σ' rE' => hn Γ' st1 M H1 σ' x rE' rS1 (OKr.ext h x)
    | bk Γ' => exact fun σ' rE' => h.at_ x rS1 σ' rE'
    | rt d => exact fun v rv => h.at_ x rS1 v rv
theorem s_for {tg iter : Expr} {body : List Stmt} {it : IIt} (hp : PassesOwn (model X.prog X.w) X.A X.env X.xe) (hc : X.calm = true) (hi : PI X tg iter (tI X.K C G it)) (hg : PG X tg (tG X.K t)) (hb : PSs X body (tSs X.K C G N ss))
    (hs : ∀ x, foldedSetIterable iter X.env x = pure x) : PS X (.For tg iter body [] pos) (tS X.K C G N (.fors t it ss)) := by
  refine (ps_for hp hc hi hg hb hs).imp fun E σ H h => ?_
  obtain ⟨Γ, L, st, rE, rS, h⟩ := h
  unfold execS at h
  refine ⟨Γ, L, st, rE, rS, ?_⟩
  cases q : evalIt C G it Γ st with
  | exc _ _ _ => rw [q] at h; exact h
  | bad => rw [q] at h; exact h
  | ok xs st1 =>
    rw [q] at h
    intro M H1 x1 rS1 J wk
    generalize hstep : (fun x Γ st => match asgP t x Γ with
      | some Γ' => execSs C G N ss Γ' st
      | none => (.bad : Res Fl)) = step at h
    replace h : OKr X.K M H1 (forF step xs Γ st1) (PF X.K E) := OKr.ext h x1
    refine ⟨fun i m σ' H' => i + m = xs.length ∧ ∃ (Γ' : Env) (M2 : LL) (st2 : Store), Ext M M2 H1 H' ∧ RelE X.K M2 H' σ' Γ' ∧ RelSt X.K M2 H' st2 ∧ OKr X.K M2 H' (forF step (xs.drop i) Γ' st2) (PF X.K E),
      ⟨xs.length, by omega, Γ, M, st1, Ext.refl _ _, rE.ext x1, rS1, h⟩, ?_⟩
    rintro i m σ' H' ⟨him, Γ', M2, st2, x2, rE2, rS2, h2⟩
    by_cases hl : i < xs.length
    · refine .inr ⟨wk.go i M2 H' x2.stab hl, fun σ' H' => i + 1 + (m - 1) = xs.length ∧ ∃ (Γ' : Env) (M2 : LL) (st2 : Store), Ext M M2 H1 H' ∧ RelE X.K M2 H' σ' Γ' ∧ RelSt X.K M2 H' st2 ∧ OKr X.K M2 H' (forF step (xs.drop (i + 1)) Γ' st2) (PF X.K E), fun σ' H' w => ⟨m - 1, by omega, w⟩, fun v H3 hy => ?_⟩
      have hx : xs[i]? = some xs[i] := List.getElem?_eq_getElem hl
      obtain ⟨x3, rS3, rv⟩ := wk.yld i M2 H' xs[i] v H3 x2.stab hx hy st2 rS2
      rw [List.drop_eq_getElem_cons hl] at h2
      unfold forF at h2
      replace h2 := OKr.ext h2 x3
      have h3 := loop_step (Nx := fun σ' H' => i + 1 + (m - 1) = xs.length ∧ ∃ (Γ' : Env) (M2 : LL) (st2 : Store), Ext M M2 H1 H' ∧ RelE X.K M2 H' σ' Γ' ∧ RelSt X.K M2 H' st2 ∧ OKr X.K M2 H' (forF step (xs.drop (i + 1)) Γ' st2) (PF X.K E)) (f := forF step (xs.drop (i + 1))) (r := step xs[i] Γ' st2) h2 fun Γ4 st4 M4 H4 σ4 x4 rE4 rS4 h4 => ⟨by omega, Γ4, M4, st4, (x2.trans x3).trans x4, rE4, rS4, h4⟩
      rw [← hstep] at h3
      simp only at h3
      split at h3
      · rename_i Γ5 hasg
        exact ⟨Γ', M2, xs[i], Γ5, rE2.ext x3, rv, hasg, fun σ5 rE5 _ => ⟨Γ5, M2, st2, rE5, rS3, by rw [← hstep]; exact h3⟩⟩
      · exact h3.elim
    · have hd : xs.drop i = [] := List.drop_eq_nil_of_le (by omega)
      rw [hd] at h2
      unfold forF at h2
      exact .inl ⟨wk.stop i M2 H' x2.stab (by omega), h2.now rS2 σ' rE2⟩
theorem s_whl {body : List Stmt} (hp : PassesOwn (model X.prog X.w) X.A X.env X.xe) (hc : PT X c (tB X.K C G ec)) (hb : PSs X body (tSs X.K C G N ss)) : PS X (.While c body [] pos) (tS X.K C G N (.whl ec ss)) := by
  refine (ps_while hp hc hb).imp fun E σ H h => ?_
  obtain ⟨Γ, L, st, rE, rS, h⟩ := h
  unfold execS at h
  refine ⟨fun m σ' H' => ∃ (Γ' : Env) (M2 : LL) (st2 : Store), RelE X.K M2 H' σ' Γ' ∧ RelSt X.K M2 H' st2 ∧ OKr X.K M2 H' (whlF (evalT C G ec) (execSs C G N ss) m Γ' st2) (PF X.K E), ⟨N, Γ, L, st, rE, rS, h⟩, ?_⟩
  rintro m σ' H' ⟨Γ', M2, st2, rE2, rS2, h2⟩
  cases m with
  | zero => unfold whlF at h2; exact h2.elim
  | succ m =>
    unfold whlF at h2
    refine sB rE2 rS2 h2 fun k st3 M3 H3 x3 rE3 rS3 h3 => ?_
    cases k with
    | false =>
      rw [if_neg Bool.false_ne_true] at h3
      refine iteF ?_
      exact h3.now rS3 σ' rE3
    | true =>
      rw [if_pos rfl] at h3
      refine iteT ⟨fun σ' H' => ∃ (Γ' : Env) (M2 : LL) (st2 : Store), RelE X.K M2 H' σ' Γ' ∧ RelSt X.K M2 H' st2 ∧ OKr X.K M2 H' (whlF (evalT C G ec) (execSs C G N ss) m Γ' st2) (PF X.K E), fun σ' H' w => ⟨m, Nat.lt_succ_self m, w⟩, ?_⟩
      exact ⟨Γ', M3, st3, rE3, rS3, loop_step (f := whlF (evalT C G ec) (execSs C G N ss) m) (r := execSs C G N ss Γ' st3) h3 fun Γ4 st4 M4 H4 σ4 x4 rE4 rS4 h4 => ⟨Γ4, M4, st4, rE4, rS4, h4⟩⟩
/-! ### calls -/
def spC (K : PySem.W.Frag) (C : Call) (f : Nat) : Sp := fun vs H Q _ => ∃ L st ds, RelSt K L H st ∧ Reps K L H ds vs ∧ OKr K L H (C f ds st) (PD K Q)
theorem call_step {K : PySem.W.Frag} {f : Nat} {L : LL} {H : Hp} {ds : List D} {Γ : Env} {st : Store} {P : D → LL → Hp → Prop} (h : OKr K L H (match C f ds st with
        | .ok d st => .ok d st
        | .exc x _ st => .exc x Γ st
        | .bad => .bad) P) : OKr K L H (C f ds st) P := by
  cases q : C f ds st with
  | ok d st1 => rw [q] at h; exact h
  | exc _ _ _ => rw [q] at h; exact h
  | bad => rw [q] at h; exact h
theorem r_call {f : Nat} {x : Str} {fa : Addr} {fd : FuncData} {ps : List Str} {k : Nat} {p : Pos} (F : FnOk X.prog X.w X.K X.mg X.base CX0 k fa fd ps (spC X.K C f)) (hr : Room k X.A) (hg : Gl X x) (hm : X.mg x = some (.ref fa)) (hk : PySem.W.keepIn X.K (.ref fa) = true) (hb : Binds X.K fd ps [])
    (ha : PA X (a :: as) (tEs X.K C G es)) (hdb : (x == ("__debug__" : Str)) = false) (he : starEach (a :: as) X.env = (false, eval a X.env) :: starEach as X.env) (hpl : (backTo pos (starEach as X.env)).any (·.1) = false) : PE X (.Call (.Name x p) (a :: as) [] pos) (tE X.K C G (.call f es)) := by
  refine (pe_call F hr hg hm hk hb .nil pass0 ha hdb he hpl).imp fun σ H Q h => ?_
  obtain ⟨Γ, L, st, rE, rS, h⟩ := h
  unfold evalE at h
  refine sEs rE rS h fun ds st1 vs M H1 x rE1 rS1 rvs h1 => ?_
  rw [List.append_nil]
  exact ⟨M, st1, ds, rS1, rvs, call_step h1⟩
theorem r_call0 {f : Nat} {x : Str} {fa : Addr} {fd : FuncData} {ps : List Str} {k : Nat} {p : Pos} (F : FnOk X.prog X.w X.K X.mg X.base CX0 k fa fd ps (spC X.K C f)) (hr : Room k X.A) (hg : Gl X x) (hm : X.mg x = some (.ref fa)) (hk : PySem.W.keepIn X.K (.ref fa) = true) (hb : Binds X.K fd ps [])
    (hdb : (x == ("__debug__" : Str)) = false) : PE X (.Call (.Name x p) [] [] pos) (tE X.K C G (.call f .nil)) := by
  refine (pe_call0 F hr hg hm hk hb .nil pass0 hdb).imp fun σ H Q h => ?_
  obtain ⟨Γ, L, st, rE, rS, h⟩ := h
  unfold evalE evalEs at h
  exact ⟨L, st, [], rS, Reps.nil, call_step h⟩
theorem gc_ok {K : PySem.W.Frag} {L M : LL} {H H1 : Hp} {d : D} {st st1 : Store} {Q : VK} {v : V} (h : OKr K L H (gc st.length d st1) (PD K Q)) (rS : RelSt K L H st) (x : Ext L M H H1) (rS1 : RelSt K M H1 st1) (rv : Rep K M H1 d v) : Q v H1 := by
  unfold gc at h
  split at h
  · exact h.at_ x rS1 v rv
  · split at h
    · rename_i c
      rw [Bool.and_eq_true] at c
      exact h.at_ (x.take rS.len.symm) (rS1.take c.2) v (Rep.take _ _ _ rv c.1)
    · exact h.at_ x rS1 v rv
theorem start_rel {K : PySem.W.Frag} {L : LL} {H : Hp} {ds : List D} {vs : List V} {N : List Str} {n : Nat} (r : Reps K L H ds vs) (hn : N.length - vs.length = n) : RelE K L H (L2.start N vs) (ds.map some ++ List.replicate n none) := by
  have hl := Reps.length ds vs r
  refine ⟨by unfold L2.start; rw [List.length_append, List.length_append, List.length_map, List.length_map, List.length_replicate, List.length_replicate, hl, ← hn, hl], fun i d e => ?_⟩
  by_cases hi : i < ds.length
  · rw [List.getElem?_append_left (by rw [List.length_map]; exact hi), List.getElem?_map] at e
    cases q : ds[i]? with
    | none => rw [q] at e; cases e
    | some d' =>
      rw [q] at e
      cases e
      obtain ⟨v, ev, rv⟩ := Reps.get ds vs i _ r q
      refine ⟨v, ?_, rv⟩
      unfold L2.start
      rw [List.getElem?_append_left (by rw [List.length_map, hl]; exact hi), List.getElem?_map, ev]
      rfl
  · rw [List.getElem?_append_right (by rw [List.length_map]; omega), List.getElem?_replicate] at e
    split at e <;> cases e
/-- a def's body answers as the evaluator does -/
theorem fn_ok {P : Program} {w : World} {K : PySem.W.Frag} {mg : Str → Option Value} {base : Heap} {k : Nat} {f : Addr} {name qual : Str} {params : Arguments} {body : List Stmt} {scope : Scope} {dV kV doc pm cdv ct oc : Value} {an od : Option Addr}
    {osl : Array (Option Value)} {Nm ps : List Str} {C : Call} {G : Nat → D} {N : Nat} {F : Fn} {g : Nat} (lk : K.lookup f = some ⟨oc, od, .func (PySem.W.fnOf name qual params body scope dV kV doc pm an cdv ct), osl⟩) (hcd : PySem.W.codeIn K cdv qual = true) (S : FnScope Nm ps scope)
    (hnp : ps.length = F.np) (hns : Nm.length = F.ns) {C' : Call} (hC' : ∀ ds st, C' g ds st = runFn C G N F ds st)
    (hbody : ∀ (A : Around) (outer : List PySem.Env) (s : Shared) (H : Hp) (E : XK), Room k (A.deeper (envOfC qual scope s.heap.objs.size f cdv)) → PSs (cxOf CX0 P w K mg base Nm qual scope f cdv A outer s H E).nox body (tSs K C G N F.body)) :
    FnOk P w K mg base CX0 (k + 1) f (PySem.W.fnOf name qual params body scope dV kV doc pm an cdv ct) ps (spC K C' g) := by
  have len : ∀ vs H Q E, spC K C' g vs H Q E → vs.length = ps.length := fun vs H Q E h => by
    obtain ⟨L, st, ds, rS, r, h⟩ := h
    rw [hC'] at h
    unfold runFn at h
    split at h
    · rename_i c
      rw [Reps.length _ _ r, hnp]
      exact Nat.eq_of_beq_eq_true c
    · exact h.elim
  refine fn_of lk hcd S len fun A outer s H vs Q E hr h => ⟨_, (hbody A outer s H E hr).nox, ?_⟩
  have hl := len _ _ _ _ h
  obtain ⟨L, st, ds, rS, r, h⟩ := h
  rw [hC'] at h
  unfold runFn at h
  split at h
  · refine ⟨_, L, st, start_rel (n := F.ns - F.np) r (by rw [hl, hnp, hns]), rS, ?_⟩
    cases q : execSs C G N F.body (ds.map some ++ List.replicate (F.ns - F.np) none) st with
    | exc _ _ _ => rw [q] at h; exact h
    | bad => rw [q] at h; exact h
    | ok f' st1 =>
      rw [q] at h
      intro M H1 x rS1
      cases f' with
      | nx Γ' => exact fun σ' _ => gc_ok h rS x rS1 rep_non
      | rt d => exact fun v rv => gc_ok h rS x rS1 rv
      | bk _ => exact h.elim
      | ct _ => exact h.elim
  · exact h.elim
end
end DL

set_option Elab.async false
set_option linter.all false
set_option maxRecDepth 100000
set_option maxHeartbeats 4000000
set_option autoImplicit false
/-! DenI: a resolved form stands for a text: the look (chk), and that what passes it answers as the evaluator says. -/
namespace DL
open PySem PySem.Spec PyProof.Rows L2
/-- where one stands: the names by slot, the scope as it is, the own names, the numbered defs and constants of the module -/
structure CC where
  N : List Str
  sc : Scope
  ow : Scope
  fns : List Str
  gls : List Str
def CC.gl (c : CC) (x : Str) : Bool := decide (c.sc.names.lookup x = some .globalImplicit)
def CC.vis (c : CC) (x : Str) : Bool :=
  match c.sc.names.lookup x with
  | some .local => true
  | some .cell => true
  | some .free => true
  | _ => false
def CC.sto (c : CC) (x : Str) : Bool :=
  match c.ow.names.lookup x with
  | some .local => true
  | some .cell => true
  | _ => false
abbrev CC.inner (c : CC) (scope : Scope) : CC := { c with sc := relS scope c.sc, ow := scope }
def okN (x : Str) : Bool := !(x == ("__debug__" : Str)) && !(x == ("__classdict__" : Str))
def nst : Expr → Bool
  | .Starred _ _ => false
  | _ => true
def nslice : Expr → Bool
  | .Slice _ _ _ _ => false
  | _ => true
def nset : Expr → Bool
  | .Set _ _ _ => false
  | _ => true
def ncomp : Expr → Bool
  | .ListComp _ _ _ _ => false
  | .SetComp _ _ _ _ => false
  | .DictComp _ _ _ _ _ => false
  | _ => true
def plainB : Expr → Bool
  | .Name _ _ => true
  | .Subscript _ _ _ => true
  | .Attribute _ _ _ => true
  | _ => false
def conB : D → Const → Bool
  | .non, .none => true
  | .bl b, .bool c => b == c
  | .int a, .int b => a == b
  | .str a, .str b => decide (a = b)
  | _, _ => false
mutual
def chkT (c : CC) : ITg → Expr → Bool
  | .slot i => fun x => match x with
    | .Name x _ => decide (c.N[i]? = some x) && c.sto x
    | _ => false
  | .tup ts => fun x => match x with
    | .Tuple xs _ _ => chkTg c ts xs
    | _ => false
def chkTg (c : CC) : ITgs → List Expr → Bool
  | .nil => fun xs => match xs with
    | [] => true
    | _ => false
  | .cons t ts => fun xs => match xs with
    | x :: xs => nst x && chkT c t x && chkTg c ts xs
    | _ => false
end
def allIn (xs ys : List Nat) : Bool := xs.all fun x => ys.contains x
mutual
def chkE : CC → IE → Expr → Bool
  | c, .slot i => fun x => match x with
    | .Name x _ => decide (c.N[i]? = some x) && c.vis x && okN x
    | _ => false
  | _, .con d => fun x => match x with
    | .Constant k _ _ => conB d k
    | _ => false
  | c, .glob g => fun x => match x with
    | .Name x _ => decide (c.gls[g]? = some x) && c.gl x && okN x
    | _ => false
  | c, .tup es => fun x => match x with
    | .Tuple xs _ _ => chkEs c es xs
    | _ => false
  | c, .lst es => fun x => match x with
    | .List xs _ => chkEs c es xs
    | _ => false
  | c, .new es => fun x => match x with
    | .List xs _ => chkEs c es xs
    | _ => false
  | _, .emp => fun x => match x with
    | .Dict [] [] _ => true
    | _ => false
  | c, .bin op a b => fun x => match x with
    | .BinOp x o y _ => decide (op = o) && chkE c a x && chkE c b y
    | _ => false
  | c, .neg a => fun x => match x with
    | .UnaryOp .USub x _ => chkE c a x
    | _ => false
  | c, .nt a => fun x => match x with
    | .UnaryOp .Not x _ => chkE c a x
    | _ => false
  | c, .and es => fun x => match x with
    | .BoolOp .And xs _ => chkEs c es xs && !xs.isEmpty
    | _ => false
  | c, .or es => fun x => match x with
    | .BoolOp .Or xs _ => chkEs c es xs && !xs.isEmpty
    | _ => false
  | c, .cmp op a b => fun x => match x with
    | .Compare x [o] [y] _ => decide (op = o) && !behindInMarks o y && chkE c a x && chkE c b y
    | _ => false
  | c, .cmp2 op op' a b d => fun x => match x with
    | .Compare x [o, o'] [y, z] _ => decide (op = o) && decide (op' = o') && !lastMarks [o, o'] [y, z] && chkE c a x && chkE c b y && chkE c d z
    | _ => false
  | c, .ife t a b => fun x => match x with
    | .IfExp z x y _ => chkE c t z && chkE c a x && chkE c b y
    | _ => false
  | c, .idx a i => fun x => match x with
    | .Subscript x y _ => nslice y && chkE c a x && chkE c i y
    | _ => false
  | c, .slc a lo hi => fun x => match x with
    | .Subscript x (.Slice l h none _) _ => chkE c a x && chkO c lo l && chkO c hi h
    | _ => false
  | c, .rev a => fun x => match x with
    | .Subscript x (.Slice none none (some (.UnaryOp .USub (.Constant (.int 1) _ _) _)) _) _ => chkE c a x
    | _ => false
  | c, .call f es => fun x => match x with
    | .Call (.Name x _) xs [] _ => decide (c.fns[f]? = some x) && c.gl x && okN x && chkEs c es xs
    | _ => false
  | c, .blt b es => fun x => match x with
    | .Call (.Name x _) xs [] _ => decide (x = Str.ofString (bltName b)) && c.gl x && !xs.isEmpty && chkEs c es xs
    | _ => false
  | c, .isi a t => fun x => match x with
    | .Call (.Name x _) [y, .Name z _] [] _ => decide (x = ("isinstance" : Str)) && decide (z = Str.ofString t.nm) && c.gl x && c.gl z && nst y && chkE c a y
    | _ => false
  | c, .app o a => fun x => match x with
    | .Call (.Attribute x m apos) [y] [] pos => decide (m = ("append" : Str)) && plainB x && (apos.endLine == pos.line) && nst y && chkE c o x && chkE c a y
    | _ => false
  | c, .comp e t it own ifs => fun x => match x with
    | .ListComp elt [⟨tg, iter, cs, 0⟩] scope _ => blkC c.N c.sc scope own && nset iter && chkIt c it tg iter && chkT (c.inner scope) t tg && chkTs (c.inner scope) ifs cs && chkE (c.inner scope) e elt && allIn t.sl (own.map (·.2))
    | _ => false
def chkEs : CC → IEs → List Expr → Bool
  | _, .nil => fun xs => match xs with
    | [] => true
    | _ => false
  | c, .cons e es => fun xs => match xs with
    | x :: xs => nst x && chkE c e x && chkEs c es xs
    | _ => false
/-- an end of a slice -/
def chkO : CC → IEs → Option Expr → Bool
  | _, .nil => fun x => match x with
    | none => true
    | _ => false
  | c, .cons e .nil => fun x => match x with
    | some x => chkE c e x
    | _ => false
  | _, .cons _ (.cons _ _) => fun _ => false
/-- a clause's tests: none or one -/
def chkTs : CC → IEs → List Expr → Bool
  | _, .nil => fun xs => match xs with
    | [] => true
    | _ => false
  | c, .cons e .nil => fun xs => match xs with
    | [x] => chkE c e x
    | _ => false
  | _, .cons _ (.cons _ _) => fun _ => false
def chkIt : CC → IIt → Expr → Expr → Bool
  | c, .val e => fun _ x => chkE c e x
  | c, .rng1 a => fun _ x => match x with
    | .Call (.Name x _) [y] [] _ => decide (x = ("range" : Str)) && c.gl x && nst y && chkE c a y
    | _ => false
  | c, .rng2 a b => fun _ x => match x with
    | .Call (.Name x _) [y, z] [] _ => decide (x = ("range" : Str)) && c.gl x && nst y && nst z && chkE c a y && chkE c b z
    | _ => false
  | c, .zip a b => fun t x => match t, x with
    | .Tuple _ _ _, .Call (.Name x _) [y, z] [] _ => decide (x = ("zip" : Str)) && c.gl x && nst y && nst z && chkE c a y && chkE c b z
    | _, _ => false
  | c, .enum a => fun t x => match t, x with
    | .Tuple _ _ _, .Call (.Name x _) [y] [] _ => decide (x = ("enumerate" : Str)) && c.gl x && nst y && chkE c a y
    | _, _ => false
end
/-- is the store of a comprehension done within its frame -/
def swB (c : CC) (x : Str) (p : Pos) (v : Expr) : Bool :=
  match v with
  | .ListComp _ _ s _ => decide (c.sc.names.lookup x = some .local) && (p.line == v.pos.line) && !(s.names.any fun (n, k) => n == x && (k == .local || k == .cell))
  | _ => false
def isName : Expr → Bool
  | .Name _ _ => true
  | _ => false
/-- a name that is local and not shared -/
def isLoc (c : CC) : Expr → Bool
  | .Name x _ => decide (c.sc.names.lookup x = some .local)
  | _ => false
/-- a, b = .. that are stored one after another -/
def tupB (c : CC) (xs : List Expr) (v : Expr) : Bool :=
  match v with
  | .Tuple vs _ _ => !xs.all (isLoc c) || (!(xs.length == 2 || xs.length == 3) || vs.all (foldedForSure 8))
  | .DictComp _ _ _ _ _ => false
  | .SetComp _ _ _ _ => false
  | _ => true
mutual
def chkS (c : CC) : IS → Stmt → Bool
  | .asg t e => fun s => match t, s with
    | .slot i, .Assign [.Name x p] v _ => decide (c.N[i]? = some x) && c.sto x && (match v with | .DictComp _ _ _ _ _ => false | .SetComp _ _ _ _ => false | _ => true) && chkE c e v
    | .tup ts, .Assign [.Tuple xs _ _] v _ => chkTg c ts xs && tupB c xs v && chkE c e v
    | _, _ => false
  | .sub o i e => fun s => match s with
    | .Assign [.Subscript x y _] v _ => nslice y && ncomp v && chkE c o x && chkE c i y && chkE c e v
    | _ => false
  | .par i j a b => fun s => match s with
    | .Assign [.Tuple [.Name x px, .Name y py] _ _] (.Tuple [p, q] _ _) _ => decide (c.N[i]? = some x) && decide (c.N[j]? = some y) && decide (i ≠ j) && decide (x ≠ y) && decide (c.sc.names.lookup x = some .local) && decide (c.sc.names.lookup y = some .local) && (py.line == px.line) &&
        nst p && nst q && !([p, q].all (foldedForSure 8)) && !([p, q].all (constantsAlone 8)) && chkE c a p && chkE c b q
    | _ => false
  | .aug i op e => fun s => match s with
    | .AugAssign (.Name x _) o v _ => decide (c.N[i]? = some x) && c.sto x && decide (op = o) && chkE c e v
    | _ => false
  | .expr e => fun s => match s with
    | .Expr v _ => ncomp v && chkE c e v
    | _ => false
  | .ret e => fun s => match s with
    | .Return (some v) _ => chkE c e v
    | _ => false
  | .retN => fun s => match s with
    | .Return none _ => true
    | _ => false
  | .ifs t a b => fun s => match s with
    | .If z x y _ => chkE c t z && chkSs c a x && chkSs c b y
    | _ => false
  | .fors t it body => fun s => match s with
    | .For tg iter b [] _ => nset iter && chkIt c it tg iter && chkT c t tg && chkSs c body b
    | _ => false
  | .whl t body => fun s => match s with
    | .While z b [] _ => chkE c t z && chkSs c body b
    | _ => false
  | .brk => fun s => match s with
    | .Break _ => true
    | _ => false
  | .cnt => fun s => match s with
    | .Continue _ => true
    | _ => false
  | .pas => fun s => match s with
    | .Pass _ => true
    | _ => false
  | .frz _ => fun _ => false
  | .never => fun _ => true
def chkSs (c : CC) : ISs → List Stmt → Bool
  | .nil => fun ss => match ss with
    | [] => true
    | _ => false
  | .cons s rest => fun ss => match s with
    | .frz _ => chkSs c rest ss
    | s => match ss with
      | st :: r => chkS c s st && chkSs c rest r
      | [] => false
end
def bltNames : List Str := ["len", "abs", "int", "min", "max", "tuple", "list", "all", "any", "sum", "str", "repr", "isinstance", "bool", "dict", "range", "zip", "enumerate"]
structure COk (C : Call) (G : Nat → D) (k : Nat) (c : CC) (X : Cx) : Prop where
  N : X.N = c.N
  sc : X.env.scope = c.sc
  nd : X.N.Nodup
  calm : X.calm = true
  xe : PassesOwn (model X.prog X.w) X.A X.env X.xe
  room : Room k X.A
  sto : ∀ x, c.sto x = true → Loc X.env.scope x ∧ (X.fn x = true ∨ X.env.scope.names.lookup x = some .local)
  fns : ∀ (f : Nat) (x : Str), c.fns[f]? = some x → ∃ fa fd ps, FnOk X.prog X.w X.K X.mg X.base CX0 k fa fd ps (spC X.K C f) ∧ X.mg x = some (.ref fa) ∧ PySem.W.keepIn X.K (.ref fa) = true ∧ Binds X.K fd ps []
  gls : ∀ (g : Nat) (x : Str), c.gls[g]? = some x → ∃ v u, X.mg x = some u ∧ RelV v u ∧ ∀ L H, Rep X.K L H (G g) v
  blt : ∀ x ∈ bltNames, X.mg x = none
end DL

set_option Elab.async false
set_option linter.all false
set_option maxRecDepth 100000
set_option maxHeartbeats 4000000
set_option autoImplicit false
/-! DenJ: what passes the look answers as the evaluator says. -/
namespace DL
open PySem PySem.Spec PyProof.Rows L2
section
variable {C : Call} {G : Nat → D} {k : Nat} {c : CC} {X : Cx}
theorem star_of {x : Expr} {xs : List Expr} {env : PySem.Env} (h : nst x = true) : starEach (x :: xs) env = (false, eval x env) :: starEach xs env := by
  cases x <;> first | rfl | (cases h)
theorem slice_of {b : Expr} (h : nslice b = true) : PlainIx b := fun o i => by
  cases b <;> first | rfl | (cases h)
theorem set_of {b : Expr} {env : PySem.Env} (h : nset b = true) : ∀ x, foldedSetIterable b env x = pure x := fun x => by
  cases b <;> first | rfl | (cases h)
theorem base_of {a : Expr} {m : Str} {env : PySem.Env} (h : plainB a = true) : attributeBase a m env (eval a env) = eval a env := by
  cases a <;> first | rfl | (cases h)
theorem okN_of {x : Str} (h : okN x = true) : (x == ("__debug__" : Str)) = false ∧ (x == ("__classdict__" : Str)) = false := by
  unfold okN at h
  simpa using h
theorem COk.vis (h : COk C G k c X) {x : Str} (hv : c.vis x = true) : Vis X.env.scope x := by
  unfold CC.vis at hv
  unfold Vis
  rw [h.sc]
  split at hv <;> first | (cases hv) | skip
  · left; assumption
  · right; left; assumption
  · right; right; assumption
theorem COk.gl (h : COk C G k c X) {x : Str} (hg : c.gl x = true) : Gl X x := by
  unfold CC.gl at hg
  show X.env.scope.names.lookup x = _
  rw [h.sc]
  exact of_decide_eq_true hg
theorem COk.nx (h : COk C G k c X) {i : Nat} {x : Str} (hn : decide (c.N[i]? = some x) = true) : X.N[i]? = some x := by
  rw [h.N]
  exact of_decide_eq_true hn
theorem COk.hu (h : COk C G k c X) : X.A.units + 65 < cLine := by
  have := h.room.un
  omega
theorem COk.inner (h : COk C G k c X) {scope : Scope} {s : Shared} {H : Hp} {C' : Addr} {cl : List (Str × Addr)} {fp : List Addr} : COk C G k (c.inner scope) (X.blk s H scope (compEnvC scope cl C' X.env) fp) where
  N := h.N
  sc := by
    show relS scope X.env.scope = relS scope c.sc
    rw [h.sc]
  nd := h.nd
  calm := h.calm
  xe := PassesOwn.never
  room := h.room
  sto := fun x hs => by
    have hl : ∀ q : NameKind, q ≠ .free → scope.names.lookup x = some q → (relS scope X.env.scope).names.lookup x = some q := fun q hq e => lookup_relS_keep hq e
    unfold CC.sto at hs
    split at hs
    · rename_i e
      have z := hl _ (by decide) e
      exact ⟨.inl z, .inr z⟩
    · rename_i e
      have z := hl _ (by decide) e
      refine ⟨.inr z, .inl ?_⟩
      show (scope.names.lookup x == some .cell) = true
      have e' : scope.names.lookup x = some .cell := e
      rw [e']
      rfl
    · cases hs
  fns := h.fns
  gls := h.gls
  blt := h.blt
/-- a row of expressions: as arguments, as and, as or -/
structure RowOk (C : Call) (G : Nat → D) (X : Cx) (es : IEs) (as : List Expr) : Prop where
  pa : PA X as (tEs X.K C G es)
  st : ∀ pos, (backTo pos (starEach as X.env)).any (·.1) = false
  hd : ∀ a r, as = a :: r → nst a = true ∧ ∀ pos, (backTo pos (starEach r X.env)).any (·.1) = false
  an : as ≠ [] → ∀ pos, PE X (.BoolOp .And as pos) (tAn X.K C G es) ∧ PW X (.BoolOp .And as pos) (tAnB X.K C G es)
  on : as ≠ [] → ∀ pos, PE X (.BoolOp .Or as pos) (tOn X.K C G es) ∧ PW X (.BoolOp .Or as pos) (tOnB X.K C G es)
theorem row_nil : RowOk C G X .nil [] := ⟨r_nil, fun _ => rfl, (fun _ _ h => nomatch h), fun h => absurd rfl h, fun h => absurd rfl h⟩
theorem row_cons {e : IE} {es : IEs} {a : Expr} {as : List Expr} (hs : nst a = true) (h : PE X a (tE X.K C G e) ∧ PT X a (tB X.K C G e)) (t : RowOk C G X es as) (hn : as = [] → es = .nil) (hn2 : as ≠ [] → ∃ e' es', es = .cons e' es') : RowOk C G X (.cons e es) (a :: as) where
  pa := r_cons h.1 t.pa (star_of hs)
  st := fun pos => by
    rw [star_of hs]
    show (false || (backTo pos (starEach as X.env)).any (·.1)) = false
    rw [t.st pos]
    rfl
  hd := fun a' r e => by
    cases e
    exact ⟨hs, t.st⟩
  an := fun _ pos => by
    cases as with
    | nil =>
      rw [hn rfl]
      exact ⟨r_an1 h.1, b_an1 h.2⟩
    | cons b bs =>
      obtain ⟨e', es', ee⟩ := hn2 (by simp)
      subst ee
      have z := t.an (by simp) pos
      exact ⟨r_an h.1 z.1, b_an h.2 z.2⟩
  on := fun _ pos => by
    cases as with
    | nil =>
      rw [hn rfl]
      exact ⟨r_on1 h.1, b_on1 h.2⟩
    | cons b bs =>
      obtain ⟨e', es', ee⟩ := hn2 (by simp)
      subst ee
      have z := t.on (by simp) pos
      exact ⟨r_on h.1 z.1, b_on h.2 z.2⟩
theorem chkEs_nil {es : IEs} (h : chkEs c es [] = true) : es = .nil := by
  cases es with
  | nil => rfl
  | cons _ _ => unfold chkEs at h; cases h
theorem chkEs_cons {es : IEs} {a : Expr} {as : List Expr} (h : chkEs c es (a :: as) = true) : ∃ e' es', es = .cons e' es' := by
  cases es with
  | nil => unfold chkEs at h; cases h
  | cons e es => exact ⟨e, es, rfl⟩
theorem tests_nil : PTs X [] (tTs X.K C G .nil) := by
  refine pts_nil.imp fun σ H Q h => ?_
  obtain ⟨Γ, L, st, rE, rS, h⟩ := h
  unfold evalTs at h
  exact h.now rS
theorem tests_one {a : Expr} {e : IE} (h : PT X a (tB X.K C G e)) : PTs X [a] (tTs X.K C G (.cons e .nil)) := by
  refine (pts_one h).imp fun σ H Q h => ?_
  obtain ⟨Γ, L, st, rE, rS, h⟩ := h
  refine ⟨Γ, L, st, rE, rS, ?_⟩
  unfold evalTs at h
  unfold evalT
  cases q : evalE C G e Γ st with
  | exc _ _ _ => rw [q] at h; exact h
  | bad => rw [q] at h; exact h
  | ok d st1 =>
    rw [q] at h
    replace h : OKr X.K L H ((lift (truth d st1) st1).bind fun k st => if k = true then evalTs C G .nil Γ st else .ok false st) (fun k _ H2 => Q k H2) := h
    show OKr X.K L H (lift (truth d st1) st1) _
    cases q2 : truth d st1 with
    | none => rw [q2] at h; exact h
    | some k =>
      rw [q2] at h
      cases k with
      | true =>
        replace h : OKr X.K L H (evalTs C G .nil Γ st1) (fun k _ H2 => Q k H2) := h
        unfold evalTs at h
        exact h
      | false => exact h
theorem allIn_of {xs ys : List Nat} (h : allIn xs ys = true) : ∀ i ∈ xs, i ∈ ys := fun i hi => by
  unfold allIn at h
  rw [List.all_eq_true] at h
  simpa using h i hi
theorem con_of {d : D} {q : Const} (h : conB d q = true) : match (generalizing := false) d, q with | .non, .none => True | .bl b, .bool c => b = c | .int a, .int b => a = b | .str a, .str b => a = b | _, _ => False := by
  cases d <;> cases q <;> first
    | trivial
    | (unfold conB at h; exact beq_iff_eq.mp h)
    | (unfold conB at h; exact of_decide_eq_true h)
    | (unfold conB at h; cases h)
/-! ### targets -/
theorem assignEach_len : ∀ {es : List Expr} {ts : ITgs} {env : PySem.Env}, chkTg c ts es = true → (assignEach es env).length = ts.len ∧ (assignEach es env).findIdx? (·.1) = none
  | [], ts, _, h => by
    cases ts with
    | nil => exact ⟨rfl, rfl⟩
    | cons _ _ => unfold chkTg at h; cases h
  | e :: es, ts, env, h => by
    cases ts with
    | nil => unfold chkTg at h; cases h
    | cons t ts =>
      unfold chkTg at h
      simp only [Bool.and_eq_true] at h
      obtain ⟨⟨h1, _⟩, h2⟩ := h
      obtain ⟨z1, z2⟩ := assignEach_len (env := env) h2
      have hs : ∀ v p, e ≠ .Starred v p := fun v p q => by subst q; cases h1
      rw [assignEach_star hs]
      refine ⟨by show (assignEach es env).length + 1 = ts.len + 1; rw [z1], ?_⟩
      rw [List.findIdx?_cons]
      simp [z2]
mutual
theorem okT : ∀ (t : ITg) (c : CC) (X : Cx) (a : Expr), COk C G k c X → chkT c t a = true → PG X a (tG X.K t)
  | .slot i, c, X, a, w, h => by
    unfold chkT at h
    split at h
    · simp only [Bool.and_eq_true] at h
      obtain ⟨h1, h2⟩ := h
      obtain ⟨z1, z2⟩ := w.sto _ h2
      exact g_slot w.nd (w.nx h1) z1 z2
    · cases h
  | .tup ts, c, X, a, w, h => by
    unfold chkT at h
    split at h
    · obtain ⟨z1, z2⟩ := assignEach_len (env := X.env) h
      exact g_tup w.calm (okTg ts c X _ w h) z1 z2
    · cases h
theorem okTg : ∀ (ts : ITgs) (c : CC) (X : Cx) (as : List Expr), COk C G k c X → chkTg c ts as = true → PGs X as (tGs X.K ts)
  | .nil, c, X, as, w, h => by
    unfold chkTg at h
    split at h
    · exact g_nil
    · cases h
  | .cons t ts, c, X, as, w, h => by
    unfold chkTg at h
    split at h
    · rename_i x xs
      simp only [Bool.and_eq_true] at h
      obtain ⟨⟨h1, h2⟩, h3⟩ := h
      have hs : ∀ v p, x ≠ .Starred v p := fun v p q => by subst q; cases h1
      exact g_cons (okT t c X x w h2) (okTg ts c X xs w h3) (by rw [assignEach_star hs]; rfl)
    · cases h
end
theorem bnames {C : Call} {G : Nat → D} {k : Nat} {c : CC} {X : Cx} (w : COk C G k c X) (b : Blt) : X.mg (Str.ofString (bltName b)) = none := by
  refine w.blt _ ?_
  cases b <;> decide +kernel
theorem both {a : Expr} {e : IE} (p : PE X a (tE X.K C G e)) (he : ∀ whole, isTrue a X.env whole = (do let v ← whole; standAt a.pos; holding [v] (truthy v))) : PE X a (tE X.K C G e) ∧ PT X a (tB X.K C G e) := ⟨p, b_plain p he⟩
mutual
theorem okE : ∀ (e : IE) (c : CC) (X : Cx) (a : Expr), COk C G k c X → chkE c e a = true → PE X a (tE X.K C G e) ∧ PT X a (tB X.K C G e)
  | .slot i, c, X, a, w, h => by
    unfold chkE at h
    split at h
    · simp only [Bool.and_eq_true] at h
      obtain ⟨⟨h1, h2⟩, h3⟩ := h
      obtain ⟨z1, z2⟩ := okN_of h3
      exact both (r_slot (C := C) (G := G) (w.nx h1) (w.vis h2) z1 z2) fun _ => rfl
    · cases h
  | .con d, c, X, a, w, h => by
    unfold chkE at h
    split at h
    · exact both (r_con (X := X) (C := C) (G := G) (con_of h)) fun _ => rfl
    · cases h
  | .glob g, c, X, a, w, h => by
    unfold chkE at h
    split at h
    · simp only [Bool.and_eq_true] at h
      obtain ⟨⟨h1, h2⟩, h3⟩ := h
      obtain ⟨z1, z2⟩ := okN_of h3
      obtain ⟨v, u, m, r, q⟩ := w.gls g _ (of_decide_eq_true h1)
      exact both (r_glob (C := C) (g := g) (w.gl h2) m r q z1) fun _ => rfl
    · cases h
  | .tup es, c, X, a, w, h => by
    unfold chkE at h
    split at h
    · exact both (r_tup (okEs es c X _ w h).pa) fun _ => rfl
    · cases h
  | .lst es, c, X, a, w, h => by
    unfold chkE at h
    split at h
    · exact both (r_lst (okEs es c X _ w h).pa) fun _ => rfl
    · cases h
  | .new es, c, X, a, w, h => by
    unfold chkE at h
    split at h
    · exact both (r_new (okEs es c X _ w h).pa) fun _ => rfl
    · cases h
  | .emp, c, X, a, w, h => by
    unfold chkE at h
    split at h
    · exact both (r_emp (X := X) (C := C) (G := G)) fun _ => rfl
    · cases h
  | .bin op x y, c, X, a, w, h => by
    unfold chkE at h
    split at h
    · simp only [Bool.and_eq_true] at h
      obtain ⟨⟨h1, h2⟩, h3⟩ := h
      cases of_decide_eq_true h1
      exact both (r_bin (op := op) (okE x c X _ w h2).1 (okE y c X _ w h3).1) fun _ => rfl
    · cases h
  | .neg x, c, X, a, w, h => by
    unfold chkE at h
    split at h
    · exact both (r_neg (okE x c X _ w h).1) fun _ => rfl
    · cases h
  | .nt x, c, X, a, w, h => by
    unfold chkE at h
    split at h
    · have z := okE x c X _ w h
      exact ⟨r_nt z.1, b_nt z.2⟩
    · cases h
  | .and es, c, X, a, w, h => by
    unfold chkE at h
    split at h
    · rename_i xs pos
      simp only [Bool.and_eq_true] at h
      obtain ⟨h1, h2⟩ := h
      have z := (okEs es c X _ w h1).an (by rintro rfl; cases h2) pos
      exact ⟨r_and z.1, b_and z.2⟩
    · cases h
  | .or es, c, X, a, w, h => by
    unfold chkE at h
    split at h
    · rename_i xs pos
      simp only [Bool.and_eq_true] at h
      obtain ⟨h1, h2⟩ := h
      have z := (okEs es c X _ w h1).on (by rintro rfl; cases h2) pos
      exact ⟨r_or z.1, b_or z.2⟩
    · cases h
  | .cmp op x y, c, X, a, w, h => by
    unfold chkE at h
    split at h
    · simp only [Bool.and_eq_true] at h
      obtain ⟨⟨⟨h1, h2⟩, h3⟩, h4⟩ := h
      cases of_decide_eq_true h1
      have z1 := (okE x c X _ w h3).1
      have z2 := (okE y c X _ w h4).1
      have m := (Bool.not_eq_true' _).mp h2
      exact ⟨r_cmp w.hu z1 z2 m, b_cmp w.hu z1 z2 m⟩
    · cases h
  | .cmp2 op op' x y z, c, X, a, w, h => by
    unfold chkE at h
    split at h
    · simp only [Bool.and_eq_true] at h
      obtain ⟨⟨⟨⟨⟨h1, h1'⟩, h2⟩, h3⟩, h4⟩, h5⟩ := h
      cases of_decide_eq_true h1
      cases of_decide_eq_true h1'
      have z1 := (okE x c X _ w h3).1
      have z2 := (okE y c X _ w h4).1
      have z3 := (okE z c X _ w h5).1
      have m := (Bool.not_eq_true' _).mp h2
      exact ⟨r_cmp2 w.hu z1 z2 z3 m, b_cmp2 w.hu z1 z2 z3 m⟩
    · cases h
  | .ife t x y, c, X, a, w, h => by
    unfold chkE at h
    split at h
    · simp only [Bool.and_eq_true] at h
      obtain ⟨⟨h1, h2⟩, h3⟩ := h
      have z1 := okE t c X _ w h1
      have z2 := okE x c X _ w h2
      have z3 := okE y c X _ w h3
      exact ⟨r_ife z1.2 z2.1 z3.1, b_ife (r_ife z1.2 z2.1 z3.1) z1.2 z2.2 z3.2⟩
    · cases h
  | .idx x i, c, X, a, w, h => by
    unfold chkE at h
    split at h
    · simp only [Bool.and_eq_true] at h
      obtain ⟨⟨h1, h2⟩, h3⟩ := h
      exact both (r_idx (okE x c X _ w h2).1 (okE i c X _ w h3).1 (slice_of h1)) fun _ => rfl
    · cases h
  | .slc x lo hi, c, X, a, w, h => by
    unfold chkE at h
    split at h
    · simp only [Bool.and_eq_true] at h
      obtain ⟨⟨h1, h2⟩, h3⟩ := h
      exact both (r_slc (okE x c X _ w h1).1 (okO lo c X _ w h2) (okO hi c X _ w h3)) fun _ => rfl
    · cases h
  | .rev x, c, X, a, w, h => by
    unfold chkE at h
    split at h
    · exact both (r_rev (okE x c X _ w h).1) fun _ => rfl
    · cases h
  | .call f es, c, X, a, w, h => by
    unfold chkE at h
    split at h
    · rename_i x p1 xs pos
      simp only [Bool.and_eq_true] at h
      obtain ⟨⟨⟨h1, h2⟩, h3⟩, h4⟩ := h
      obtain ⟨fa, fd, ps, F, m, kp, b⟩ := w.fns f _ (of_decide_eq_true h1)
      obtain ⟨z1, z2⟩ := okN_of h3
      have row := okEs es c X _ w h4
      have p : PE X (.Call (.Name x p1) xs [] pos) (tE X.K C G (.call f es)) := by
        cases xs with
        | nil =>
          rw [chkEs_nil h4]
          exact r_call0 F w.room (w.gl h2) m kp b z1
        | cons y ys =>
          obtain ⟨q1, q2⟩ := row.hd y ys rfl
          exact r_call F w.room (w.gl h2) m kp b row.pa z1 (star_of q1) (q2 pos)
      exact ⟨p, b_plain p fun _ => rfl⟩
    · cases h
  | .blt b es, c, X, a, w, h => by
    unfold chkE at h
    split at h
    · rename_i x p1 xs pos
      simp only [Bool.and_eq_true] at h
      obtain ⟨⟨⟨h1, h2⟩, h3⟩, h4⟩ := h
      have row := okEs es c X _ w h4
      have p : PE X (.Call (.Name x p1) xs [] pos) (tE X.K C G (.blt b es)) := by
        cases xs with
        | nil => cases h3
        | cons y ys =>
          obtain ⟨q1, q2⟩ := row.hd y ys rfl
          have e := of_decide_eq_true h1
          exact r_blt w.calm w.hu e (w.gl h2) (by rw [e]; exact bnames w b) row.pa (star_of q1) (q2 pos)
      exact ⟨p, b_plain p fun _ => rfl⟩
    · cases h
  | .isi x t, c, X, a, w, h => by
    unfold chkE at h
    split at h
    · rename_i f p1 y z p2 pos
      simp only [Bool.and_eq_true] at h
      obtain ⟨⟨⟨⟨⟨h1, h2⟩, h3⟩, h4⟩, h5⟩, h6⟩ := h
      have e1 := of_decide_eq_true h1
      have e2 := of_decide_eq_true h2
      exact both (r_isi (pos := pos) (p := p1) (p2 := p2) e1 e2 (w.gl h3) (w.gl h4) (by rw [e1]; exact w.blt _ (by decide +kernel)) (by rw [e2]; refine w.blt _ ?_; cases t <;> decide +kernel) (okE x c X _ w h6).1 (star_of h5) rfl) fun _ => rfl
    · cases h
  | .app o x, c, X, a, w, h => by
    unfold chkE at h
    split at h
    · simp only [Bool.and_eq_true] at h
      obtain ⟨⟨⟨⟨⟨h1, h2⟩, h3⟩, h4⟩, h5⟩, h6⟩ := h
      cases of_decide_eq_true h1
      exact both (r_app (okE o c X _ w h5).1 (okE x c X _ w h6).1 (base_of h2) h3 (star_of h4)) fun _ => rfl
    · cases h
  | .comp e t it own ifs, c, X, a, w, h => by
    unfold chkE at h
    split at h
    · simp only [Bool.and_eq_true] at h
      obtain ⟨⟨⟨⟨⟨⟨h1, h2⟩, h3⟩, h4⟩, h5⟩, h6⟩, h7⟩ := h
      exact both (r_comp (C := C) (G := G) (e := e) (t := t) (it := it) (es := ifs) w.calm w.nd (okIt it c X _ _ w h3) (blkOk_by (by rw [w.N, w.sc]; exact h1)) (fun s H C' cl fp => okT t _ _ _ w.inner h4) (fun s H C' cl fp => okTs ifs _ _ _ w.inner h5)
        (fun s H C' cl fp => (okE e _ _ _ w.inner h6).1) (set_of h2) (allIn_of h7)) fun _ => rfl
    · cases h
theorem okEs : ∀ (es : IEs) (c : CC) (X : Cx) (as : List Expr), COk C G k c X → chkEs c es as = true → RowOk C G X es as
  | .nil, c, X, as, w, h => by
    unfold chkEs at h
    split at h
    · exact row_nil
    · cases h
  | .cons e es, c, X, as, w, h => by
    unfold chkEs at h
    split at h
    · rename_i x xs
      simp only [Bool.and_eq_true] at h
      obtain ⟨⟨h1, h2⟩, h3⟩ := h
      refine row_cons h1 (okE e c X x w h2) (okEs es c X xs w h3) (fun q => by subst q; exact chkEs_nil h3) fun q => ?_
      cases xs with
      | nil => exact absurd rfl q
      | cons y ys => exact chkEs_cons h3
    · cases h
theorem okO : ∀ (es : IEs) (c : CC) (X : Cx) (o : Option Expr), COk C G k c X → chkO c es o = true → match o, es with | none, .nil => True | some e, .cons ei .nil => PE X e (tE X.K C G ei) | _, _ => False
  | .nil, c, X, o, w, h => by
    unfold chkO at h
    split at h
    · trivial
    · cases h
  | .cons e .nil, c, X, o, w, h => by
    unfold chkO at h
    split at h
    · exact (okE e c X _ w h).1
    · cases h
  | .cons _ (.cons _ _), c, X, o, w, h => by
    unfold chkO at h
    cases h
theorem okTs : ∀ (es : IEs) (c : CC) (X : Cx) (as : List Expr), COk C G k c X → chkTs c es as = true → PTs X as (tTs X.K C G es)
  | .nil, c, X, as, w, h => by
    unfold chkTs at h
    split at h
    · exact tests_nil
    · cases h
  | .cons e .nil, c, X, as, w, h => by
    unfold chkTs at h
    split at h
    · exact tests_one (okE e c X _ w h).2
    · cases h
  | .cons _ (.cons _ _), c, X, as, w, h => by
    unfold chkTs at h
    cases h
theorem okIt : ∀ (it : IIt) (c : CC) (X : Cx) (tg a : Expr), COk C G k c X → chkIt c it tg a = true → PI X tg a (tI X.K C G it)
  | .val e, c, X, tg, a, w, h => by
    unfold chkIt at h
    exact i_val (okE e c X a w h).1
  | .rng1 x, c, X, tg, a, w, h => by
    unfold chkIt at h
    split at h
    · simp only [Bool.and_eq_true] at h
      obtain ⟨⟨⟨h1, h2⟩, h3⟩, h4⟩ := h
      cases of_decide_eq_true h1
      exact i_rng1 (w.gl h2) (w.blt _ (by decide +kernel)) (okE x c X _ w h4).1 (star_of h3)
    · cases h
  | .rng2 x y, c, X, tg, a, w, h => by
    unfold chkIt at h
    split at h
    · simp only [Bool.and_eq_true] at h
      obtain ⟨⟨⟨⟨⟨h1, h2⟩, h3⟩, h4⟩, h5⟩, h6⟩ := h
      cases of_decide_eq_true h1
      have s2 := star_of (xs := []) (env := X.env) h4
      exact i_rng2 (w.gl h2) (w.blt _ (by decide +kernel)) (okE x c X _ w h5).1 (okE y c X _ w h6).1 (by rw [star_of h3, s2]; rfl) (by rw [s2]; rfl)
    · cases h
  | .zip x y, c, X, tg, a, w, h => by
    unfold chkIt at h
    split at h
    · simp only [Bool.and_eq_true] at h
      obtain ⟨⟨⟨⟨⟨h1, h2⟩, h3⟩, h4⟩, h5⟩, h6⟩ := h
      cases of_decide_eq_true h1
      exact i_zip (w.gl h2) (w.blt _ (by decide +kernel)) (okE x c X _ w h5).1 (okE y c X _ w h6).1 (star_of h3) (star_of h4)
    · cases h
  | .enum x, c, X, tg, a, w, h => by
    unfold chkIt at h
    split at h
    · simp only [Bool.and_eq_true] at h
      obtain ⟨⟨⟨h1, h2⟩, h3⟩, h4⟩ := h
      cases of_decide_eq_true h1
      exact i_enum (w.gl h2) (w.blt _ (by decide +kernel)) (okE x c X _ w h4).1 (star_of h3)
    · cases h
end
end
end DL

set_option Elab.async false
set_option linter.all false
set_option maxRecDepth 100000
set_option maxHeartbeats 4000000
set_option autoImplicit false
/-! DenK: statements that pass the look; the whole program. -/
namespace DL
open PySem PySem.Spec PyProof.Rows L2
section
variable {C : Call} {G : Nat → D} {k N : Nat} {c : CC} {X : Cx}
theorem filter_short {g : Expr → Bool} {f : Expr → Option Str} (hf : ∀ e, g e = false → f e = none) : ∀ {xs : List Expr}, xs.all g = false → (xs.filterMap f).length < xs.length
  | [], h => by cases h
  | x :: xs, h => by
    have le : (xs.filterMap f).length ≤ xs.length := List.length_filterMap_le _ _
    rw [List.filterMap_cons]
    cases q : g x with
    | false =>
      rw [hf x q]
      exact Nat.lt_succ_of_le le
    | true =>
      rw [List.all_cons, q, Bool.true_and] at h
      have ih := filter_short hf h
      cases f x with
      | none => exact Nat.lt_succ_of_lt ih
      | some _ => exact Nat.succ_lt_succ ih
theorem sw_none {xs vs : List Expr} {k k2 : Nat} {p p2 : Pos} {env : PySem.Env} (hs : env.scope = c.sc) (h : xs.all (isLoc c) = false) : swappedStores [.Tuple xs k p] (.Tuple vs k2 p2) env = pure none := by
  unfold swappedStores
  simp only
  split
  · rfl
  split
  · rfl
  rename_i h1 h2
  have key : ∀ (f : Expr → Option Str), (∀ e, isLoc c e = false → f e = none) → ((xs.filterMap f).length != xs.length) = true := fun f hf => by
    exact bne_iff_ne.mpr (Nat.ne_of_lt (filter_short hf h))
  rw [if_pos]
  rw [Bool.or_eq_true]
  left
  refine key _ fun e he => ?_
  cases e with
  | Name x p =>
    have he' : decide (c.sc.names.lookup x = some .local) = false := he
    have : (env.kindOf x == some .local) = false := by
      unfold PySem.Env.kindOf
      rw [hs]
      exact beq_eq_false_iff_ne.mpr (of_decide_eq_false he')
    simp only [this, Bool.false_and]
    rfl
  | _ => rfl
theorem sw_len {xs vs : List Expr} {k k2 : Nat} {p p2 : Pos} {env : PySem.Env} (h : (xs.length == 2 || xs.length == 3) = false) : swappedStores [.Tuple xs k p] (.Tuple vs k2 p2) env = pure none := by
  unfold swappedStores
  simp only [h, Bool.not_false, Bool.true_or]
  rfl
theorem sw_fold {xs vs : List Expr} {k k2 : Nat} {p p2 : Pos} {env : PySem.Env} (h : vs.all (foldedForSure 8) = true) : swappedStores [.Tuple xs k p] (.Tuple vs k2 p2) env = pure none := by
  unfold swappedStores
  simp only
  split
  · rfl
  split
  · rfl
  split
  · rfl
  first | rfl | rw [if_pos h]
theorem sw_other {xs : List Expr} {v : Expr} {k : Nat} {p : Pos} {env : PySem.Env} (hs : env.scope = c.sc) (h : tupB c xs v = true) : swappedStores [.Tuple xs k p] v env = pure none := by
  unfold tupB at h
  cases v with
  | Tuple vs k2 p2 =>
    simp only [Bool.or_eq_true, Bool.not_eq_true'] at h
    rcases h with h | h | h
    · exact sw_none hs h
    · exact sw_len h
    · exact sw_fold h
  | DictComp _ _ _ _ _ => cases h
  | SetComp _ _ _ _ => cases h
  | _ => rfl
theorem sw_some {x y : Str} {px py p p2 : Pos} {a b : Expr} {k k2 : Nat} {env : PySem.Env} (hb : env.blockKind = .function) (hx : env.kindOf x = some .local) (hy : env.kindOf y = some .local) (hl : (py.line == px.line) = true) (hne : x ≠ y) (ha : nst a = true) (hb' : nst b = true)
    (hf : [a, b].all (foldedForSure 8) = false) (hc : [a, b].all (constantsAlone 8) = false) : swappedStores [.Tuple [.Name x px, .Name y py] k p] (.Tuple [a, b] k2 p2) env = pure (some [x, y]) := by
  unfold swappedStores
  have e1 : ([a, b].any fun | .Starred .. => true | _ => false) = false := by
    rw [List.any_cons, List.any_cons, List.any_nil]
    cases a <;> first | (cases ha; done) | (cases b <;> first | (cases hb'; done) | rfl)
  have e2 : (([x, y] : List Str).eraseDups.length) = 2 := by
    have : (y == x) = false := by simpa using fun e => hne e.symm
    simp [List.eraseDups_cons, List.filter, this]
  simp only [List.length_cons, List.length_nil, hb, hx, hy, hl, List.filterMap_cons, List.filterMap_nil, List.head?_cons, Option.map_some, Option.getD_some, Expr.pos, beq_self_eq_true, Bool.and_self, if_true, e2, hf, hc]
  refine (if_neg (by decide)).trans ?_
  refine (if_neg (fun z => Bool.noConfusion (e1.symm.trans z))).trans ?_
  refine (if_neg (by decide)).trans ?_
  refine (if_neg (by decide)).trans ?_
  exact if_neg (by decide)
theorem nsw {v : Expr} {tg : Option Expr} {l : Nat} {env : PySem.Env} (h : ncomp v = true) : swapsWith v tg l env = pure false := by
  cases v <;> first | rfl | cases h
theorem nswS {v tg : Expr} {l : Nat} {env : PySem.Env} (h : ncomp v = true) : swapsWithSole [tg] v l env = pure false := by
  cases v <;> first | rfl | cases h
theorem nsw_tup {v : Expr} {xs : List Expr} {k : Nat} {p : Pos} {l : Nat} {env : PySem.Env} : swapsWithSole [.Tuple xs k p] v l env = pure false := by
  cases v <;> rfl
theorem sw_false {x : Str} {p : Pos} {v : Expr} {l : Nat} {env : PySem.Env} (hs : env.scope = c.sc) (hv : (match v with | .DictComp _ _ _ _ _ => false | .SetComp _ _ _ _ => false | _ => true) = true) (h : swB c x p v = false) : swapsWith v (some (.Name x p)) l env = pure false := by
  cases v with
  | ListComp elt gs scope pos =>
    unfold swapsWith
    simp only
    unfold swB at h
    have hk : (env.kindOf x == some .local) = decide (c.sc.names.lookup x = some .local) := by
      have e : env.kindOf x = c.sc.names.lookup x := by show env.scope.names.lookup x = _; rw [hs]
      rw [e, Bool.eq_iff_iff]
      simp
    simp only at h
    rw [Bool.and_assoc, Bool.and_assoc, hk, ← Bool.and_assoc (decide _), h, Bool.and_false]
  | DictComp _ _ _ _ _ => cases hv
  | SetComp _ _ _ _ => cases hv
  | _ => rfl
theorem sw_yes {x : Str} {p pos : Pos} {elt : Expr} {gs : List Comprehension} {scope : Scope} {l : Nat} {env : PySem.Env} (hs : env.scope = c.sc) (hk : c.sc.kind = .function) (h : swB c x p (.ListComp elt gs scope pos) = true) : env.scope.names.lookup x = some .local ∧ swapsWith (.ListComp elt gs scope pos) (some (.Name x p)) l env = pure true := by
  unfold swB at h
  simp only [Bool.and_eq_true] at h
  obtain ⟨⟨h1, h2⟩, h3⟩ := h
  have z : env.scope.names.lookup x = some .local := by rw [hs]; exact of_decide_eq_true h1
  exact ⟨z, sw_true (by rw [hs]; exact hk) z h2 ((Bool.not_eq_true' _).mp h3)⟩
theorem comp_inv {e : IE} {elt : Expr} {gs : List Comprehension} {scope : Scope} {pos : Pos} (h : chkE c e (.ListComp elt gs scope pos) = true) : ∃ e' t it own ifs tg iter cs, e = .comp e' t it own ifs ∧ gs = [⟨tg, iter, cs, 0⟩] ∧
    blkC c.N c.sc scope own = true ∧ nset iter = true ∧ chkIt c it tg iter = true ∧ chkT (c.inner scope) t tg = true ∧ chkTs (c.inner scope) ifs cs = true ∧ chkE (c.inner scope) e' elt = true ∧ allIn t.sl (own.map (·.2)) = true := by
  cases e <;> unfold chkE at h <;> first | (cases h; done) | skip
  rename_i e' t it own ifs
  split at h
  · rename_i elt' tg iter cs scope' pos' heq
    cases heq
    simp only [Bool.and_eq_true] at h
    obtain ⟨⟨⟨⟨⟨⟨h1, h2⟩, h3⟩, h4⟩, h5⟩, h6⟩, h7⟩ := h
    exact ⟨e', t, it, own, ifs, tg, iter, cs, rfl, rfl, h1, h2, h3, h4, h5, h6, h7⟩
  · cases h
mutual
theorem okS (hk : c.sc.kind = .function) (w : COk C G k c X) : ∀ (s : IS) (st : Stmt), chkS c s st = true → PS X st (tS X.K C G N s)
  | .asg t e, st, h => by
    unfold chkS at h
    split at h
    · rename_i i x p v pos
      simp only [Bool.and_eq_true] at h
      obtain ⟨⟨⟨h1, h2⟩, h3⟩, h4⟩ := h
      obtain ⟨z1, z2⟩ := w.sto _ h2
      cases q : swB c x p v with
      | false => exact s_set w.nd (w.nx h1) z1 (okE e c X v w h4).1 (sw_false w.sc h3 q) z2
      | true =>
        cases v with
        | ListComp elt gs scope pos' =>
          obtain ⟨e', t', it, own, ifs, tg, iter, cs, rfl, rfl, g1, g2, g3, g4, g5, g6, g7⟩ := comp_inv h4
          obtain ⟨y1, y2⟩ := sw_yes (l := pos.line) w.sc hk q
          exact s_setLc w.calm w.nd (w.nx h1) y1 y2 (okIt it c X _ _ w g3) (blkOk_by (by rw [w.N, w.sc]; exact g1)) (fun s H C' cl fp => okT t' _ _ _ w.inner g4) (fun s H C' cl fp => okTs ifs _ _ _ w.inner g5)
            (fun s H C' cl fp => (okE e' _ _ _ w.inner g6).1) (set_of g2) (allIn_of g7)
        | _ => cases q
    · rename_i ts xs k0 p0 v pos
      simp only [Bool.and_eq_true] at h
      obtain ⟨⟨h1, h2⟩, h3⟩ := h
      have g : chkT c (.tup ts) (.Tuple xs k0 p0) = true := by unfold chkT; exact h1
      exact s_asg (okE e c X v w h3).1 (okT _ c X _ w g) nsw_tup (sw_other w.sc h2) rfl
    · cases h
  | .sub o i e, st, h => by
    unfold chkS at h
    split at h
    · simp only [Bool.and_eq_true] at h
      obtain ⟨⟨⟨⟨h1, h2⟩, h3⟩, h4⟩, h5⟩ := h
      refine s_sub (okE o c X _ w h3).1 (okE i c X _ w h4).1 (okE e c X _ w h5).1 (fun v => ?_) (nswS h2) ?_
      · rename_i x y _ v' _
        cases y <;> first | rfl | (cases h1; done)
      · rename_i x y _ v' _
        cases v' <;> rfl
    · cases h
  | .par i j a b, st, h => by
    unfold chkS at h
    split at h
    · simp only [Bool.and_eq_true] at h
      obtain ⟨⟨⟨⟨⟨⟨⟨⟨⟨⟨⟨⟨h1, h2⟩, h3⟩, h4⟩, h5⟩, h6⟩, h7⟩, h8⟩, h9⟩, h10⟩, h11⟩, h12⟩, h13⟩ := h
      have e5 := of_decide_eq_true h5
      have e6 := of_decide_eq_true h6
      rw [← w.sc] at e5 e6
      have hb : X.env.blockKind = .function := by unfold Env.blockKind; rw [w.sc, hk]; rfl
      exact s_par w.calm w.nd (w.nx h1) (w.nx h2) (of_decide_eq_true h3) e5 e6 (okE a c X _ w h12).1 (okE b c X _ w h13).1 (star_of h8) (star_of h9)
        (sw_some hb e5 e6 h7 (of_decide_eq_true h4) h8 h9 ((Bool.not_eq_true' _).mp h10) ((Bool.not_eq_true' _).mp h11)) nsw_tup
    · cases h
  | .aug i op e, st, h => by
    unfold chkS at h
    split at h
    · simp only [Bool.and_eq_true] at h
      obtain ⟨⟨⟨h1, h2⟩, h3⟩, h4⟩ := h
      cases of_decide_eq_true h3
      obtain ⟨z1, z2⟩ := w.sto _ h2
      exact s_aug w.nd (w.nx h1) z1 (okE e c X _ w h4).1 z2
    · cases h
  | .expr e, st, h => by
    unfold chkS at h
    split at h
    · simp only [Bool.and_eq_true] at h
      exact s_expr (okE e c X _ w h.2).1 (nsw h.1)
    · cases h
  | .ret e, st, h => by
    unfold chkS at h
    split at h
    · exact s_ret (okE e c X _ w h).1
    · cases h
  | .retN, st, h => by
    unfold chkS at h
    split at h
    · exact s_retN
    · cases h
  | .ifs t a b, st, h => by
    unfold chkS at h
    split at h
    · simp only [Bool.and_eq_true] at h
      obtain ⟨⟨h1, h2⟩, h3⟩ := h
      exact s_if (okE t c X _ w h1).2 (okSs hk w a _ h2) (okSs hk w b _ h3)
    · cases h
  | .fors t it body, st, h => by
    unfold chkS at h
    split at h
    · simp only [Bool.and_eq_true] at h
      obtain ⟨⟨⟨h1, h2⟩, h3⟩, h4⟩ := h
      exact s_for w.xe w.calm (okIt it c X _ _ w h2) (okT t c X _ w h3) (okSs hk w body _ h4) (set_of h1)
    · cases h
  | .whl t body, st, h => by
    unfold chkS at h
    split at h
    · simp only [Bool.and_eq_true] at h
      exact s_whl w.xe (okE t c X _ w h.1).2 (okSs hk w body _ h.2)
    · cases h
  | .brk, st, h => by
    unfold chkS at h
    split at h
    · exact s_brk
    · cases h
  | .cnt, st, h => by
    unfold chkS at h
    split at h
    · exact s_cnt
    · cases h
  | .pas, st, h => by
    unfold chkS at h
    split at h
    · exact s_pas
    · cases h
  | .frz _, st, h => by
    unfold chkS at h
    cases h
  | .never, st, h => s_never
theorem okSs (hk : c.sc.kind = .function) (w : COk C G k c X) : ∀ (ss : ISs) (sts : List Stmt), chkSs c ss sts = true → PSs X sts (tSs X.K C G N ss)
  | .nil, sts, h => by
    unfold chkSs at h
    split at h
    · exact sm_nil
    · cases h
  | .cons s ss, sts, h => by
    unfold chkSs at h
    split at h
    · exact sm_frz (okSs hk w ss sts h)
    · split at h
      · simp only [Bool.and_eq_true] at h
        exact sm_cons (okS hk w s _ h.1) (okSs hk w ss _ h.2)
      · cases h
end
/-! ### the whole program -/
/-- what is told of a numbered def: its name, names by slot, parameters -/
structure DefI where
  name : Str
  N : List Str
  ps : List Str
/-- the program's data: defs, constants, the resolved bodies -/
structure Pg where
  defs : List DefI
  gls : List Str
  T : Nat → Fn
  G : Nat → D
def Pg.fns (p : Pg) : List Str := p.defs.map (·.name)
def scB (N ps : List Str) (sc : Scope) : Bool :=
  decide (sc.kind = .function) && !sc.isCoroutine && !sc.isGenerator && decide N.Nodup && decide (N.take ps.length = ps) && (ps.all fun x => decide (sc.names.lookup x = some .local) || decide (sc.names.lookup x = some .cell)) && (sc.names.all fun y => !decide (y.2 = .free))
theorem sc_of {N ps : List Str} {sc : Scope} (h : scB N ps sc = true) : FnScope N ps sc := by
  unfold scB at h
  simp only [Bool.and_eq_true, List.all_eq_true, Bool.or_eq_true, Bool.not_eq_true', decide_eq_true_eq, decide_eq_false_iff_not] at h
  obtain ⟨⟨⟨⟨⟨⟨h1, h2⟩, h3⟩, h4⟩, h5⟩, h6⟩, h7⟩ := h
  exact ⟨h1, h2, h3, h4, h5, h6, h7⟩
/-- the look at a def of the text -/
def chkD (p : Pg) (f : Nat) (d : DefI) (st : Stmt) : Bool :=
  scB d.N d.ps (defScope st) && Nat.beq d.ps.length (p.T f).np && Nat.beq d.N.length (p.T f).ns && chkSs ⟨d.N, defScope st, defScope st, p.fns, p.gls⟩ (p.T f).body (defBody st)
/-- what must stand in the module -/
structure Laid (p : Pg) (K : PySem.W.Frag) (mg : Str → Option Value) (sts : Nat → Stmt) : Prop where
  fn : ∀ (f : Nat) (d : DefI), p.defs[f]? = some d → ∃ fa fd, Fun K d.name d.name (sts f) fa fd ∧ mg d.name = some (.ref fa) ∧ Binds K fd d.ps []
  gl : ∀ (g : Nat) (x : Str), p.gls[g]? = some x → ∃ v u, mg x = some u ∧ RelV v u ∧ ∀ L H, Rep K L H (p.G g) v
  blt : ∀ x ∈ bltNames, mg x = none
  chk : ∀ (f : Nat) (d : DefI), p.defs[f]? = some d → chkD p f d (sts f) = true
theorem prog_ok {P : Program} {w : World} {K : PySem.W.Frag} {mg : Str → Option Value} {base : Heap} {p : Pg} {sts : Nat → Stmt} (l : Laid p K mg sts) (N : Nat) : ∀ (k f : Nat) (d : DefI) (fa : Addr) (fd : FuncData), p.defs[f]? = some d → Fun K d.name d.name (sts f) fa fd →
    FnOk P w K mg base CX0 k fa fd d.ps (spC K (callN p.G N p.T k) f)
  | 0, f, d, fa, fd, hd, F => by
    refine ⟨fun vs H Q E h => ?_, fun A outer s H args us vs Q E hr e0 hb r h => ?_⟩
    · obtain ⟨L, st, ds, _, _, h⟩ := h
      exact h.elim
    · obtain ⟨L, st, ds, _, _, h⟩ := h
      exact h.elim
  | k + 1, f, d, fa, fd, hd, F => by
    have hc := l.chk f d hd
    unfold chkD at hc
    simp only [Bool.and_eq_true] at hc
    obtain ⟨⟨⟨h1, h2⟩, h3⟩, h4⟩ := hc
    have S := sc_of h1
    obtain ⟨oc, od, kV, doc, pm, an, cdv, ct, osl, rfl, lk, hcd⟩ := F.ex
    refine fn_ok (C := callN p.G N p.T k) (G := p.G) (N := N) (F := p.T f) lk hcd S (Nat.eq_of_beq_eq_true h2) (Nat.eq_of_beq_eq_true h3) (fun _ _ => rfl) fun A outer s H E hr => ?_
    refine okSs (c := ⟨d.N, defScope (sts f), defScope (sts f), p.fns, p.gls⟩) (k := k) S.kind ?_ _ _ h4
    refine ⟨rfl, rfl, S.nd, rfl, PassesOwn.never, hr, fun x hx => ?_, fun f' x hf => ?_, l.gl, l.blt⟩
    · unfold CC.sto at hx
      split at hx
      · rename_i e
        exact ⟨.inl e, .inl rfl⟩
      · rename_i e
        exact ⟨.inr e, .inl rfl⟩
      · cases hx
    · have hf' : (p.defs.map (·.name))[f']? = some x := hf
      rw [List.getElem?_map] at hf'
      cases q : p.defs[f']? with
      | none => rw [q] at hf'; cases hf'
      | some d' =>
        rw [q] at hf'
        cases hf'
        obtain ⟨fa', fd', F', m', b'⟩ := l.fn f' d' q
        exact ⟨fa', fd', d'.ps, prog_ok l N k f' d' fa' fd' q F', m', F'.kp, b'⟩
end
end DL

set_option Elab.async false
set_option linter.all false
set_option maxRecDepth 100000
set_option maxHeartbeats 4000000
set_option autoImplicit false
/-! DenL: what a head has to tell, and the end of a law. -/
namespace DL
open PySem PySem.Spec PyProof.Rows L2
/-! ### how arguments bind: no defaults, no stars -/
def simpleB (a : Arguments) (ps : List Str) : Bool :=
  a.posonlyargs.isEmpty && a.kwonlyargs.isEmpty && a.vararg.isNone && a.kwarg.isNone && decide (a.args.map (·.arg) = ps)
theorem lookup_zip {ps : List Str} : ∀ {us : List Value}, us.length = ps.length → ∀ x ∈ ps, ((ps.zip us).lookup x).isSome = true := by
  induction ps with
  | nil => intro us _ x hx; cases hx
  | cons p ps ih =>
    intro us hl x hx
    cases us with
    | nil => cases hl
    | cons u us =>
      rw [List.zip_cons_cons, List.lookup_cons]
      cases q : x == p with
      | true => rfl
      | false =>
        rcases List.mem_cons.mp hx with e | e
        · rw [e] at q; simp at q
        · exact ih (by simpa using hl) x e
theorem filterMap_eq {α β : Type} {f g : α → Option β} : ∀ {l : List α}, (∀ x ∈ l, f x = g x) → l.filterMap f = l.filterMap g
  | [], _ => rfl
  | x :: l, h => by
    rw [List.filterMap_cons, List.filterMap_cons, h x List.mem_cons_self, filterMap_eq fun y hy => h y (List.mem_cons_of_mem _ hy)]
theorem filterMap_zip {ps : List Str} (nd : ps.Nodup) : ∀ {us : List Value}, us.length = ps.length → ps.filterMap (fun n => ((ps.zip us).lookup n).map fun v => (n, v)) = ps.zip us := by
  induction ps with
  | nil => intro us _; rfl
  | cons p ps ih =>
    intro us hl
    cases us with
    | nil => cases hl
    | cons u us =>
      obtain ⟨n1, n2⟩ := List.nodup_cons.mp nd
      rw [List.zip_cons_cons, List.filterMap_cons, List.lookup_cons, beq_self_eq_true]
      show (p, u) :: _ = _
      congr 1
      rw [← ih n2 (us := us) (by simpa using hl)]
      have e : ps.zip us = ps.filterMap (fun n => ((ps.zip us).lookup n).map fun v => (n, v)) := (ih n2 (us := us) (by simpa using hl)).symm
      rw [← e]
      refine (filterMap_eq fun x hx => ?_).trans e.symm
      have : (x == p) = false := by simpa using fun e : x = p => n1 (e ▸ hx)
      rw [List.lookup_cons, this]
theorem bind_simple {fd : FuncData} {ps : List Str} {us : List Value} (h : simpleB fd.params ps = true) (hd : fd.defaults = .none) (nd : ps.Nodup) (hl : us.length = ps.length) : bindArgs fd ⟨us, []⟩ = pure (ps.zip us) := by
  unfold simpleB at h
  simp only [Bool.and_eq_true, List.isEmpty_iff, Option.isNone_iff_eq_none, decide_eq_true_eq] at h
  obtain ⟨⟨⟨⟨h1, h2⟩, h3⟩, h4⟩, h5⟩ := h
  have m1 : (ps.filter fun n => ((ps.zip us).lookup n).isNone) = [] := by
    rw [List.filter_eq_nil_iff]
    intro x hx
    have := lookup_zip hl x hx
    simp [Option.isSome_iff_ne_none] at this ⊢
    exact this
  unfold bindArgs
  simp only [h1, h2, h3, h4, h5, hd, List.map_nil, List.nil_append, List.append_nil]
  show (do
    let ds ← seqItems? Value.none
    _ : Sem (List (Str × Value))) = _
  have e0 : (seqItems? Value.none) = pure none := rfl
  rw [e0]
  show (if _ then _ else _ : Sem (List (Str × Value))) = _
  have c0 : (decide (us.length > ps.length) && (Option.isNone (none : Option Arg))) = false := by simp [hl]
  rw [if_neg (by rw [c0]; decide)]
  have dr : List.drop ((Option.getD (none : Option (Array Value)) #[]).toList.length - ps.length) (Option.getD (none : Option (Array Value)) #[]).toList = [] := by simp
  simp only [dr, List.length_nil, Nat.sub_zero, List.take_length, m1, List.isEmpty_nil, List.zip_nil_right]
  rw [if_neg (by decide)]
  show (pure (ps.filterMap (fun n => ((ps.zip us).lookup n).map fun v => (n, v))) : Sem (List (Str × Value))) = _
  rw [filterMap_zip nd hl]
theorem bindS {K : PySem.W.Frag} {x qual : Str} {st : Stmt} {f : Addr} {fd : FuncData} {ps : List Str} (F : Fun K x qual st f fd) (h : simpleB (defArgs st) ps = true) (nd : ps.Nodup) (us : List Value) (hl : us.length = ps.length) : bindArgs fd ⟨us, []⟩ = pure (ps.zip us) := by
  obtain ⟨oc, od, kV, doc, pm, an, cdv, ct, osl, rfl, lk, hcd⟩ := F.ex
  exact bind_simple h rfl nd hl
/-! ### constants of the module -/
mutual
def repB (K : PySem.W.Frag) : D → Value → Bool
  | .non, .none => true
  | .bl b, .bool c => b == c
  | .int i, .int j _ => decide (i = j)
  | .str x, .str y _ => decide (x = y)
  | .tup xs, .ref a => (match K.lookup a with
    | some ⟨.type c, _, .seq its _, _⟩ => decide (c = "tuple") && (decide (its.size ≤ sizeLine) && repsB K xs its.toList)
    | _ => false)
  | .lst xs, .ref a => (match K.lookup a with
    | some ⟨.type c, none, .seq its _, _⟩ => decide (c = "list") && (decide (its.size ≤ sizeLine) && repsB K xs its.toList)
    | _ => false)
  | _, _ => false
def repsB (K : PySem.W.Frag) : List D → List Value → Bool
  | [], [] => true
  | d :: ds, u :: us => repB K d u && repsB K ds us
  | _, _ => false
end
mutual
theorem repB_ok {K : PySem.W.Frag} : ∀ (d : D) (u : Value), repB K d u = true → ∃ v, RelV v u ∧ ∀ L H, Rep K L H d v
  | .non, u, h => by
    cases u <;> try (unfold repB at h; cases h)
    exact ⟨.non, rfl, fun L H => by unfold Rep; rfl⟩
  | .bl b, u, h => by
    cases u <;> try (unfold repB at h; cases h)
    rename_i c
    unfold repB at h
    rw [beq_iff_eq.mp h]
    exact ⟨.bl c, rfl, fun L H => by unfold Rep; rfl⟩
  | .int b, u, h => by
    cases u <;> try (unfold repB at h; cases h)
    rename_i c t
    unfold repB at h
    rw [of_decide_eq_true h]
    exact ⟨.int c, ⟨t, rfl⟩, fun L H => by unfold Rep; rfl⟩
  | .str b, u, h => by
    cases u <;> try (unfold repB at h; cases h)
    rename_i c t
    unfold repB at h
    rw [of_decide_eq_true h]
    exact ⟨.str c, ⟨t, rfl⟩, fun L H => by unfold Rep; rfl⟩
  | .tup xs, u, h => by
    cases u <;> try (unfold repB at h; cases h)
    rename_i a
    unfold repB at h
    split at h
    · rename_i c od its n sl e
      simp only [Bool.and_eq_true, decide_eq_true_eq] at h
      obtain ⟨h1, h2, h3⟩ := h
      obtain ⟨vs, rv, hr⟩ := repsB_ok xs _ h3
      refine ⟨.ref a, rfl, fun L H => ?_⟩
      unfold Rep
      exact ⟨a, vs, rfl, .inr ⟨_, its, n, e, congrArg Value.type h1, rfl, h2, rv⟩, hr L H⟩
    · cases h
  | .lst xs, u, h => by
    cases u <;> try (unfold repB at h; cases h)
    rename_i a
    unfold repB at h
    split at h
    · rename_i c its n sl e
      simp only [Bool.and_eq_true, decide_eq_true_eq] at h
      obtain ⟨h1, h2, h3⟩ := h
      obtain ⟨vs, rv, hr⟩ := repsB_ok xs _ h3
      refine ⟨.ref a, rfl, fun L H => ?_⟩
      unfold Rep
      exact ⟨a, vs, rfl, .inr ⟨_, its, n, e, congrArg Value.type h1, rfl, rfl, h2, rv⟩, hr L H⟩
    · cases h
  | .dct _ _, u, h => by cases u <;> (unfold repB at h; cases h)
  | .ref _, u, h => by cases u <;> (unfold repB at h; cases h)
  | .fn _, u, h => by cases u <;> (unfold repB at h; cases h)
theorem repsB_ok {K : PySem.W.Frag} : ∀ (ds : List D) (us : List Value), repsB K ds us = true → ∃ vs, Vals vs us ∧ ∀ L H, Reps K L H ds vs
  | [], [], _ => ⟨[], .nil, fun L H => by unfold Reps; rfl⟩
  | d :: ds, u :: us, h => by
    unfold repsB at h
    simp only [Bool.and_eq_true] at h
    obtain ⟨v, rv, hv⟩ := repB_ok d u h.1
    obtain ⟨vs, rvs, hvs⟩ := repsB_ok ds us h.2
    exact ⟨v :: vs, .cons rv rvs, fun L H => by
      unfold Reps
      exact ⟨v, vs, rfl, hv L H, hvs L H⟩⟩
  | [], _ :: _, h => by unfold repsB at h; cases h
  | _ :: _, [], h => by unfold repsB at h; cases h
end
/-! ### the head's facts -/
def cstB (K : PySem.W.Frag) (gs : List (Str × D)) : Bool := gs.all fun g => match PySem.W.nsIn K mainGlobals g.1 with
  | some (some u) => repB K g.2 u
  | _ => false
def obsC (fa : List He.Fa) (fn : List He.FnD) (gs : List (Str × D)) (K : PySem.W.Frag) : He.Al := ((He.obsE fa fn K).1 && cstB K gs, (He.obsE fa fn K).2)
def SaysC (fa : List He.Fa) (fn : List He.FnD) (gs : List (Str × D)) (K : PySem.W.Frag) : Prop := obsC fa fn gs K = He.valE fn
def obsCG (n : Nat) (fa : List He.Fa) (fn : List He.FnD) (gs : List (Str × D)) (g : Addr → Option Obj) : He.Al := obsC fa fn gs (He.frG g (He.asG g n))
def hookC (n : Nat) (fa : List He.Fa) (fn : List He.FnD) (gs : List (Str × D)) : PySem.W.Hook where
  α := He.Al
  obs := fun s => obsCG n fa fn gs s.heap.get?
  val := fun _ => He.valE fn
  says := fun _ h => ∃ K : PySem.W.Frag, K.In h ∧ SaysC fa fn gs K
  of := fun _ _ e => ⟨_, He.frG_in, e⟩
  keeps := fun _ _ _ ⟨K, hK, c⟩ k => ⟨K, PySem.W.Frag.In.keeps hK k, c⟩
theorem obsCG_eq {n : Nat} {fa : List He.Fa} {fn : List He.FnD} {gs : List (Str × D)} {g : Addr → Option Obj} {s : Shared} (h : ∀ a, g a = s.heap.get? a) : obsCG n fa fn gs g = (hookC n fa fn gs).obs s := by
  have e : g = s.heap.get? := funext h
  rw [e] <;> rfl
theorem SaysC.both {fa : List He.Fa} {fn : List He.FnD} {gs : List (Str × D)} {K : PySem.W.Frag} (c : SaysC fa fn gs K) : He.SaysE fa fn K ∧ cstB K gs = true := by
  have h1 : ((He.obsE fa fn K).1 && cstB K gs) = true := congrArg (fun z : He.Al => z.1) c
  have h2 : (He.obsE fa fn K).2 = fn.map He.FnD.val := congrArg (fun z : He.Al => z.2) c
  obtain ⟨h3, h4⟩ := Bool.and_eq_true_iff.mp h1
  exact ⟨Prod.ext h3 h2, h4⟩
theorem fact_mem {fa : List He.Fa} {fn : List He.FnD} {K : PySem.W.Frag} (c : He.SaysE fa fn K) {f : He.Fa} (h : f ∈ fa) : f.ok K = true := by
  obtain ⟨i, hi, e⟩ := List.getElem_of_mem h
  exact c.fact i (by rw [List.getElem?_eq_getElem hi, e])
/-! ### a law's data -/
def mkF (d : DefI) (st : Stmt) : He.FnD := ⟨(d.name, none), d.name, d.name, defArgs st, defBody st, defScope st⟩
def fnF (sts : Nat → Stmt) : Nat → List DefI → List He.FnD
  | _, [] => []
  | i, d :: ds => mkF d (sts i) :: fnF sts (i + 1) ds
theorem fnF_get {sts : Nat → Stmt} : ∀ {ds : List DefI} {i j : Nat} {d : DefI}, ds[j]? = some d → (fnF sts i ds)[j]? = some (mkF d (sts (i + j)))
  | d0 :: ds, i, 0, d, h => by cases h; rfl
  | d0 :: ds, i, j + 1, d, h => by
    have h' : ds[j]? = some d := by simpa using h
    have := fnF_get (sts := sts) (i := i + 1) h'
    show (fnF sts (i + 1) ds)[j]? = _
    rw [this, show i + 1 + j = i + (j + 1) by omega]
def gsF (G : Nat → D) : Nat → List Str → List (Str × D)
  | _, [] => []
  | i, x :: xs => (x, G i) :: gsF G (i + 1) xs
theorem gsF_get {G : Nat → D} : ∀ {xs : List Str} {i j : Nat} {x : Str}, xs[j]? = some x → (gsF G i xs)[j]? = some (x, G (i + j))
  | d0 :: ds, i, 0, d, h => by cases h; rfl
  | d0 :: ds, i, j + 1, d, h => by
    have h' : ds[j]? = some d := by simpa using h
    have := gsF_get (G := G) (i := i + 1) h'
    show (gsF G (i + 1) ds)[j]? = _
    rw [this, show i + 1 + j = i + (j + 1) by omega]
def faL (p : Pg) : List He.Fa := p.defs.map (fun d => .glo d.name) ++ (p.defs.map (fun d => .keep d.name) ++ bltNames.map .free)
abbrev fnL (p : Pg) (sts : Nat → Stmt) : List He.FnD := fnF sts 0 p.defs
abbrev gsL (p : Pg) : List (Str × D) := gsF p.G 0 p.gls
/-- the look at all defs of the text -/
def chkF (p : Pg) (sts : Nat → Stmt) : Nat → List DefI → Bool
  | _, [] => true
  | i, d :: ds => (chkD p i d (sts i) && (simpleB (defArgs (sts i)) d.ps && decide d.ps.Nodup)) && chkF p sts (i + 1) ds
theorem chkF_get {p : Pg} {sts : Nat → Stmt} : ∀ {ds : List DefI} {i j : Nat} {d : DefI}, chkF p sts i ds = true → ds[j]? = some d → chkD p (i + j) d (sts (i + j)) = true ∧ simpleB (defArgs (sts (i + j))) d.ps = true ∧ d.ps.Nodup
  | d0 :: ds, i, 0, d, c, h => by
    cases h
    unfold chkF at c
    simp only [Bool.and_eq_true, decide_eq_true_eq] at c
    exact c.1
  | d0 :: ds, i, j + 1, d, c, h => by
    have h' : ds[j]? = some d := by simpa using h
    unfold chkF at c
    simp only [Bool.and_eq_true, decide_eq_true_eq] at c
    have := chkF_get (i := i + 1) c.2 h'
    rw [show i + 1 + j = i + (j + 1) by omega] at this
    exact this
theorem laid_of {p : Pg} {K : PySem.W.Frag} {h : Heap} {mg : Str → Option Value} {sts : Nat → Stmt} (X : K.In h) (G : h.Ns mainGlobals mg) (hc : chkF p sts 0 p.defs = true) (S : SaysC (faL p) (fnL p sts) (gsL p) K) : Laid p K mg sts := by
  obtain ⟨S1, S2⟩ := S.both
  refine ⟨fun f d hd => ?_, fun g x hx => ?_, fun x hx => ?_, fun f d hd => ?_⟩
  · obtain ⟨oc, od, osl, kV, doc, pm, an, cdv, ct, lk, hcd⟩ := S1.def_ f (d := mkF d (sts f)) (by have := fnF_get (sts := sts) (i := 0) hd; rwa [Nat.zero_add] at this)
    have hm := He.glo_ok X G (fact_mem S1 (f := .glo d.name) (List.mem_append_left _ (List.mem_map_of_mem (f := fun d : DefI => He.Fa.glo d.name) (List.mem_of_getElem? hd))))
    have hk := He.keep_ok (fact_mem S1 (f := .keep d.name) (List.mem_append_right _ (List.mem_append_left _ (List.mem_map_of_mem (f := fun d : DefI => He.Fa.keep d.name) (List.mem_of_getElem? hd)))))
    have F : Fun K d.name d.name (sts f) (He.ga K d.name) _ := ⟨⟨oc, od, kV, doc, pm, an, cdv, ct, osl, rfl, lk, hcd⟩, hk⟩
    have c := chkF_get hc hd
    rw [Nat.zero_add] at c
    exact ⟨_, _, F, hm, .all (bindS F c.2.1 c.2.2)⟩
  · have e := gsF_get (G := p.G) (i := 0) hx
    rw [Nat.zero_add] at e
    have c := List.all_eq_true.mp S2 _ (List.mem_of_getElem? e)
    simp only at c
    split at c
    · rename_i u q
      obtain ⟨v, rv, hv⟩ := repB_ok _ _ c
      exact ⟨v, u, PySem.W.mg_of X G q, rv, hv⟩
    · cases c
  · exact He.free_ok X G (fact_mem S1 (f := .free x) (List.mem_append_right _ (List.mem_append_right _ (List.mem_map_of_mem hx))))
  · have c := chkF_get hc hd
    rw [Nat.zero_add] at c
    exact c.1
theorem reps_ints {K : PySem.W.Frag} {L : LL} {H : Hp} : ∀ ns : List Int, Reps K L H (ns.map D.int) (ns.map V.int)
  | [] => by unfold Reps; rfl
  | n :: ns => by
    rw [List.map_cons, List.map_cons]
    unfold Reps
    exact ⟨_, _, rfl, by unfold Rep; rfl, reps_ints ns⟩
/-- the promise of the law's def -/
def spL (p : Pg) (K : PySem.W.Frag) (k f : Nat) : Sp := fun vs H Q E => ∃ N, spC K (callN p.G N p.T k) f vs H Q E
theorem law_F {P : Program} {p : Pg} {sts : Nat → Stmt} {fl k : Nat} {x : Str} {dl : DefI} (hd : p.defs[fl]? = some dl) (hps : dl.ps = [x]) (hc : chkF p sts 0 p.defs = true)
    (math : ∀ ns : List Int, ns.length ≤ 63 → ∃ N st, callN p.G N p.T k fl [.lst (ns.map .int)] [] = .ok (.bl true) st) (w : World) (mg : Str → Option Value) (fa : Addr) (h : Heap)
    (Y : ∃ K : PySem.W.Frag, K.In h ∧ SaysC (faL p) (fnL p sts) (gsL p) K) (G : h.Ns mainGlobals mg) (hfa : mg dl.name = some (.ref fa)) :
    ∃ (K : PySem.W.Frag) (fd : FuncData) (sp : Sp), K.In h ∧ (∀ (s : Shared) (u : Value), BindsTo s fd ⟨[u], []⟩ [(x, u)]) ∧
        (∀ (H : Hp) (a : Addr) (ns : List Int), ns.length ≤ 63 → Only H → SqL K H a (ns.map V.int) → sp [.ref a] H (fun v _ => v = .bl true) fun _ _ _ => False) ∧
        ∀ base : Heap, K.In base → base.Ns mainGlobals mg → FnOk P w K mg base CX0 k fa fd [x] sp := by
  obtain ⟨K, X, S⟩ := Y
  have l := laid_of X G hc S
  obtain ⟨fa', fd, F, hm, hb⟩ := l.fn fl dl hd
  cases hfa.symm.trans hm
  have c := chkF_get hc hd
  rw [Nat.zero_add] at c
  refine ⟨K, fd, spL p K k fl, X, fun s u => ?_, fun H a ns hl hO hS => ?_, fun base hK hns => ?_⟩
  · have := bindS F c.2.1 c.2.2 [u] (by rw [hps]; rfl)
    rw [hps] at this
    exact .of_eq this
  · obtain ⟨N, st, e⟩ := math ns hl
    refine ⟨N, ⟨[], []⟩, [], [.lst (ns.map .int)], ⟨rfl, fun i j a h => (by cases h), fun i a h => (by cases h), fun a h => (by cases h), fun i c h => (by cases h)⟩, ?_, ?_⟩
    · unfold Reps
      refine ⟨_, _, rfl, ?_, by unfold Reps; rfl⟩
      unfold Rep
      refine ⟨a, _, rfl, ?_, reps_ints ns⟩
      rcases hS with hS | hS
      · exact .inl ⟨⟨fun h => (by cases h), fun h => (by cases h)⟩, hS⟩
      · exact .inr hS
    · rw [e]
      exact fun M H2 x rS v rv => rv.bl_inv
  · have A : ∀ N, FnOk P w K mg base CX0 k fa fd dl.ps (spC K (callN p.G N p.T k) fl) := fun N => prog_ok l N k fl dl fa fd hd F
    rw [hps] at A
    exact ⟨fun vs H Q E ⟨N, h⟩ => (A N).len vs H Q E h, fun A' outer s H args us vs Q E hr e0 hb r ⟨N, h⟩ => (A N).run A' outer s H args us vs Q E hr e0 hb r h⟩
end DL

set_option Elab.async false
set_option linter.all false
set_option maxRecDepth 100000
set_option maxHeartbeats 4000000
set_option autoImplicit false
/-! DenM: plain rules over the evaluator. -/
namespace DL
open PySem
/-! ### frozen continuations: simp does not walk into f, Q, step -/
inductive Du {α : Sort _} (a : α) : Type where
  | mk
def bnd {α β : Type} (r : Res α) (f : α → Store → Res β) (u : Du f := .mk) : Res β := r.bind f
@[simp] theorem bnd_ok {α β : Type} (a : α) (st : Store) (f : α → Store → Res β) (u : Du f) : bnd (.ok a st) f u = f a st := rfl
@[simp] theorem bnd_bad {α β : Type} (f : α → Store → Res β) (u : Du f) : bnd (.bad : Res α) f u = .bad := rfl
@[simp] theorem bnd_bnd {α β γ : Type} (r : Res α) (f : α → Store → Res β) (u : Du f) (g : β → Store → Res γ) (v : Du g) : bnd (bnd r f u) g v = bnd r (fun a st => bnd (f a st) g) := by
  cases r <;> rfl
/-! ### a run that ends well -/
def Ok {α : Type} (r : Res α) (Q : α → Store → Prop) (u : Du Q := .mk) : Prop :=
  match r with
  | .ok a st => Q a st
  | _ => False
@[simp] theorem Ok_ok {α : Type} (a : α) (st : Store) (Q : α → Store → Prop) (u : Du Q) : Ok (.ok a st) Q u = Q a st := rfl
@[simp] theorem Ok_bad {α : Type} (Q : α → Store → Prop) (u : Du Q) : Ok (.bad : Res α) Q u = False := rfl
@[simp] theorem Ok_bnd {α β : Type} (r : Res α) (f : α → Store → Res β) (v : Du f) (Q : β → Store → Prop) (u : Du Q) : Ok (bnd r f v) Q u = Ok r (fun a st => Ok (f a st) Q) := by
  cases r <;> rfl
theorem Ok_bind {α β : Type} (r : Res α) (f : α → Store → Res β) (Q : β → Store → Prop) (u : Du Q) : Ok (r.bind f) Q u = Ok r (fun a st => Ok (f a st) Q) := by
  cases r <;> rfl
theorem Ok.mono {α : Type} {r : Res α} {Q R : α → Store → Prop} {u : Du Q} {v : Du R} (h : Ok r Q u) (k : ∀ a st, Q a st → R a st) : Ok r R v := by
  cases r with
  | ok a st => exact k a st h
  | _ => exact h
theorem Ok.ex {α : Type} {r : Res α} {Q : α → Store → Prop} {u : Du Q} (h : Ok r Q u) : ∃ a st, r = .ok a st ∧ Q a st := by
  cases r with
  | ok a st => exact ⟨a, st, rfl, h⟩
  | _ => exact h.elim
theorem Ok.of {α : Type} {r : Res α} {a : α} {st : Store} {Q : α → Store → Prop} {u : Du Q} (e : r = .ok a st) (h : Q a st) : Ok r Q u := by rw [e]; exact h
theorem ok_eq {α : Type} {r : Res α} {a : α} {st : Store} (h : Ok r fun b t => b = a ∧ t = st) : r = .ok a st := by
  obtain ⟨b, t, e, rfl, rfl⟩ := h.ex
  exact e
theorem Ok_ite {α : Type} {c : Prop} [Decidable c] {a b : Res α} {Q : α → Store → Prop} {u : Du Q} (h1 : c → Ok a Q) (h2 : ¬c → Ok b Q) : Ok (if c then a else b) Q u := by
  by_cases h : c
  · rw [if_pos h]; exact h1 h
  · rw [if_neg h]; exact h2 h
section
variable (st : Store) (b : Bool) (i j : Int) (s t : Str) (xs ys : List D) (r : Nat)
@[simp] theorem truth_non : truth .non st = some false := rfl
@[simp] theorem truth_bl : truth (.bl b) st = some b := rfl
@[simp] theorem truth_int : truth (.int i) st = some (i != 0) := rfl
@[simp] theorem truth_str : truth (.str s) st = if lim s.length = true then some ((s.length : Int) != 0) else none := rfl
@[simp] theorem truth_tup : truth (.tup xs) st = some (!xs.isEmpty) := rfl
@[simp] theorem truth_lst : truth (.lst xs) st = some (!xs.isEmpty) := rfl
@[simp] theorem truth_ref : truth (.ref r) st = (match st[r]? with
    | some (.lst xs) => some (!xs.isEmpty)
    | _ => none) := rfl
@[simp] theorem bin_add : binop .Add (.int i) (.int j) = some (.int (i + j)) := rfl
@[simp] theorem bin_sub : binop .Sub (.int i) (.int j) = some (.int (i - j)) := rfl
@[simp] theorem bin_mul : binop .Mult (.int i) (.int j) = if mulOk i j = true then some (.int (i * j)) else none := rfl
@[simp] theorem bin_div : binop .FloorDiv (.int i) (.int j) = if divOk j = true then some (.int (i / j)) else none := rfl
@[simp] theorem bin_mod : binop .Mod (.int i) (.int j) = if 0 < j then some (.int (i % j)) else none := rfl
@[simp] theorem bin_pow : binop .Pow (.int i) (.int j) = if powOk i j = true then some (.int (i ^ j.toNat)) else none := rfl
@[simp] theorem bin_lst : binop .Add (.lst xs) (.lst ys) = if lim (xs.length + ys.length) = true then some (.lst (xs ++ ys)) else none := rfl
@[simp] theorem bin_tup : binop .Add (.tup xs) (.tup ys) = if lim (xs.length + ys.length) = true then some (.tup (xs ++ ys)) else none := rfl
@[simp] theorem bin_str : binop .Add (.str s) (.str t) = if lim (s.length + t.length) = true then some (.str (s ++ t)) else none := rfl
@[simp] theorem aug_add : augOp .Add (.int i) (.int j) = some (.int (i + j)) := rfl
@[simp] theorem aug_sub : augOp .Sub (.int i) (.int j) = some (.int (i - j)) := rfl
@[simp] theorem aug_mul : augOp .Mult (.int i) (.int j) = if mulOk i j = true then some (.int (i * j)) else none := rfl
@[simp] theorem cmp_eq (x y : D) : cmpop .Eq x y = eqD x y := rfl
@[simp] theorem cmp_ne (x y : D) : cmpop .NotEq x y = (eqD x y).map not := rfl
@[simp] theorem cmp_lt : cmpop .Lt (.int i) (.int j) = some (decide (i < j)) := rfl
@[simp] theorem cmp_le : cmpop .LtE (.int i) (.int j) = some (decide (i ≤ j)) := rfl
@[simp] theorem cmp_gt : cmpop .Gt (.int i) (.int j) = some (decide (j < i)) := rfl
@[simp] theorem cmp_ge : cmpop .GtE (.int i) (.int j) = some (decide (j ≤ i)) := rfl
@[simp] theorem cmp_is (x : D) : cmpop .Is x .non = isNon x := rfl
@[simp] theorem cmp_isnot (x : D) : cmpop .IsNot x .non = (isNon x).map not := rfl
@[simp] theorem cmp_in (x y : D) : cmpop .In x y = inD x y := rfl
@[simp] theorem cmp_notin (x y : D) : cmpop .NotIn x y = (inD x y).map not := rfl
@[simp] theorem isNon_non : isNon .non = some true := rfl
@[simp] theorem isNon_int : isNon (.int i) = some false := rfl
@[simp] theorem isNon_bl : isNon (.bl b) = some false := rfl
@[simp] theorem isNon_str : isNon (.str s) = some false := rfl
@[simp] theorem isNon_tup : isNon (.tup xs) = some false := rfl
@[simp] theorem isNon_lst : isNon (.lst xs) = some false := rfl
@[simp] theorem isNon_dct : isNon (.dct xs ys) = some false := rfl
@[simp] theorem items_tup : items (.tup xs) st = some xs := rfl
@[simp] theorem items_lst : items (.lst xs) st = some xs := rfl
@[simp] theorem items_ref : items (.ref r) st = (match st[r]? with
    | some (.lst xs) => some xs
    | _ => none) := rfl
@[simp] theorem itemsL_lst : itemsL (.lst xs) st = some xs := rfl
@[simp] theorem itemsL_ref : itemsL (.ref r) st = items (.ref r) st := rfl
@[simp] theorem still_tup : still (.tup xs) = some xs := rfl
@[simp] theorem still_lst : still (.lst xs) = some xs := rfl
@[simp] theorem idx_tup : DL.idx (.tup xs) (.int i) st = L2.atI xs i := rfl
@[simp] theorem idx_lst : DL.idx (.lst xs) (.int i) st = L2.atI xs i := rfl
@[simp] theorem idx_ref : DL.idx (.ref r) (.int i) st = (items (.ref r) st).bind fun xs => L2.atI xs i := rfl
@[simp] theorem atI_eq {α : Type} (xs : List α) : L2.atI xs i = (L2.ixN xs.length i).bind fun j => xs[j]? := rfl
@[simp] theorem ixN_eq (n : Nat) : L2.ixN n i = if 0 ≤ i then (if i < n then some i.toNat else none) else if -(n : Int) ≤ i then some (i + n).toNat else none := rfl
@[simp] theorem isiD_non (t : Ty) : isiD .non t st = some false := rfl
@[simp] theorem isiD_bl (t : Ty) : isiD (.bl b) t st = some (match t with | .int => true | .bool => true | _ => false) := rfl
@[simp] theorem isiD_int (t : Ty) : isiD (.int i) t st = some (match t with | .int => true | _ => false) := rfl
@[simp] theorem isiD_str (t : Ty) : isiD (.str s) t st = some (match t with | .str => true | _ => false) := rfl
@[simp] theorem isiD_tup (t : Ty) : isiD (.tup xs) t st = some (match t with | .tuple => true | _ => false) := rfl
@[simp] theorem isiD_lst (t : Ty) : isiD (.lst xs) t st = some (match t with | .list => true | _ => false) := rfl
@[simp] theorem isiD_dct (t : Ty) : isiD (.dct xs ys) t st = some (match t with | .dict => true | _ => false) := rfl
@[simp] theorem isiD_ref (t : Ty) : isiD (.ref r) t st = (match st[r]? with
    | some (.lst _) => some (match t with | .list => true | _ => false)
    | _ => none) := rfl
end
/-! ### calls -/
/-- a call's answer, back in the caller -/
def back (Γ : Env) (r : Res D) : Res D :=
  match r with
  | .ok d st => .ok d st
  | .exc x _ st => .exc x Γ st
  | .bad => .bad
@[simp] theorem back_ok (Γ : Env) (d : D) (st : Store) : back Γ (.ok d st) = .ok d st := rfl
@[simp] theorem Ok_back (Γ : Env) (r : Res D) (Q : D → Store → Prop) (u : Du Q) : Ok (back Γ r) Q u = Ok r Q := by cases r <;> rfl
section
variable (C : Call) (G : Nat → D) (N : Nat)
@[simp] theorem evalE_slot (i : Nat) (Γ : Env) (st : Store) : evalE C G (.slot i) Γ st = lift (slotD Γ i) st := by unfold evalE; rfl
@[simp] theorem evalE_con (d : D) (Γ : Env) (st : Store) : evalE C G (.con d) Γ st = .ok d st := by unfold evalE; rfl
@[simp] theorem evalE_glob (g : Nat) (Γ : Env) (st : Store) : evalE C G (.glob g) Γ st = .ok (G g) st := by unfold evalE; rfl
@[simp] theorem evalE_tup (es : IEs) (Γ : Env) (st : Store) : evalE C G (.tup es) Γ st = bnd (evalEs C G es Γ st) fun xs st => if lim xs.length = true then .ok (.tup xs) st else .bad := by unfold evalE; rfl
@[simp] theorem evalE_lst (es : IEs) (Γ : Env) (st : Store) : evalE C G (.lst es) Γ st = bnd (evalEs C G es Γ st) fun xs st => if lim xs.length = true then .ok (.lst xs) st else .bad := by unfold evalE; rfl
@[simp] theorem evalE_new (es : IEs) (Γ : Env) (st : Store) : evalE C G (.new es) Γ st = bnd (evalEs C G es Γ st) fun xs st => if lim xs.length = true then .ok (.ref st.length) (st ++ [.lst xs]) else .bad := by unfold evalE; rfl
@[simp] theorem evalE_emp (Γ : Env) (st : Store) : evalE C G .emp Γ st = .ok (.dct [] []) st := by unfold evalE; rfl
@[simp] theorem evalE_bin (op : Operator) (a b : IE) (Γ : Env) (st : Store) : evalE C G (.bin op a b) Γ st = bnd (evalE C G a Γ st) fun x st => bnd (evalE C G b Γ st) fun y st => lift (binop op x y) st := by rw [evalE.eq_8]; rfl
def negD : D → Option D
  | .int i => some (.int (-i))
  | _ => none
@[simp] theorem evalE_neg (a : IE) (Γ : Env) (st : Store) : evalE C G (.neg a) Γ st = bnd (evalE C G a Γ st) fun x st => lift (negD x) st := by
  rw [evalE.eq_9]
  show Res.bind _ _ = Res.bind _ _
  congr 1
  funext x st
  cases x <;> rfl
@[simp] theorem evalE_nt (a : IE) (Γ : Env) (st : Store) : evalE C G (.nt a) Γ st = bnd (evalE C G a Γ st) fun x st => lift ((truth x st).map fun b => .bl (!b)) st := by rw [evalE.eq_10]; rfl
@[simp] theorem evalE_and (es : IEs) (Γ : Env) (st : Store) : evalE C G (.and es) Γ st = evalAnd C G es Γ st := by rw [evalE.eq_11]
@[simp] theorem evalE_or (es : IEs) (Γ : Env) (st : Store) : evalE C G (.or es) Γ st = evalOr C G es Γ st := by rw [evalE.eq_12]
@[simp] theorem evalE_cmp (op : CmpOp) (a b : IE) (Γ : Env) (st : Store) : evalE C G (.cmp op a b) Γ st = bnd (evalE C G a Γ st) fun x st => bnd (evalE C G b Γ st) fun y st => lift ((cmpop op x y).map .bl) st := by rw [evalE.eq_13]; rfl
@[simp] theorem evalE_cmp2 (op op' : CmpOp) (a b c : IE) (Γ : Env) (st : Store) : evalE C G (.cmp2 op op' a b c) Γ st = bnd (evalE C G a Γ st) fun x st => bnd (evalE C G b Γ st) fun y st => bnd (lift (cmpop op x y) st) fun k st =>
      if k = true then bnd (evalE C G c Γ st) (fun z st => lift ((cmpop op' y z).map .bl) st) else .ok (.bl false) st := by rw [evalE.eq_14]; rfl
@[simp] theorem evalE_ife (c a b : IE) (Γ : Env) (st : Store) : evalE C G (.ife c a b) Γ st = bnd (evalE C G c Γ st) fun x st => bnd (lift (truth x st) st) fun k st => if k = true then evalE C G a Γ st else evalE C G b Γ st := by rw [evalE.eq_15]; rfl
@[simp] theorem evalE_idx (a i : IE) (Γ : Env) (st : Store) : evalE C G (.idx a i) Γ st = bnd (evalE C G a Γ st) fun x st => bnd (evalE C G i Γ st) fun y st => lift (DL.idx x y st) st := by rw [evalE.eq_16]; rfl
def slcD (x : D) (l h : List D) : Option D :=
  match x, partI l, partI h with
  | .tup xs, some l, some h => some (.tup (cutD xs l h))
  | .lst xs, some l, some h => some (.lst (cutD xs l h))
  | _, _, _ => none
@[simp] theorem evalE_slc (a : IE) (lo hi : IEs) (Γ : Env) (st : Store) : evalE C G (.slc a lo hi) Γ st = bnd (evalE C G a Γ st) fun x st => bnd (evalEs C G lo Γ st) fun l st => bnd (evalEs C G hi Γ st) fun h st => lift (slcD x l h) st := by
  rw [evalE.eq_17]
  show Res.bind _ _ = Res.bind _ _
  congr 1
  funext x st
  show Res.bind _ _ = Res.bind _ _
  congr 1
  funext l st
  show Res.bind _ _ = Res.bind _ _
  congr 1
  funext h st
  unfold slcD
  cases x <;> cases partI l <;> cases partI h <;> rfl
def revD : D → Option D
  | .lst xs => some (.lst xs.reverse)
  | _ => none
@[simp] theorem evalE_rev (a : IE) (Γ : Env) (st : Store) : evalE C G (.rev a) Γ st = bnd (evalE C G a Γ st) fun x st => lift (revD x) st := by
  rw [evalE.eq_18]
  show Res.bind _ _ = Res.bind _ _
  congr 1
  funext x st
  cases x <;> rfl
@[simp] theorem evalE_call (f : Nat) (es : IEs) (Γ : Env) (st : Store) : evalE C G (.call f es) Γ st = bnd (evalEs C G es Γ st) fun xs st => back Γ (C f xs st) := by rw [evalE.eq_19]; rfl
@[simp] theorem evalE_blt (b : Blt) (es : IEs) (Γ : Env) (st : Store) : evalE C G (.blt b es) Γ st = bnd (evalEs C G es Γ st) fun xs st => lift (DL.blt b xs st) st := by rw [evalE.eq_20]; rfl
@[simp] theorem evalE_isi (a : IE) (t : Ty) (Γ : Env) (st : Store) : evalE C G (.isi a t) Γ st = bnd (evalE C G a Γ st) fun x st => lift ((isiD x t st).map .bl) st := by rw [evalE.eq_21]; rfl
/-- x.append(..): which list -/
def cellL (x : D) (st : Store) : Option (Nat × List D) :=
  match x with
  | .ref i => (match st[i]? with
    | some (.lst xs) => some (i, xs)
    | _ => none)
  | _ => none
@[simp] theorem evalE_app (o a : IE) (Γ : Env) (st : Store) : evalE C G (.app o a) Γ st = bnd (evalE C G o Γ st) fun x st => bnd (lift (cellL x st) st) fun _ st => bnd (evalE C G a Γ st) fun y st => bnd (lift (cellL x st) st) fun p st =>
    if Nat.blt p.2.length 16777216 = true then .ok .non (st.set p.1 (.lst (p.2 ++ [y]))) else .bad := by
  rw [evalE.eq_22]
  show Res.bind _ _ = Res.bind _ _
  congr 1
  funext x st
  cases x with
  | ref i =>
    simp only [cellL]
    cases q : st[i]? with
    | none => rfl
    | some c =>
      cases c with
      | lst xs =>
        show Res.bind _ _ = Res.bind (lift (some _) _) _
        rw [lift_some, Res.bind_ok]
        show Res.bind _ _ = Res.bind _ _
        congr 1
        funext y st
        show _ = Res.bind _ _
        cases q : st[i]? with
        | none => rfl
        | some c => cases c <;> rfl
      | _ => rfl
  | _ => rfl
/-- one turn of a list comprehension -/
def stepC (elt : IE) (tg : ITg) (own : List (Str × Nat)) (ifs : IEs) (Γ : Env) (x : D) (st : Store) : Res (Option D) :=
  match asgP tg x (wipeΓ Γ (own.map (·.2))) with
  | some Γ' => (evalTs C G ifs Γ' st).bind fun k st => if k = true then (evalE C G elt Γ' st).bind fun y st => .ok (some y) st else .ok none st
  | none => .bad
@[simp] theorem stepC_eq (elt : IE) (tg : ITg) (own : List (Str × Nat)) (ifs : IEs) (Γ : Env) (x : D) (st : Store) : stepC C G elt tg own ifs Γ x st =
    bnd (lift (asgP tg x (wipeΓ Γ (own.map (·.2)))) st) fun Γ' st => bnd (evalTs C G ifs Γ' st) fun k st => if k = true then bnd (evalE C G elt Γ' st) (fun y st => .ok (some y) st) else .ok none st := by
  unfold stepC
  cases asgP tg x (wipeΓ Γ (own.map (·.2))) <;> rfl
@[simp] theorem evalE_comp (elt : IE) (tg : ITg) (it : IIt) (own : List (Str × Nat)) (ifs : IEs) (Γ : Env) (st : Store) : evalE C G (.comp elt tg it own ifs) Γ st = bnd (evalIt C G it Γ st) fun xs st => if Nat.blt xs.length 16777216 = true then
      bnd (compF (stepC C G elt tg own ifs Γ) xs st) (fun ys st => .ok (.lst ys) st) else .bad := by
  rw [evalE.eq_23]; rfl
@[simp] theorem evalEs_nil (Γ : Env) (st : Store) : evalEs C G .nil Γ st = .ok [] st := by rw [evalEs.eq_1]
@[simp] theorem evalEs_cons (e : IE) (es : IEs) (Γ : Env) (st : Store) : evalEs C G (.cons e es) Γ st = bnd (evalE C G e Γ st) fun x st => bnd (evalEs C G es Γ st) fun xs st => .ok (x :: xs) st := by rw [evalEs.eq_2]; rfl
@[simp] theorem evalAnd_one (e : IE) (Γ : Env) (st : Store) : evalAnd C G (.cons e .nil) Γ st = evalE C G e Γ st := by rw [evalAnd.eq_2]
@[simp] theorem evalAnd_cons (e e' : IE) (es : IEs) (Γ : Env) (st : Store) : evalAnd C G (.cons e (.cons e' es)) Γ st = bnd (evalE C G e Γ st) fun x st => bnd (lift (truth x st) st) fun k st => if k = true then evalAnd C G (.cons e' es) Γ st else .ok x st := by rw [evalAnd.eq_3 _ _ _ _ _ _ (by intro h; cases h)]; rfl
@[simp] theorem evalOr_one (e : IE) (Γ : Env) (st : Store) : evalOr C G (.cons e .nil) Γ st = evalE C G e Γ st := by rw [evalOr.eq_2]
@[simp] theorem evalOr_cons (e e' : IE) (es : IEs) (Γ : Env) (st : Store) : evalOr C G (.cons e (.cons e' es)) Γ st = bnd (evalE C G e Γ st) fun x st => bnd (lift (truth x st) st) fun k st => if k = true then .ok x st else evalOr C G (.cons e' es) Γ st := by rw [evalOr.eq_3 _ _ _ _ _ _ (by intro h; cases h)]; rfl
@[simp] theorem evalTs_nil (Γ : Env) (st : Store) : evalTs C G .nil Γ st = .ok true st := by rw [evalTs.eq_1]
@[simp] theorem evalTs_cons (e : IE) (es : IEs) (Γ : Env) (st : Store) : evalTs C G (.cons e es) Γ st = bnd (evalE C G e Γ st) fun x st => bnd (lift (truth x st) st) fun k st => if k = true then evalTs C G es Γ st else .ok false st := by rw [evalTs.eq_2]; rfl
@[simp] theorem evalIt_val (e : IE) (Γ : Env) (st : Store) : evalIt C G (.val e) Γ st = bnd (evalE C G e Γ st) fun x st => lift (still x) st := by rw [evalIt.eq_1]; rfl
def rng1D : D → Option (List D)
  | .int j => if small62 j = true then some (rngD 0 j.toNat) else none
  | _ => none
@[simp] theorem evalIt_rng1 (a : IE) (Γ : Env) (st : Store) : evalIt C G (.rng1 a) Γ st = bnd (evalE C G a Γ st) fun x st => lift (rng1D x) st := by
  rw [evalIt.eq_2]
  show Res.bind _ _ = Res.bind _ _
  congr 1
  funext x st
  cases x with
  | int j =>
    simp only [rng1D]
    cases small62 j <;> rfl
  | _ => rfl
def rng2D (x y : D) : Option (List D) :=
  match x, y with
  | .int i, .int j => if (small62 i && small62 j) = true then some (rngD i (j - i).toNat) else none
  | _, _ => none
@[simp] theorem evalIt_rng2 (a b : IE) (Γ : Env) (st : Store) : evalIt C G (.rng2 a b) Γ st = bnd (evalE C G a Γ st) fun x st => bnd (evalE C G b Γ st) fun y st => lift (rng2D x y) st := by
  rw [evalIt.eq_3]
  show Res.bind _ _ = Res.bind _ _
  congr 1
  funext x st
  show Res.bind _ _ = Res.bind _ _
  congr 1
  funext y st
  cases x <;> cases y <;> first | rfl | (simp only [rng2D]; split <;> rfl)
def zipX (x y : D) : Option (List D) :=
  match x, y with
  | .tup xs, .tup ys => some (zipD xs ys)
  | .lst xs, .lst ys => some (zipD xs ys)
  | _, _ => none
@[simp] theorem evalIt_zip (a b : IE) (Γ : Env) (st : Store) : evalIt C G (.zip a b) Γ st = bnd (evalE C G a Γ st) fun x st => bnd (evalE C G b Γ st) fun y st => lift (zipX x y) st := by
  rw [evalIt.eq_4]
  show Res.bind _ _ = Res.bind _ _
  congr 1
  funext x st
  show Res.bind _ _ = Res.bind _ _
  congr 1
  funext y st
  cases x <;> cases y <;> rfl
def enumX (x : D) : Option (List D) :=
  match x with
  | .lst xs => some (enumD 0 xs)
  | _ => none
@[simp] theorem evalIt_enum (a : IE) (Γ : Env) (st : Store) : evalIt C G (.enum a) Γ st = bnd (evalE C G a Γ st) fun x st => lift (enumX x) st := by
  rw [evalIt.eq_5]
  show Res.bind _ _ = Res.bind _ _
  congr 1
  funext x st
  cases x <;> rfl
@[simp] theorem evalT_eq (e : IE) (Γ : Env) (st : Store) : evalT C G e Γ st = bnd (evalE C G e Γ st) fun x st => lift (truth x st) st := rfl
/-- one turn of a for -/
def stepF (t : ITg) (body : ISs) (x : D) (Γ : Env) (st : Store) : Res Fl :=
  match asgP t x Γ with
  | some Γ' => execSs C G N body Γ' st
  | none => .bad
@[simp] theorem stepF_eq (t : ITg) (body : ISs) (x : D) (Γ : Env) (st : Store) : stepF C G N t body x Γ st = bnd (lift (asgP t x Γ) st) fun Γ' st => execSs C G N body Γ' st := by
  unfold stepF
  cases asgP t x Γ <;> rfl
@[simp] theorem execS_asg (t : ITg) (e : IE) (Γ : Env) (st : Store) : execS C G N (.asg t e) Γ st = bnd (evalE C G e Γ st) fun x st => lift ((asgP t x Γ).map .nx) st := by rw [execS.eq_1]; rfl
/-- o[i] = x -/
def subD (y z x : D) (st : Store) : Option Store :=
  match y, z with
  | .ref r, .int k => (match st[r]? with
    | some (.lst xs) => (L2.ixN xs.length k).map fun j => st.set r (.lst (xs.set j x))
    | _ => none)
  | _, _ => none
@[simp] theorem execS_sub (o i e : IE) (Γ : Env) (st : Store) : execS C G N (.sub o i e) Γ st = bnd (evalE C G e Γ st) fun x st => bnd (evalE C G o Γ st) fun y st => bnd (evalE C G i Γ st) fun z st => bnd (lift (subD y z x st) st) fun st' _ => .ok (.nx Γ) st' := by
  rw [execS.eq_2]
  show Res.bind _ _ = Res.bind _ _
  congr 1
  funext x st
  show Res.bind _ _ = Res.bind _ _
  congr 1
  funext y st
  show Res.bind _ _ = Res.bind _ _
  congr 1
  funext z st
  show _ = Res.bind _ _
  cases y <;> cases z <;> try rfl
  rename_i r k
  simp only [subD]
  cases st[r]? with
  | none => rfl
  | some c =>
    cases c with
    | lst xs =>
      simp only
      cases L2.ixN xs.length k <;> rfl
    | _ => rfl
@[simp] theorem execS_par (i j : Nat) (a b : IE) (Γ : Env) (st : Store) : execS C G N (.par i j a b) Γ st = bnd (evalE C G a Γ st) fun x st => bnd (evalE C G b Γ st) fun y st => .ok (.nx ((Γ.set i (some x)).set j (some y))) st := by rw [execS.eq_3]; rfl
@[simp] theorem execS_aug (i : Nat) (op : Operator) (e : IE) (Γ : Env) (st : Store) : execS C G N (.aug i op e) Γ st = bnd (lift (slotD Γ i) st) fun x st => bnd (evalE C G e Γ st) fun y st => lift ((augOp op x y).map fun d => .nx (Γ.set i (some d))) st := by rw [execS.eq_4]; rfl
@[simp] theorem execS_expr (e : IE) (Γ : Env) (st : Store) : execS C G N (.expr e) Γ st = bnd (evalE C G e Γ st) fun _ st => .ok (.nx Γ) st := by rw [execS.eq_5]; rfl
@[simp] theorem execS_ret (e : IE) (Γ : Env) (st : Store) : execS C G N (.ret e) Γ st = bnd (evalE C G e Γ st) fun x st => .ok (.rt x) st := by rw [execS.eq_6]; rfl
@[simp] theorem execS_retN (Γ : Env) (st : Store) : execS C G N .retN Γ st = .ok (.rt .non) st := by rw [execS.eq_7]
@[simp] theorem execS_ifs (c : IE) (a b : ISs) (Γ : Env) (st : Store) : execS C G N (.ifs c a b) Γ st = bnd (evalT C G c Γ st) fun k st => if k = true then execSs C G N a Γ st else execSs C G N b Γ st := by rw [execS.eq_8]; rfl
@[simp] theorem execS_fors (t : ITg) (it : IIt) (body : ISs) (Γ : Env) (st : Store) : execS C G N (.fors t it body) Γ st = bnd (evalIt C G it Γ st) fun xs st => forF (stepF C G N t body) xs Γ st := by rw [execS.eq_9]; rfl
@[simp] theorem execS_whl (c : IE) (body : ISs) (Γ : Env) (st : Store) : execS C G N (.whl c body) Γ st = whlF (evalT C G c) (execSs C G N body) N Γ st := by rw [execS.eq_10]
@[simp] theorem execS_brk (Γ : Env) (st : Store) : execS C G N .brk Γ st = .ok (.bk Γ) st := by rw [execS.eq_11]
@[simp] theorem execS_cnt (Γ : Env) (st : Store) : execS C G N .cnt Γ st = .ok (.ct Γ) st := by rw [execS.eq_12]
@[simp] theorem execS_pas (Γ : Env) (st : Store) : execS C G N .pas Γ st = .ok (.nx Γ) st := by rw [execS.eq_13]
def frzD (Γ : Env) (i : Nat) (st : Store) : Option (Env × Store) :=
  match slotD Γ i with
  | some (.ref r) => (match st[r]? with
    | some (.lst xs) => some (Γ.set i (some (.lst xs)), st.set r .dead)
    | _ => none)
  | _ => none
@[simp] theorem execS_frz (i : Nat) (Γ : Env) (st : Store) : execS C G N (.frz i) Γ st = bnd (lift (frzD Γ i st) st) fun p _ => .ok (.nx p.1) p.2 := by
  rw [execS.eq_14]
  simp only [frzD, slotD]
  cases Γ[i]? with
  | none => rfl
  | some o =>
    cases o with
    | none => rfl
    | some d =>
      cases d with
      | ref r =>
        simp only
        cases st[r]? with
        | none => rfl
        | some c => cases c <;> rfl
      | _ => rfl
@[simp] theorem execS_never (Γ : Env) (st : Store) : execS C G N .never Γ st = .bad := by rw [execS.eq_15]
@[simp] theorem execSs_nil (Γ : Env) (st : Store) : execSs C G N .nil Γ st = .ok (.nx Γ) st := by rw [execSs.eq_1]
/-- what comes behind a statement -/
def thenS (ss : ISs) (f : Fl) (st : Store) : Res Fl :=
  match f with
  | .nx Γ' => execSs C G N ss Γ' st
  | f => .ok f st
@[simp] theorem thenS_nx (ss : ISs) (Γ : Env) (st : Store) : thenS C G N ss (.nx Γ) st = execSs C G N ss Γ st := rfl
@[simp] theorem thenS_rt (ss : ISs) (d : D) (st : Store) : thenS C G N ss (.rt d) st = .ok (.rt d) st := rfl
@[simp] theorem thenS_bk (ss : ISs) (Γ : Env) (st : Store) : thenS C G N ss (.bk Γ) st = .ok (.bk Γ) st := rfl
@[simp] theorem thenS_ct (ss : ISs) (Γ : Env) (st : Store) : thenS C G N ss (.ct Γ) st = .ok (.ct Γ) st := rfl
@[simp] theorem execSs_cons (s : IS) (ss : ISs) (Γ : Env) (st : Store) : execSs C G N (.cons s ss) Γ st = bnd (execS C G N s Γ st) (thenS C G N ss) := by
  rw [execSs.eq_2]
  show Res.bind _ _ = Res.bind _ _
  congr 1
end
section
variable (st : Store) (b : Bool) (i j : Int) (xs ys : List D) (r n : Nat) (x : D) (Γ : Env)
@[simp] theorem asgP_slot : asgP (.slot n) x Γ = some (Γ.set n (some x)) := by unfold asgP; rfl
@[simp] theorem asgP_tup (ts : ITgs) : asgP (.tup ts) (.tup xs) Γ = asgPs ts xs Γ := by unfold asgP; rfl
@[simp] theorem asgPs_nil : asgPs .nil [] Γ = some Γ := by unfold asgPs; rfl
@[simp] theorem asgPs_cons (t : ITg) (ts : ITgs) : asgPs (.cons t ts) (x :: xs) Γ = (asgP t x Γ).bind fun Γ' => asgPs ts xs Γ' := by rw [asgPs.eq_2]
@[simp] theorem slotD_zero (o : Option D) : slotD (o :: Γ) 0 = o := by cases o <;> rfl
@[simp] theorem slotD_succ (o : Option D) : slotD (o :: Γ) (n + 1) = slotD Γ n := rfl
@[simp] theorem allB_nil : allB [] = some [] := rfl
@[simp] theorem allB_cons : allB (.bl b :: xs) = (allB xs).map fun bs => b :: bs := rfl
@[simp] theorem allI_nil : allI [] = some [] := rfl
@[simp] theorem allI_cons : allI (.int i :: xs) = (allI xs).map fun bs => i :: bs := rfl
@[simp] theorem partI_nil : partI [] = some none := rfl
@[simp] theorem partI_one : partI [.int i] = some (some i) := rfl
@[simp] theorem wipe_nil : wipeΓ Γ [] = Γ := rfl
@[simp] theorem wipe_cons (v : Nat) (vs : List Nat) : wipeΓ Γ (v :: vs) = (wipeΓ Γ vs).set v none := rfl
@[simp] theorem negD_int : negD (.int i) = some (.int (-i)) := rfl
@[simp] theorem slcD_tup (l h : List D) : slcD (.tup xs) l h = (partI l).bind fun l => (partI h).map fun h => .tup (cutD xs l h) := by
  unfold slcD
  cases partI l <;> cases partI h <;> rfl
@[simp] theorem slcD_lst (l h : List D) : slcD (.lst xs) l h = (partI l).bind fun l => (partI h).map fun h => .lst (cutD xs l h) := by
  unfold slcD
  cases partI l <;> cases partI h <;> rfl
@[simp] theorem revD_lst : revD (.lst xs) = some (.lst xs.reverse) := rfl
@[simp] theorem cellL_ref : cellL (.ref r) st = (match st[r]? with
    | some (.lst xs) => some (r, xs)
    | _ => none) := rfl
@[simp] theorem rng1D_int : rng1D (.int j) = if small62 j = true then some (rngD 0 j.toNat) else none := rfl
@[simp] theorem rng2D_int : rng2D (.int i) (.int j) = if (small62 i && small62 j) = true then some (rngD i (j - i).toNat) else none := rfl
@[simp] theorem zipX_tup : zipX (.tup xs) (.tup ys) = some (zipD xs ys) := rfl
@[simp] theorem zipX_lst : zipX (.lst xs) (.lst ys) = some (zipD xs ys) := rfl
@[simp] theorem enumX_lst : enumX (.lst xs) = some (enumD 0 xs) := rfl
@[simp] theorem subD_ref : subD (.ref r) (.int i) x st = (match st[r]? with
    | some (.lst xs) => (L2.ixN xs.length i).map fun j => st.set r (.lst (xs.set j x))
    | _ => none) := rfl
@[simp] theorem frzD_eq : frzD Γ n st = (match slotD Γ n with
  | some (.ref r) => (match st[r]? with
    | some (.lst xs) => some (Γ.set n (some (.lst xs)), st.set r .dead)
    | _ => none)
  | _ => none) := rfl
end
@[simp] theorem blt_len_str (s : Str) (st : Store) : blt .len [.str s] st = if lim s.length = true then some (.int s.length) else none := rfl
@[simp] theorem blt_len_tup (xs : List D) (st : Store) : blt .len [.tup xs] st = some (.int xs.length) := rfl
@[simp] theorem blt_len_lst (xs : List D) (st : Store) : blt .len [.lst xs] st = some (.int xs.length) := rfl
@[simp] theorem blt_len_ref (r : Nat) (st : Store) : blt .len [.ref r] st = (items (.ref r) st).map fun ys => .int ys.length := rfl
@[simp] theorem blt_abs (i : Int) (st : Store) : blt .abs [.int i] st = some (.int i.natAbs) := by
  show some (D.int (if i < 0 then -i else i)) = _
  congr 2
  split <;> omega
@[simp] theorem blt_int (i : Int) (st : Store) : blt .int_ [.int i] st = some (.int i) := rfl
@[simp] theorem blt_bool (k : Bool) (st : Store) : blt .int_ [.bl k] st = some (.int (if k then 1 else 0)) := rfl
@[simp] theorem blt_min2 (i j : Int) (st : Store) : blt .min2 [.int i, .int j] st = some (.int (min i j)) := by
  show some (D.int (if j < i then j else i)) = _
  congr 2
  split <;> omega
@[simp] theorem blt_max2 (i j : Int) (st : Store) : blt .max2 [.int i, .int j] st = some (.int (max i j)) := by
  show some (D.int (if j > i then j else i)) = _
  congr 2
  split <;> omega
@[simp] theorem blt_tuple (x : D) (st : Store) : blt .tuple [x] st = (items x st).map .tup := by unfold blt; rfl
@[simp] theorem blt_list (x : D) (st : Store) : blt .list [x] st = (items x st).map .lst := by unfold blt; rfl
@[simp] theorem blt_all (x : D) (st : Store) : blt .all [x] st = (itemsL x st).bind fun ys => (allB ys).map fun bs => .bl (bs.all id) := by unfold blt; rfl
@[simp] theorem blt_any (x : D) (st : Store) : blt .any [x] st = (itemsL x st).bind fun ys => (allB ys).map fun bs => .bl (bs.any id) := by unfold blt; rfl
@[simp] theorem blt_sum (x : D) (st : Store) : blt .sum [x] st = (itemsL x st).bind fun ys => (allI ys).map fun bs => .int bs.sum := by unfold blt; rfl
@[simp] theorem blt_min1 (x : D) (st : Store) : blt .min1 [x] st = (items x st).bind fun ys => (allI ys).bind fun bs => foldI min bs := by unfold blt; rfl
@[simp] theorem blt_max1 (x : D) (st : Store) : blt .max1 [x] st = (items x st).bind fun ys => (allI ys).bind fun bs => foldI max bs := by unfold blt; rfl
@[simp] theorem foldI_cons (f : Int → Int → Int) (n : Int) (ns : List Int) : foldI f (n :: ns) = some (.int (ns.foldl f n)) := rfl
@[simp] theorem blt_str (i : Int) (st : Store) : blt .str [.int i] st = if i.natAbs.log2 < 1920 then some (.str (toString i)) else none := rfl
@[simp] theorem blt_repr (b : Bool) (st : Store) : blt .repr [.bl b] st = some (.str (if b then "True" else "False")) := rfl
@[simp] theorem lim_eq (n : Nat) : (lim n = true) = (n ≤ 16777216) := by
  unfold lim
  rw [Nat.ble_eq]
@[simp] theorem small62_eq (j : Int) : small62 j = (decide (-4611686018427387904 ≤ j) && decide (j < 4611686018427387904)) := rfl
theorem lim_of {n : Nat} (h : n ≤ 16777216) : lim n = true := Nat.ble_eq_true_of_le h
theorem execSs_one (C : Call) (G : Nat → D) (N : Nat) (s : IS) (Γ : Env) (st : Store) : execSs C G N (.cons s .nil) Γ st = bnd (execS C G N s Γ st) (thenS C G N .nil) := execSs_cons C G N s .nil Γ st
theorem callN_succ (G : Nat → D) (N : Nat) (T : Nat → Fn) (k f : Nat) (ds : List D) (st : Store) : callN G N T (k + 1) f ds st = runFn (callN G N T k) G N (T f) ds st := rfl
theorem gc_le {n : Nat} {d : D} {st : Store} (h : st.length ≤ n) : gc n d st = .ok d st := by
  unfold gc
  rw [if_pos (Nat.ble_eq_true_of_le h)]
@[simp] theorem gc_self {d : D} {st : Store} : gc st.length d st = .ok d st := gc_le (Nat.le_refl _)
/-- how a body's end answers a call -/
def fin (n : Nat) (r : Res Fl) : Res D :=
  match r with
  | .ok (.rt d) st' => gc n d st'
  | .ok (.nx _) st' => gc n .non st'
  | .exc x Γ st' => .exc x Γ st'
  | _ => .bad
@[simp] theorem fin_rt (n : Nat) (d : D) (st : Store) : fin n (.ok (.rt d) st) = gc n d st := rfl
@[simp] theorem fin_nx (n : Nat) (Γ : Env) (st : Store) : fin n (.ok (.nx Γ) st) = gc n .non st := rfl
theorem runFn_eq (C : Call) (G : Nat → D) (N : Nat) (np ns : Nat) (b : ISs) (ds : List D) (st : Store) (h : ds.length = np) : runFn C G N ⟨np, ns, b⟩ ds st = fin st.length (execSs C G N b (ds.map some ++ List.replicate (ns - np) none) st) := by
  unfold runFn fin
  refine (if_pos (by rw [h]; exact Nat.beq_refl _)).trans ?_
  rfl
theorem Ok_fin {n : Nat} {r : Res Fl} {Q : D → Store → Prop} (h : Ok r fun fl st => match fl with
    | .rt d => st.length ≤ n ∧ Q d st
    | .nx _ => st.length ≤ n ∧ Q .non st
    | _ => False) : Ok (fin n r) Q := by
  obtain ⟨fl, st, e, h⟩ := h.ex
  rw [e]
  cases fl with
  | rt d => rw [fin_rt, gc_le h.1]; exact h.2
  | nx Γ => rw [fin_nx, gc_le h.1]; exact h.2
  | _ => exact h.elim
/-- a call of a def of the table -/
theorem Ok_call {G : Nat → D} {N : Nat} {T : Nat → Fn} {k f np ns : Nat} {b : ISs} {ds : List D} {st : Store} {Q : D → Store → Prop} (hT : T f = ⟨np, ns, b⟩) (hl : ds.length = np)
    (h : Ok (execSs (callN G N T k) G N b (ds.map some ++ List.replicate (ns - np) none) st) fun fl st' => match fl with
    | .rt d => st'.length ≤ st.length ∧ Q d st'
    | .nx _ => st'.length ≤ st.length ∧ Q .non st'
    | _ => False) : Ok (callN G N T (k + 1) f ds st) Q := by
  rw [callN_succ, hT, runFn_eq _ _ _ _ _ _ _ _ hl]
  exact Ok_fin h
/-- a call whose answer holds no reference: whatever is left of the store -/
theorem Ok_call0 {G : Nat → D} {N : Nat} {T : Nat → Fn} {k f np ns : Nat} {b : ISs} {ds : List D} {st : Store} {Q : D → Store → Prop} {u : Du Q} (hT : T f = ⟨np, ns, b⟩) (hl : ds.length = np)
    (h : Ok (execSs (callN G N T k) G N b (ds.map some ++ List.replicate (ns - np) none) st) fun fl st' => ∃ d, fl = .rt d ∧ ∀ st2, Q d st2) : Ok (callN G N T (k + 1) f ds st) Q u := by
  rw [callN_succ, hT, runFn_eq _ _ _ _ _ _ _ _ hl]
  obtain ⟨fl, st', e, d, rfl, h⟩ := h.ex
  rw [e, fin_rt]
  unfold gc
  split
  · exact h _
  · split <;> exact h _
theorem gc_drop {d : D} {st cs : Store} (hd : d.cl st.length = true) (hc : Closed st.length st = true) : gc st.length d (st ++ cs) = .ok d st := by
  unfold gc
  cases cs with
  | nil => rw [List.append_nil, if_pos (Nat.ble_eq_true_of_le (Nat.le_refl _))]
  | cons c cs =>
    rw [if_neg, if_pos]
    · rw [List.take_left]
    · rw [List.take_left, hd, hc]; rfl
    · intro z
      have := Nat.le_of_ble_eq_true z
      rw [List.length_append, List.length_cons] at this
      omega
/-- a call that leaves lists behind which nothing reaches -/
theorem Ok_callD {G : Nat → D} {N : Nat} {T : Nat → Fn} {k f np ns : Nat} {b : ISs} {ds : List D} {st : Store} {Q : D → Store → Prop} {u : Du Q} (hT : T f = ⟨np, ns, b⟩) (hl : ds.length = np) (hc : Closed st.length st = true)
    (h : Ok (execSs (callN G N T k) G N b (ds.map some ++ List.replicate (ns - np) none) st) fun fl st' => ∃ d cs, fl = .rt d ∧ st' = st ++ cs ∧ d.cl st.length = true ∧ Q d st) : Ok (callN G N T (k + 1) f ds st) Q u := by
  rw [callN_succ, hT, runFn_eq _ _ _ _ _ _ _ _ hl]
  obtain ⟨fl, st', e, d, cs, rfl, rfl, h1, h2⟩ := h.ex
  rw [e, fin_rt, gc_drop h1 hc]
  exact h2
/-! ### loops -/
theorem forF_ok {step : D → Env → Store → Res Fl} {xs : List D} {Q : Fl → Store → Prop} (I : Nat → Env → Store → Prop)
    (hs : ∀ (i : Nat) (x : D) (Γ : Env) (st : Store), xs[i]? = some x → I i Γ st → Ok (step x Γ st) fun fl st' => match fl with
      | .nx Γ' => I (i + 1) Γ' st'
      | .ct Γ' => I (i + 1) Γ' st'
      | .bk Γ' => Q (.nx Γ') st'
      | .rt d => Q (.rt d) st')
    (he : ∀ Γ st, I xs.length Γ st → Q (.nx Γ) st) {Γ : Env} {st : Store} (h0 : I 0 Γ st) {u : Du Q} : Ok (forF step xs Γ st) Q u := by
  have key : ∀ (ys : List D) (n : Nat) (Γ : Env) (st : Store), xs.drop n = ys → n ≤ xs.length → I n Γ st → Ok (forF step ys Γ st) Q := by
    intro ys
    induction ys with
    | nil =>
      intro n Γ st hd hn h
      unfold forF
      have : xs.length - n = 0 := by rw [← List.length_drop, hd]; rfl
      rw [show n = xs.length by omega] at h
      exact he Γ st h
    | cons y ys ih =>
      intro n Γ st hd hn h
      unfold forF
      rw [Ok_bind]
      have hy : xs[n]? = some y := by rw [← List.head?_drop, hd]; rfl
      have hl : n < xs.length := by
        have : (xs.drop n).length = ys.length + 1 := by rw [hd]; rfl
        rw [List.length_drop] at this
        omega
      have hd' : xs.drop (n + 1) = ys := by rw [← List.tail_drop, hd]; rfl
      refine (hs n y Γ st hy h).mono fun fl st' hq => ?_
      cases fl with
      | nx Γ' => exact ih (n + 1) Γ' st' hd' hl hq
      | ct Γ' => exact ih (n + 1) Γ' st' hd' hl hq
      | bk Γ' => exact hq
      | rt d => exact hq
  exact key xs 0 _ _ rfl (Nat.zero_le _) h0
@[simp] theorem compF_nil (step : D → Store → Res (Option D)) (st : Store) : compF step [] st = .ok [] st := rfl
@[simp] theorem compF_cons (step : D → Store → Res (Option D)) (x : D) (xs : List D) (st : Store) : compF step (x :: xs) st = bnd (step x st) fun o st1 => bnd (compF step xs st1) fun ys st2 => .ok (match o with | some y => y :: ys | none => ys) st2 := rfl
@[simp] theorem forF_nil (step : D → Env → Store → Res Fl) (Γ : Env) (st : Store) : forF step [] Γ st = .ok (.nx Γ) st := rfl
def contF (step : D → Env → Store → Res Fl) (xs : List D) (f : Fl) (st : Store) : Res Fl :=
  match f with
  | .nx Γ' => forF step xs Γ' st
  | .ct Γ' => forF step xs Γ' st
  | .bk Γ' => .ok (.nx Γ') st
  | .rt d => .ok (.rt d) st
theorem forF_cons (step : D → Env → Store → Res Fl) (x : D) (xs : List D) (Γ : Env) (st : Store) : forF step (x :: xs) Γ st = bnd (step x Γ st) (contF step xs) := rfl
@[simp] theorem contF_nx (step : D → Env → Store → Res Fl) (xs : List D) (Γ : Env) (st : Store) : contF step xs (.nx Γ) st = forF step xs Γ st := rfl
@[simp] theorem contF_ct (step : D → Env → Store → Res Fl) (xs : List D) (Γ : Env) (st : Store) : contF step xs (.ct Γ) st = forF step xs Γ st := rfl
@[simp] theorem contF_bk (step : D → Env → Store → Res Fl) (xs : List D) (Γ : Env) (st : Store) : contF step xs (.bk Γ) st = .ok (.nx Γ) st := rfl
@[simp] theorem contF_rt (step : D → Env → Store → Res Fl) (xs : List D) (d : D) (st : Store) : contF step xs (.rt d) st = .ok (.rt d) st := rfl
theorem compF_ok {step : D → Store → Res (Option D)} {xs : List D} {Q : List D → Store → Prop} (I : Nat → List D → Store → Prop)
    (hs : ∀ (i : Nat) (x : D) (ys : List D) (st : Store), xs[i]? = some x → I i ys st → Ok (step x st) fun o st' => I (i + 1) (ys ++ o.toList) st')
    (he : ∀ ys st, I xs.length ys st → Q ys st) {st : Store} (h0 : I 0 [] st) {u : Du Q} : Ok (compF step xs st) Q u := by
  have key : ∀ (zs : List D) (n : Nat) (ys : List D) (st : Store), xs.drop n = zs → n ≤ xs.length → I n ys st → Ok (compF step zs st) fun r st' => Q (ys ++ r) st' := by
    intro zs
    induction zs with
    | nil =>
      intro n ys st hd hn h
      unfold compF
      have : xs.length - n = 0 := by rw [← List.length_drop, hd]; rfl
      rw [show n = xs.length by omega] at h
      rw [Ok_ok, List.append_nil]
      exact he ys st h
    | cons y zs ih =>
      intro n ys st hd hn h
      unfold compF
      rw [Ok_bind]
      have hy : xs[n]? = some y := by rw [← List.head?_drop, hd]; rfl
      have hl : n < xs.length := by
        have : (xs.drop n).length = zs.length + 1 := by rw [hd]; rfl
        rw [List.length_drop] at this
        omega
      have hd' : xs.drop (n + 1) = zs := by rw [← List.tail_drop, hd]; rfl
      refine (hs n y ys st hy h).mono fun o st' hq => ?_
      rw [Ok_bind]
      refine (ih (n + 1) _ st' hd' hl hq).mono fun r st2 hr => ?_
      rw [Ok_ok]
      cases o with
      | none => simpa using hr
      | some d => simpa using hr
  exact (key xs 0 [] _ rfl (Nat.zero_le _) h0).mono fun r st' h => by simpa using h
theorem compF_pure {step : D → Store → Res (Option D)} {g : D → Option D} {st : Store} : ∀ {xs : List D}, (∀ x ∈ xs, step x st = .ok (g x) st) → compF step xs st = .ok (xs.filterMap g) st
  | [], _ => rfl
  | x :: xs, h => by
    unfold compF
    rw [h x List.mem_cons_self, Res.bind_ok, compF_pure fun y hy => h y (List.mem_cons_of_mem _ hy), Res.bind_ok, List.filterMap_cons]
    cases g x <;> rfl
theorem compF_map {step : D → Store → Res (Option D)} {g : D → D} {st : Store} {xs : List D} (h : ∀ x ∈ xs, step x st = .ok (some (g x)) st) : compF step xs st = .ok (xs.map g) st := by
  rw [compF_pure (g := fun x => some (g x)) h]
  simp
theorem compF_none {step : D → Store → Res (Option D)} {st : Store} {xs : List D} (h : ∀ x ∈ xs, step x st = .ok none st) : compF step xs st = .ok [] st := by
  rw [compF_pure (g := fun _ => none) h]
  simp
theorem whlF_ok {test : Env → Store → Res Bool} {body : Env → Store → Res Fl} {Q : Fl → Store → Prop} (I : Nat → Env → Store → Prop)
    (hs : ∀ (n : Nat) (Γ : Env) (st : Store), I n Γ st → Ok (test Γ st) fun k st1 => if k = true then ∃ m, n = m + 1 ∧ Ok (body Γ st1) fun fl st' => match fl with
      | .nx Γ' => ∃ m' ≤ m, I m' Γ' st'
      | .ct Γ' => ∃ m' ≤ m, I m' Γ' st'
      | .bk Γ' => Q (.nx Γ') st'
      | .rt d => Q (.rt d) st' else Q (.nx Γ) st1) : ∀ {N n : Nat} {Γ : Env} {st : Store}, n < N → I n Γ st → ∀ {u : Du Q}, Ok (whlF test body N Γ st) Q u := by
  intro N
  induction N with
  | zero => intro n Γ st h _; omega
  | succ N ih =>
    intro n Γ st hn h u
    unfold whlF
    rw [Ok_bind]
    refine (hs n Γ st h).mono fun k st1 hk => ?_
    cases k with
    | false => exact hk
    | true =>
      obtain ⟨m, hm, hb⟩ := (if_pos rfl ▸ hk : _)
      rw [if_pos rfl, Ok_bind]
      refine hb.mono fun fl st' hq => ?_
      cases fl with
      | nx Γ' => obtain ⟨m', hle, hi⟩ := hq; exact ih (by omega) hi
      | ct Γ' => obtain ⟨m', hle, hi⟩ := hq; exact ih (by omega) hi
      | bk Γ' => exact hq
      | rt d => exact hq
/-! ### == over data -/
mutual
@[simp] def D.sh : D → Nat → Bool
  | .non, _ => true
  | .bl _, _ => true
  | .int _, _ => true
  | .str s, _ => PyData.strOk s
  | .tup xs, n => decide (0 < n) && shs xs (n - 1)
  | .lst xs, n => decide (0 < n) && shs xs (n - 1)
  | _, _ => false
@[simp] def shs : List D → Nat → Bool
  | [], _ => true
  | x :: xs, n => x.sh n && shs xs n
end
mutual
@[simp] def D.ey : D → D → Bool
  | .non, .non => true
  | .bl a, .bl b => a == b
  | .bl a, .int j => (if a then 1 else 0) == j
  | .int i, .bl b => i == (if b then 1 else 0)
  | .int i, .int j => i == j
  | .str x, .str y => x == y
  | .lst xs, .lst ys => eys xs ys
  | .tup xs, .tup ys => eys xs ys
  | _, _ => false
@[simp] def eys : List D → List D → Bool
  | [], [] => true
  | x :: xs, y :: ys => D.ey x y && eys xs ys
  | _, _ => false
end
mutual
theorem sh_pd : ∀ (x : D) (n : Nat), x.sh n = true → ∃ a, x.pd = some a ∧ a.canLay0 = true ∧ a.depth ≤ n
  | .non, n, h => ⟨.none, by unfold D.pd; rfl, by unfold PyData.canLay0; rfl, by unfold PyData.depth; omega⟩
  | .bl b, n, h => ⟨.bool b, by unfold D.pd; rfl, by unfold PyData.canLay0; rfl, by unfold PyData.depth; omega⟩
  | .int b, n, h => ⟨.int b, by unfold D.pd; rfl, by unfold PyData.canLay0; rfl, by unfold PyData.depth; omega⟩
  | .str b, n, h => ⟨.str b, by unfold D.pd; rfl, by unfold PyData.canLay0; exact h, by unfold PyData.depth; omega⟩
  | .tup xs, 0, h => by simp at h
  | .tup xs, n + 1, h => by
    obtain ⟨as, e, c, d⟩ := shs_pd xs n (by simpa using h)
    exact ⟨.tuple as, by unfold D.pd; rw [e]; rfl, by unfold PyData.canLay0; exact c, by unfold PyData.depth; omega⟩
  | .lst xs, 0, h => by simp at h
  | .lst xs, n + 1, h => by
    obtain ⟨as, e, c, d⟩ := shs_pd xs n (by simpa using h)
    exact ⟨.list as, by unfold D.pd; rw [e]; rfl, by unfold PyData.canLay0; exact c, by unfold PyData.depth; omega⟩
  | .dct _ _, n, h => by simp at h
  | .ref _, n, h => by simp at h
  | .fn _, n, h => by simp at h
theorem shs_pd : ∀ (xs : List D) (n : Nat), shs xs n = true → ∃ as, pds xs = some as ∧ PyData.canLayAll0 as = true ∧ PyData.depthAll as ≤ n
  | [], n, _ => ⟨[], by unfold pds; rfl, by unfold PyData.canLayAll0; rfl, by unfold PyData.depthAll; omega⟩
  | x :: xs, n, h => by
    have h' : x.sh n = true ∧ shs xs n = true := by simpa using h
    obtain ⟨a, e, c, d⟩ := sh_pd x n h'.1
    obtain ⟨as, es, cs, ds⟩ := shs_pd xs n h'.2
    exact ⟨a :: as, by unfold pds; rw [e, es]; rfl, by unfold PyData.canLayAll0; rw [c, cs]; rfl, by unfold PyData.depthAll; omega⟩
end
mutual
theorem ey_pd : ∀ (x y : D) (a b : PyData), x.pd = some a → y.pd = some b → PyData.eqv a b = x.ey y
  | .non, y, a, b, ha, hb => by
    cases ha
    cases y <;> first | (cases hb; done) | (cases hb; simp [PyData.eqv]; done) | (unfold D.pd at hb; simp at hb; obtain ⟨_, _, rfl⟩ := hb; simp [PyData.eqv]; done)
  | .bl _, y, a, b, ha, hb => by
    cases ha
    cases y <;> first | (cases hb; done) | (cases hb; simp [PyData.eqv]; done) | (unfold D.pd at hb; simp at hb; obtain ⟨_, _, rfl⟩ := hb; simp [PyData.eqv]; done)
  | .int _, y, a, b, ha, hb => by
    cases ha
    cases y <;> first | (cases hb; done) | (cases hb; simp [PyData.eqv]; done) | (unfold D.pd at hb; simp at hb; obtain ⟨_, _, rfl⟩ := hb; simp [PyData.eqv]; done)
  | .str _, y, a, b, ha, hb => by
    cases ha
    cases y <;> first | (cases hb; done) | (cases hb; simp [PyData.eqv]; done) | (unfold D.pd at hb; simp at hb; obtain ⟨_, _, rfl⟩ := hb; simp [PyData.eqv]; done)
  | .tup xs, y, a, b, ha, hb => by
    unfold D.pd at ha
    simp at ha
    obtain ⟨as, e, rfl⟩ := ha
    cases y with
    | tup ys =>
      unfold D.pd at hb
      simp at hb
      obtain ⟨bs, e2, rfl⟩ := hb
      simp only [PyData.eqv, D.ey]
      exact eys_pd xs ys as bs e e2
    | lst ys =>
      unfold D.pd at hb
      simp at hb
      obtain ⟨bs, e2, rfl⟩ := hb
      simp [PyData.eqv]
    | _ => first | (cases hb; simp [PyData.eqv]; done) | (unfold D.pd at hb; cases hb)
  | .lst xs, y, a, b, ha, hb => by
    unfold D.pd at ha
    simp at ha
    obtain ⟨as, e, rfl⟩ := ha
    cases y with
    | lst ys =>
      unfold D.pd at hb
      simp at hb
      obtain ⟨bs, e2, rfl⟩ := hb
      simp only [PyData.eqv, D.ey]
      exact eys_pd xs ys as bs e e2
    | tup ys =>
      unfold D.pd at hb
      simp at hb
      obtain ⟨bs, e2, rfl⟩ := hb
      simp [PyData.eqv]
    | _ => first | (cases hb; simp [PyData.eqv]; done) | (unfold D.pd at hb; cases hb)
  | .dct _ _, y, a, b, ha, hb => by unfold D.pd at ha; cases ha
  | .ref _, y, a, b, ha, hb => by unfold D.pd at ha; cases ha
  | .fn _, y, a, b, ha, hb => by unfold D.pd at ha; cases ha
theorem eys_pd : ∀ (xs ys : List D) (as bs : List PyData), pds xs = some as → pds ys = some bs → PyData.eqvAll as bs = eys xs ys
  | [], [], as, bs, ha, hb => by
    unfold pds at ha hb
    cases ha; cases hb
    simp [PyData.eqvAll]
  | [], y :: ys, as, bs, ha, hb => by
    unfold pds at ha hb
    cases ha
    simp [Option.bind_eq_some_iff] at hb
    obtain ⟨b, _, bs', _, rfl⟩ := hb
    simp [PyData.eqvAll]
  | x :: xs, [], as, bs, ha, hb => by
    unfold pds at ha hb
    cases hb
    simp [Option.bind_eq_some_iff] at ha
    obtain ⟨b, _, bs', _, rfl⟩ := ha
    simp [PyData.eqvAll]
  | x :: xs, y :: ys, as, bs, ha, hb => by
    unfold pds at ha hb
    simp [Option.bind_eq_some_iff] at ha hb
    obtain ⟨a, e1, as', e2, rfl⟩ := ha
    obtain ⟨b, e3, bs', e4, rfl⟩ := hb
    simp only [PyData.eqvAll, eys]
    rw [ey_pd x y a b e1 e3, eys_pd xs ys as' bs' e2 e4]
end
mutual
theorem sh_mono : ∀ (x : D) (n m : Nat), x.sh n = true → n ≤ m → x.sh m = true
  | .non, _, _, _, _ => rfl
  | .bl _, _, _, _, _ => rfl
  | .int _, _, _, _, _ => rfl
  | .str _, _, _, h, _ => by simpa using h
  | .tup xs, 0, _, h, _ => by simp at h
  | .tup xs, n + 1, 0, h, k => by omega
  | .tup xs, n + 1, m + 1, h, k => by simpa using shs_mono xs n m (by simpa using h) (by omega)
  | .lst xs, 0, _, h, _ => by simp at h
  | .lst xs, n + 1, 0, h, k => by omega
  | .lst xs, n + 1, m + 1, h, k => by simpa using shs_mono xs n m (by simpa using h) (by omega)
  | .dct _ _, _, _, h, _ => by simp at h
  | .ref _, _, _, h, _ => by simp at h
  | .fn _, _, _, h, _ => by simp at h
theorem shs_mono : ∀ (xs : List D) (n m : Nat), shs xs n = true → n ≤ m → shs xs m = true
  | [], _, _, _, _ => rfl
  | x :: xs, n, m, h, k => by
    have h' : x.sh n = true ∧ shs xs n = true := by simpa using h
    simp [sh_mono x n m h'.1 k, shs_mono xs n m h'.2 k]
end
@[simp] theorem eqD_sh {x y : D} (hx : x.sh 64 = true) (hy : y.sh 64 = true) : eqD x y = some (x.ey y) := by
  obtain ⟨a, e1, c1, d1⟩ := sh_pd x 64 hx
  obtain ⟨b, e2, c2, d2⟩ := sh_pd y 64 hy
  unfold eqD
  rw [e1, e2]
  simp only [SeqAt.shaped, c1, c2, d1, d2, decide_true, Bool.and_self, if_true]
  rw [ey_pd x y a b e1 e2]
theorem any_pd {f : PyData → Bool} {g : D → Bool} : ∀ {ys : List D} {bs : List PyData}, pds ys = some bs → (∀ y b, y ∈ ys → y.pd = some b → f b = g y) → bs.any f = ys.any g
  | [], bs, h, _ => by unfold pds at h; cases h; rfl
  | y :: ys, bs, h, k => by
    unfold pds at h
    simp [Option.bind_eq_some_iff] at h
    obtain ⟨b, e1, bs', e2, rfl⟩ := h
    rw [List.any_cons, List.any_cons, k y b List.mem_cons_self e1, any_pd e2 fun y b hy => k y b (List.mem_cons_of_mem _ hy)]
@[simp] theorem inD_tup {x : D} {ys : List D} (hx : x.sh 64 = true) (hy : (D.tup ys).sh 64 = true) : inD x (.tup ys) = some (ys.any fun z => z.ey x) := by
  obtain ⟨a, e1, c1, d1⟩ := sh_pd x 64 hx
  obtain ⟨b, e2, c2, d2⟩ := sh_pd _ 64 hy
  unfold D.pd at e2
  simp at e2
  obtain ⟨bs, e3, rfl⟩ := e2
  unfold inD
  simp only [e1, e3, SeqAt.shaped, c1, c2, d1, d2, decide_true, Bool.and_self, if_true]
  rw [any_pd e3 fun y b _ hb => ey_pd y x b a hb e1]
@[simp] theorem inD_lst {x : D} {ys : List D} (hx : x.sh 64 = true) (hy : (D.lst ys).sh 64 = true) : inD x (.lst ys) = some (ys.any fun z => z.ey x) := by
  obtain ⟨a, e1, c1, d1⟩ := sh_pd x 64 hx
  obtain ⟨b, e2, c2, d2⟩ := sh_pd _ 64 hy
  unfold D.pd at e2
  simp at e2
  obtain ⟨bs, e3, rfl⟩ := e2
  unfold inD
  simp only [e1, e3, SeqAt.shaped, c1, c2, d1, d2, decide_true, Bool.and_self, if_true]
  rw [any_pd e3 fun y b _ hb => ey_pd y x b a hb e1]
@[simp] theorem eqD_int (i j : Int) : eqD (.int i) (.int j) = some (i == j) := by rw [eqD_sh (by simp) (by simp)]; simp
theorem strOk_of (s : String) : PyData.strOk (Str.ofString s) = true := by
  rw [Str.ofString_eq_toList]
  unfold PyData.strOk
  rw [List.all_toArray, List.all_eq_true]
  intro c hc
  obtain ⟨d, _, rfl⟩ := List.mem_map.mp hc
  exact decide_eq_true (by
    have := d.valid
    unfold UInt32.isValidChar Nat.isValidChar at this
    show d.val.toNat < _
    omega)
end DL

set_option Elab.async false
set_option linter.all false
set_option maxRecDepth 100000
set_option maxHeartbeats 4000000
set_option autoImplicit false
/-! DenN: sizes of numbers; the dice of the laws. -/
namespace DL
open PySem
/-! ### sizes -/
def Sz (n : Nat) (i : Int) : Prop := i.natAbs < 2 ^ n
theorem Sz.mono {a b : Nat} {i : Int} (h : Sz a i) (k : a ≤ b) : Sz b i := Nat.lt_of_lt_of_le h (Nat.pow_le_pow_right (by decide) k)
theorem Sz.mul {a b : Nat} {i j : Int} (h : Sz a i) (k : Sz b j) : Sz (a + b) (i * j) := by
  unfold Sz at *
  rw [Int.natAbs_mul, Nat.pow_add]
  exact Nat.mul_lt_mul'' h k
theorem Sz.add {a b c : Nat} {i j : Int} (h : Sz a i) (k : Sz b j) (h1 : a < c) (h2 : b < c) : Sz c (i + j) := by
  unfold Sz at *
  have e1 : 2 ^ a ≤ 2 ^ (c - 1) := Nat.pow_le_pow_right (by decide) (by omega)
  have e2 : 2 ^ b ≤ 2 ^ (c - 1) := Nat.pow_le_pow_right (by decide) (by omega)
  have e3 : 2 ^ c = 2 ^ (c - 1) + 2 ^ (c - 1) := by
    obtain ⟨d, rfl⟩ : ∃ d, c = d + 1 := ⟨c - 1, by omega⟩
    rw [Nat.add_sub_cancel, Nat.pow_succ]; omega
  have := Int.natAbs_add_le i j
  omega
theorem Sz.neg {a : Nat} {i : Int} (h : Sz a i) : Sz a (-i) := by unfold Sz at *; rwa [Int.natAbs_neg]
theorem Sz.sub {a b c : Nat} {i j : Int} (h : Sz a i) (k : Sz b j) (h1 : a < c) (h2 : b < c) : Sz c (i - j) := by
  rw [Int.sub_eq_add_neg]; exact h.add k.neg h1 h2
theorem Sz.of_le {n : Nat} {i j : Int} (h : Sz n j) (k : i.natAbs ≤ j.natAbs) : Sz n i := Nat.lt_of_le_of_lt k h
theorem Sz.log {n : Nat} {i : Int} (h : Sz n i) (hn : 0 < n) : i.natAbs.log2 < n := by
  by_cases e : i.natAbs = 0
  · rw [e]; exact hn
  · exact (Nat.log2_lt e).mpr h
theorem mulOk_of {a b : Nat} {i j : Int} (h : Sz a i) (k : Sz b j) (hab : a + b ≤ 999000) : mulOk i j = true := by
  unfold mulOk
  have h1 := (h.mono (Nat.le_succ a)).log (Nat.succ_pos a)
  have h2 := (k.mono (Nat.le_succ b)).log (Nat.succ_pos b)
  exact decide_eq_true (by omega)
theorem divOk_of {a : Nat} {j : Int} (h : Sz a j) (ha : a ≤ 8999) (hj : 0 < j) : divOk j = true := by
  unfold divOk
  have h1 := (h.mono (Nat.le_succ a)).log (Nat.succ_pos a)
  rw [Bool.and_eq_true]
  exact ⟨decide_eq_true hj, decide_eq_true (by omega)⟩
theorem Sz.of_lt {n : Nat} {i : Int} (h0 : 0 ≤ i) (h : i < ((2 ^ n : Nat) : Int)) : Sz n i := by unfold Sz; omega
theorem Sz.emod {n : Nat} {i j : Int} (h : Sz n j) (hj : 0 < j) : Sz n (i % j) := by
  have h1 := Int.emod_nonneg i (Int.ne_of_gt hj)
  have h2 := Int.emod_lt_of_pos i hj
  unfold Sz at *
  omega
theorem Sz.lit (n : Nat) (i : Int) (h : decide (i.natAbs < 2 ^ n) = true) : Sz n i := of_decide_eq_true (p := i.natAbs < 2 ^ n) h
/-! ### the dice -/
/-- the body of _law_dice -/
def diceB (p q e0 e1 e2 m c1 c2 c3 c4 : Int) : ISs := (.cons (.asg (.slot 2) (.ife (.cmp .Lt (.slot 1) (.blt .len (.cons (.slot 0) .nil))) (.blt .int_ (.cons (.idx (.slot 0) (.slot 1)) .nil)) (.bin .Add (.bin .Mult (.con (.int p)) (.slot 1)) (.con (.int q))))) (.cons (.asg (.slot 3) (.bin .Mod (.blt .max2 (.cons (.con (.int 0)) (.cons (.bin .Sub (.blt .abs (.cons (.slot 2) .nil)) (.bin .Pow (.con (.int 10)) (.con (.int e0)))) .nil))) (.bin .Mult (.bin .Pow (.con (.int 10)) (.con (.int e1))) (.bin .Pow (.con (.int 10)) (.con (.int e2)))))) (.cons (.ret (.new (.cons (.slot 3) (.cons (.bin .Add (.bin .Add (.bin .Add (.bin .Mult (.bin .Mod (.blt .abs (.cons (.slot 2) .nil)) (.con (.int m))) (.con (.int c1))) (.bin .Mult (.con (.int c2)) (.slot 1))) (.bin .Mult (.con (.int c3)) (.blt .int_ (.cons (.cmp .Lt (.slot 2) (.con (.int 0))) .nil)))) (.con (.int c4))) (.cons (.con (.int 0)) .nil))))) .nil)))
/-- the body of _law_roll -/
def rollB (a m1 b m2 c d : Int) : ISs := (.cons (.ifs (.cmp .Gt (.idx (.slot 0) (.con (.int 0))) (.con (.int 0))) (.cons (.asg (.slot 2) (.bin .Mod (.blt .int_ (.cons (.idx (.slot 0) (.con (.int 0))) .nil)) (.slot 1))) (.cons (.sub (.slot 0) (.con (.int 0)) (.bin .FloorDiv (.idx (.slot 0) (.con (.int 0))) (.slot 1))) (.cons (.ret (.slot 2)) .nil))) .nil) (.cons (.sub (.slot 0) (.con (.int 2)) (.bin .Add (.idx (.slot 0) (.con (.int 2))) (.con (.int 1)))) (.cons (.asg (.slot 3) (.bin .Mod (.blt .int_ (.cons (.bin .Add (.idx (.slot 0) (.con (.int 1))) (.bin .Mult (.con (.int a)) (.idx (.slot 0) (.con (.int 2))))) .nil)) (.con (.int m1)))) (.cons (.asg (.slot 4) (.bin .Add (.bin .Mult (.bin .Mod (.blt .int_ (.cons (.bin .Add (.bin .Mult (.slot 3) (.slot 3)) (.bin .Mult (.con (.int b)) (.idx (.slot 0) (.con (.int 2))))) .nil)) (.con (.int m2))) (.con (.int c))) (.slot 3))) (.cons (.ret (.bin .Mod (.blt .int_ (.cons (.bin .FloorDiv (.slot 4) (.con (.int d))) .nil)) (.slot 1))) .nil)))))
/-- the dice at r, rolled at most n times since st0 -/
def Dice (n : Nat) (r : Nat) (st0 st : Store) : Prop := ∃ l s c : Int, r < st0.length ∧ st = st0.set r (.lst [.int l, .int s, .int c]) ∧ 0 ≤ l ∧ 0 ≤ c ∧ c ≤ n
theorem Dice.len {n r : Nat} {st0 st : Store} (h : Dice n r st0 st) : st.length = st0.length := by
  obtain ⟨l, s, c, _, rfl, _⟩ := h
  exact List.length_set
theorem Dice.mono {n m r : Nat} {st0 st : Store} (h : Dice n r st0 st) (k : n ≤ m) : Dice m r st0 st := by
  obtain ⟨l, s, c, h1, h2, h3, h4, h5⟩ := h
  exact ⟨l, s, c, h1, h2, h3, h4, by omega⟩
theorem Dice.self {n r : Nat} {st0 st : Store} (h : Dice n r st0 st) : Dice n r st st := by
  obtain ⟨l, s, c, h1, rfl, h3⟩ := h
  exact ⟨l, s, c, by rw [List.length_set]; exact h1, by rw [List.set_set], h3⟩
theorem Dice.trans {n m r : Nat} {st0 st1 st2 : Store} (h : Dice n r st0 st1) (k : Dice m r st1 st2) : Dice m r st0 st2 := by
  obtain ⟨l, s, c, h1, rfl, h3⟩ := h
  obtain ⟨l', s', c', k1, rfl, k3⟩ := k
  exact ⟨l', s', c', h1, by rw [List.set_set], k3⟩
section
variable {G : Nat → D} {N : Nat} {T : Nat → Fn} {k : Nat}
def rollC (a m1 b m2 c d : Int) : Bool := decide (0 < m1) && decide (0 < m2) && decide (0 < d) && decide (a.natAbs < 2 ^ 100) && decide (m1.natAbs < 2 ^ 100) && decide (b.natAbs < 2 ^ 100) && decide (m2.natAbs < 2 ^ 100) && decide (c.natAbs < 2 ^ 100) && decide (d.natAbs < 2 ^ 100)
theorem roll_ok {f : Nat} {a m1 b m2 c d : Int} (hT : T f = ⟨2, 5, rollB a m1 b m2 c d⟩) (hc : rollC a m1 b m2 c d = true) {n r : Nat} {st0 st : Store} (hd : Dice n r st0 st) (hn : n < 2 ^ 60) {most : Int} (hm : 0 < most) (hz : Sz 8000 most)
    {Q : D → Store → Prop} {u : Du Q} (h : ∀ (x : Int) (st' : Store), 0 ≤ x → x < most → Dice (n + 1) r st0 st' → Q (.int x) st') : Ok (callN G N T (k + 1) f [.ref r, .int most] st) Q u := by
  obtain ⟨l, s, e, h1, rfl, h3, h4, h5⟩ := hd
  unfold rollC at hc
  simp only [Bool.and_eq_true, decide_eq_true_eq] at hc
  obtain ⟨⟨⟨⟨⟨⟨⟨⟨c1, c2⟩, c3⟩, z1⟩, z2⟩, z3⟩, z4⟩, z5⟩, z6⟩ := hc
  refine Ok_call hT rfl ?_
  unfold rollB
  have hg : (st0.set r (.lst [.int l, .int s, .int e]))[r]? = some (.lst [.int l, .int s, .int e]) := by rw [List.getElem?_set_self h1]
  by_cases h0 : 0 < l
  · have e1 : divOk most = true := divOk_of hz (by decide) hm
    simp [hg, h0, hm, e1, h1]
    exact h _ _ (Int.emod_nonneg _ (Int.ne_of_gt hm)) (Int.emod_lt_of_pos _ hm) ⟨_, _, _, h1, rfl, Int.ediv_nonneg h3 (Int.le_of_lt hm), h4, by omega⟩
  · have se : Sz 62 (e + 1) := Sz.of_lt (by omega) (by have : ((2 ^ 62 : Nat) : Int) = 4611686018427387904 := by decide
                                                       have : (2 : Nat) ^ 60 = 1152921504606846976 := by decide
                                                       omega)
    have e1 : mulOk a (e + 1) = true := mulOk_of (a := 100) z1 se (by decide)
    have sx := Sz.emod (n := 100) (i := s + a * (e + 1)) z2 c1
    have e2 : mulOk ((s + a * (e + 1)) % m1) ((s + a * (e + 1)) % m1) = true := mulOk_of sx sx (by decide)
    have e3 : mulOk b (e + 1) = true := mulOk_of (a := 100) z3 se (by decide)
    have e4 : mulOk (((s + a * (e + 1)) % m1 * ((s + a * (e + 1)) % m1) + b * (e + 1)) % m2) c = true := mulOk_of (b := 100) (Sz.emod (n := 100) z4 c2) z5 (by decide)
    have e5 : divOk d = true := divOk_of (a := 100) z6 (by decide) c3
    simp [hg, h0, hm, h1, e1, e2, e3, e4, e5, c1, c2]
    exact h _ _ (Int.emod_nonneg _ (Int.ne_of_gt hm)) (Int.emod_lt_of_pos _ hm) ⟨_, _, _, h1, rfl, h3, by omega, by omega⟩
/-- random.choice -/
def pickB (f : Nat) : ISs := .cons (.ret (.idx (.slot 1) (.call f (.cons (.slot 0) (.cons (.blt .len (.cons (.slot 1) .nil)) .nil))))) .nil
theorem pick_ok {f g : Nat} {a m1 b m2 c d : Int} (hT : T f = ⟨2, 5, rollB a m1 b m2 c d⟩) (hc : rollC a m1 b m2 c d = true) (hP : T g = ⟨2, 2, pickB f⟩) {n r : Nat} {st0 st : Store} (hd : Dice n r st0 st) (hn : n < 2 ^ 60) {x : D} {xs : List D} (hx : x = .lst xs ∨ x = .tup xs) (hne : xs ≠ []) (hl : xs.length < 16777216)
    {Q : D → Store → Prop} {u : Du Q} (h : ∀ (y : D) (st' : Store), y ∈ xs → Dice (n + 1) r st0 st' → Q y st') : Ok (callN G N T (k + 2) g [.ref r, x] st) Q u := by
  refine Ok_call hP rfl ?_
  unfold pickB
  have h0 : 0 < xs.length := List.length_pos_iff.mpr hne
  have key : ∀ (w : Du fun (d : D) (st' : Store) => ∃ i : Int, d = .int i ∧ 0 ≤ i ∧ i < xs.length ∧ Dice (n + 1) r st0 st'), Ok (callN G N T (k + 1) f [.ref r, .int xs.length] st) (fun d st' => ∃ i : Int, d = .int i ∧ 0 ≤ i ∧ i < xs.length ∧ Dice (n + 1) r st0 st') w := fun w =>
    roll_ok hT hc hd hn (by omega) (Sz.of_lt (by omega) (by have : (2 : Nat) ^ 8000 ≥ 2 ^ 24 := Nat.pow_le_pow_right (by decide) (by decide)
                                                            have : (2 : Nat) ^ 24 = 16777216 := by decide
                                                            omega)) fun i st' h1 h2 h3 => ⟨i, rfl, h1, h2, h3⟩
  have hle : ∀ i : Int, 0 ≤ i → i < xs.length → ∃ y, y ∈ xs ∧ xs[i.toNat]? = some y := fun i h1 h2 => ⟨xs[i.toNat]'(by omega), List.getElem_mem _, List.getElem?_eq_getElem _⟩
  rcases hx with rfl | rfl
  · simp
    refine (key .mk).mono ?_
    rintro _ st' ⟨i, rfl, h1, h2, h3⟩
    obtain ⟨y, hy, ey⟩ := hle i h1 h2
    simp [idx, L2.atI, L2.ixN, h1, h2, ey]
    exact ⟨by rw [h3.len, hd.len]; exact Nat.le_refl _, h _ _ (List.getElem_mem _) h3⟩
  · simp
    refine (key .mk).mono ?_
    rintro _ st' ⟨i, rfl, h1, h2, h3⟩
    obtain ⟨y, hy, ey⟩ := hle i h1 h2
    simp [idx, L2.atI, L2.ixN, h1, h2, ey]
    exact ⟨by rw [h3.len, hd.len]; exact Nat.le_refl _, h _ _ (List.getElem_mem _) h3⟩
def diceC (p q e0 e1 e2 m c1 c2 c3 c4 : Int) : Bool := powOk 10 e0 && powOk 10 e1 && powOk 10 e2 && mulOk (10 ^ e1.toNat) (10 ^ e2.toNat) && decide (0 < m) && decide (p.natAbs < 2 ^ 100) && decide (m.natAbs < 2 ^ 100) && decide (c1.natAbs < 2 ^ 100) && decide (c2.natAbs < 2 ^ 100) && decide (c3.natAbs < 2 ^ 100)
theorem dice_ok {f : Nat} {p q e0 e1 e2 m c1 c2 c3 c4 : Int} (hT : T f = ⟨2, 4, diceB p q e0 e1 e2 m c1 c2 c3 c4⟩) (hc : diceC p q e0 e1 e2 m c1 c2 c3 c4 = true) {ns : List Int} {spot : Int} {st : Store} (h0 : 0 ≤ spot) (h1 : spot < 1000000)
    {Q : D → Store → Prop} {u : Du Q} (h : ∀ l s : Int, 0 ≤ l → Q (.ref st.length) (st ++ [.lst [.int l, .int s, .int 0]])) : Ok (callN G N T (k + 1) f [.lst (ns.map .int), .int spot] st) Q u := by
  unfold diceC at hc
  simp only [Bool.and_eq_true, decide_eq_true_eq] at hc
  obtain ⟨⟨⟨⟨⟨⟨⟨⟨⟨p0, p1⟩, p2⟩, mm⟩, m0⟩, z1⟩, z2⟩, z3⟩, z4⟩, z5⟩ := hc
  have ss : Sz 20 spot := Sz.of_lt h0 (by have : ((2 ^ 20 : Nat) : Int) = 1048576 := by decide
                                          omega)
  have q1 : mulOk p spot = true := mulOk_of (a := 100) z1 ss (by decide)
  have q2 : ∀ x : Int, mulOk (x % m) c1 = true := fun x => mulOk_of (Sz.emod (n := 100) z2 m0) (b := 100) z3 (by decide)
  have q3 : mulOk c2 spot = true := mulOk_of (a := 100) z4 ss (by decide)
  have q4 : mulOk c3 1 = true := mulOk_of (a := 100) z5 (Sz.lit 1 1 (by decide)) (by decide)
  have q5 : mulOk c3 0 = true := mulOk_of (a := 100) z5 (Sz.lit 1 0 (by decide)) (by decide)
  have pos : (0 : Int) < 10 ^ e1.toNat * 10 ^ e2.toNat := Int.mul_pos (Int.pow_pos (by decide)) (Int.pow_pos (by decide))
  have cell : ∃ cell : Int, evalE (callN G N T k) G (.ife (.cmp .Lt (.slot 1) (.blt .len (.cons (.slot 0) .nil))) (.blt .int_ (.cons (.idx (.slot 0) (.slot 1)) .nil)) (.bin .Add (.bin .Mult (.con (.int p)) (.slot 1)) (.con (.int q)))) [some (.lst (ns.map .int)), some (.int spot), none, none] st = .ok (.int cell) st := by
    by_cases hl : spot < ns.length
    · have : spot.toNat < ns.length := by omega
      refine ⟨ns[spot.toNat], ?_⟩
      simp [hl, h0, List.getElem?_eq_getElem this]
    · exact ⟨p * spot + q, by simp [hl, q1]⟩
  obtain ⟨cell, e⟩ := cell
  have fit : Nat.ble st.length (st.length + 1) = true := Nat.ble_eq_true_of_le (by omega)
  rw [callN_succ, hT, runFn_eq _ _ _ 2 4 _ [.lst (ns.map .int), .int spot] st rfl]
  unfold diceB
  have key : ∀ l s : Int, 0 ≤ l → Ok (gc st.length (.ref st.length) (st ++ [.lst [.int l, .int s, .int 0]])) Q u := fun l s hl => by
    unfold gc
    rw [if_neg, if_neg]
    · exact h l s hl
    · intro z
      rw [Bool.and_eq_true] at z
      have := z.1
      unfold D.cl at this
      have := Nat.le_of_ble_eq_true this
      omega
    · intro z
      have := Nat.le_of_ble_eq_true z
      rw [List.length_append] at this
      simp at this
      exact absurd this (Nat.not_succ_le_self _)
  have hb : (lim 3) = true := by decide
  simp [e, p0, p1, p2, mm, pos]
  by_cases hz : cell < 0
  · simp [hz, m0, q2, q3, q4, q5, hb]
    refine key _ _ (Int.emod_nonneg _ (Int.ne_of_gt pos))
  · simp [hz, m0, q2, q3, q4, q5, hb]
    refine key _ _ (Int.emod_nonneg _ (Int.ne_of_gt pos))
end
end DL

set_option Elab.async false
set_option linter.all false
set_option maxRecDepth 100000
set_option maxHeartbeats 4000000
set_option autoImplicit false
/-! DenQ: fractions in lowest terms: the plain law, and the defs that compute them. -/
namespace DL
open PySem
/-! ### lowest terms -/
theorem gcd_step {a b : Int} (ha : 0 ≤ a) (hb : 0 < b) : Int.gcd b (a % b) = Int.gcd a b := by
  obtain ⟨m, rfl⟩ := Int.eq_ofNat_of_zero_le ha
  obtain ⟨n, rfl⟩ := Int.eq_ofNat_of_zero_le (Int.le_of_lt hb)
  show Nat.gcd n (m % n) = Nat.gcd m n
  rw [Nat.gcd_comm m n, Nat.gcd_rec n m, Nat.gcd_comm]
def gc' (t b : Int) : Int := Int.gcd t b
def l1 (t b : Int) : Int := (if b < 0 then -t else t) / gc' t b
def l2 (t b : Int) : Int := (if b < 0 then -b else b) / gc' t b
theorem gc_pos {t b : Int} (h : b ≠ 0) : 0 < gc' t b := by
  unfold gc'
  have : 0 < Int.gcd t b := Int.gcd_pos_of_ne_zero_right _ h
  omega
theorem gc_le' {t b : Int} (h : b ≠ 0) : (gc' t b).natAbs ≤ b.natAbs := by
  unfold gc'
  rw [Int.natAbs_natCast]
  exact Nat.le_of_dvd (by omega) (Nat.gcd_dvd_right _ _)
theorem gc_dl (t b : Int) : gc' t b ∣ t := Int.gcd_dvd_left t b
theorem gc_dr (t b : Int) : gc' t b ∣ b := Int.gcd_dvd_right t b
theorem gc_mul {k t b : Int} : gc' (k * t) (k * b) = k.natAbs * gc' t b := by
  unfold gc'
  rw [Int.gcd_mul_left]
  exact Int.natCast_mul _ _
theorem low_scale {k t b : Int} (hk : k ≠ 0) (hb : b ≠ 0) : l1 (k * t) (k * b) = l1 t b ∧ l2 (k * t) (k * b) = l2 t b := by
  unfold l1 l2
  rw [gc_mul]
  rcases Int.lt_or_gt_of_ne hk with h | h
  · have e : ((k.natAbs : Int)) = -k := by omega
    have hp : 0 < -k := by omega
    rw [e]
    rcases Int.lt_or_gt_of_ne hb with h2 | h2
    · have : 0 < k * b := Int.mul_pos_of_neg_of_neg h h2
      rw [if_neg (show ¬ k * b < 0 by omega), if_neg (show ¬ k * b < 0 by omega), if_pos h2, if_pos h2]
      have e1 : k * t = -k * -t := by rw [Int.neg_mul_neg]
      have e2 : k * b = -k * -b := by rw [Int.neg_mul_neg]
      rw [e1, e2, Int.mul_ediv_mul_of_pos _ _ hp, Int.mul_ediv_mul_of_pos _ _ hp]
      exact ⟨rfl, rfl⟩
    · have : k * b < 0 := Int.mul_neg_of_neg_of_pos h h2
      rw [if_pos this, if_pos this, if_neg (show ¬ b < 0 by omega), if_neg (show ¬ b < 0 by omega)]
      rw [← Int.neg_mul, ← Int.neg_mul, Int.mul_ediv_mul_of_pos _ _ hp, Int.mul_ediv_mul_of_pos _ _ hp]
      exact ⟨rfl, rfl⟩
  · have e : ((k.natAbs : Int)) = k := by omega
    rw [e]
    rcases Int.lt_or_gt_of_ne hb with h2 | h2
    · have : k * b < 0 := Int.mul_neg_of_pos_of_neg h h2
      rw [if_pos this, if_pos this, if_pos h2, if_pos h2]
      rw [← Int.mul_neg, ← Int.mul_neg, Int.mul_ediv_mul_of_pos _ _ h, Int.mul_ediv_mul_of_pos _ _ h]
      exact ⟨rfl, rfl⟩
    · have : 0 < k * b := Int.mul_pos h h2
      rw [if_neg (show ¬ k * b < 0 by omega), if_neg (show ¬ k * b < 0 by omega), if_neg (show ¬ b < 0 by omega), if_neg (show ¬ b < 0 by omega)]
      rw [Int.mul_ediv_mul_of_pos _ _ h, Int.mul_ediv_mul_of_pos _ _ h]
      exact ⟨rfl, rfl⟩
/-- a fraction of the program -/
structure Frac (t b : Int) : Prop where
  pos : 0 < b
  one : Int.gcd t b = 1
theorem Frac.low {t b : Int} (h : Frac t b) : l1 t b = t ∧ l2 t b = b := by
  have hp := h.pos
  unfold l1 l2 gc'
  rw [h.one, if_neg (by omega), if_neg (by omega)]
  constructor <;> exact Int.ediv_one _
theorem l2_pos {t b : Int} (h : b ≠ 0) : 0 < l2 t b := by
  have g := gc_pos (t := t) h
  unfold l2
  have d : gc' t b ∣ (if b < 0 then -b else b) := by
    split
    · exact Int.dvd_neg.mpr (gc_dr t b)
    · exact gc_dr t b
  have p : 0 < (if b < 0 then -b else b) := by split <;> omega
  exact Int.ediv_pos_of_pos_of_dvd p (Int.le_of_lt g) d
theorem low_frac {t b : Int} (h : b ≠ 0) : Frac (l1 t b) (l2 t b) := by
  refine ⟨l2_pos h, ?_⟩
  have g := Int.gcd_pos_of_ne_zero_right t h
  unfold l1 l2 gc'
  split
  · have e1 : -t / (Int.gcd t b : Int) = -(t / Int.gcd t b) := Int.neg_ediv_of_dvd (gc_dl t b)
    have e2 : -b / (Int.gcd t b : Int) = -(b / Int.gcd t b) := Int.neg_ediv_of_dvd (gc_dr t b)
    rw [e1, e2, Int.neg_gcd, Int.gcd_neg]
    exact Int.gcd_ediv_gcd_ediv_gcd g
  · exact Int.gcd_ediv_gcd_ediv_gcd g
/-- t, b by their lowest terms -/
theorem low_back {t b : Int} (h : 0 < b) : t = gc' t b * l1 t b ∧ b = gc' t b * l2 t b := by
  unfold l1 l2
  rw [if_neg (by omega), if_neg (by omega)]
  exact ⟨(Int.mul_ediv_cancel' (gc_dl t b)).symm, (Int.mul_ediv_cancel' (gc_dr t b)).symm⟩
theorem Frac.eq {t b t' b' : Int} (h : Frac t b) (h' : Frac t' b') (e : t * b' = t' * b) : t = t' ∧ b = b' := by
  have p := h.pos
  have p' := h'.pos
  have a1 := low_scale (k := b') (t := t) (b := b) (by omega) (by omega)
  have a2 := low_scale (k := b) (t := t') (b := b') (by omega) (by omega)
  have e1 : b' * t = b * t' := by rw [Int.mul_comm, e, Int.mul_comm]
  have e2 : b' * b = b * b' := Int.mul_comm _ _
  rw [e1, e2] at a1
  exact ⟨h.low.1.symm.trans (a1.1.symm.trans (a2.1.trans h'.low.1)), h.low.2.symm.trans (a1.2.symm.trans (a2.2.trans h'.low.2))⟩
theorem l1_abs {t b : Int} (h : b ≠ 0) : (l1 t b).natAbs ≤ t.natAbs := by
  unfold l1
  refine Nat.le_trans (Int.natAbs_ediv_le_natAbs _ _) ?_
  split <;> omega
theorem l2_abs {t b : Int} (h : b ≠ 0) : (l2 t b).natAbs ≤ b.natAbs := by
  unfold l2
  refine Nat.le_trans (Int.natAbs_ediv_le_natAbs _ _) ?_
  split <;> omega
theorem frac_iff {t b : Int} (h : 0 < b) : (l1 t b = t ∧ l2 t b = b) ↔ Int.gcd t b = 1 := by
  constructor
  · intro ⟨e1, e2⟩
    have := (low_frac (t := t) (b := b) (by omega)).one
    rwa [e1, e2] at this
  · intro e
    exact Frac.low ⟨h, e⟩
/-! ### the defs -/
def fr (t b : Int) : D := .tup [.int t, .int b]
/-- neither a reference nor a def -/
def D.dat : D → Bool
  | .ref _ => false
  | .fn _ => false
  | _ => true
def isWh : D → Bool
  | .int _ => true
  | _ => false
/-- a whole number below 10^60 -/
def isSh : D → Bool
  | .int i => decide (-(10 ^ 60) < i) && decide (i < 10 ^ 60)
  | _ => false
def wholeB : ISs := (.cons (.ret (.and (.cons (.isi (.slot 0) .int) (.cons (.nt (.isi (.slot 0) .bool)) .nil)))) .nil)
def shortB (w g : Nat) : ISs := (.cons (.ret (.and (.cons (.call w (.cons (.slot 0) .nil)) (.cons (.cmp2 .Lt .Lt (.neg (.glob g)) (.slot 0) (.glob g)) .nil)))) .nil)
def sharedB : ISs := (.cons (.whl (.cmp .Gt (.slot 1) (.con (.int 0))) (.cons (.par 0 1 (.slot 1) (.bin .Mod (.slot 0) (.slot 1))) .nil)) (.cons (.ret (.slot 0)) .nil))
def lowestB (s : Nat) : ISs := (.cons (.ifs (.cmp .Lt (.slot 1) (.con (.int 0))) (.cons (.par 0 1 (.neg (.slot 0)) (.neg (.slot 1))) .nil) .nil) (.cons (.asg (.slot 2) (.call s (.cons (.blt .abs (.cons (.slot 0) .nil)) (.cons (.slot 1) .nil)))) (.cons (.ret (.tup (.cons (.bin .FloorDiv (.slot 0) (.slot 2)) (.cons (.bin .FloorDiv (.slot 1) (.slot 2)) .nil)))) .nil)))
def sumB (op : Operator) (l : Nat) : ISs := (.cons (.ret (.call l (.cons (.bin op (.bin .Mult (.idx (.slot 0) (.con (.int 0))) (.idx (.slot 1) (.con (.int 1)))) (.bin .Mult (.idx (.slot 1) (.con (.int 0))) (.idx (.slot 0) (.con (.int 1))))) (.cons (.bin .Mult (.idx (.slot 0) (.con (.int 1))) (.idx (.slot 1) (.con (.int 1)))) .nil)))) .nil)
def prodB (l : Nat) : ISs := (.cons (.ret (.call l (.cons (.bin .Mult (.idx (.slot 0) (.con (.int 0))) (.idx (.slot 1) (.con (.int 0)))) (.cons (.bin .Mult (.idx (.slot 0) (.con (.int 1))) (.idx (.slot 1) (.con (.int 1)))) .nil)))) .nil)
def quotB (l : Nat) : ISs := (.cons (.ret (.call l (.cons (.bin .Mult (.idx (.slot 0) (.con (.int 0))) (.idx (.slot 1) (.con (.int 1)))) (.cons (.bin .Mult (.idx (.slot 0) (.con (.int 1))) (.idx (.slot 1) (.con (.int 0)))) .nil)))) .nil)
def belowB : ISs := (.cons (.ret (.cmp .Lt (.bin .Mult (.idx (.slot 0) (.con (.int 0))) (.idx (.slot 1) (.con (.int 1)))) (.bin .Mult (.idx (.slot 1) (.con (.int 0))) (.idx (.slot 0) (.con (.int 1)))))) .nil)
def isFracB (sh s gp : Nat) : ISs := (.cons (.ifs (.or (.cons (.nt (.isi (.slot 0) .tuple)) (.cons (.cmp .NotEq (.blt .len (.cons (.slot 0) .nil)) (.glob gp)) (.cons (.nt (.call sh (.cons (.idx (.slot 0) (.con (.int 0))) .nil))) (.cons (.nt (.call sh (.cons (.idx (.slot 0) (.con (.int 1))) .nil))) .nil))))) (.cons (.ret (.con (.bl false))) .nil) .nil) (.cons (.ret (.and (.cons (.cmp .Gt (.idx (.slot 0) (.con (.int 1))) (.con (.int 0))) (.cons (.cmp .Eq (.call s (.cons (.blt .abs (.cons (.idx (.slot 0) (.con (.int 0))) .nil)) (.cons (.idx (.slot 0) (.con (.int 1))) .nil))) (.con (.int 1))) .nil)))) .nil))
section
variable {G : Nat → D} {N : Nat} {T : Nat → Fn} {k : Nat} {st : Store}
theorem whole_eq {w : Nat} (hw : T w = ⟨1, 1, wholeB⟩) {v : D} (h : v.dat = true) : callN G N T (k + 1) w [v] st = .ok (.bl (isWh v)) st := by
  refine ok_eq (Ok_call hw rfl ?_)
  cases v <;> first | (cases h; done) | simp [wholeB, isWh]
theorem short_eq {w s g : Nat} (hw : T w = ⟨1, 1, wholeB⟩) (hs : T s = ⟨1, 1, shortB w g⟩) (hg : G g = .int (10 ^ 60)) {v : D} (h : v.dat = true) : callN G N T (k + 2) s [v] st = .ok (.bl (isSh v)) st := by
  refine ok_eq (Ok_call hs rfl ?_)
  simp [shortB, whole_eq hw h]
  cases v <;> try simp [isWh, isSh]
  rename_i i
  simp [hg]
  split
  · simp
    omega
  · simp
    omega
theorem shared_eq {s : Nat} (hs : T s = ⟨2, 2, sharedB⟩) {a b : Int} (ha : 0 ≤ a) (hb : 0 ≤ b) (hz : b < N) : callN G N T (k + 1) s [.int a, .int b] st = .ok (.int (Int.gcd a b)) st := by
  refine ok_eq (Ok_call hs rfl ?_)
  simp [sharedB]
  refine whlF_ok (N := N) (n := b.toNat) (I := fun n Γ st' => ∃ x y : Int, Γ = [some (.int x), some (.int y)] ∧ st' = st ∧ 0 ≤ x ∧ 0 ≤ y ∧ y.toNat = n ∧ Int.gcd x y = Int.gcd a b) ?_ (by omega) ⟨a, b, rfl, rfl, ha, hb, rfl, rfl⟩
  rintro n Γ st' ⟨x, y, rfl, rfl, hx, hy, hn, hg⟩
  simp
  by_cases h : 0 < y
  · simp [h]
    refine ⟨n - 1, by omega, ?_⟩
    have h1 := Int.emod_nonneg x (Int.ne_of_gt h)
    have h2 := Int.emod_lt_of_pos x h
    exact ⟨(x % y).toNat, by omega, y, x % y, ⟨rfl, rfl⟩, by omega, h1, by omega, (gcd_step hx h).trans hg⟩
  · have : y = 0 := by omega
    subst this
    simp
    rw [← hg]
    simp
    omega
theorem lowest_eq {s l : Nat} (hs : T s = ⟨2, 2, sharedB⟩) (hl : T l = ⟨2, 3, lowestB s⟩) {t b : Int} (h : b ≠ 0) (hz : Sz 1900 b) (hN : 2 ^ 1900 ≤ N) : callN G N T (k + 2) l [.int t, .int b] st = .ok (fr (l1 t b) (l2 t b)) st := by
  refine ok_eq (Ok_call hl rfl ?_)
  have hb : b.natAbs < N := Nat.lt_of_lt_of_le hz hN
  have hl : lim 2 = true := by decide
  have hd : divOk (gc' t b) = true := divOk_of (hz.of_le (gc_le' h)) (by decide) (gc_pos h)
  by_cases hneg : b < 0
  · have e := shared_eq (G := G) (N := N) (k := k) (st := st) hs (a := t.natAbs) (b := -b) (by omega) (by omega) (by omega)
    have eg : (Int.gcd t.natAbs (-b) : Int) = gc' t b := by
      unfold gc'
      rw [Int.gcd_neg]
      simp [Int.gcd]
    rw [eg] at e
    simp [lowestB, hneg, hl, e, hd, fr, l1, l2]
  · have e := shared_eq (G := G) (N := N) (k := k) (st := st) hs (a := t.natAbs) (b := b) (by omega) (by omega) (by omega)
    have eg : (Int.gcd t.natAbs b : Int) = gc' t b := by
      unfold gc'
      simp [Int.gcd]
    rw [eg] at e
    simp [lowestB, hneg, hl, e, hd, fr, l1, l2]
section
variable {s l : Nat} (hs : T s = ⟨2, 2, sharedB⟩) (hl : T l = ⟨2, 3, lowestB s⟩) (hN : 2 ^ 1900 ≤ N) {a b c d : Int} (za : Sz 900 a) (zb : Sz 900 b) (zc : Sz 900 c) (zd : Sz 900 d)
include hs hl hN za zb zc zd
theorem sum_eq {f : Nat} (hf : T f = ⟨2, 2, sumB .Add l⟩) (hb : b ≠ 0) (hd : d ≠ 0) : callN G N T (k + 3) f [fr a b, fr c d] st = .ok (fr (l1 (a * d + c * b) (b * d)) (l2 (a * d + c * b) (b * d))) st := by
  refine ok_eq (Ok_call hf rfl ?_)
  simp [sumB, fr, mulOk_of za zd (by decide), mulOk_of zc zb (by decide), mulOk_of zb zd (by decide)]
  rw [lowest_eq hs hl (Int.mul_ne_zero hb hd) ((zb.mul zd).mono (by decide)) hN]
  simp [fr]
theorem less_eq {f : Nat} (hf : T f = ⟨2, 2, sumB .Sub l⟩) (hb : b ≠ 0) (hd : d ≠ 0) : callN G N T (k + 3) f [fr a b, fr c d] st = .ok (fr (l1 (a * d - c * b) (b * d)) (l2 (a * d - c * b) (b * d))) st := by
  refine ok_eq (Ok_call hf rfl ?_)
  simp [sumB, fr, mulOk_of za zd (by decide), mulOk_of zc zb (by decide), mulOk_of zb zd (by decide)]
  rw [lowest_eq hs hl (Int.mul_ne_zero hb hd) ((zb.mul zd).mono (by decide)) hN]
  simp [fr]
theorem prod_eq {f : Nat} (hf : T f = ⟨2, 2, prodB l⟩) (hb : b ≠ 0) (hd : d ≠ 0) : callN G N T (k + 3) f [fr a b, fr c d] st = .ok (fr (l1 (a * c) (b * d)) (l2 (a * c) (b * d))) st := by
  refine ok_eq (Ok_call hf rfl ?_)
  simp [prodB, fr, mulOk_of za zc (by decide), mulOk_of zb zd (by decide)]
  rw [lowest_eq hs hl (Int.mul_ne_zero hb hd) ((zb.mul zd).mono (by decide)) hN]
  simp [fr]
theorem quot_eq {f : Nat} (hf : T f = ⟨2, 2, quotB l⟩) (hb : b ≠ 0) (hc : c ≠ 0) : callN G N T (k + 3) f [fr a b, fr c d] st = .ok (fr (l1 (a * d) (b * c)) (l2 (a * d) (b * c))) st := by
  refine ok_eq (Ok_call hf rfl ?_)
  simp [quotB, fr, mulOk_of za zd (by decide), mulOk_of zb zc (by decide)]
  rw [lowest_eq hs hl (Int.mul_ne_zero hb hc) ((zb.mul zc).mono (by decide)) hN]
  simp [fr]
end
theorem below_eq {f : Nat} (hf : T f = ⟨2, 2, belowB⟩) {a b c d : Int} (za : Sz 900 a) (zb : Sz 900 b) (zc : Sz 900 c) (zd : Sz 900 d) : callN G N T (k + 1) f [fr a b, fr c d] st = .ok (.bl (decide (a * d < c * b))) st := by
  refine ok_eq (Ok_call hf rfl ?_)
  simp [belowB, fr, mulOk_of za zd (by decide), mulOk_of zc zb (by decide)]
/-- is_fraction's answer -/
def isFr : D → Bool
  | .tup [.int t, .int b] => (isSh (.int t) && isSh (.int b)) && (decide (0 < b) && decide (Int.gcd t b = 1))
  | _ => false
/-- what is_fraction may be asked about -/
def D.dat2 (v : D) : Prop := v.dat = true ∧ ∀ a b, v = .tup [a, b] → a.dat = true ∧ b.dat = true
@[simp] theorem dat2_tup2 (a b : D) : (D.tup [a, b]).dat2 = (a.dat = true ∧ b.dat = true) := by
  apply propext
  constructor
  · intro h; exact h.2 a b rfl
  · intro h; exact ⟨rfl, fun _ _ e => by cases e; exact h⟩
@[simp] theorem dat2_tup0 : (D.tup []).dat2 = True := eq_true ⟨rfl, fun _ _ e => by cases e⟩
@[simp] theorem dat2_tup1 (a : D) : (D.tup [a]).dat2 = True := eq_true ⟨rfl, fun _ _ e => by cases e⟩
@[simp] theorem dat2_tup3 (a b c : D) (xs : List D) : (D.tup (a :: b :: c :: xs)).dat2 = True := eq_true ⟨rfl, fun _ _ e => by cases e⟩
@[simp] theorem dat2_lst (xs : List D) : (D.lst xs).dat2 = True := eq_true ⟨rfl, fun _ _ e => by cases e⟩
@[simp] theorem dat2_int (i : Int) : (D.int i).dat2 = True := eq_true ⟨rfl, fun _ _ e => by cases e⟩
@[simp] theorem dat2_bl (i : Bool) : (D.bl i).dat2 = True := eq_true ⟨rfl, fun _ _ e => by cases e⟩
@[simp] theorem dat2_str (i : Str) : (D.str i).dat2 = True := eq_true ⟨rfl, fun _ _ e => by cases e⟩
@[simp] theorem dat2_non : D.non.dat2 = True := eq_true ⟨rfl, fun _ _ e => by cases e⟩
@[simp] theorem dat2_dct (xs ys : List D) : (D.dct xs ys).dat2 = True := eq_true ⟨rfl, fun _ _ e => by cases e⟩
@[simp] theorem dat2_fr (a b : Int) : (fr a b).dat2 = True := eq_true ⟨rfl, fun _ _ e => by cases e; exact ⟨rfl, rfl⟩⟩
@[simp] theorem dat_int (i : Int) : (D.int i).dat = true := rfl
@[simp] theorem dat_bl (i : Bool) : (D.bl i).dat = true := rfl
@[simp] theorem dat_str (i : Str) : (D.str i).dat = true := rfl
@[simp] theorem dat_non : D.non.dat = true := rfl
@[simp] theorem dat_tup (xs : List D) : (D.tup xs).dat = true := rfl
@[simp] theorem dat_lst (xs : List D) : (D.lst xs).dat = true := rfl
@[simp] theorem dat_dct (xs ys : List D) : (D.dct xs ys).dat = true := rfl
theorem isFrac_eq {w sh s f g gp : Nat} (hw : T w = ⟨1, 1, wholeB⟩) (hsh : T sh = ⟨1, 1, shortB w g⟩) (hg : G g = .int (10 ^ 60)) (hs : T s = ⟨2, 2, sharedB⟩) (hgp : G gp = .int 2) (hf : T f = ⟨1, 1, isFracB sh s gp⟩) (hN : 10 ^ 60 ≤ N) {v : D} (h : v.dat2) :
    callN G N T (k + 3) f [v] st = .ok (.bl (isFr v)) st := by
  refine ok_eq (Ok_call hf rfl ?_)
  have e0 : ∀ {v : D}, v.dat = true → callN G N T (k + 2) sh [v] st = .ok (.bl (isSh v)) st := fun h => short_eq hw hsh hg h
  cases v with
  | ref _ => cases h.1
  | fn _ => cases h.1
  | tup xs =>
    match xs, h with
    | [], _ => simp [isFracB, isFr, hgp]
    | [_], _ => simp [isFracB, isFr, hgp]
    | _ :: _ :: _ :: tl, _ =>
      have hn : ((tl.length : Int) + 1 + 1 + 1 = 2) = False := by simp; omega
      simp [isFracB, isFr, hgp, hn]
    | [x, y], h =>
      obtain ⟨hx, hy⟩ := h.2 x y rfl
      simp [isFracB, hgp, e0 hx, e0 hy]
      by_cases cx : isSh x = true
      · by_cases cy : isSh y = true
        · cases x <;> first | (cases cx; done) | skip
          cases y <;> first | (cases cy; done) | skip
          rename_i t b
          simp [cx, cy, isFr]
          by_cases hb : 0 < b
          · have hlt : b < 10 ^ 60 := by
              unfold isSh at cy
              simp at cy
              omega
            have hN' : ((10 : Int) ^ 60) ≤ N := by
              have : ((10 ^ 60 : Nat) : Int) ≤ N := Int.ofNat_le.mpr hN
              simpa using this
            have e := shared_eq (G := G) (N := N) (k := k + 1) (st := st) hs (a := t.natAbs) (b := b) (by omega) (by omega) (by omega)
            have eg : Int.gcd t.natAbs b = Int.gcd t b := by simp [Int.gcd]
            rw [eg] at e
            rw [if_pos hb, e]
            simp [cx, cy, hb]
            rw [Bool.eq_iff_iff]
            simp
            omega
          · rw [if_neg hb]
            simp [cx, cy, hb]
        · simp [cx, cy]
          cases x <;> first | (cases cx; done) | skip
          cases y <;> simp_all [isFr]
      · simp [cx]
        cases x <;> simp_all [isFr]
        cases y <;> simp_all [isFr]
  | _ => simp [isFracB, isFr]
end
/-! ### the law's own account -/
mutual
theorem ey_refl : ∀ (x : D) (n : Nat), x.sh n = true → x.ey x = true
  | .non, _, _ => rfl
  | .bl _, _, _ => by simp
  | .int _, _, _ => by simp
  | .str _, _, _ => by simp
  | .tup xs, 0, h => by simp at h
  | .tup xs, n + 1, h => by simpa using eys_refl xs n (by simpa using h)
  | .lst xs, 0, h => by simp at h
  | .lst xs, n + 1, h => by simpa using eys_refl xs n (by simpa using h)
  | .dct _ _, _, h => by simp at h
  | .ref _, _, h => by simp at h
  | .fn _, _, h => by simp at h
theorem eys_refl : ∀ (xs : List D) (n : Nat), shs xs n = true → eys xs xs = true
  | [], _, _ => rfl
  | x :: xs, n, h => by
    have h' : x.sh n = true ∧ shs xs n = true := by simpa using h
    simp [ey_refl x n h'.1, eys_refl xs n h'.2]
end
theorem eqD_refl {x : D} (h : x.sh 64 = true) : eqD x x = some true := by rw [eqD_sh h h, ey_refl x 64 h]
@[simp] theorem fr_sh (a b : Int) (n : Nat) : (fr a b).sh n = decide (0 < n) := by simp [fr]
@[simp] theorem fr_ey (a b c d : Int) : (fr a b).ey (fr c d) = (a == c && b == d) := by simp [fr]
@[simp] theorem fr_0 (a b : Int) (st : Store) : DL.idx (fr a b) (.int 0) st = some (.int a) := by simp [fr]
@[simp] theorem fr_1 (a b : Int) (st : Store) : DL.idx (fr a b) (.int 1) st = some (.int b) := by simp [fr]
@[simp] theorem fr_asg (a b : Int) (ts : ITgs) (Γ : Env) : asgP (.tup ts) (fr a b) Γ = asgPs ts [.int a, .int b] Γ := by simp [fr]
@[simp] theorem fr_len (a b : Int) (st : Store) : blt .len [fr a b] st = some (.int 2) := by simp [fr]
@[simp] theorem fr_items (a b : Int) (st : Store) : items (fr a b) st = some [.int a, .int b] := by simp [fr]
@[simp] theorem fr_isi (a b : Int) (t : Ty) (st : Store) : isiD (fr a b) t st = some (match t with | .tuple => true | _ => false) := by cases t <;> rfl
@[simp] theorem fr_cat (a b : Int) (xs : List D) : binop .Add (fr a b) (.tup xs) = if lim (2 + xs.length) = true then some (.tup (.int a :: .int b :: xs)) else none := by simp [fr]
@[simp] theorem fr_cl (a b : Int) (n : Nat) : (fr a b).cl n = true := rfl
@[simp] theorem fr_dat (a b : Int) : (fr a b).dat = true := rfl
theorem eqD_fr (a b c d : Int) : eqD (fr a b) (fr c d) = some (decide (a = c) && decide (b = d)) := by
  rw [eqD_sh (by simp [fr]) (by simp [fr])]
  simp
  rw [Bool.eq_iff_iff]
  simp
def lawLowB : ISs := (.cons (.par 2 3 (.blt .abs (.cons (.slot 0) .nil)) (.blt .abs (.cons (.slot 1) .nil))) (.cons (.whl (.cmp .NotEq (.slot 3) (.con (.int 0))) (.cons (.par 2 3 (.slot 3) (.bin .Mod (.slot 2) (.slot 3))) .nil)) (.cons (.asg (.slot 4) (.ife (.cmp .Gt (.slot 1) (.con (.int 0))) (.con (.int 1)) (.neg (.con (.int 1))))) (.cons (.ret (.tup (.cons (.bin .FloorDiv (.bin .Mult (.slot 4) (.slot 0)) (.slot 2)) (.cons (.bin .FloorDiv (.bin .Mult (.slot 4) (.slot 1)) (.slot 2)) .nil)))) .nil))))
section
variable {G : Nat → D} {N : Nat} {T : Nat → Fn} {k : Nat} {st : Store}
theorem lawLow_eq {f : Nat} (hf : T f = ⟨2, 5, lawLowB⟩) {t b : Int} (h : b ≠ 0) (hz : Sz 1900 b) (ht : Sz 1901 t) (hN : 2 ^ 1900 ≤ N) : callN G N T (k + 1) f [.int t, .int b] st = .ok (fr (l1 t b) (l2 t b)) st := by
  refine ok_eq (Ok_call hf rfl ?_)
  have hb : b.natAbs < N := Nat.lt_of_lt_of_le hz hN
  have hl : lim 2 = true := by decide
  have hd : divOk (gc' t b) = true := divOk_of (hz.of_le (gc_le' h)) (by decide) (gc_pos h)
  have m1 : mulOk 1 t = true := mulOk_of (Sz.lit 1 1 (by decide)) ht (by decide)
  have m2 : mulOk (-1) t = true := mulOk_of (Sz.lit 1 (-1) (by decide)) ht (by decide)
  have m3 : mulOk 1 b = true := mulOk_of (Sz.lit 1 1 (by decide)) hz (by decide)
  have m4 : mulOk (-1) b = true := mulOk_of (Sz.lit 1 (-1) (by decide)) hz (by decide)
  simp [lawLowB]
  refine whlF_ok (N := N) (n := b.natAbs) (I := fun n Γ st' => ∃ x y : Int, Γ = [some (.int t), some (.int b), some (.int x), some (.int y), none] ∧ st' = st ∧ 0 ≤ x ∧ 0 ≤ y ∧ y.toNat = n ∧ (Int.gcd x y : Int) = gc' t b) ?_ hb ⟨t.natAbs, b.natAbs, rfl, rfl, by omega, by omega, by omega, by unfold gc'; simp [Int.gcd]⟩
  rintro n Γ st' ⟨x, y, rfl, rfl, hx, hy, hn, hg⟩
  by_cases h0 : y = 0
  · subst h0
    have ex : x = gc' t b := by
      rw [← hg]
      simp
      omega
    subst ex
    by_cases hp : 0 < b
    · simp [hp, hd, m1, m3, hl, fr, l1, l2, Int.not_lt.mpr (Int.le_of_lt hp)]
    · have hp' : b < 0 := by omega
      simp [hp, hp', hd, m2, m4, hl, fr, l1, l2]
  · have hy0 : 0 < y := by omega
    simp [h0, hy0]
    refine ⟨n - 1, by omega, ?_⟩
    have h1 := Int.emod_nonneg x (Int.ne_of_gt hy0)
    have h2 := Int.emod_lt_of_pos x hy0
    exact ⟨(x % y).toNat, by omega, y, x % y, ⟨rfl, rfl⟩, by omega, h1, by omega, by rw [gcd_step hx hy0]; exact hg⟩
end
/-! ### sizes of fractions -/
def Good (t b : Int) : Prop := isFr (fr t b) = true
theorem good_iff {t b : Int} : Good t b ↔ (-(10 ^ 60) < t ∧ t < 10 ^ 60) ∧ (0 < b ∧ b < 10 ^ 60) ∧ Frac t b := by
  unfold Good isFr fr isSh
  simp only [Bool.and_eq_true, decide_eq_true_eq]
  constructor
  · rintro ⟨⟨h1, h2⟩, h3, h4⟩
    exact ⟨h1, ⟨h3, h2.2⟩, h3, h4⟩
  · rintro ⟨h1, h2, h3⟩
    exact ⟨⟨h1, by omega, h2.2⟩, h2.1, h3.one⟩
theorem ten60 : ((10 : Int) ^ 60) ≤ ((2 ^ 200 : Nat) : Int) := by decide
theorem Good.frac {t b : Int} (h : Good t b) : Frac t b := (good_iff.mp h).2.2
theorem Good.szt {t b : Int} (h : Good t b) : Sz 200 t := by
  have := (good_iff.mp h).1
  have t60 := ten60
  unfold Sz
  omega
theorem Good.szb {t b : Int} (h : Good t b) : Sz 200 b := by
  have := (good_iff.mp h).2.1
  have t60 := ten60
  unfold Sz
  omega
theorem Good.ne {t b : Int} (h : Good t b) : b ≠ 0 := Int.ne_of_gt h.frac.pos
theorem good_low {t b : Int} (h : b ≠ 0) (ht : t.natAbs < 10 ^ 60) (hb : b.natAbs < 10 ^ 60) : Good (l1 t b) (l2 t b) := by
  have e1 := l1_abs (t := t) h
  have e2 := l2_abs (t := t) h
  have p := l2_pos (t := t) h
  have c : ((10 ^ 60 : Nat) : Int) = (10 : Int) ^ 60 := by decide
  exact good_iff.mpr ⟨⟨by omega, by omega⟩, ⟨p, by omega⟩, low_frac h⟩
end DL

set_option Elab.async false
set_option linter.all false
set_option maxRecDepth 100000
set_option maxHeartbeats 4000000
set_option autoImplicit false
set_option exponentiation.threshold 3000
/-! DenR: what the laws of fractions share: the program's demands, what is drawn. -/
namespace DL
open PySem
/-- the dice's texts, alike in all laws -/
def rollK : ISs := rollB 71828177 2305843009213693421 89 2305843009213693381 8128163 65579
def diceK : ISs := diceB 71 43 16 57 59 1152921504606846869 89 1021 47 31
theorem Sz.t60 {x : Int} (h : x.natAbs < 10 ^ 60) : Sz 200 x := by
  have t60 := ten60
  have c : ((10 ^ 60 : Nat) : Int) = (10 : Int) ^ 60 := by decide
  unfold Sz
  omega
/-! ### nothing in the store points out of it -/
mutual
theorem cl_mono : ∀ (d : D) (n m : Nat), d.cl n = true → n ≤ m → d.cl m = true
  | .tup xs, n, m, h, k => cls_mono xs n m h k
  | .lst xs, n, m, h, k => cls_mono xs n m h k
  | .dct ks vs, n, m, h, k => by
    have h' : cls n ks = true ∧ cls n vs = true := Bool.and_eq_true_iff.mp h
    exact Bool.and_eq_true_iff.mpr ⟨cls_mono ks n m h'.1 k, cls_mono vs n m h'.2 k⟩
  | .ref i, n, m, h, k => by
    have : i < n := Nat.le_of_ble_eq_true h
    exact Nat.ble_eq_true_of_le (Nat.lt_of_lt_of_le this k)
  | .non, _, _, _, _ => rfl
  | .bl _, _, _, _, _ => rfl
  | .int _, _, _, _, _ => rfl
  | .str _, _, _, _, _ => rfl
  | .fn _, _, _, _, _ => rfl
theorem cls_mono : ∀ (xs : List D) (n m : Nat), cls n xs = true → n ≤ m → cls m xs = true
  | [], _, _, _, _ => rfl
  | x :: xs, n, m, h, k => by
    have h' : x.cl n = true ∧ cls n xs = true := Bool.and_eq_true_iff.mp h
    exact Bool.and_eq_true_iff.mpr ⟨cl_mono x n m h'.1 k, cls_mono xs n m h'.2 k⟩
end
theorem ccl_mono : ∀ (c : Cell) (n m : Nat), c.cl n = true → n ≤ m → c.cl m = true
  | .lst xs, n, m, h, k => cls_mono xs n m h k
  | .dct ks vs, n, m, h, k => by
    have h' : cls n ks = true ∧ cls n vs = true := Bool.and_eq_true_iff.mp h
    exact Bool.and_eq_true_iff.mpr ⟨cls_mono ks n m h'.1 k, cls_mono vs n m h'.2 k⟩
  | .dead, _, _, _, _ => rfl
/-- a store that is closed -/
def Cld (st : Store) : Prop := Closed st.length st = true
theorem Cld.push {st : Store} {c : Cell} (h : Cld st) (hc : c.cl (st.length + 1) = true) : Cld (st ++ [c]) := by
  unfold Cld Closed at *
  rw [List.all_append, Bool.and_eq_true]
  refine ⟨List.all_eq_true.mpr fun x hx => ?_, by simp [hc]⟩
  exact ccl_mono x _ _ (List.all_eq_true.mp h x hx) (by simp)
theorem Cld.set {st : Store} {c : Cell} {r : Nat} (h : Cld st) (hc : c.cl st.length = true) : Cld (st.set r c) := by
  unfold Cld Closed at *
  refine List.all_eq_true.mpr fun x hx => ?_
  rw [List.length_set]
  rcases List.mem_or_eq_of_mem_set hx with hx | rfl
  · exact List.all_eq_true.mp h x hx
  · exact hc
theorem Dice.cld {n r : Nat} {st0 st : Store} (h : Dice n r st0 st) (hc : Cld st0) : Cld st := by
  obtain ⟨l, s, c, _, rfl, _⟩ := h
  exact hc.set rfl
def reqB (f : Nat) : ISs := (.cons (.ifs (.nt (.call f (.cons (.slot 0) .nil))) (.cons (.never) .nil) .nil) .nil)
def req2B (f : Nat) : ISs := (.cons (.expr (.call f (.cons (.slot 0) .nil))) (.cons (.expr (.call f (.cons (.slot 1) .nil))) .nil))
def lawSumB (op : Operator) (lo : Nat) : ISs := (.cons (.ret (.call lo (.cons (.bin op (.bin .Mult (.idx (.slot 0) (.con (.int 0))) (.idx (.slot 1) (.con (.int 1)))) (.bin .Mult (.idx (.slot 1) (.con (.int 0))) (.idx (.slot 0) (.con (.int 1))))) (.cons (.bin .Mult (.idx (.slot 0) (.con (.int 1))) (.idx (.slot 1) (.con (.int 1)))) .nil)))) .nil)
def drawnB (rl pk lo : Nat) : ISs := (.cons (.asg (.slot 1) (.call pk (.cons (.slot 0) (.cons (.lst (.cons (.con (.int 0)) (.cons (.con (.int 1)) (.cons (.con (.int 2)) (.cons (.con (.int 7)) (.cons (.call rl (.cons (.slot 0) (.cons (.con (.int 30)) .nil))) (.cons (.call rl (.cons (.slot 0) (.cons (.bin .Pow (.con (.int 10)) (.con (.int 9))) .nil))) (.cons (.call rl (.cons (.slot 0) (.cons (.bin .Pow (.con (.int 10)) (.con (.int 60))) .nil))) .nil)))))))) .nil)))) (.cons (.asg (.slot 2) (.bin .Add (.con (.int 1)) (.call pk (.cons (.slot 0) (.cons (.lst (.cons (.con (.int 0)) (.cons (.con (.int 1)) (.cons (.con (.int 2)) (.cons (.con (.int 6)) (.cons (.call rl (.cons (.slot 0) (.cons (.con (.int 30)) .nil))) (.cons (.call rl (.cons (.slot 0) (.cons (.bin .Pow (.con (.int 10)) (.con (.int 9))) .nil))) (.cons (.call rl (.cons (.slot 0) (.cons (.bin .Pow (.con (.int 10)) (.con (.int 59))) .nil))) .nil)))))))) .nil))))) (.cons (.ret (.call lo (.cons (.ife (.cmp .Gt (.call rl (.cons (.slot 0) (.cons (.con (.int 3)) .nil))) (.con (.int 0))) (.slot 1) (.bin .Sub (.con (.int 0)) (.slot 1))) (.cons (.slot 2) .nil)))) .nil)))
/-- the program's defs about fractions, by number -/
structure FrP (T : Nat → Fn) (G : Nat → D) (w sh s l fr rq rq2 g gp : Nat) : Prop where
  tw : T w = ⟨1, 1, wholeB⟩
  tsh : T sh = ⟨1, 1, shortB w g⟩
  ts : T s = ⟨2, 2, sharedB⟩
  tl : T l = ⟨2, 3, lowestB s⟩
  tfr : T fr = ⟨1, 1, isFracB sh s gp⟩
  trq : T rq = ⟨1, 1, reqB fr⟩
  trq2 : T rq2 = ⟨2, 2, req2B rq⟩
  tg : G g = .int (10 ^ 60)
  tgp : G gp = .int 2
theorem le60 {N : Nat} (hN : 2 ^ 1900 ≤ N) : 10 ^ 60 ≤ N := Nat.le_trans (Nat.le_trans (by decide : 10 ^ 60 ≤ 2 ^ 200) (Nat.pow_le_pow_right (by decide) (by decide : 200 ≤ 1900))) hN
section
variable {G : Nat → D} {N : Nat} {T : Nat → Fn} {k : Nat} {st : Store}
theorem rollK_ok {f : Nat} (hf : T f = ⟨2, 5, rollK⟩) {n r : Nat} {st0 st : Store} (hd : Dice n r st0 st) (hn : n < 2 ^ 60) {most : Int} (hm : 0 < most) (hz : Sz 300 most)
    {Q : D → Store → Prop} {u : Du Q} (h : ∀ (x : Int) (st' : Store), 0 ≤ x → x < most → Dice (n + 1) r st0 st' → Q (.int x) st') : Ok (callN G N T (k + 1) f [.ref r, .int most] st) Q u :=
  roll_ok hf (by decide) hd hn hm (hz.mono (by decide)) h
theorem pickK_ok {f g : Nat} (hf : T f = ⟨2, 5, rollK⟩) (hg : T g = ⟨2, 2, pickB f⟩) {n r : Nat} {st0 st : Store} (hd : Dice n r st0 st) (hn : n < 2 ^ 60) {xs : List D} (hne : xs ≠ []) (hl : xs.length < 16777216)
    {Q : D → Store → Prop} {u : Du Q} (h : ∀ (y : D) (st' : Store), y ∈ xs → Dice (n + 1) r st0 st' → Q y st') : Ok (callN G N T (k + 2) g [.ref r, .lst xs] st) Q u :=
  pick_ok hf (by decide) hg hd hn (.inl rfl) hne hl h
theorem diceK_ok {f : Nat} (hT : T f = ⟨2, 4, diceK⟩) {ns : List Int} {spot : Int} {st : Store} (h0 : 0 ≤ spot) (h1 : spot < 1000000)
    {Q : D → Store → Prop} {u : Du Q} (h : ∀ l s : Int, 0 ≤ l → Q (.ref st.length) (st ++ [.lst [.int l, .int s, .int 0]])) : Ok (callN G N T (k + 1) f [.lst (ns.map .int), .int spot] st) Q u :=
  dice_ok hT (by decide) h0 h1 h
theorem lsum_eq {f lo : Nat} (hl : T lo = ⟨2, 5, lawLowB⟩) (hf : T f = ⟨2, 2, lawSumB .Add lo⟩) (hN : 2 ^ 1900 ≤ N) {a b c d : Int} (za : Sz 900 a) (zb : Sz 900 b) (zc : Sz 900 c) (zd : Sz 900 d) (hb : b ≠ 0) (hd : d ≠ 0) :
    callN G N T (k + 2) f [fr a b, fr c d] st = .ok (fr (l1 (a * d + c * b) (b * d)) (l2 (a * d + c * b) (b * d))) st := by
  refine ok_eq (Ok_call hf rfl ?_)
  have e := lawLow_eq (G := G) (N := N) (T := T) (k := k) (st := st) hl (t := a * d + c * b) (b := b * d) (Int.mul_ne_zero hb hd) ((zb.mul zd).mono (by decide)) (((za.mul zd).add (zc.mul zb) (c := 1801) (by decide) (by decide)).mono (by decide)) hN
  have m1 := mulOk_of za zd (by decide)
  have m2 := mulOk_of zc zb (by decide)
  have m3 := mulOk_of zb zd (by decide)
  simp [lawSumB, m1, m2, m3, e]
theorem drawn_ok {f rl pk lo : Nat} (hr : T rl = ⟨2, 5, rollK⟩) (hp : T pk = ⟨2, 2, pickB rl⟩) (hl : T lo = ⟨2, 5, lawLowB⟩) (hf : T f = ⟨1, 3, drawnB rl pk lo⟩) (hN : 2 ^ 1900 ≤ N) {n r : Nat} {st0 st : Store} (hd : Dice n r st0 st) (hn : n < 2 ^ 59) {Q : D → Store → Prop} {u : Du Q} (h : ∀ (t b : Int) (st' : Store), Good t b → Dice (n + 9) r st0 st' → Q (fr t b) st') : Ok (callN G N T (k + 3) f [.ref r] st) Q u := by
  refine Ok_call hf rfl ?_
  unfold drawnB
  have p1 : powOk 10 9 = true := by decide
  have p2 : powOk 10 60 = true := by decide
  have p3 : powOk 10 59 = true := by decide
  simp
  refine rollK_ok hr hd (by omega) (by decide) (Sz.lit _ _ (by decide)) fun x1 s1 a1 b1 d1 => ?_
  simp [p1]
  refine rollK_ok hr d1 (by omega) (by decide) (Sz.lit _ _ (by decide)) fun x2 s2 a2 b2 d2 => ?_
  simp [p2]
  refine rollK_ok hr d2 (by omega) (by decide) (Sz.lit _ _ (by decide)) fun x3 s3 a3 b3 d3 => ?_
  simp
  refine pickK_ok hr hp d3 (by omega) (by simp) (by simp) fun y s4 hy d4 => ?_
  simp
  have c60 : (10 : Int) ^ 60 = 1000000000000000000000000000000000000000000000000000000000000 := by decide
  have n60 : (10 : Nat) ^ 60 = 1000000000000000000000000000000000000000000000000000000000000 := by decide
  obtain ⟨t, rfl, t0, t1⟩ : ∃ t : Int, y = .int t ∧ 0 ≤ t ∧ t < 1000000000000000000000000000000000000000000000000000000000000 := by
    simp at hy
    rcases hy with rfl | rfl | rfl | rfl | rfl | rfl | rfl <;> exact ⟨_, rfl, by omega, by omega⟩
  refine rollK_ok hr d4 (by omega) (by decide) (Sz.lit _ _ (by decide)) fun x5 s5 a5 b5 d5 => ?_
  simp [p1]
  refine rollK_ok hr d5 (by omega) (by decide) (Sz.lit _ _ (by decide)) fun x6 s6 a6 b6 d6 => ?_
  simp [p3]
  refine rollK_ok hr d6 (by omega) (by decide) (Sz.lit _ _ (by decide)) fun x7 s7 a7 b7 d7 => ?_
  simp
  refine pickK_ok hr hp d7 (by omega) (by simp) (by simp) fun z s8 hz d8 => ?_
  obtain ⟨b, rfl, c0, c1⟩ : ∃ b : Int, z = .int b ∧ 0 ≤ b ∧ b < 100000000000000000000000000000000000000000000000000000000000 := by
    simp at hz
    rcases hz with rfl | rfl | rfl | rfl | rfl | rfl | rfl <;> exact ⟨_, rfl, by omega, by omega⟩
  simp
  refine rollK_ok hr d8 (by omega) (by decide) (Sz.lit _ _ (by decide)) fun x9 s9 a9 b9 d9 => ?_
  simp
  have low : ∀ t : Int, t.natAbs < 10 ^ 60 → callN G N T (k + 2) lo [.int t, .int (1 + b)] s9 = .ok (fr (l1 t (1 + b)) (l2 t (1 + b))) s9 := fun t ht =>
    lawLow_eq hl (by omega) (Sz.mono (a := 200) (by
      have t60 := ten60
      unfold Sz
      omega) (by decide)) (Sz.mono (a := 200) (by
      have t60 := ten60
      unfold Sz
      omega) (by decide)) hN
  have len : s9.length ≤ st.length := by rw [d9.len, hd.len]; exact Nat.le_refl _
  by_cases c : 0 < x9
  · simp [c, low t (by omega)]
    exact ⟨len, h _ _ _ (good_low (by omega) (by omega) (by omega)) d9⟩
  · simp [c, low (-t) (by omega)]
    exact ⟨len, h _ _ _ (good_low (by omega) (by omega) (by omega)) d9⟩
section
variable {w sh s l fr rq rq2 g gp : Nat} (P : FrP T G w sh s l fr rq rq2 g gp) (hN : 2 ^ 1900 ≤ N)
include P hN
theorem FrP.isfrac {v : D} (h : v.dat2) : callN G N T (k + 3) fr [v] st = .ok (.bl (isFr v)) st :=
  isFrac_eq P.tw P.tsh P.tg P.ts P.tgp P.tfr (le60 hN) h
theorem FrP.req {t b : Int} (h : Good t b) : callN G N T (k + 4) rq [DL.fr t b] st = .ok .non st := by
  refine ok_eq (Ok_call P.trq rfl ?_)
  have e : isFr (DL.fr t b) = true := h
  simp [reqB, P.isfrac hN (v := DL.fr t b) (by simp), e]
theorem FrP.req2 {a b c d : Int} (h : Good a b) (h' : Good c d) : callN G N T (k + 5) rq2 [DL.fr a b, DL.fr c d] st = .ok .non st := by
  refine ok_eq (Ok_call P.trq2 rfl ?_)
  simp [req2B, P.req hN h, P.req hN h']
theorem FrP.low {t b : Int} (h : b ≠ 0) (hz : Sz 1900 b) : callN G N T (k + 2) l [.int t, .int b] st = .ok (DL.fr (l1 t b) (l2 t b)) st := lowest_eq P.ts P.tl h hz hN
end
end
end DL

set_option Elab.async false
set_option linter.all false
set_option maxRecDepth 100000
set_option maxHeartbeats 4000000
set_option autoImplicit false
set_option exponentiation.threshold 3000
/-! K01_P: the simplest fraction of a stretch, no program in sight. -/
namespace Lk01
open DL
/-- a stretch from a/b to c/d -/
structure S4 where
  a : Int
  b : Int
  c : Int
  d : Int
def S4.h (s : S4) : Int := s.a / s.b
/-- the turn: both ends less the whole, turned over -/
def S4.next (s : S4) : S4 := ⟨s.d, s.c - s.h * s.d, s.b, s.a - s.h * s.b⟩
/-- is there no whole number in the stretch -/
def S4.goes (s : S4) : Prop := s.b ≠ 1 ∧ s.c < (s.h + 1) * s.d
instance (s : S4) : Decidable s.goes := by unfold S4.goes; infer_instance
structure S4.Ok (s : S4) : Prop where
  a0 : 0 < s.a
  b0 : 0 < s.b
  c0 : 0 < s.c
  d0 : 0 < s.d
  le : s.a * s.d ≤ s.c * s.b
  ab : Int.gcd s.a s.b = 1
  cd : Int.gcd s.c s.d = 1
/-- g0/g1 is the simplest of the stretch -/
structure Good1 (s : S4) (g0 g1 : Int) : Prop where
  p0 : 0 < g0
  p1 : 0 < g1
  one : Int.gcd g0 g1 = 1
  lo : s.a * g1 ≤ g0 * s.b
  hi : g0 * s.d ≤ s.c * g1
  least : ∀ p q : Int, 0 < q → s.a * q ≤ p * s.b → p * s.d ≤ s.c * q → g0 ≤ p ∧ g1 ≤ q
theorem h_le {s : S4} (o : s.Ok) : s.h * s.b ≤ s.a := Int.ediv_mul_le _ (Int.ne_of_gt o.b0)
theorem h_lt {s : S4} (o : s.Ok) : s.a < (s.h + 1) * s.b := Int.lt_ediv_add_one_mul_self _ o.b0
theorem h_nn {s : S4} (o : s.Ok) : 0 ≤ s.h := Int.ediv_nonneg (Int.le_of_lt o.a0) (Int.le_of_lt o.b0)
/-- no whole: a is above h b -/
theorem rem_pos {s : S4} (o : s.Ok) (g : s.b ≠ 1) : 0 < s.a - s.h * s.b := by
  have h1 := h_le o
  have b0 := o.b0
  rcases Int.lt_or_eq_of_le h1 with h | h
  · omega
  · exfalso
    have dv : s.b ∣ s.a := ⟨s.h, by rw [Int.mul_comm]; exact h.symm⟩
    have e := Int.gcd_eq_right (Int.le_of_lt b0) dv
    rw [o.ab] at e
    omega
theorem rem_pos2 {s : S4} (o : s.Ok) (g : s.b ≠ 1) : 0 < s.c - s.h * s.d := by
  have h1 := rem_pos o g
  have e := o.le
  have b0 := o.b0
  have d0 := o.d0
  -- h b d < a d <= c b
  have x1 : s.h * s.b * s.d < s.a * s.d := Int.mul_lt_mul_of_pos_right (by omega) d0
  have x2 : s.h * s.d * s.b < s.c * s.b := by
    have : s.h * s.b * s.d = s.h * s.d * s.b := by rw [Int.mul_assoc, Int.mul_comm s.b, Int.mul_assoc]
    omega
  have := Int.lt_of_mul_lt_mul_right x2 (Int.le_of_lt b0)
  omega
theorem gcd_sub (x y h : Int) : Int.gcd y (x - h * y) = Int.gcd x y := by
  rw [Int.gcd_comm, Int.gcd_sub_mul_right_left]
theorem next_ok {s : S4} (o : s.Ok) (g : s.goes) : s.next.Ok := by
  have r1 := rem_pos o g.1
  have r2 := rem_pos2 o g.1
  refine ⟨o.d0, r2, o.b0, r1, ?_, ?_, ?_⟩
  · show s.d * (s.a - s.h * s.b) ≤ s.b * (s.c - s.h * s.d)
    rw [Int.mul_sub, Int.mul_sub]
    have e := o.le
    have e1 : s.d * (s.h * s.b) = s.b * (s.h * s.d) := by rw [Int.mul_comm s.h s.b, ← Int.mul_assoc, Int.mul_comm s.d s.b, Int.mul_assoc, Int.mul_comm s.d s.h]
    rw [e1, Int.mul_comm s.d s.a, Int.mul_comm s.b s.c]
    omega
  · show Int.gcd s.d (s.c - s.h * s.d) = 1
    rw [gcd_sub]
    exact o.cd
  · show Int.gcd s.b (s.a - s.h * s.b) = 1
    rw [gcd_sub]
    exact o.ab
theorem good_back {s : S4} {g0 g1 : Int} (o : s.Ok) (g : s.goes) (hg : Good1 s.next g0 g1) : Good1 s (s.h * g0 + g1) g0 := by
  have h0 := h_nn o
  have r1 := rem_pos o g.1
  have lo : s.d * g1 ≤ g0 * (s.c - s.h * s.d) := hg.lo
  have hi : g0 * (s.a - s.h * s.b) ≤ s.b * g1 := hg.hi
  rw [Int.mul_sub] at lo hi
  have k0 : 0 ≤ s.h * g0 := Int.mul_nonneg h0 (Int.le_of_lt hg.p0)
  refine ⟨by have := hg.p1; omega, hg.p0, ?_, ?_, ?_, ?_⟩
  · rw [Int.add_comm, Int.gcd_comm, Int.gcd_add_mul_right_right]
    exact hg.one
  · rw [Int.add_mul]
    have e1 : s.h * g0 * s.b = g0 * (s.h * s.b) := by rw [Int.mul_comm s.h, Int.mul_assoc]
    rw [e1, Int.mul_comm s.a, Int.mul_comm g1]
    omega
  · rw [Int.add_mul]
    have e1 : s.h * g0 * s.d = g0 * (s.h * s.d) := by rw [Int.mul_comm s.h, Int.mul_assoc]
    rw [e1, Int.mul_comm s.c, Int.mul_comm g1]
    omega
  · intro p q hq h1 h2
    have b0 := o.b0
    have x1 : s.h * s.b * q < s.a * q := Int.mul_lt_mul_of_pos_right (by omega) hq
    have x2 : s.h * q * s.b < p * s.b := by
      have : s.h * s.b * q = s.h * q * s.b := by rw [Int.mul_assoc, Int.mul_comm s.b, Int.mul_assoc]
      omega
    have x3 := Int.lt_of_mul_lt_mul_right x2 (Int.le_of_lt b0)
    obtain ⟨y1, y2⟩ := hg.least q (p - s.h * q) (by omega) (by
      show s.d * (p - s.h * q) ≤ q * (s.c - s.h * s.d)
      rw [Int.mul_sub, Int.mul_sub]
      have e1 : s.d * (s.h * q) = q * (s.h * s.d) := by rw [Int.mul_comm s.h q, ← Int.mul_assoc, Int.mul_comm s.d q, Int.mul_assoc, Int.mul_comm s.d s.h]
      rw [e1, Int.mul_comm s.d p, Int.mul_comm q s.c]
      omega) (by
      show q * (s.a - s.h * s.b) ≤ s.b * (p - s.h * q)
      rw [Int.mul_sub, Int.mul_sub]
      have e1 : s.b * (s.h * q) = q * (s.h * s.b) := by rw [Int.mul_comm s.h q, ← Int.mul_assoc, Int.mul_comm s.b q, Int.mul_assoc, Int.mul_comm s.b s.h]
      rw [e1, Int.mul_comm s.b p, Int.mul_comm q s.a]
      omega)
    have y3 := Int.mul_le_mul_of_nonneg_left y1 h0
    exact ⟨by omega, y1⟩
/-- the whole number in it, if there is one -/
def S4.n (s : S4) : Int := if s.b = 1 then s.a else s.h + 1
theorem good_stop {s : S4} (o : s.Ok) (g : ¬ s.goes) : Good1 s s.n 1 := by
  have h0 := h_nn o
  unfold S4.n
  by_cases hb : s.b = 1
  · rw [if_pos hb]
    refine ⟨o.a0, by decide, by simp, by rw [hb]; exact Int.le_refl _, ?_, fun p q hq h1 h2 => ?_⟩
    · have := o.le
      rw [hb] at this
      exact this
    · rw [hb, Int.mul_one] at h1
      have := Int.mul_le_mul_of_nonneg_left (show (1 : Int) ≤ q by omega) (Int.le_of_lt o.a0)
      rw [Int.mul_one] at this
      exact ⟨by omega, by omega⟩
  · rw [if_neg hb]
    have hc : (s.h + 1) * s.d ≤ s.c := by
      unfold S4.goes at g
      have : ¬ s.c < (s.h + 1) * s.d := fun z => g ⟨hb, z⟩
      omega
    have hl := h_lt o
    have hr := rem_pos o hb
    refine ⟨by omega, by decide, by simp, by rw [Int.mul_one]; omega, by rw [Int.mul_one]; exact hc, fun p q hq h1 h2 => ?_⟩
    refine ⟨?_, by omega⟩
    have b0 := o.b0
    have x1 := Int.mul_le_mul_of_nonneg_left (show (1 : Int) ≤ q by omega) (Int.le_of_lt o.a0)
    rw [Int.mul_one] at x1
    have x2 : s.h * s.b < p * s.b := by omega
    have := Int.lt_of_mul_lt_mul_right x2 (Int.le_of_lt b0)
    omega
theorem ceil_n {s : S4} (o : s.Ok) : (s.a + s.b - 1) / s.b = s.n := by
  have b0 := o.b0
  unfold S4.n
  by_cases hb : s.b = 1
  · rw [if_pos hb, hb]
    have : s.a + 1 - 1 = s.a := by omega
    rw [this, Int.ediv_one]
  · rw [if_neg hb]
    have h1 := rem_pos o hb
    have h2 := h_lt o
    rw [Int.add_mul, Int.one_mul] at h2
    have e : s.a + s.b - 1 = (s.a - s.h * s.b - 1) + (s.h + 1) * s.b := by rw [Int.add_mul, Int.one_mul]; omega
    rw [e, Int.add_mul_ediv_right _ _ (by omega), Int.ediv_eq_zero_of_lt (by omega) (by omega)]
    omega
theorem goes_iff {s : S4} (o : s.Ok) : s.n * s.d ≤ s.c ↔ ¬ s.goes := by
  unfold S4.n S4.goes
  by_cases hb : s.b = 1
  · rw [if_pos hb]
    have := o.le
    rw [hb] at this
    simp [hb]
    try omega
  · rw [if_neg hb]
    simp [hb]
    try omega
theorem n_goes {s : S4} (g : s.goes) : s.n - 1 = s.h := by
  unfold S4.n
  rw [if_neg g.1]
  omega
/-! ### how often it turns -/
def S4.B (s : S4) (m : Int) : Prop := s.a < m ∧ s.b < m ∧ s.c < m ∧ s.d < m
theorem rem_lt {s : S4} (o : s.Ok) : s.a - s.h * s.b < s.b := by
  have := h_lt o
  rw [Int.add_mul, Int.one_mul] at this
  omega
theorem rem_lt2 {s : S4} (g : s.goes) : s.c - s.h * s.d < s.d := by
  have := g.2
  rw [Int.add_mul, Int.one_mul] at this
  omega
theorem next_B {s : S4} {m : Int} (o : s.Ok) (g : s.goes) (b : s.B m) : s.next.B m := by
  have r1 := rem_lt o
  have r2 := rem_lt2 g
  obtain ⟨b1, b2, b3, b4⟩ := b
  exact ⟨b4, by show s.c - s.h * s.d < m; omega, b2, by show s.a - s.h * s.b < m; omega⟩
/-- the turns so far, from a stretch whose numbers are below 2^200 -/
def S4.W (i : Nat) (s : S4) : Prop := (i = 0 ∨ (s.b < s.a ∧ s.d < s.c)) ∧ 2 ^ i * (s.a * s.b) ≤ 2 ^ 402 ∧ 2 ^ i * (s.c * s.d) ≤ 2 ^ 402
theorem half_prod {x y r h : Int} (hy : 0 < y) (hr : 0 < r) (hr2 : r < y) (hx : x = h * y + r) (hh : 0 < h) : 2 * (y * r) ≤ x * y := by
  subst hx
  rw [Int.add_mul]
  have e1 : (1 : Int) * y ≤ h * y := Int.mul_le_mul_of_nonneg_right (by omega) (Int.le_of_lt hy)
  have e2 : (1 * y) * y ≤ h * y * y := Int.mul_le_mul_of_nonneg_right e1 (Int.le_of_lt hy)
  have e3 : y * r ≤ y * y := Int.mul_le_mul_of_nonneg_left (Int.le_of_lt hr2) (Int.le_of_lt hy)
  rw [Int.one_mul] at e2
  rw [Int.mul_comm r y]
  omega
theorem next_W {s : S4} {i : Nat} (o : s.Ok) (g : s.goes) (b : s.B (2 ^ 200)) (w : S4.W i s) : S4.W (i + 1) s.next := by
  have r1 := rem_pos o g.1
  have r2 := rem_pos2 o g.1
  have l1 := rem_lt o
  have l2 := rem_lt2 g
  obtain ⟨b1, b2, b3, b4⟩ := b
  obtain ⟨w0, w1, w2⟩ := w
  have h0 := h_nn o
  have a0 := o.a0
  have b0 := o.b0
  have c0 := o.c0
  have d0 := o.d0
  have key : (2 : Int) ^ (i + 1) = 2 ^ i * 2 := Int.pow_succ 2 i
  refine ⟨.inr ⟨l2, l1⟩, ?_, ?_⟩
  · show 2 ^ (i + 1) * (s.d * (s.c - s.h * s.d)) ≤ 2 ^ 402
    rw [key, Int.mul_assoc]
    rcases Int.lt_or_eq_of_le h0 with hp | hz
    · have := half_prod (x := s.c) d0 r2 l2 (by omega) hp
      exact Int.le_trans (Int.mul_le_mul_of_nonneg_left this (Int.pow_nonneg (by decide))) w2
    · rcases w0 with rfl | w0
      · rw [← hz]
        have e1 : s.d * (s.c - 0 * s.d) ≤ 2 ^ 200 * 2 ^ 200 := by
          rw [Int.zero_mul, Int.sub_zero]
          exact Int.mul_le_mul (Int.le_of_lt b4) (Int.le_of_lt b3) (Int.le_of_lt c0) (by decide)
        have : (2 : Int) ^ 0 * (2 * (2 ^ 200 * 2 ^ 200)) ≤ 2 ^ 402 := by decide
        omega
      · exfalso
        rw [← hz, Int.zero_mul, Int.sub_zero] at l2
        omega
  · show 2 ^ (i + 1) * (s.b * (s.a - s.h * s.b)) ≤ 2 ^ 402
    rw [key, Int.mul_assoc]
    rcases Int.lt_or_eq_of_le h0 with hp | hz
    · have := half_prod (x := s.a) b0 r1 l1 (by omega) hp
      exact Int.le_trans (Int.mul_le_mul_of_nonneg_left this (Int.pow_nonneg (by decide))) w1
    · rcases w0 with rfl | w0
      · rw [← hz]
        have e1 : s.b * (s.a - 0 * s.b) ≤ 2 ^ 200 * 2 ^ 200 := by
          rw [Int.zero_mul, Int.sub_zero]
          exact Int.mul_le_mul (Int.le_of_lt b2) (Int.le_of_lt b1) (Int.le_of_lt a0) (by decide)
        have : (2 : Int) ^ 0 * (2 * (2 ^ 200 * 2 ^ 200)) ≤ 2 ^ 402 := by decide
        omega
      · exfalso
        rw [← hz, Int.zero_mul, Int.sub_zero] at l1
        omega
theorem W_le {s : S4} {i : Nat} (o : s.Ok) (w : S4.W i s) : i ≤ 402 := by
  have p : 0 < s.a * s.b := Int.mul_pos o.a0 o.b0
  have h := w.2.1
  refine Nat.le_of_not_lt fun hl => ?_
  have e : (2 : Int) ^ 402 < 2 ^ i := by
    have : (2 : Nat) ^ 402 < 2 ^ i := Nat.pow_lt_pow_right (by decide) hl
    exact_mod_cast this
  have e2 := Int.mul_le_mul_of_nonneg_left (show (1 : Int) ≤ s.a * s.b by omega) (show (0 : Int) ≤ 2 ^ i from Int.pow_nonneg (by decide))
  rw [Int.mul_one] at e2
  omega
end Lk01

set_option Elab.async false
set_option linter.all false
set_option maxRecDepth 100000
set_option maxHeartbeats 0
set_option autoImplicit false
/-! K01_G: the text of the law, its names resolved (printed by gen.py). -/
namespace Lk01
open PySem DL
/-- is_whole(value); 0:value -/
def f0 : Fn := ⟨1, 1, (.cons (.ret (.and (.cons (.isi (.slot 0) .int) (.cons (.nt (.isi (.slot 0) .bool)) .nil)))) .nil)⟩
/-- is_short(value); 0:value -/
def f1 : Fn := ⟨1, 1, (.cons (.ret (.and (.cons (.call 0 (.cons (.slot 0) .nil)) (.cons (.cmp2 .Lt .Lt (.neg (.glob 0)) (.slot 0) (.glob 0)) .nil)))) .nil)⟩
/-- shared_in(one, other); 0:one 1:other -/
def f2 : Fn := ⟨2, 2, (.cons (.whl (.cmp .Gt (.slot 1) (.con (.int 0))) (.cons (.par 0 1 (.slot 1) (.bin .Mod (.slot 0) (.slot 1))) .nil)) (.cons (.ret (.slot 0)) .nil))⟩
/-- lowest(top, bottom); 0:top 1:bottom 2:shared -/
def f3 : Fn := ⟨2, 3, (.cons (.ifs (.cmp .Lt (.slot 1) (.con (.int 0))) (.cons (.par 0 1 (.neg (.slot 0)) (.neg (.slot 1))) .nil) .nil) (.cons (.asg (.slot 2) (.call 2 (.cons (.blt .abs (.cons (.slot 0) .nil)) (.cons (.slot 1) .nil)))) (.cons (.ret (.tup (.cons (.bin .FloorDiv (.slot 0) (.slot 2)) (.cons (.bin .FloorDiv (.slot 1) (.slot 2)) .nil)))) .nil)))⟩
/-- sum_in(one, other); 0:one 1:other -/
def f4 : Fn := ⟨2, 2, (.cons (.ret (.call 3 (.cons (.bin .Add (.bin .Mult (.idx (.slot 0) (.con (.int 0))) (.idx (.slot 1) (.con (.int 1)))) (.bin .Mult (.idx (.slot 1) (.con (.int 0))) (.idx (.slot 0) (.con (.int 1))))) (.cons (.bin .Mult (.idx (.slot 0) (.con (.int 1))) (.idx (.slot 1) (.con (.int 1)))) .nil)))) .nil)⟩
/-- less_in(one, other); 0:one 1:other -/
def f5 : Fn := ⟨2, 2, (.cons (.ret (.call 3 (.cons (.bin .Sub (.bin .Mult (.idx (.slot 0) (.con (.int 0))) (.idx (.slot 1) (.con (.int 1)))) (.bin .Mult (.idx (.slot 1) (.con (.int 0))) (.idx (.slot 0) (.con (.int 1))))) (.cons (.bin .Mult (.idx (.slot 0) (.con (.int 1))) (.idx (.slot 1) (.con (.int 1)))) .nil)))) .nil)⟩
/-- quotient_in(one, other); 0:one 1:other -/
def f6 : Fn := ⟨2, 2, (.cons (.ret (.call 3 (.cons (.bin .Mult (.idx (.slot 0) (.con (.int 0))) (.idx (.slot 1) (.con (.int 1)))) (.cons (.bin .Mult (.idx (.slot 0) (.con (.int 1))) (.idx (.slot 1) (.con (.int 0)))) .nil)))) .nil)⟩
/-- is_below(one, other); 0:one 1:other -/
def f7 : Fn := ⟨2, 2, (.cons (.ret (.cmp .Lt (.bin .Mult (.idx (.slot 0) (.con (.int 0))) (.idx (.slot 1) (.con (.int 1)))) (.bin .Mult (.idx (.slot 1) (.con (.int 0))) (.idx (.slot 0) (.con (.int 1)))))) .nil)⟩
/-- whole_in(one); 0:one -/
def f8 : Fn := ⟨1, 1, (.cons (.ret (.bin .FloorDiv (.idx (.slot 0) (.con (.int 0))) (.idx (.slot 0) (.con (.int 1))))) .nil)⟩
/-- steps_in(length, most); 0:length 1:most 2:found -/
def f9 : Fn := ⟨2, 3, (.cons (.asg (.slot 2) (.call 6 (.cons (.slot 0) (.cons (.slot 1) .nil)))) (.cons (.ret (.neg (.bin .FloorDiv (.neg (.idx (.slot 2) (.con (.int 0)))) (.idx (.slot 2) (.con (.int 1)))))) .nil))⟩
/-- simplest_above(low, high); 0:low 1:high 2:wholes 3:here 4:found -/
def f10 : Fn := ⟨2, 5, (.cons (.asg (.slot 2) (.new .nil)) (.cons (.whl (.and (.cons (.cmp .NotEq (.idx (.slot 0) (.con (.int 1))) (.con (.int 1))) (.cons (.call 7 (.cons (.slot 1) (.cons (.tup (.cons (.bin .Add (.call 8 (.cons (.slot 0) .nil)) (.con (.int 1))) (.cons (.con (.int 1)) .nil))) .nil))) .nil))) (.cons (.asg (.slot 3) (.call 8 (.cons (.slot 0) .nil))) (.cons (.expr (.app (.slot 2) (.slot 3))) (.cons (.par 0 1 (.call 6 (.cons (.glob 1) (.cons (.call 5 (.cons (.slot 1) (.cons (.tup (.cons (.slot 3) (.cons (.con (.int 1)) .nil))) .nil))) .nil))) (.call 6 (.cons (.glob 1) (.cons (.call 5 (.cons (.slot 0) (.cons (.tup (.cons (.slot 3) (.cons (.con (.int 1)) .nil))) .nil))) .nil)))) .nil)))) (.cons (.asg (.slot 4) (.ife (.cmp .Eq (.idx (.slot 0) (.con (.int 1))) (.con (.int 1))) (.slot 0) (.tup (.cons (.bin .Add (.call 8 (.cons (.slot 0) .nil)) (.con (.int 1))) (.cons (.con (.int 1)) .nil))))) (.cons (.frz 2) (.cons (.fors (.slot 3) (.val (.rev (.slot 2))) (.cons (.asg (.slot 4) (.call 4 (.cons (.tup (.cons (.slot 3) (.cons (.con (.int 1)) .nil))) (.cons (.call 6 (.cons (.glob 1) (.cons (.slot 4) .nil))) .nil)))) .nil)) (.cons (.ret (.slot 4)) .nil))))))⟩
/-- simplest_in(low, high); 0:low 1:high 2:found -/
def f11 : Fn := ⟨2, 3, (.cons (.ifs (.cmp2 .LtE .LtE (.idx (.slot 0) (.con (.int 0))) (.con (.int 0)) (.idx (.slot 1) (.con (.int 0)))) (.cons (.ret (.glob 2)) .nil) .nil) (.cons (.ifs (.cmp .Gt (.idx (.slot 0) (.con (.int 0))) (.con (.int 0))) (.cons (.ret (.call 10 (.cons (.slot 0) (.cons (.slot 1) .nil)))) .nil) .nil) (.cons (.asg (.slot 2) (.call 10 (.cons (.tup (.cons (.neg (.idx (.slot 1) (.con (.int 0)))) (.cons (.idx (.slot 1) (.con (.int 1))) .nil))) (.cons (.tup (.cons (.neg (.idx (.slot 0) (.con (.int 0)))) (.cons (.idx (.slot 0) (.con (.int 1))) .nil))) .nil)))) (.cons (.ret (.tup (.cons (.neg (.idx (.slot 2) (.con (.int 0)))) (.cons (.idx (.slot 2) (.con (.int 1))) .nil)))) .nil))))⟩
/-- is_fraction(value); 0:value -/
def f12 : Fn := ⟨1, 1, (.cons (.ifs (.or (.cons (.nt (.isi (.slot 0) .tuple)) (.cons (.cmp .NotEq (.blt .len (.cons (.slot 0) .nil)) (.glob 3)) (.cons (.nt (.call 1 (.cons (.idx (.slot 0) (.con (.int 0))) .nil))) (.cons (.nt (.call 1 (.cons (.idx (.slot 0) (.con (.int 1))) .nil))) .nil))))) (.cons (.ret (.con (.bl false))) .nil) .nil) (.cons (.ret (.and (.cons (.cmp .Gt (.idx (.slot 0) (.con (.int 1))) (.con (.int 0))) (.cons (.cmp .Eq (.call 2 (.cons (.blt .abs (.cons (.idx (.slot 0) (.con (.int 0))) .nil)) (.cons (.idx (.slot 0) (.con (.int 1))) .nil))) (.con (.int 1))) .nil)))) .nil))⟩
/-- require_fraction(value); 0:value -/
def f13 : Fn := ⟨1, 1, (.cons (.ifs (.nt (.call 12 (.cons (.slot 0) .nil))) (.cons (.never) .nil) .nil) .nil)⟩
/-- require_two(one, other); 0:one 1:other -/
def f14 : Fn := ⟨2, 2, (.cons (.expr (.call 13 (.cons (.slot 0) .nil))) (.cons (.expr (.call 13 (.cons (.slot 1) .nil))) .nil))⟩
/-- simplest(low, high); 0:low 1:high -/
def f15 : Fn := ⟨2, 2, (.cons (.expr (.call 14 (.cons (.slot 0) (.cons (.slot 1) .nil)))) (.cons (.ifs (.call 7 (.cons (.slot 1) (.cons (.slot 0) .nil))) (.cons (.never) .nil) .nil) (.cons (.ret (.call 11 (.cons (.slot 0) (.cons (.slot 1) .nil)))) .nil)))⟩
/-- steps_for(length, most); 0:length 1:most -/
def f16 : Fn := ⟨2, 2, (.cons (.expr (.call 14 (.cons (.slot 0) (.cons (.slot 1) .nil)))) (.cons (.ifs (.or (.cons (.cmp .Lt (.idx (.slot 0) (.con (.int 0))) (.con (.int 0))) (.cons (.cmp .LtE (.idx (.slot 1) (.con (.int 0))) (.con (.int 0))) .nil))) (.cons (.never) .nil) .nil) (.cons (.ret (.call 9 (.cons (.slot 0) (.cons (.slot 1) .nil)))) .nil)))⟩
/-- _law_dice(_law_script, _law_spot); 0:_law_script 1:_law_spot 2:_law_cell 3:_law_left -/
def f17 : Fn := ⟨2, 4, (.cons (.asg (.slot 2) (.ife (.cmp .Lt (.slot 1) (.blt .len (.cons (.slot 0) .nil))) (.blt .int_ (.cons (.idx (.slot 0) (.slot 1)) .nil)) (.bin .Add (.bin .Mult (.con (.int 71)) (.slot 1)) (.con (.int 43))))) (.cons (.asg (.slot 3) (.bin .Mod (.blt .max2 (.cons (.con (.int 0)) (.cons (.bin .Sub (.blt .abs (.cons (.slot 2) .nil)) (.bin .Pow (.con (.int 10)) (.con (.int 16)))) .nil))) (.bin .Mult (.bin .Pow (.con (.int 10)) (.con (.int 57))) (.bin .Pow (.con (.int 10)) (.con (.int 59)))))) (.cons (.ret (.new (.cons (.slot 3) (.cons (.bin .Add (.bin .Add (.bin .Add (.bin .Mult (.bin .Mod (.blt .abs (.cons (.slot 2) .nil)) (.con (.int 1152921504606846869))) (.con (.int 89))) (.bin .Mult (.con (.int 1021)) (.slot 1))) (.bin .Mult (.con (.int 47)) (.blt .int_ (.cons (.cmp .Lt (.slot 2) (.con (.int 0))) .nil)))) (.con (.int 31))) (.cons (.con (.int 0)) .nil))))) .nil)))⟩
/-- _law_roll(_law_dice_here, _law_most); 0:_law_dice_here 1:_law_most 2:_law_found 3:_law_one 4:_law_two -/
def f18 : Fn := ⟨2, 5, (.cons (.ifs (.cmp .Gt (.idx (.slot 0) (.con (.int 0))) (.con (.int 0))) (.cons (.asg (.slot 2) (.bin .Mod (.blt .int_ (.cons (.idx (.slot 0) (.con (.int 0))) .nil)) (.slot 1))) (.cons (.sub (.slot 0) (.con (.int 0)) (.bin .FloorDiv (.idx (.slot 0) (.con (.int 0))) (.slot 1))) (.cons (.ret (.slot 2)) .nil))) .nil) (.cons (.sub (.slot 0) (.con (.int 2)) (.bin .Add (.idx (.slot 0) (.con (.int 2))) (.con (.int 1)))) (.cons (.asg (.slot 3) (.bin .Mod (.blt .int_ (.cons (.bin .Add (.idx (.slot 0) (.con (.int 1))) (.bin .Mult (.con (.int 71828177)) (.idx (.slot 0) (.con (.int 2))))) .nil)) (.con (.int 2305843009213693421)))) (.cons (.asg (.slot 4) (.bin .Add (.bin .Mult (.bin .Mod (.blt .int_ (.cons (.bin .Add (.bin .Mult (.slot 3) (.slot 3)) (.bin .Mult (.con (.int 89)) (.idx (.slot 0) (.con (.int 2))))) .nil)) (.con (.int 2305843009213693381))) (.con (.int 8128163))) (.slot 3))) (.cons (.ret (.bin .Mod (.blt .int_ (.cons (.bin .FloorDiv (.slot 4) (.con (.int 65579))) .nil)) (.slot 1))) .nil)))))⟩
/-- _law_pick(_law_dice_here, _law_items); 0:_law_dice_here 1:_law_items -/
def f19 : Fn := ⟨2, 2, (.cons (.ret (.idx (.slot 1) (.call 18 (.cons (.slot 0) (.cons (.blt .len (.cons (.slot 1) .nil)) .nil))))) .nil)⟩
/-- _law_fr_low(_law_top, _law_bottom); 0:_law_top 1:_law_bottom 2:_law_one 3:_law_other 4:_law_sign -/
def f20 : Fn := ⟨2, 5, (.cons (.par 2 3 (.blt .abs (.cons (.slot 0) .nil)) (.blt .abs (.cons (.slot 1) .nil))) (.cons (.whl (.cmp .NotEq (.slot 3) (.con (.int 0))) (.cons (.par 2 3 (.slot 3) (.bin .Mod (.slot 2) (.slot 3))) .nil)) (.cons (.asg (.slot 4) (.ife (.cmp .Gt (.slot 1) (.con (.int 0))) (.con (.int 1)) (.neg (.con (.int 1))))) (.cons (.ret (.tup (.cons (.bin .FloorDiv (.bin .Mult (.slot 4) (.slot 0)) (.slot 2)) (.cons (.bin .FloorDiv (.bin .Mult (.slot 4) (.slot 1)) (.slot 2)) .nil)))) .nil))))⟩
/-- _law_fr_plus(_law_one, _law_other); 0:_law_one 1:_law_other -/
def f21 : Fn := ⟨2, 2, (.cons (.ret (.call 20 (.cons (.bin .Add (.bin .Mult (.idx (.slot 0) (.con (.int 0))) (.idx (.slot 1) (.con (.int 1)))) (.bin .Mult (.idx (.slot 1) (.con (.int 0))) (.idx (.slot 0) (.con (.int 1))))) (.cons (.bin .Mult (.idx (.slot 0) (.con (.int 1))) (.idx (.slot 1) (.con (.int 1)))) .nil)))) .nil)⟩
/-- _law_fr_below(_law_one, _law_other); 0:_law_one 1:_law_other -/
def f22 : Fn := ⟨2, 2, (.cons (.ret (.cmp .Lt (.bin .Mult (.idx (.slot 0) (.con (.int 0))) (.idx (.slot 1) (.con (.int 1)))) (.bin .Mult (.idx (.slot 1) (.con (.int 0))) (.idx (.slot 0) (.con (.int 1)))))) .nil)⟩
/-- _law_fr_drawn(_law_dice_here); 0:_law_dice_here 1:_law_top 2:_law_bottom -/
def f23 : Fn := ⟨1, 3, (.cons (.asg (.slot 1) (.call 19 (.cons (.slot 0) (.cons (.lst (.cons (.con (.int 0)) (.cons (.con (.int 1)) (.cons (.con (.int 2)) (.cons (.con (.int 7)) (.cons (.call 18 (.cons (.slot 0) (.cons (.con (.int 30)) .nil))) (.cons (.call 18 (.cons (.slot 0) (.cons (.bin .Pow (.con (.int 10)) (.con (.int 9))) .nil))) (.cons (.call 18 (.cons (.slot 0) (.cons (.bin .Pow (.con (.int 10)) (.con (.int 60))) .nil))) .nil)))))))) .nil)))) (.cons (.asg (.slot 2) (.bin .Add (.con (.int 1)) (.call 19 (.cons (.slot 0) (.cons (.lst (.cons (.con (.int 0)) (.cons (.con (.int 1)) (.cons (.con (.int 2)) (.cons (.con (.int 6)) (.cons (.call 18 (.cons (.slot 0) (.cons (.con (.int 30)) .nil))) (.cons (.call 18 (.cons (.slot 0) (.cons (.bin .Pow (.con (.int 10)) (.con (.int 9))) .nil))) (.cons (.call 18 (.cons (.slot 0) (.cons (.bin .Pow (.con (.int 10)) (.con (.int 59))) .nil))) .nil)))))))) .nil))))) (.cons (.ret (.call 20 (.cons (.ife (.cmp .Gt (.call 18 (.cons (.slot 0) (.cons (.con (.int 3)) .nil))) (.con (.int 0))) (.slot 1) (.bin .Sub (.con (.int 0)) (.slot 1))) (.cons (.slot 2) .nil)))) .nil)))⟩
/-- _law_simplest(_law_low, _law_high); 0:_law_low 1:_law_high 2:_law_found 3:_law_floors 4:_law_up 5:_law_top 6:_law_bottom 7:_law_floor -/
def f24 : Fn := ⟨2, 8, (.cons (.ifs (.cmp2 .LtE .LtE (.idx (.slot 0) (.con (.int 0))) (.con (.int 0)) (.idx (.slot 1) (.con (.int 0)))) (.cons (.ret (.tup (.cons (.con (.int 0)) (.cons (.con (.int 1)) .nil)))) .nil) .nil) (.cons (.ifs (.cmp .Lt (.idx (.slot 1) (.con (.int 0))) (.con (.int 0))) (.cons (.asg (.slot 2) (.call 24 (.cons (.tup (.cons (.bin .Sub (.con (.int 0)) (.idx (.slot 1) (.con (.int 0)))) (.cons (.idx (.slot 1) (.con (.int 1))) .nil))) (.cons (.tup (.cons (.bin .Sub (.con (.int 0)) (.idx (.slot 0) (.con (.int 0)))) (.cons (.idx (.slot 0) (.con (.int 1))) .nil))) .nil)))) (.cons (.ret (.tup (.cons (.bin .Sub (.con (.int 0)) (.idx (.slot 2) (.con (.int 0)))) (.cons (.idx (.slot 2) (.con (.int 1))) .nil)))) .nil)) .nil) (.cons (.asg (.slot 3) (.new .nil)) (.cons (.whl (.con (.bl true)) (.cons (.asg (.slot 4) (.bin .FloorDiv (.bin .Sub (.bin .Add (.idx (.slot 0) (.con (.int 0))) (.idx (.slot 0) (.con (.int 1)))) (.con (.int 1))) (.idx (.slot 0) (.con (.int 1))))) (.cons (.ifs (.cmp .LtE (.bin .Mult (.slot 4) (.idx (.slot 1) (.con (.int 1)))) (.idx (.slot 1) (.con (.int 0)))) (.cons (.brk) .nil) .nil) (.cons (.expr (.app (.slot 3) (.bin .Sub (.slot 4) (.con (.int 1))))) (.cons (.par 0 1 (.tup (.cons (.idx (.slot 1) (.con (.int 1))) (.cons (.bin .Sub (.idx (.slot 1) (.con (.int 0))) (.bin .Mult (.bin .Sub (.slot 4) (.con (.int 1))) (.idx (.slot 1) (.con (.int 1))))) .nil))) (.tup (.cons (.idx (.slot 0) (.con (.int 1))) (.cons (.bin .Sub (.idx (.slot 0) (.con (.int 0))) (.bin .Mult (.bin .Sub (.slot 4) (.con (.int 1))) (.idx (.slot 0) (.con (.int 1))))) .nil)))) .nil))))) (.cons (.par 5 6 (.slot 4) (.con (.int 1))) (.cons (.frz 3) (.cons (.fors (.slot 7) (.val (.rev (.slot 3))) (.cons (.par 5 6 (.bin .Add (.bin .Mult (.slot 7) (.slot 5)) (.slot 6)) (.slot 5)) .nil)) (.cons (.ret (.call 20 (.cons (.slot 5) (.cons (.slot 6) .nil)))) .nil))))))))⟩
/-- _law_stretch(_law_dice_here); 0:_law_dice_here 1:_law_one 2:_law_other 3:_law_way -/
def f25 : Fn := ⟨1, 4, (.cons (.par 1 2 (.call 23 (.cons (.slot 0) .nil)) (.call 23 (.cons (.slot 0) .nil))) (.cons (.asg (.slot 3) (.call 18 (.cons (.slot 0) (.cons (.con (.int 4)) .nil)))) (.cons (.ifs (.cmp .Eq (.slot 3) (.con (.int 0))) (.cons (.asg (.slot 2) (.slot 1)) .nil) .nil) (.cons (.ifs (.cmp .Eq (.slot 3) (.con (.int 1))) (.cons (.asg (.slot 2) (.call 21 (.cons (.slot 1) (.cons (.tup (.cons (.con (.int 1)) (.cons (.bin .Add (.con (.int 1)) (.call 18 (.cons (.slot 0) (.cons (.bin .Pow (.con (.int 10)) (.con (.int 6))) .nil)))) .nil))) .nil)))) .nil) .nil) (.cons (.ifs (.cmp .GtE (.blt .max2 (.cons (.blt .abs (.cons (.idx (.slot 2) (.con (.int 0))) .nil)) (.cons (.idx (.slot 2) (.con (.int 1))) .nil))) (.bin .Pow (.con (.int 10)) (.con (.int 60)))) (.cons (.asg (.slot 2) (.slot 1)) .nil) .nil) (.cons (.ret (.ife (.call 22 (.cons (.slot 2) (.cons (.slot 1) .nil))) (.tup (.cons (.slot 2) (.cons (.slot 1) .nil))) (.tup (.cons (.slot 1) (.cons (.slot 2) .nil))))) .nil))))))⟩
/-- _law_has_lesser(_law_low, _law_high, _law_bottom); 0:_law_low 1:_law_high 2:_law_bottom 3:_law_less -/
def f26 : Fn := ⟨3, 4, (.cons (.fors (.slot 3) (.rng2 (.con (.int 1)) (.slot 2)) (.cons (.ifs (.cmp .LtE (.bin .FloorDiv (.bin .Sub (.bin .Add (.bin .Mult (.idx (.slot 0) (.con (.int 0))) (.slot 3)) (.idx (.slot 0) (.con (.int 1)))) (.con (.int 1))) (.idx (.slot 0) (.con (.int 1)))) (.bin .FloorDiv (.bin .Mult (.idx (.slot 1) (.con (.int 0))) (.slot 3)) (.idx (.slot 1) (.con (.int 1))))) (.cons (.ret (.con (.bl true))) .nil) .nil) .nil)) (.cons (.ret (.con (.bl false))) .nil))⟩
/-- _law_right(_law_dice_here); 0:_law_dice_here 1:_law_low 2:_law_high 3:_law_found 4:_law_length 5:_law_most 6:_law_long 7:_law_step 8:_law_times 9:_law_whole_length -/
def f27 : Fn := ⟨1, 10, (.cons (.asg (.tup (.cons (.slot 1) (.cons (.slot 2) .nil))) (.call 25 (.cons (.slot 0) .nil))) (.cons (.asg (.slot 3) (.call 15 (.cons (.slot 1) (.cons (.slot 2) .nil)))) (.cons (.ifs (.or (.cons (.cmp .NotEq (.slot 3) (.call 24 (.cons (.slot 1) (.cons (.slot 2) .nil)))) (.cons (.call 22 (.cons (.slot 3) (.cons (.slot 1) .nil))) (.cons (.call 22 (.cons (.slot 2) (.cons (.slot 3) .nil))) .nil)))) (.cons (.ret (.con (.bl false))) .nil) .nil) (.cons (.ifs (.and (.cons (.cmp .Lt (.idx (.slot 3) (.con (.int 1))) (.con (.int 300))) (.cons (.call 26 (.cons (.slot 1) (.cons (.slot 2) (.cons (.idx (.slot 3) (.con (.int 1))) .nil)))) .nil))) (.cons (.ret (.con (.bl false))) .nil) .nil) (.cons (.par 4 5 (.call 23 (.cons (.slot 0) .nil)) (.call 23 (.cons (.slot 0) .nil))) (.cons (.par 4 5 (.tup (.cons (.blt .abs (.cons (.idx (.slot 4) (.con (.int 0))) .nil)) (.cons (.idx (.slot 4) (.con (.int 1))) .nil))) (.tup (.cons (.blt .max2 (.cons (.con (.int 1)) (.cons (.blt .abs (.cons (.idx (.slot 5) (.con (.int 0))) .nil)) .nil))) (.cons (.ife (.cmp .NotEq (.idx (.slot 5) (.con (.int 0))) (.con (.int 0))) (.idx (.slot 5) (.con (.int 1))) (.con (.int 1))) .nil)))) (.cons (.par 6 7 (.bin .Mult (.idx (.slot 4) (.con (.int 0))) (.idx (.slot 5) (.con (.int 1)))) (.bin .Mult (.idx (.slot 4) (.con (.int 1))) (.idx (.slot 5) (.con (.int 0))))) (.cons (.ifs (.cmp .NotEq (.call 16 (.cons (.slot 4) (.cons (.slot 5) .nil))) (.bin .FloorDiv (.bin .Sub (.bin .Add (.slot 6) (.slot 7)) (.con (.int 1))) (.slot 7))) (.cons (.ret (.con (.bl false))) .nil) .nil) (.cons (.asg (.slot 8) (.call 18 (.cons (.slot 0) (.cons (.con (.int 9)) .nil)))) (.cons (.asg (.slot 9) (.call 20 (.cons (.bin .Mult (.idx (.slot 5) (.con (.int 0))) (.slot 8)) (.cons (.idx (.slot 5) (.con (.int 1))) .nil)))) (.cons (.ret (.or (.cons (.cmp .GtE (.blt .max1 (.cons (.slot 9) .nil)) (.bin .Pow (.con (.int 10)) (.con (.int 60)))) (.cons (.cmp .Eq (.call 16 (.cons (.slot 9) (.cons (.slot 5) .nil))) (.slot 8)) .nil)))) .nil)))))))))))⟩
/-- law(_law_script); 0:_law_script 1:_law_spot 2:_law_dice_here 3:_law_turn 4:_law_told -/
def f28 : Fn := ⟨1, 5, (.cons (.fors (.slot 1) (.rng1 (.blt .max2 (.cons (.con (.int 1)) (.cons (.blt .min2 (.cons (.con (.int 4)) (.cons (.blt .len (.cons (.slot 0) .nil)) .nil))) .nil)))) (.cons (.asg (.slot 2) (.call 17 (.cons (.slot 0) (.cons (.slot 1) .nil)))) (.cons (.fors (.slot 3) (.rng1 (.con (.int 8))) (.cons (.ifs (.nt (.call 27 (.cons (.slot 2) .nil))) (.cons (.ret (.con (.bl false))) .nil) .nil) .nil)) .nil))) (.cons (.asg (.slot 4) (.lst (.cons (.call 15 (.cons (.tup (.cons (.con (.int 3)) (.cons (.con (.int 10)) .nil))) (.cons (.tup (.cons (.con (.int 2)) (.cons (.con (.int 5)) .nil))) .nil))) (.cons (.call 15 (.cons (.tup (.cons (.neg (.con (.int 7))) (.cons (.con (.int 2)) .nil))) (.cons (.tup (.cons (.neg (.con (.int 2))) (.cons (.con (.int 1)) .nil))) .nil))) (.cons (.call 15 (.cons (.tup (.cons (.neg (.con (.int 1))) (.cons (.con (.int 3)) .nil))) (.cons (.tup (.cons (.con (.int 5)) (.cons (.con (.int 1)) .nil))) .nil))) (.cons (.call 15 (.cons (.tup (.cons (.con (.int 5)) (.cons (.con (.int 7)) .nil))) (.cons (.tup (.cons (.con (.int 5)) (.cons (.con (.int 7)) .nil))) .nil))) .nil)))))) (.cons (.asg (.slot 4) (.bin .Add (.slot 4) (.lst (.cons (.call 15 (.cons (.tup (.cons (.con (.int 2)) (.cons (.con (.int 7)) .nil))) (.cons (.tup (.cons (.con (.int 3)) (.cons (.con (.int 7)) .nil))) .nil))) (.cons (.call 15 (.cons (.tup (.cons (.con (.int 311)) (.cons (.con (.int 100)) .nil))) (.cons (.tup (.cons (.con (.int 157)) (.cons (.con (.int 50)) .nil))) .nil))) (.cons (.call 16 (.cons (.tup (.cons (.con (.int 1)) (.cons (.con (.int 1)) .nil))) (.cons (.tup (.cons (.con (.int 2)) (.cons (.con (.int 7)) .nil))) .nil))) (.cons (.call 16 (.cons (.tup (.cons (.con (.int 0)) (.cons (.con (.int 1)) .nil))) (.cons (.tup (.cons (.con (.int 2)) (.cons (.con (.int 7)) .nil))) .nil))) .nil))))))) (.cons (.ret (.cmp .Eq (.slot 4) (.lst (.cons (.tup (.cons (.con (.int 1)) (.cons (.con (.int 3)) .nil))) (.cons (.tup (.cons (.neg (.con (.int 2))) (.cons (.con (.int 1)) .nil))) (.cons (.tup (.cons (.con (.int 0)) (.cons (.con (.int 1)) .nil))) (.cons (.tup (.cons (.con (.int 5)) (.cons (.con (.int 7)) .nil))) (.cons (.tup (.cons (.con (.int 1)) (.cons (.con (.int 3)) .nil))) (.cons (.tup (.cons (.con (.int 25)) (.cons (.con (.int 8)) .nil))) (.cons (.con (.int 4)) (.cons (.con (.int 0)) .nil))))))))))) .nil))))⟩
def tab0 : List Fn := [f0, f1, f2, f3, f4, f5, f6, f7, f8, f9, f10, f11, f12, f13, f14, f15, f16, f17, f18, f19, f20, f21, f22, f23, f24, f25, f26, f27, f28]
def tab : List Fn := tab0
def T (f : Nat) : Fn := tab.getD f ⟨0, 0, .nil⟩
def gtab0 : List D := [(.int 1000000000000000000000000000000000000000000000000000000000000), (.tup [(.int 1), (.int 1)]), (.tup [(.int 0), (.int 1)]), (.int 2)]
def gtab : List D := gtab0
def G (g : Nat) : D := gtab.getD g .non
def gnm0 : List Str := ["GREATEST", "ONE", "ZERO", "PAIR"]
def gnm : List Str := gnm0
def defs0 : List DefI := [⟨"is_whole", ["value"], ["value"]⟩, ⟨"is_short", ["value"], ["value"]⟩, ⟨"shared_in", ["one", "other"], ["one", "other"]⟩, ⟨"lowest", ["top", "bottom", "shared"], ["top", "bottom"]⟩, ⟨"sum_in", ["one", "other"], ["one", "other"]⟩, ⟨"less_in", ["one", "other"], ["one", "other"]⟩, ⟨"quotient_in", ["one", "other"], ["one", "other"]⟩, ⟨"is_below", ["one", "other"], ["one", "other"]⟩, ⟨"whole_in", ["one"], ["one"]⟩, ⟨"steps_in", ["length", "most", "found"], ["length", "most"]⟩]
def defs1 : List DefI := [⟨"simplest_above", ["low", "high", "wholes", "here", "found"], ["low", "high"]⟩, ⟨"simplest_in", ["low", "high", "found"], ["low", "high"]⟩, ⟨"is_fraction", ["value"], ["value"]⟩, ⟨"require_fraction", ["value"], ["value"]⟩, ⟨"require_two", ["one", "other"], ["one", "other"]⟩, ⟨"simplest", ["low", "high"], ["low", "high"]⟩, ⟨"steps_for", ["length", "most"], ["length", "most"]⟩, ⟨"_law_dice", ["_law_script", "_law_spot", "_law_cell", "_law_left"], ["_law_script", "_law_spot"]⟩, ⟨"_law_roll", ["_law_dice_here", "_law_most", "_law_found", "_law_one", "_law_two"], ["_law_dice_here", "_law_most"]⟩, ⟨"_law_pick", ["_law_dice_here", "_law_items"], ["_law_dice_here", "_law_items"]⟩]
def defs2 : List DefI := [⟨"_law_fr_low", ["_law_top", "_law_bottom", "_law_one", "_law_other", "_law_sign"], ["_law_top", "_law_bottom"]⟩, ⟨"_law_fr_plus", ["_law_one", "_law_other"], ["_law_one", "_law_other"]⟩, ⟨"_law_fr_below", ["_law_one", "_law_other"], ["_law_one", "_law_other"]⟩, ⟨"_law_fr_drawn", ["_law_dice_here", "_law_top", "_law_bottom"], ["_law_dice_here"]⟩, ⟨"_law_simplest", ["_law_low", "_law_high", "_law_found", "_law_floors", "_law_up", "_law_top", "_law_bottom", "_law_floor"], ["_law_low", "_law_high"]⟩, ⟨"_law_stretch", ["_law_dice_here", "_law_one", "_law_other", "_law_way"], ["_law_dice_here"]⟩, ⟨"_law_has_lesser", ["_law_low", "_law_high", "_law_bottom", "_law_less"], ["_law_low", "_law_high", "_law_bottom"]⟩, ⟨"_law_right", ["_law_dice_here", "_law_low", "_law_high", "_law_found", "_law_length", "_law_most", "_law_long", "_law_step", "_law_times", "_law_whole_length"], ["_law_dice_here"]⟩, ⟨"law", ["_law_script", "_law_spot", "_law_dice_here", "_law_turn", "_law_told"], ["_law_script"]⟩]
def defs : List DefI := defs0 ++ defs1 ++ defs2
def pg : Pg := ⟨defs, gnm, T, G⟩
def ixs0 : List Nat := [6, 7, 12, 13, 14, 15, 16, 17, 18, 19, 20, 21, 22, 23, 24, 25, 26, 28, 29, 30, 31, 32, 33, 34, 35, 36, 37, 38, 39]
def ixs : List Nat := ixs0
def loose0 : List PySem.Str := ["MarginError", "InvalidFraction", "InvalidOperation", "GREATEST", "is_whole", "is_short", "PAIR", "ZERO", "ONE", "shared_in", "lowest", "sum_in", "less_in", "quotient_in", "is_below", "whole_in", "steps_in", "simplest_above", "simplest_in", "is_fraction", "require_fraction", "require_two", "simplest", "steps_for", "_law_dice", "_law_roll", "_law_pick", "_law_fr_low", "_law_fr_plus", "_law_fr_below"]
def loose1 : List PySem.Str := ["_law_fr_drawn", "_law_simplest", "_law_stretch", "_law_has_lesser", "_law_right"]
def loose : List PySem.Str := loose0 ++ loose1

def law_ix : Nat := 28
end Lk01

set_option Elab.async false
set_option linter.all false
set_option maxRecDepth 100000
set_option maxHeartbeats 4000000
set_option autoImplicit false
set_option exponentiation.threshold 3000
namespace Lk01
open PySem DL
theorem good1_uniq {s : S4} {g0 g1 k0 k1 : Int} (h : Good1 s g0 g1) (k : Good1 s k0 k1) : g0 = k0 ∧ g1 = k1 := by
  have a := h.least k0 k1 k.p1 k.lo k.hi
  have b := k.least g0 g1 h.p1 h.lo h.hi
  omega
/-- the turns taken, the last one first -/
inductive Run : S4 → List Int → S4 → Prop where
  | nil (s : S4) : Run s [] s
  | cons {s t : S4} {rs : List Int} : Run s rs t → t.Ok → t.B (2 ^ 200) → t.goes → Run s (t.h :: rs) t.next
theorem frac_sub {x y h : Int} (hy : 0 < y) (g : Int.gcd x y = 1) : l1 (x * 1 - h * y) (y * 1) = x - h * y ∧ l2 (x * 1 - h * y) (y * 1) = y := by
  rw [Int.mul_one, Int.mul_one]
  exact Frac.low ⟨hy, by rw [Int.gcd_sub_mul_right_left]; exact g⟩
theorem frac_inv {p q : Int} (hp : 0 < p) (g : Int.gcd p q = 1) : l1 (1 * q) (1 * p) = q ∧ l2 (1 * q) (1 * p) = p := by
  rw [Int.one_mul, Int.one_mul]
  exact Frac.low ⟨hp, by rw [Int.gcd_comm]; exact g⟩
theorem frac_add {p q h : Int} (hq : 0 < q) (g : Int.gcd p q = 1) : l1 (h * q + p * 1) (1 * q) = h * q + p ∧ l2 (h * q + p * 1) (1 * q) = q := by
  rw [Int.one_mul, Int.mul_one]
  exact Frac.low ⟨hq, by rw [Int.add_comm, Int.gcd_add_mul_right_left]; exact g⟩
theorem sz_of {x : Int} (h0 : 0 < x) (h : x < 2 ^ 200) : Sz 200 x := by
  have : ((2 ^ 200 : Nat) : Int) = (2 : Int) ^ 200 := by decide
  exact Sz.of_lt (Int.le_of_lt h0) (by omega)
section
variable {N k : Nat} {st : Store} (hN : 2 ^ 1900 ≤ N)
abbrev CL (N k : Nat) : Call := callN G N T k
theorem FP : FrP T G 0 1 2 3 12 13 14 0 3 := ⟨rfl, rfl, rfl, rfl, rfl, rfl, rfl, rfl, rfl⟩
theorem whole_in {t b : Int} (hb : 0 < b) (zb : Sz 200 b) : CL N (k + 1) 8 [fr t b] st = .ok (.int (t / b)) st := by
  refine ok_eq (Ok_call (np := 1) (ns := 1) rfl rfl ?_)
  simp [divOk_of zb (by decide) hb]
theorem below {a b c d : Int} (za : Sz 900 a) (zb : Sz 900 b) (zc : Sz 900 c) (zd : Sz 900 d) : CL N (k + 1) 7 [fr a b, fr c d] st = .ok (.bl (decide (a * d < c * b))) st := below_eq rfl za zb zc zd
theorem lbelow {a b c d : Int} (za : Sz 900 a) (zb : Sz 900 b) (zc : Sz 900 c) (zd : Sz 900 d) : CL N (k + 1) 22 [fr a b, fr c d] st = .ok (.bl (decide (a * d < c * b))) st := below_eq rfl za zb zc zd
include hN
theorem less_h {x y h : Int} (hy : 0 < y) (g : Int.gcd x y = 1) (zx : Sz 900 x) (zy : Sz 900 y) (zh : Sz 900 h) : CL N (k + 3) 5 [fr x y, fr h 1] st = .ok (fr (x - h * y) y) st := by
  have e := DL.less_eq (G := G) (N := N) (T := T) (k := k) (st := st) (s := 2) (l := 3) (f := 5) rfl rfl hN zx zy zh (Sz.lit _ 1 (by decide)) rfl (by omega) (by decide)
  rw [(frac_sub hy g).1, (frac_sub hy g).2] at e
  exact e
theorem quot_1 {p q : Int} (hp : 0 < p) (g : Int.gcd p q = 1) (zp : Sz 900 p) (zq : Sz 900 q) : CL N (k + 3) 6 [fr 1 1, fr p q] st = .ok (fr q p) st := by
  have e := DL.quot_eq (G := G) (N := N) (T := T) (k := k) (st := st) (s := 2) (l := 3) (f := 6) rfl rfl hN (Sz.lit _ 1 (by decide)) (Sz.lit _ 1 (by decide)) zp zq rfl (by decide) (by omega)
  rw [(frac_inv hp g).1, (frac_inv hp g).2] at e
  exact e
theorem sum_h {p q h : Int} (hq : 0 < q) (g : Int.gcd p q = 1) (zp : Sz 900 p) (zq : Sz 900 q) (zh : Sz 900 h) : CL N (k + 3) 4 [fr h 1, fr p q] st = .ok (fr (h * q + p) q) st := by
  have e := DL.sum_eq (G := G) (N := N) (T := T) (k := k) (st := st) (s := 2) (l := 3) (f := 4) rfl rfl hN zh (Sz.lit _ 1 (by decide)) zp zq rfl (by decide) (by omega)
  rw [(frac_add hq g).1, (frac_add hq g).2] at e
  exact e
/-- the test of the way down -/
theorem test_eq {s : S4} (o : s.Ok) (b : s.B (2 ^ 200)) {Γ : List (Option D)} : evalT (CL N (k + 4)) G (.and (.cons (.cmp .NotEq (.idx (.slot 0) (.con (.int 1))) (.con (.int 1))) (.cons (.call 7 (.cons (.slot 1) (.cons (.tup (.cons (.bin .Add (.call 8 (.cons (.slot 0) .nil)) (.con (.int 1))) (.cons (.con (.int 1)) .nil))) .nil))) .nil)))
    (some (fr s.a s.b) :: some (fr s.c s.d) :: Γ) st = .ok (decide s.goes) st := by
  have zb := sz_of o.b0 b.2.1
  have zh : Sz 201 (s.h + 1) := by
    have h1 := h_nn o
    have h2 : s.h ≤ s.a := Int.ediv_le_self _ (Int.le_of_lt o.a0)
    have := b.1
    have : ((2 ^ 201 : Nat) : Int) = (2 : Int) ^ 200 * 2 := by decide
    exact Sz.of_lt (by omega) (by omega)
  have e1 := whole_in (N := N) (k := k + 3) (st := st) (t := s.a) o.b0 zb
  have e2 := below (N := N) (k := k + 3) (st := st) ((sz_of o.c0 b.2.2.1).mono (by decide)) ((sz_of o.d0 b.2.2.2).mono (by decide)) (zh.mono (by decide)) (Sz.lit 900 1 (by decide))
  have e3 : D.tup [.int (s.a / s.b + 1), .int 1] = fr (s.h + 1) 1 := rfl
  simp [e1, e3, e2]
  by_cases hb : s.b = 1
  · simp [hb, S4.goes]
  · simp [hb, S4.goes, e1, e3, e2]
omit hN in
theorem good_sz {s : S4} {g0 g1 : Int} (o : s.Ok) (b : s.B (2 ^ 200)) (g : Good1 s g0 g1) : Sz 200 g0 ∧ Sz 200 g1 := by
  obtain ⟨h1, h2⟩ := g.least s.a s.b o.b0 (Int.le_refl _) o.le
  have := b.1
  have := b.2.1
  exact ⟨sz_of g.p0 (by omega), sz_of g.p1 (by omega)⟩
omit hN in
theorem h_sz {s : S4} (o : s.Ok) (b : s.B (2 ^ 200)) : Sz 200 s.h := by
  have h1 := h_nn o
  have h2 : s.h ≤ s.a := Int.ediv_le_self _ (Int.le_of_lt o.a0)
  have := b.1
  have : ((2 ^ 200 : Nat) : Int) = (2 : Int) ^ 200 := by decide
  exact Sz.of_lt h1 (by omega)
def foldB : ISs := (.cons (.asg (.slot 4) (.call 4 (.cons (.tup (.cons (.slot 3) (.cons (.con (.int 1)) .nil))) (.cons (.call 6 (.cons (.glob 1) (.cons (.slot 4) .nil))) .nil)))) .nil)
theorem fold_ok {x0 x1 x2 : Option D} {s : S4} : ∀ {rs : List Int} {t : S4}, Run s rs t → t.Ok → t.B (2 ^ 200) → ∀ {g0 g1 : Int} {o3 : Option D}, Good1 t g0 g1 →
    Ok (forF (stepF (CL N (k + 5)) G N (.slot 3) foldB) (rs.map .int) [x0, x1, x2, o3, some (fr g0 g1)] st) fun fl st' => st' = st ∧ ∃ o3' h0 h1, fl = .nx [x0, x1, x2, o3', some (fr h0 h1)] ∧ Good1 s h0 h1 := by
  intro rs t r
  induction r with
  | nil => intro o b g0 g1 o3 g; simp; exact ⟨_, _, _, ⟨rfl, rfl⟩, g⟩
  | @cons t rs r o b goes ih =>
    intro o' b' g0 g1 o3 g
    obtain ⟨z0, z1⟩ := good_sz o' b' g
    have zh := h_sz o b
    have e1 := quot_1 (k := k + 2) (st := st) hN g.p0 g.one (z0.mono (by decide)) (z1.mono (by decide))
    have e2 := sum_h (k := k + 2) (st := st) (h := t.h) hN g.p0 (by rw [Int.gcd_comm]; exact g.one) (z1.mono (by decide)) (z0.mono (by decide)) (zh.mono (by decide))
    have g1e : G 1 = fr 1 1 := rfl
    have e3 : D.tup [.int t.h, .int 1] = fr t.h 1 := rfl
    rw [List.map_cons, forF_cons]
    simp [foldB, g1e, e1, e2, e3]
    exact ih o b (good_back o goes g)
theorem init_W {s : S4} (o : s.Ok) (b : s.B (2 ^ 200)) : S4.W 0 s := by
  obtain ⟨b1, b2, b3, b4⟩ := b
  have e : (2 : Int) ^ 200 * 2 ^ 200 ≤ 2 ^ 402 := by decide
  refine ⟨.inl rfl, ?_, ?_⟩
  · rw [Int.pow_zero, Int.one_mul]
    exact Int.le_trans (Int.mul_le_mul (Int.le_of_lt b1) (Int.le_of_lt b2) (Int.le_of_lt o.b0) (by decide)) e
  · rw [Int.pow_zero, Int.one_mul]
    exact Int.le_trans (Int.mul_le_mul (Int.le_of_lt b3) (Int.le_of_lt b4) (Int.le_of_lt o.d0) (by decide)) e
def IW (s : S4) (st : Store) (n : Nat) (Γ : List (Option D)) (st' : Store) : Prop :=
  ∃ rs t o3, Run s rs t ∧ t.Ok ∧ t.B (2 ^ 200) ∧ S4.W rs.length t ∧ Γ = [some (fr t.a t.b), some (fr t.c t.d), some (.ref st.length), o3, none] ∧ st' = st ++ [.lst (rs.reverse.map .int)] ∧ n = 403 - rs.length
theorem above_ok {s : S4} (o : s.Ok) (b : s.B (2 ^ 200)) (hst : Closed st.length st = true) : Ok (CL N (k + 6) 10 [fr s.a s.b, fr s.c s.d] st) fun d st' => st' = st ∧ ∃ g0 g1, d = fr g0 g1 ∧ Good1 s g0 g1 := by
  refine Ok_callD (np := 2) (ns := 5) rfl rfl hst ?_
  simp [-evalT_eq]
  refine whlF_ok (N := N) (n := 403) (I := IW s st) ?_ (Nat.lt_of_lt_of_le (Nat.lt_of_lt_of_le (by decide) (Nat.pow_le_pow_right (by decide) (by decide : 10 ≤ 1900))) hN) ⟨[], s, none, .nil s, o, b, init_W hN o b, rfl, rfl, rfl⟩
  rintro n Γ st' ⟨rs, t, o3, r, ot, bt, wt, rfl, rfl, rfl⟩
  rw [test_eq hN ot bt]
  by_cases g : t.goes
  · have hl := W_le ot wt
    simp [g, -evalT_eq]
    refine ⟨402 - rs.length, by omega, ?_⟩
    have r1 := rem_pos ot g.1
    have r2 := rem_pos2 ot g.1
    have q1 := sz_of ot.a0 bt.1
    have q2 := sz_of ot.b0 bt.2.1
    have q3 := sz_of ot.c0 bt.2.2.1
    have q4 := sz_of ot.d0 bt.2.2.2
    have zh := h_sz ot bt
    have nb := next_B ot g bt
    have p2 : Sz 200 (t.c - t.h * t.d) := sz_of r2 nb.2.1
    have p4 : Sz 200 (t.a - t.h * t.b) := sz_of r1 nb.2.2.2
    have hx : ∀ st1, CL N (k + 5) 8 [fr t.a t.b] st1 = .ok (.int t.h) st1 := fun st1 => whole_in ot.b0 q2
    have e1 : ∀ st1, CL N (k + 5) 5 [fr t.c t.d, fr t.h 1] st1 = .ok (fr (t.c - t.h * t.d) t.d) st1 := fun st1 => less_h hN ot.d0 ot.cd (q3.mono (by decide)) (q4.mono (by decide)) (zh.mono (by decide))
    have e2 : ∀ st1, CL N (k + 5) 5 [fr t.a t.b, fr t.h 1] st1 = .ok (fr (t.a - t.h * t.b) t.b) st1 := fun st1 => less_h hN ot.b0 ot.ab (q1.mono (by decide)) (q2.mono (by decide)) (zh.mono (by decide))
    have e3 : ∀ st1, CL N (k + 5) 6 [fr 1 1, fr (t.c - t.h * t.d) t.d] st1 = .ok (fr t.d (t.c - t.h * t.d)) st1 := fun st1 => quot_1 hN r2 (by rw [Int.gcd_sub_mul_right_left]; exact ot.cd) (p2.mono (by decide)) (q4.mono (by decide))
    have e4 : ∀ st1, CL N (k + 5) 6 [fr 1 1, fr (t.a - t.h * t.b) t.b] st1 = .ok (fr t.b (t.a - t.h * t.b)) st1 := fun st1 => quot_1 hN r1 (by rw [Int.gcd_sub_mul_right_left]; exact ot.ab) (p4.mono (by decide)) (q2.mono (by decide))
    have g1e : G 1 = fr 1 1 := rfl
    have e5 : D.tup [.int t.h, .int 1] = fr t.h 1 := rfl
    have hlen : rs.length < 16777216 := by omega
    simp [hx, e1, e2, e3, e4, e5, g1e, hlen]
    exact ⟨402 - rs.length, Nat.le_refl _, t.h :: rs, t.next, some (.int t.h), .cons r ot bt g, next_ok ot g, nb, next_W ot g bt wt, rfl, by simp, by simp⟩
  · simp [g]
    have gs := good_stop ot g
    by_cases hb : t.b = 1
    · have gs' : Good1 t t.a t.b := by
        rw [show t.n = t.a by unfold S4.n; rw [if_pos hb]] at gs
        rw [hb]
        exact gs
      simp [eq_true hb]
      refine (fold_ok hN r ot bt gs').mono ?_
      rintro fl st2 ⟨rfl, o3', h0, h1, rfl, gh⟩
      simp
      exact ⟨h0, h1, rfl, gh⟩
    · have hx : ∀ st1, CL N (k + 5) 8 [fr t.a t.b] st1 = .ok (.int t.h) st1 := fun st1 => whole_in ot.b0 (sz_of ot.b0 bt.2.1)
      rw [show t.n = t.h + 1 by unfold S4.n; rw [if_neg hb]] at gs
      have e5 : D.tup [.int (t.h + 1), .int 1] = fr (t.h + 1) 1 := rfl
      simp [hb, hx, e5]
      refine (fold_ok hN r ot bt gs).mono ?_
      rintro fl st2 ⟨rfl, o3', h0, h1, rfl, gh⟩
      simp
      exact ⟨h0, h1, rfl, gh⟩
def fold2B : ISs := (.cons (.par 5 6 (.bin .Add (.bin .Mult (.slot 7) (.slot 5)) (.slot 6)) (.slot 5)) .nil)
theorem fold2_ok {x0 x1 x2 x3 x4 : Option D} {s : S4} : ∀ {rs : List Int} {t : S4}, Run s rs t → t.Ok → t.B (2 ^ 200) → ∀ {g0 g1 : Int} {o7 : Option D}, Good1 t g0 g1 →
    Ok (forF (stepF (CL N k) G N (.slot 7) fold2B) (rs.map .int) [x0, x1, x2, x3, x4, some (.int g0), some (.int g1), o7] st) fun fl st' => st' = st ∧ ∃ o7' h0 h1, fl = .nx [x0, x1, x2, x3, x4, some (.int h0), some (.int h1), o7'] ∧ Good1 s h0 h1 := by
  intro rs t r
  induction r with
  | nil => intro o b g0 g1 o7 g; simp; exact ⟨_, _, _, ⟨rfl, rfl, rfl⟩, g⟩
  | @cons t rs r o b goes ih =>
    intro o' b' g0 g1 o7 g
    obtain ⟨z0, z1⟩ := good_sz o' b' g
    have zh := h_sz o b
    rw [List.map_cons, forF_cons]
    simp [fold2B, mulOk_of zh z0 (by decide)]
    exact ih o b (good_back o goes g)
def IW2 (s : S4) (st : Store) (n : Nat) (Γ : List (Option D)) (st' : Store) : Prop :=
  ∃ rs t o4, Run s rs t ∧ t.Ok ∧ t.B (2 ^ 200) ∧ S4.W rs.length t ∧ Γ = [some (fr t.a t.b), some (fr t.c t.d), none, some (.ref st.length), o4, none, none, none] ∧ st' = st ++ [.lst (rs.reverse.map .int)] ∧ n = 403 - rs.length
omit hN in
theorem n_sz {s : S4} (o : s.Ok) (b : s.B (2 ^ 200)) : Sz 201 s.n := by
  have h1 := h_nn o
  have h2 : s.h ≤ s.a := Int.ediv_le_self _ (Int.le_of_lt o.a0)
  have := b.1
  have : ((2 ^ 201 : Nat) : Int) = (2 : Int) ^ 200 * 2 := by decide
  have := o.a0
  unfold S4.n
  split
  · exact Sz.of_lt (by omega) (by omega)
  · exact Sz.of_lt (by omega) (by omega)
theorem lsimp_ok {s : S4} (o : s.Ok) (b : s.B (2 ^ 200)) (hst : Closed st.length st = true) : Ok (CL N (k + 2) 24 [fr s.a s.b, fr s.c s.d] st) fun d st' => st' = st ∧ ∃ g0 g1, d = fr g0 g1 ∧ Good1 s g0 g1 := by
  refine Ok_callD (np := 2) (ns := 8) rfl rfl hst ?_
  have a0 : ¬ s.a ≤ 0 := by have := o.a0; omega
  have c0 : ¬ s.c < 0 := by have := o.c0; omega
  simp [a0, c0]
  refine whlF_ok (N := N) (n := 403) (I := IW2 s st) ?_ (Nat.lt_of_lt_of_le (Nat.lt_of_lt_of_le (by decide) (Nat.pow_le_pow_right (by decide) (by decide : 10 ≤ 1900))) hN) ⟨[], s, none, .nil s, o, b, init_W hN o b, rfl, rfl, rfl⟩
  rintro n Γ st' ⟨rs, t, o4, r, ot, bt, wt, rfl, rfl, rfl⟩
  have q2 := sz_of ot.b0 bt.2.1
  have q4 := sz_of ot.d0 bt.2.2.2
  have hl := W_le ot wt
  have hdiv : divOk t.b = true := divOk_of q2 (by decide) ot.b0
  have m1 := mulOk_of (n_sz ot bt) q4 (by decide)
  have cn := ceil_n ot
  simp
  refine ⟨402 - rs.length, by omega, ?_⟩
  by_cases g : t.goes
  · have hng : ¬ t.n * t.d ≤ t.c := fun z => (goes_iff ot).mp z g
    have ng := n_goes g
    have zh := h_sz ot bt
    have m2 := mulOk_of zh q4 (by decide)
    have m3 := mulOk_of zh q2 (by decide)
    have hlen : rs.length < 16777216 := by omega
    simp [hdiv, cn, m1, hng, ng, m2, m3, hlen]
    exact ⟨402 - rs.length, Nat.le_refl _, t.h :: rs, t.next, some (.int t.n), .cons r ot bt g, next_ok ot g, next_B ot g bt, next_W ot g bt wt, by simp [S4.next, fr], by simp, by simp⟩
  · have hng : t.n * t.d ≤ t.c := (goes_iff ot).mpr g
    simp [hdiv, cn, m1, hng]
    refine (fold2_ok hN r ot bt (good_stop ot g)).mono ?_
    rintro fl st2 ⟨rfl, o7', h0, h1, rfl, gh⟩
    obtain ⟨z0, z1⟩ := good_sz o b gh
    have lo := lawLow_eq (G := G) (N := N) (T := T) (k := k) (st := st ++ [.dead]) (f := 20) rfl (t := h0) (b := h1) (Int.ne_of_gt gh.p1) (z1.mono (by decide)) (z0.mono (by decide)) hN
    have lw := Frac.low ⟨gh.p1, gh.one⟩
    rw [lw.1, lw.2] at lo
    simp [lo]
    exact ⟨h0, h1, rfl, gh⟩
/-- both ways down come to the same -/
theorem simp_both {s : S4} (o : s.Ok) (b : s.B (2 ^ 200)) : ∃ g0 g1, Good1 s g0 g1 ∧ (∀ k st, Closed st.length st = true → CL N (k + 6) 10 [fr s.a s.b, fr s.c s.d] st = .ok (fr g0 g1) st) ∧ ∀ k st, Closed st.length st = true → CL N (k + 2) 24 [fr s.a s.b, fr s.c s.d] st = .ok (fr g0 g1) st := by
  obtain ⟨d, st1, e, rfl, g0, g1, rfl, gg⟩ := (above_ok (k := 0) (st := []) hN o b rfl).ex
  refine ⟨g0, g1, gg, fun k st hc => ?_, fun k st hc => ?_⟩
  · obtain ⟨d, st1, e, rfl, h0, h1, rfl, gh⟩ := (above_ok (k := k) (st := st) hN o b hc).ex
    obtain ⟨rfl, rfl⟩ := good1_uniq gg gh
    exact e
  · obtain ⟨d, st1, e, rfl, h0, h1, rfl, gh⟩ := (lsimp_ok (k := k) (st := st) hN o b hc).ex
    obtain ⟨rfl, rfl⟩ := good1_uniq gg gh
    exact e
end
end Lk01

set_option Elab.async false
set_option linter.all false
set_option maxRecDepth 100000
set_option maxHeartbeats 4000000
set_option autoImplicit false
set_option exponentiation.threshold 3000
namespace Lk01
open PySem DL
/-- what is asked of the answer -/
structure Best (a b c d g0 g1 : Int) : Prop where
  p1 : 0 < g1
  z0 : Sz 200 g0
  z1 : Sz 200 g1
  lo : a * g1 ≤ g0 * b
  hi : g0 * d ≤ c * g1
  least : ∀ p q : Int, 0 < q → a * q ≤ p * b → p * d ≤ c * q → g1 ≤ q
theorem good_lt {t b : Int} (h : Good t b) : t.natAbs < 2 ^ 200 ∧ b < 2 ^ 200 := by
  have h1 := h.szt
  have h2 := h.szb
  have : ((2 ^ 200 : Nat) : Int) = (2 : Int) ^ 200 := by decide
  unfold Sz at h1 h2
  exact ⟨h1, by omega⟩
section
variable {N k : Nat} {st : Store} (hN : 2 ^ 1900 ≤ N)
include hN
theorem both {a b c d : Int} (h : Good a b) (h' : Good c d) (le : a * d ≤ c * b) :
    ∃ g0 g1, Best a b c d g0 g1 ∧ (∀ k st, Cld st → CL N (k + 7) 11 [fr a b, fr c d] st = .ok (fr g0 g1) st) ∧ ∀ k st, Cld st → CL N (k + 3) 24 [fr a b, fr c d] st = .ok (fr g0 g1) st := by
  have hb := h.frac.pos
  have hd := h'.frac.pos
  have n200 : ((2 ^ 200 : Nat) : Int) = (2 : Int) ^ 200 := by decide
  have l2t : lim 2 = true := by decide
  obtain ⟨ba, bb⟩ := good_lt h
  obtain ⟨bc, bd⟩ := good_lt h'
  by_cases c1 : a ≤ 0 ∧ 0 ≤ c
  · refine ⟨0, 1, ⟨by decide, Sz.lit _ _ (by decide), Sz.lit _ _ (by decide), by omega, by omega, fun p q hq _ _ => by omega⟩, fun k st _ => ?_, fun k st _ => ?_⟩
    · refine ok_eq (Ok_call (np := 2) (ns := 3) rfl rfl ?_)
      have g2 : G 2 = fr 0 1 := rfl
      simp [c1.1, c1.2, g2]
    · refine ok_eq (Ok_call (np := 2) (ns := 8) rfl rfl ?_)
      simp [c1.1, c1.2, fr]
  · by_cases c2 : 0 < a
    · have hc : 0 < c := by
        have x1 : 0 < a * d := Int.mul_pos c2 hd
        have x2 : 0 * b < c * b := by omega
        exact Int.lt_of_mul_lt_mul_right x2 (Int.le_of_lt hb)
      have o : S4.Ok ⟨a, b, c, d⟩ := ⟨c2, hb, hc, hd, le, h.frac.one, h'.frac.one⟩
      have B : S4.B ⟨a, b, c, d⟩ (2 ^ 200) := ⟨by show a < _; omega, bb, by show c < _; omega, bd⟩
      obtain ⟨g0, g1, gg, e1, e2⟩ := simp_both hN o B
      obtain ⟨z0, z1⟩ := good_sz o B gg
      have na : ¬ a ≤ 0 := by omega
      refine ⟨g0, g1, ⟨gg.p1, z0, z1, gg.lo, gg.hi, fun p q hq x y => (gg.least p q hq x y).2⟩, fun k st hc => ?_, fun k st hc => e2 (k + 1) st hc⟩
      refine ok_eq (Ok_call (np := 2) (ns := 3) rfl rfl ?_)
      simp [na, c2, e1 k st hc]
    · have hc0 : c < 0 := by omega
      have ha0 : a < 0 := by
        have x1 : c * b < 0 := Int.mul_neg_of_neg_of_pos hc0 hb
        have x2 : a * d < 0 * d := by omega
        exact Int.lt_of_mul_lt_mul_right x2 (Int.le_of_lt hd)
      have o : S4.Ok ⟨-c, d, -a, b⟩ := ⟨by show 0 < -c; omega, hd, by show 0 < -a; omega, hb, by show -c * b ≤ -a * d; rw [Int.neg_mul, Int.neg_mul]; omega, by show Int.gcd (-c) d = 1; rw [Int.neg_gcd]; exact h'.frac.one, by show Int.gcd (-a) b = 1; rw [Int.neg_gcd]; exact h.frac.one⟩
      have B : S4.B ⟨-c, d, -a, b⟩ (2 ^ 200) := ⟨by show -c < _; omega, bd, by show -a < _; omega, bb⟩
      obtain ⟨g0, g1, gg, e1, e2⟩ := simp_both hN o B
      obtain ⟨z0, z1⟩ := good_sz o B gg
      have lo : -c * g1 ≤ g0 * d := gg.lo
      have hi : g0 * b ≤ -a * g1 := gg.hi
      rw [Int.neg_mul] at lo hi
      have nc : ¬ 0 ≤ c := by omega
      have na : a ≤ 0 := by omega
      refine ⟨-g0, g1, ⟨gg.p1, z0.neg, z1, by rw [Int.neg_mul]; omega, by rw [Int.neg_mul]; omega, fun p q hq x y => (gg.least (-p) q hq (by show -c * q ≤ -p * d; rw [Int.neg_mul, Int.neg_mul]; omega) (by show -p * b ≤ -a * q; rw [Int.neg_mul, Int.neg_mul]; omega)).2⟩, fun k st hc => ?_, fun k st hc => ?_⟩
      · refine ok_eq (Ok_call (np := 2) (ns := 3) rfl rfl ?_)
        have e1 := e1 k st hc
        have f1 : D.tup [.int (-c), .int d] = fr (-c) d := rfl
        have f2 : D.tup [.int (-a), .int b] = fr (-a) b := rfl
        simp [na, nc, c2, f1, f2, e1]
        rfl
      · refine ok_eq (Ok_call (np := 2) (ns := 8) rfl rfl ?_)
        have e2 := e2 k st hc
        have f1 : D.tup [.int (-c), .int d] = fr (-c) d := rfl
        have f2 : D.tup [.int (-a), .int b] = fr (-a) b := rfl
        simp [na, nc, hc0, f1, f2, e2]
        rfl
theorem simplest_eq {a b c d g0 g1 : Int} (h : Good a b) (h' : Good c d) (le : a * d ≤ c * b) (hs : CL N (k + 7) 11 [fr a b, fr c d] st = .ok (fr g0 g1) st) : CL N (k + 8) 15 [fr a b, fr c d] st = .ok (fr g0 g1) st := by
  refine ok_eq (Ok_call (np := 2) (ns := 2) rfl rfl ?_)
  have eb := below (N := N) (k := k + 6) (st := st) (h'.szt.mono (by decide : 200 ≤ 900)) (h'.szb.mono (by decide)) (h.szt.mono (by decide)) (h.szb.mono (by decide))
  have nb : ¬ c * b < a * d := by omega
  simp [FP.req2 (k := k + 2) (st := st) hN h h', eb, nb, hs]
theorem lesser_eq {a b c d g0 g1 : Int} (h : Good a b) (h' : Good c d) (B : Best a b c d g0 g1) (hg : g1 < 300) : CL N (k + 1) 26 [fr a b, fr c d, .int g1] st = .ok (.bl false) st := by
  refine ok_eq (Ok_call (np := 3) (ns := 4) rfl rfl ?_)
  have z1 : g1 < 4611686018427387904 := by omega
  have z2 : -4611686018427387904 ≤ g1 := by have := B.p1; omega
  have hb := h.frac.pos
  have hd := h'.frac.pos
  have d1 := divOk_of h.szb (by decide) hb
  have d2 := divOk_of h'.szb (by decide) hd
  simp [z1, z2]
  refine forF_ok (I := fun i Γ st' => ∃ o3, Γ = [some (fr a b), some (fr c d), some (.int g1), o3] ∧ st' = st) ?_ ?_ ⟨none, rfl, rfl⟩
  · rintro i x Γ st' hx ⟨o3, rfl, rfl⟩
    obtain ⟨rfl, hi, hi0⟩ : x = .int (1 + i) ∧ 1 + (i : Int) < g1 ∧ (0 : Int) ≤ i := by
      have h1 := (List.getElem?_eq_some_iff.mp hx).1
      have h2 := rngD_get hx
      have : (rngD 1 (g1.toNat - 1)).length = g1.toNat - 1 := by unfold rngD; simp
      rw [this] at h1
      exact ⟨h2, by omega, by omega⟩
    have zi : Sz 20 (1 + (i : Int)) := by unfold Sz; omega
    have m1 := mulOk_of h.szt zi (by decide)
    have m2 := mulOk_of h'.szt zi (by decide)
    have no : ¬ (a * (1 + (i : Int)) + b - 1) / b ≤ c * (1 + (i : Int)) / d := by
      intro le
      have x1 : a * (1 + (i : Int)) + b - 1 < ((a * (1 + (i : Int)) + b - 1) / b + 1) * b := Int.lt_ediv_add_one_mul_self _ hb
      rw [Int.add_mul, Int.one_mul] at x1
      have x2 : c * (1 + (i : Int)) / d * d ≤ c * (1 + (i : Int)) := Int.ediv_mul_le _ (Int.ne_of_gt hd)
      have x3 := Int.mul_le_mul_of_nonneg_right le (Int.le_of_lt hd)
      have := B.least ((a * (1 + (i : Int)) + b - 1) / b) (1 + i) (by omega) (by omega) (by omega)
      omega
    simp [m1, m2, d1, d2, no]
  · rintro Γ st' ⟨o3, rfl, rfl⟩
    simp
omit hN in
theorem ceil_neg {x y : Int} (hy : 0 < y) : -(-x / y) = (x + y - 1) / y := by
  have e1 := Int.emod_add_mul_ediv (-x) y
  have r0 := Int.emod_nonneg (-x) (Int.ne_of_gt hy)
  have r1 := Int.emod_lt_of_pos (-x) hy
  generalize -x / y = q at *
  generalize -x % y = r at *
  have e : x + y - 1 = (y - 1 - r) + -q * y := by
    rw [Int.neg_mul, Int.mul_comm q y]
    omega
  rw [e, Int.add_mul_ediv_right _ _ (Int.ne_of_gt hy), Int.ediv_eq_zero_of_lt (by omega) (by omega), Int.zero_add]
omit hN in
theorem ceil_low {x y : Int} (hy : 0 < y) : -(-l1 x y / l2 x y) = (x + y - 1) / y := by
  obtain ⟨b1, b2⟩ := low_back (t := x) hy
  have hg := gc_pos (t := x) (b := y) (Int.ne_of_gt hy)
  have hl := l2_pos (t := x) (b := y) (Int.ne_of_gt hy)
  rw [← ceil_neg hy]
  have : -x / y = -l1 x y / l2 x y := by
    have e1 : -x = gc' x y * -l1 x y := by rw [Int.mul_neg, ← b1]
    have e2 : -x / y = gc' x y * -l1 x y / (gc' x y * l2 x y) := by rw [← e1, ← b2]
    rw [e2, Int.mul_ediv_mul_of_pos _ _ hg]
  rw [this]
/-- the fewest steps -/
theorem steps_eq {a b c d : Int} (h : Good a b) (h' : Good c d) (ha : 0 ≤ a) (hc : 0 < c) : CL N (k + 6) 16 [fr a b, fr c d] st = .ok (.int ((a * d + b * c - 1) / (b * c))) st := by
  have hb := h.frac.pos
  have hy : 0 < b * c := Int.mul_pos hb hc
  have e9 : CL N (k + 5) 9 [fr a b, fr c d] st = .ok (.int ((a * d + b * c - 1) / (b * c))) st := by
    refine ok_eq (Ok_call (np := 2) (ns := 3) rfl rfl ?_)
    have e := quot_eq (G := G) (N := N) (T := T) (k := k + 1) (st := st) (s := 2) (l := 3) (f := 6) rfl rfl hN (h.szt.mono (by decide)) (h.szb.mono (by decide)) (h'.szt.mono (by decide)) (h'.szb.mono (by decide)) rfl h.ne (Int.ne_of_gt hc)
    have zl : Sz 400 (l2 (a * d) (b * c)) := (h.szb.mul h'.szt).of_le (l2_abs (Int.ne_of_gt hy))
    have hd : divOk (l2 (a * d) (b * c)) = true := divOk_of zl (by decide) (l2_pos (Int.ne_of_gt hy))
    simp [e, hd]
    exact ceil_low hy
  refine ok_eq (Ok_call (np := 2) (ns := 2) rfl rfl ?_)
  have n1 : ¬ a < 0 := by omega
  have n2 : ¬ c ≤ 0 := by omega
  simp [FP.req2 (k := k) (st := st) hN h h', n1, n2, e9]
theorem drawn {n r : Nat} {st0 st : Store} (hd : Dice n r st0 st) (hn : n < 2 ^ 59) {Q : D → Store → Prop} {u : Du Q} (h : ∀ (t b : Int) (st' : Store), Good t b → Dice (n + 9) r st0 st' → Q (fr t b) st') : Ok (callN G N T (k + 3) 23 [.ref r] st) Q u :=
  drawn_ok (rl := 18) (pk := 19) (lo := 20) rfl rfl rfl rfl hN hd hn h
omit hN in
theorem roll {n r : Nat} {st0 st : Store} (hd : Dice n r st0 st) (hn : n < 2 ^ 60) {most : Int} (hm : 0 < most) (hz : Sz 300 most)
    {Q : D → Store → Prop} {u : Du Q} (h : ∀ (x : Int) (st' : Store), 0 ≤ x → x < most → Dice (n + 1) r st0 st' → Q (.int x) st') : Ok (callN G N T (k + 1) 18 [.ref r, .int most] st) Q u := rollK_ok rfl hd hn hm hz h
theorem stretch {n r : Nat} {st0 st : Store} (hd : Dice n r st0 st) (hn : n < 2 ^ 58) {Q : D → Store → Prop} {u : Du Q} (h : ∀ (a b c d : Int) (st' : Store), Good a b → Good c d → a * d ≤ c * b → Dice (n + 20) r st0 st' → Q (.tup [fr a b, fr c d]) st') : Ok (callN G N T (k + 4) 25 [.ref r] st) Q u := by
  refine Ok_call (np := 1) (ns := 4) rfl rfl ?_
  simp
  refine drawn hN hd (by omega) fun a b s1 g1 d1 => ?_
  simp
  refine drawn hN d1 (by omega) fun c d s2 g2 d2 => ?_
  simp
  refine roll d2 (by omega) (by decide) (Sz.lit _ _ (by decide)) fun w s3 w0 w1 d3 => ?_
  simp [-execSs_cons]
  have fin : ∀ (c d w : Int) (s : Store), Frac c d → Dice (n + 20) r st0 s → Ok (execSs (callN G N T (k + 3)) G N (.cons (.ifs (.cmp .GtE (.blt .max2 (.cons (.blt .abs (.cons (.idx (.slot 2) (.con (.int 0))) .nil)) (.cons (.idx (.slot 2) (.con (.int 1))) .nil))) (.bin .Pow (.con (.int 10)) (.con (.int 60)))) (.cons (.asg (.slot 2) (.slot 1)) .nil) .nil)
      (.cons (.ret (.ife (.call 22 (.cons (.slot 2) (.cons (.slot 1) .nil))) (.tup (.cons (.slot 2) (.cons (.slot 1) .nil))) (.tup (.cons (.slot 1) (.cons (.slot 2) .nil))))) .nil)) [some (.ref r), some (fr a b), some (fr c d), some (.int w)] s) fun fl st' => match fl with
        | .rt d => st'.length ≤ st.length ∧ Q d st'
        | .nx _ => st'.length ≤ st.length ∧ Q .non st'
        | _ => False := by
    intro c d w s hf hD
    have len : s.length ≤ st.length := by rw [hD.len, hd.len]; exact Nat.le_refl _
    have p60 : powOk 10 60 = true := by decide
    have c60 : (10 : Int) ^ 60 = 1000000000000000000000000000000000000000000000000000000000000 := by decide
    have ord : ∀ c d : Int, Good c d → Ok (evalE (callN G N T (k + 3)) G (.ife (.call 22 (.cons (.slot 2) (.cons (.slot 1) .nil))) (.tup (.cons (.slot 2) (.cons (.slot 1) .nil))) (.tup (.cons (.slot 1) (.cons (.slot 2) .nil)))) [some (.ref r), some (fr a b), some (fr c d), some (.int w)] s) fun v st' => st' = s ∧ Q v s := by
      intro c d gc
      have eb : callN G N T (k + 3) 22 [fr c d, fr a b] s = .ok (.bl (decide (c * b < a * d))) s := lbelow (gc.szt.mono (by decide)) (gc.szb.mono (by decide)) (g1.szt.mono (by decide)) (g1.szb.mono (by decide))
      by_cases x : c * b < a * d
      · simp [eb, x]
        exact h c d a b s gc g1 (by omega) hD
      · simp [eb, x]
        exact h a b c d s g1 gc (by omega) hD
    by_cases big : (1000000000000000000000000000000000000000000000000000000000000 : Int) ≤ max (c.natAbs : Int) d
    · simp [p60, big, -evalE_ife]
      refine (ord a b g1).mono ?_
      rintro v st' ⟨rfl, hq⟩
      exact ⟨len, hq⟩
    · have gc : Good c d := good_iff.mpr ⟨⟨by omega, by omega⟩, ⟨hf.pos, by omega⟩, hf⟩
      simp [p60, big, -evalE_ife]
      refine (ord c d gc).mono ?_
      rintro v st' ⟨rfl, hq⟩
      exact ⟨len, hq⟩
  have p6 : powOk 10 6 = true := by decide
  rw [execSs_cons]
  by_cases w0 : w = 0
  · simp [-execSs_cons, execSs_one, w0]
    rw [execSs_cons]
    simp [-execSs_cons, execSs_one]
    exact fin a b 0 s3 g1.frac (d3.mono (by omega))
  · simp [-execSs_cons, execSs_one, w0]
    rw [execSs_cons]
    by_cases w1 : w = 1
    · simp [-execSs_cons, execSs_one, w1, p6]
      refine roll d3 (by omega) (by decide) (Sz.lit _ _ (by decide)) fun v s4 v0 v1 d4 => ?_
      have f1 : D.tup [.int 1, .int (1 + v)] = fr 1 (1 + v) := rfl
      have zv : Sz 30 (1 + v) := by unfold Sz; omega
      have e := lsum_eq (G := G) (N := N) (T := T) (k := k + 1) (st := s4) (lo := 20) (f := 21) rfl rfl hN (g1.szt.mono (by decide)) (g1.szb.mono (by decide)) (Sz.lit 900 1 (by decide)) (zv.mono (by decide)) g1.ne (by omega)
      simp [-execSs_cons, f1, e]
      exact fin _ _ 1 s4 (low_frac (Int.mul_ne_zero g1.ne (by omega))) (d4.mono (by omega))
    · simp [-execSs_cons, execSs_one, w1]
      exact fin c d w s3 g2.frac (d3.mono (by omega))
end
end Lk01

set_option Elab.async false
set_option linter.all false
set_option maxRecDepth 100000
set_option maxHeartbeats 4000000
set_option autoImplicit false
set_option exponentiation.threshold 3000
namespace Lk01
open PySem DL
def tailB : ISs := (.cons (.par 6 7 (.bin .Mult (.idx (.slot 4) (.con (.int 0))) (.idx (.slot 5) (.con (.int 1)))) (.bin .Mult (.idx (.slot 4) (.con (.int 1))) (.idx (.slot 5) (.con (.int 0))))) (.cons (.ifs (.cmp .NotEq (.call 16 (.cons (.slot 4) (.cons (.slot 5) .nil))) (.bin .FloorDiv (.bin .Sub (.bin .Add (.slot 6) (.slot 7)) (.con (.int 1))) (.slot 7))) (.cons (.ret (.con (.bl false))) .nil) .nil) (.cons (.asg (.slot 8) (.call 18 (.cons (.slot 0) (.cons (.con (.int 9)) .nil)))) (.cons (.asg (.slot 9) (.call 20 (.cons (.bin .Mult (.idx (.slot 5) (.con (.int 0))) (.slot 8)) (.cons (.idx (.slot 5) (.con (.int 1))) .nil)))) (.cons (.ret (.or (.cons (.cmp .GtE (.blt .max1 (.cons (.slot 9) .nil)) (.bin .Pow (.con (.int 10)) (.con (.int 60)))) (.cons (.cmp .Eq (.call 16 (.cons (.slot 9) (.cons (.slot 5) .nil))) (.slot 8)) .nil)))) .nil)))))
section
variable {N k : Nat} {st : Store} (hN : 2 ^ 1900 ≤ N)
include hN
theorem tail_ok {n r : Nat} {st0 s : Store} (hD : Dice n r st0 s) (hn : n < 2 ^ 58) {x1 x2 x3 : Option D} {a b c d : Int} (g : Good a b) (g' : Good c d) (ha : 0 ≤ a) (hc : 0 < c) :
    Ok (execSs (callN G N T (k + 9)) G N tailB [some (.ref r), x1, x2, x3, some (fr a b), some (fr c d), none, none, none, none] s) fun fl st' => fl = .rt (.bl true) ∧ Dice (n + 1) r st0 st' := by
  have hb := g.frac.pos
  have hd := g'.frac.pos
  have hy : 0 < b * c := Int.mul_pos hb hc
  have m1 := mulOk_of g.szt g'.szb (by decide)
  have m2 := mulOk_of g.szb g'.szt (by decide)
  have dv : divOk (b * c) = true := divOk_of (g.szb.mul g'.szt) (by decide) hy
  have e1 : ∀ s, callN G N T (k + 9) 16 [fr a b, fr c d] s = .ok (.int ((a * d + b * c - 1) / (b * c))) s := fun s => steps_eq (k := k + 3) hN g g' ha hc
  have p60 : powOk 10 60 = true := by decide
  unfold tailB
  simp [m1, m2, dv, e1]
  refine roll hD (by omega) (by decide) (Sz.lit _ _ (by decide)) fun x s4 v0 v1 d4 => ?_
  have zx : Sz 8 x := by unfold Sz; omega
  have m3 := mulOk_of g'.szt zx (by decide)
  have lo : callN G N T (k + 9) 20 [.int (c * x), .int d] s4 = .ok (fr (l1 (c * x) d) (l2 (c * x) d)) s4 := lawLow_eq rfl g'.ne (g'.szb.mono (by decide)) ((g'.szt.mul zx).mono (by decide)) hN
  have c60 : (10 : Int) ^ 60 = 1000000000000000000000000000000000000000000000000000000000000 := by decide
  simp [m3, lo, p60]
  by_cases big : (1000000000000000000000000000000000000000000000000000000000000 : Int) ≤ max (l1 (c * x) d) (l2 (c * x) d)
  · simp [big]
    exact d4
  · obtain ⟨b1, b2⟩ := low_back (t := c * x) hd
    have p2 := l2_pos (t := c * x) g'.ne
    have hg := gc_pos (t := c * x) g'.ne
    have l0 : 0 ≤ l1 (c * x) d := by
      unfold l1
      rw [if_neg (by omega)]
      exact Int.ediv_nonneg (Int.mul_nonneg (Int.le_of_lt hc) v0) (Int.le_of_lt hg)
    have gg : Good (l1 (c * x) d) (l2 (c * x) d) := good_iff.mpr ⟨⟨by omega, by omega⟩, ⟨p2, by omega⟩, low_frac g'.ne⟩
    have e2 : callN G N T (k + 9) 16 [fr (l1 (c * x) d) (l2 (c * x) d), fr c d] s4 = .ok (.int ((l1 (c * x) d * d + l2 (c * x) d * c - 1) / (l2 (c * x) d * c))) s4 := steps_eq (k := k + 3) hN gg g' l0 hc
    have hy2 : 0 < l2 (c * x) d * c := Int.mul_pos p2 hc
    have key : l1 (c * x) d * d = x * (l2 (c * x) d * c) := by
      have e3 : l1 (c * x) d * d = l1 (c * x) d * (gc' (c * x) d * l2 (c * x) d) := by rw [← b2]
      have e4 : l1 (c * x) d * (gc' (c * x) d * l2 (c * x) d) = (gc' (c * x) d * l1 (c * x) d) * l2 (c * x) d := by rw [← Int.mul_assoc, Int.mul_comm (l1 (c * x) d)]
      rw [e3, e4, ← b1, Int.mul_comm c x, Int.mul_assoc, Int.mul_comm c]
    have fin : (l1 (c * x) d * d + l2 (c * x) d * c - 1) / (l2 (c * x) d * c) = x := by
      rw [key]
      have e5 : x * (l2 (c * x) d * c) + l2 (c * x) d * c - 1 = (l2 (c * x) d * c - 1) + x * (l2 (c * x) d * c) := by omega
      rw [e5, Int.add_mul_ediv_right _ _ (Int.ne_of_gt hy2), Int.ediv_eq_zero_of_lt (by omega) (by omega), Int.zero_add]
    rw [fin] at e2
    simp [big, e2]
    exact d4
theorem right {n r : Nat} {st0 st : Store} (hc : Cld st0) (hd : Dice n r st0 st) (hn : n < 2 ^ 57) {Q : D → Store → Prop} {u : Du Q} (h : ∀ st', Dice (n + 50) r st0 st' → Q (.bl true) st') : Ok (callN G N T (k + 10) 27 [.ref r] st) Q u := by
  refine Ok_call (np := 1) (ns := 10) rfl rfl ?_
  simp [-execSs_cons]
  rw [execSs_cons]
  simp [-execSs_cons]
  refine stretch hN hd (by omega) fun a b c d s1 g1 g2 le d1 => ?_
  have c1 := d1.cld hc
  obtain ⟨h0, h1, B, e1, e2⟩ := both hN g1 g2 le
  have q1 : callN G N T (k + 9) 15 [fr a b, fr c d] s1 = .ok (fr h0 h1) s1 := simplest_eq (k := k + 1) hN g1 g2 le (e1 (k + 1) s1 c1)
  have q2 : callN G N T (k + 9) 24 [fr a b, fr c d] s1 = .ok (fr h0 h1) s1 := e2 (k + 6) s1 c1
  have q3 : callN G N T (k + 9) 22 [fr h0 h1, fr a b] s1 = .ok (.bl (decide (h0 * b < a * h1))) s1 := lbelow (B.z0.mono (by decide)) (B.z1.mono (by decide)) (g1.szt.mono (by decide)) (g1.szb.mono (by decide))
  have q4 : callN G N T (k + 9) 22 [fr c d, fr h0 h1] s1 = .ok (.bl (decide (c * h1 < h0 * d))) s1 := lbelow (g2.szt.mono (by decide)) (g2.szb.mono (by decide)) (B.z0.mono (by decide)) (B.z1.mono (by decide))
  have n1 : ¬ h0 * b < a * h1 := by have := B.lo; omega
  have n2 : ¬ c * h1 < h0 * d := by have := B.hi; omega
  simp [-execSs_cons]
  rw [execSs_cons]
  simp [-execSs_cons, q1]
  rw [execSs_cons]
  simp [-execSs_cons, execSs_one, q2, q3, q4, n1, n2]
  have tl : ∀ x1 x2 x3 : Option D, Ok (execSs (callN G N T (k + 9)) G N (.cons (.par 4 5 (.call 23 (.cons (.slot 0) .nil)) (.call 23 (.cons (.slot 0) .nil))) (.cons (.par 4 5 (.tup (.cons (.blt .abs (.cons (.idx (.slot 4) (.con (.int 0))) .nil)) (.cons (.idx (.slot 4) (.con (.int 1))) .nil))) (.tup (.cons (.blt .max2 (.cons (.con (.int 1)) (.cons (.blt .abs (.cons (.idx (.slot 5) (.con (.int 0))) .nil)) .nil))) (.cons (.ife (.cmp .NotEq (.idx (.slot 5) (.con (.int 0))) (.con (.int 0))) (.idx (.slot 5) (.con (.int 1))) (.con (.int 1))) .nil)))) tailB)) [some (.ref r), x1, x2, x3, none, none, none, none, none, none] s1) fun fl st' => fl = .rt (.bl true) ∧ Dice (n + 50) r st0 st' := by
    intro x1 x2 x3
    rw [execSs_cons]
    simp [-execSs_cons]
    refine drawn hN d1 (by omega) fun a b s2 g1 d2 => ?_
    simp [-execSs_cons]
    refine drawn hN d2 (by omega) fun c d s3 g2 d3 => ?_
    rw [execSs_cons]
    have ga : Good (a.natAbs : Int) b := by
      obtain ⟨y1, y2, y3⟩ := good_iff.mp g1
      exact good_iff.mpr ⟨⟨by omega, by omega⟩, y2, ⟨y3.pos, by have := y3.one; simpa [Int.gcd] using this⟩⟩
    have f1 : D.tup [.int (a.natAbs : Int), .int b] = fr (a.natAbs : Int) b := rfl
    by_cases z : c = 0
    · have f2 : D.tup [.int 1, .int 1] = fr 1 1 := rfl
      simp [-execSs_cons, z, f1, f2]
      exact (tail_ok hN d3 (by omega) ga (by unfold Good; decide) (by omega) (by decide)).mono fun fl st' h => ⟨h.1, h.2.mono (by omega)⟩
    · have f2 : D.tup [.int (max 1 (c.natAbs : Int)), .int d] = fr (max 1 (c.natAbs : Int)) d := rfl
      have gm : Good (max 1 (c.natAbs : Int)) d := by
        have e : max 1 (c.natAbs : Int) = c.natAbs := by omega
        rw [e]
        obtain ⟨y1, y2, y3⟩ := good_iff.mp g2
        exact good_iff.mpr ⟨⟨by omega, by omega⟩, y2, ⟨y3.pos, by have := y3.one; simpa [Int.gcd] using this⟩⟩
      simp [-execSs_cons, z, f1, f2]
      exact (tail_ok hN d3 (by omega) ga gm (by omega) (by omega)).mono fun fl st' h => ⟨h.1, h.2.mono (by omega)⟩
  rw [execSs_cons]
  by_cases sm : h1 < 300
  · have q5 : callN G N T (k + 9) 26 [fr a b, fr c d, .int h1] s1 = .ok (.bl false) s1 := lesser_eq hN g1 g2 B sm
    simp [-execSs_cons, execSs_one, sm, q5]
    refine (tl _ _ _).mono ?_
    rintro fl st' ⟨rfl, hD⟩
    exact ⟨by rw [hD.len, hd.len]; exact Nat.le_refl _, h _ hD⟩
  · simp [-execSs_cons, execSs_one, sm]
    refine (tl _ _ _).mono ?_
    rintro fl st' ⟨rfl, hD⟩
    exact ⟨by rw [hD.len, hd.len]; exact Nat.le_refl _, h _ hD⟩
def IO (x : D) (i : Nat) (Γ : List (Option D)) (st' : Store) : Prop := Cld st' ∧ ∃ o1 o2 o3, Γ = [some x, o1, o2, o3, none]
def IT (x s : D) (r : Nat) (st1 : Store) (i : Nat) (Γ : List (Option D)) (st' : Store) : Prop := ∃ o3, Γ = [some x, some s, some (.ref r), o3, none] ∧ Dice (50 * i) r st1 st'
omit hN in
theorem rng_len (lo : Int) (n : Nat) : (rngD lo n).length = n := by unfold rngD; simp
omit hN in
def okB (s : S4) : Bool := (decide (0 < s.a) && decide (0 < s.b)) && (decide (0 < s.c) && decide (0 < s.d)) && (decide (s.a * s.d ≤ s.c * s.b) && (decide (Int.gcd s.a s.b = 1) && decide (Int.gcd s.c s.d = 1)))
omit hN in
theorem ok_of {s : S4} (h : okB s = true) : s.Ok := by
  unfold okB at h
  simp only [Bool.and_eq_true, decide_eq_true_eq] at h
  obtain ⟨⟨⟨h1, h2⟩, h3, h4⟩, h5, h6, h7⟩ := h
  exact ⟨h1, h2, h3, h4, h5, h6, h7⟩
omit hN in
theorem good_of {t b : Int} (h : isFr (fr t b) = true) : Good t b := h
theorem pos_eq {a b c d g0 g1 : Int} (o : S4.Ok ⟨a, b, c, d⟩) (g : Good1 ⟨a, b, c, d⟩ g0 g1) (G1 : Good a b) (G2 : Good c d) (hc : Cld st) : CL N (k + 8) 15 [.tup [.int a, .int b], .tup [.int c, .int d]] st = .ok (fr g0 g1) st := by
  have le : a * d ≤ c * b := o.le
  have n200 : ((2 ^ 200 : Nat) : Int) = (2 : Int) ^ 200 := by decide
  obtain ⟨ba, bb⟩ := good_lt G1
  obtain ⟨bc, bd⟩ := good_lt G2
  have B : S4.B ⟨a, b, c, d⟩ (2 ^ 200) := ⟨by show a < _; omega, bb, by show c < _; omega, bd⟩
  obtain ⟨h0, h1, gg, e1, e2⟩ := simp_both hN o B
  obtain ⟨rfl, rfl⟩ := good1_uniq g gg
  refine simplest_eq hN G1 G2 le (ok_eq (Ok_call (np := 2) (ns := 3) rfl rfl ?_))
  have a0 : 0 < a := o.a0
  have na : ¬ a ≤ 0 := by omega
  simp [na, a0, e1 k st hc]
theorem neg_eq {a b c d g0 g1 : Int} (o : S4.Ok ⟨-c, d, -a, b⟩) (g : Good1 ⟨-c, d, -a, b⟩ g0 g1) (G1 : Good a b) (G2 : Good c d) (hc : Cld st) : CL N (k + 8) 15 [.tup [.int a, .int b], .tup [.int c, .int d]] st = .ok (fr (-g0) g1) st := by
  have le0 : -c * b ≤ -a * d := o.le
  rw [Int.neg_mul, Int.neg_mul] at le0
  have le : a * d ≤ c * b := by omega
  have n200 : ((2 ^ 200 : Nat) : Int) = (2 : Int) ^ 200 := by decide
  obtain ⟨ba, bb⟩ := good_lt G1
  obtain ⟨bc, bd⟩ := good_lt G2
  have B : S4.B ⟨-c, d, -a, b⟩ (2 ^ 200) := ⟨by show -c < _; omega, bd, by show -a < _; omega, bb⟩
  obtain ⟨h0, h1, gg, e1, e2⟩ := simp_both hN o B
  obtain ⟨rfl, rfl⟩ := good1_uniq g gg
  refine simplest_eq hN G1 G2 le (ok_eq (Ok_call (np := 2) (ns := 3) rfl rfl ?_))
  have c0 : 0 < -c := o.a0
  have a0 : 0 < -a := o.c0
  have nc : ¬ 0 ≤ c := by omega
  have na : a ≤ 0 := by omega
  have na' : ¬ 0 < a := by omega
  have e1 := e1 k st hc
  have f1 : D.tup [.int (-c), .int d] = fr (-c) d := rfl
  have f2 : D.tup [.int (-a), .int b] = fr (-a) b := rfl
  simp [na, na', nc, f1, f2, e1]
  rfl
theorem law_ok {ns : List Int} (hl : ns.length ≤ 63) (hst : Cld st) {Q : D → Store → Prop} {u : Du Q} (h : ∀ st', Q (.bl true) st') : Ok (callN G N T (k + 11) 28 [.lst (ns.map .int)] st) Q u := by
  refine Ok_call0 (np := 1) (ns := 5) rfl rfl ?_
  have z1 : -4611686018427387904 ≤ max 1 (min 4 (ns.length : Int)) := by omega
  have z2 : max 1 (min 4 (ns.length : Int)) < 4611686018427387904 := by omega
  simp [z1, z2]
  refine forF_ok (I := IO (.lst (ns.map .int))) ?_ ?_ ⟨hst, none, none, none, rfl⟩
  · rintro i x Γ st1 hx ⟨hc1, o1, o2, o3, rfl⟩
    obtain ⟨rfl, hi⟩ : x = .int i ∧ i < 1000 := by
      have h1 := (List.getElem?_eq_some_iff.mp hx).1
      rw [rng_len] at h1
      have h2 := rngD_get hx
      exact ⟨by rw [h2]; simp, by omega⟩
    simp
    refine diceK_ok rfl (by omega) (by omega) fun l s hl0 => ?_
    simp
    have hr : st1.length < (st1 ++ [Cell.lst [.int l, .int s, .int 0]]).length := by simp
    have hc2 : Cld (st1 ++ [Cell.lst [.int l, .int s, .int 0]]) := hc1.push rfl
    refine forF_ok (I := IT (.lst (ns.map .int)) (.int i) st1.length (st1 ++ [.lst [.int l, .int s, .int 0]])) ?_ ?_ ⟨o3, rfl, l, s, 0, hr, by simp, hl0, by omega, by omega⟩
    · rintro j y Γ st2 hy ⟨o3, rfl, hD⟩
      have hj : j < 8 := by
        have h1 := (List.getElem?_eq_some_iff.mp hy).1
        rw [rng_len] at h1
        simpa using h1
      simp
      refine right hN hc2 hD (by omega) fun st3 hD3 => ?_
      simp
      exact ⟨_, rfl, hD3.mono (by omega)⟩
    · rintro Γ st2 ⟨o3, rfl, hD⟩
      simp
      exact ⟨hD.cld hc2, _, _, _, rfl⟩
  · rintro Γ st1 ⟨hc1, o1, o2, o3, rfl⟩
    have stop : ∀ {s : S4}, okB s = true → decide s.goes = false → Good1 s s.n 1 := fun h g => good_stop (ok_of h) (of_decide_eq_false g)
    have back : ∀ {s : S4} {g0 g1 : Int}, okB s = true → decide s.goes = true → Good1 s.next g0 g1 → Good1 s (s.h * g0 + g1) g0 := fun h g x => good_back (ok_of h) (of_decide_eq_true g) x
    have q1 : callN G N T (k + 10) 15 [.tup [.int 3, .int 10], .tup [.int 2, .int 5]] st1 = .ok (fr 1 3) st1 := pos_eq (k := k + 2) hN (ok_of (by decide)) (back (by decide) (by decide) (stop (by decide) (by decide))) (good_of (by decide)) (good_of (by decide)) hc1
    have q2 : callN G N T (k + 10) 15 [.tup [.int (-7), .int 2], .tup [.int (-2), .int 1]] st1 = .ok (fr (-2) 1) st1 := neg_eq (k := k + 2) hN (ok_of (by decide)) (stop (by decide) (by decide)) (good_of (by decide)) (good_of (by decide)) hc1
    have q3 : callN G N T (k + 10) 15 [.tup [.int (-1), .int 3], .tup [.int 5, .int 1]] st1 = .ok (fr 0 1) st1 := by
      refine simplest_eq (k := k + 2) (a := -1) (b := 3) (c := 5) (d := 1) hN (good_of (by decide)) (good_of (by decide)) (by decide) (ok_eq (Ok_call (np := 2) (ns := 3) rfl rfl ?_))
      have g2 : G 2 = fr 0 1 := rfl
      simp [g2]
    have q4 : callN G N T (k + 10) 15 [.tup [.int 5, .int 7], .tup [.int 5, .int 7]] st1 = .ok (fr 5 7) st1 := pos_eq (k := k + 2) hN (ok_of (by decide)) (back (by decide) (by decide) (back (by decide) (by decide) (back (by decide) (by decide) (stop (by decide) (by decide))))) (good_of (by decide)) (good_of (by decide)) hc1
    have q5 : callN G N T (k + 10) 15 [.tup [.int 2, .int 7], .tup [.int 3, .int 7]] st1 = .ok (fr 1 3) st1 := pos_eq (k := k + 2) hN (ok_of (by decide)) (back (by decide) (by decide) (stop (by decide) (by decide))) (good_of (by decide)) (good_of (by decide)) hc1
    have q6 : callN G N T (k + 10) 15 [.tup [.int 311, .int 100], .tup [.int 157, .int 50]] st1 = .ok (fr 25 8) st1 := pos_eq (k := k + 2) hN (ok_of (by decide)) (back (by decide) (by decide) (stop (by decide) (by decide))) (good_of (by decide)) (good_of (by decide)) hc1
    have q7 : callN G N T (k + 10) 16 [.tup [.int 1, .int 1], .tup [.int 2, .int 7]] st1 = .ok (.int 4) st1 := steps_eq (k := k + 4) (a := 1) (b := 1) (c := 2) (d := 7) hN (good_of (by decide)) (good_of (by decide)) (by decide) (by decide)
    have q8 : callN G N T (k + 10) 16 [.tup [.int 0, .int 1], .tup [.int 2, .int 7]] st1 = .ok (.int 0) st1 := steps_eq (k := k + 4) (a := 0) (b := 1) (c := 2) (d := 7) hN (good_of (by decide)) (good_of (by decide)) (by decide) (by decide)
    simp [q1, q2, q3, q4, q5, q6, q7, q8, fr]
    exact h
end
def depth : Nat := 11
theorem math : ∀ ns : List Int, ns.length ≤ 63 → ∃ N st, callN pg.G N pg.T depth law_ix [.lst (ns.map .int)] [] = .ok (.bl true) st := fun ns hl => by
  have := law_ok (N := 2 ^ 1900) (k := 0) (st := []) (Nat.le_refl _) hl rfl (Q := fun d _ => d = .bl true) (u := .mk) fun _ => rfl
  obtain ⟨d, st, e, rfl⟩ := this.ex
  exact ⟨_, st, e⟩
end Lk01

set_option Elab.async false
set_option linter.all false
set_option maxRecDepth 100000
set_option maxHeartbeats 0
set_option autoImplicit false
/-! K01_C: the look at the text, the head's run. -/
namespace Lk01
open PySem PySem.Spec PyProof.Rows L2 DL
def sts (f : Nat) : Stmt := PySem.Challenge.pw_anymargin_k01_whole_simplest_ones_and_st.main.body.getD (ixs.getD f 0) (.Pass ⟨0, 0, 0, 0⟩)
theorem looked : chkF pg sts 0 pg.defs = true := by decide +kernel
abbrev R : PySem.W.OpenRow := PySem.W.OpenLaw.row PySem.Challenge.rw_anymargin_k01_whole_simplest_ones_and_st
abbrev hk : PySem.W.Hook := hookC 5 (faL pg) (fnL pg sts) (gsL pg)
def ob (s : PySem.W.SharedT) : He.Al := obsCG 5 (faL pg) (fnL pg sts) (gsL pg) (HandSHeadRun.getT s)
theorem ob_eq (s : PySem.W.SharedT) : ob s = hk.obs s.abs := obsCG_eq (HandSHeadRun.getT_eq s)
theorem run (w : World) : HandSHeadRun.RunEq R (PySem.W.view R.prog [39]) hk ob 4000 loose w := by
  intro os
  kernel_rfl
end Lk01

open PySem PySem.W PySem.Calls PyProof.Rows
theorem PySem.Challenge.cw_anymargin_k01_whole_simplest_ones_and_st_holds : PySem.Challenge.rw_anymargin_k01_whole_simplest_ones_and_st.Holds := by
  w_on; o_law
  refine HandSHeadRun.head_any (r := OpenLaw.row PySem.Challenge.rw_anymargin_k01_whole_simplest_ones_and_st) (q := view (OpenLaw.row PySem.Challenge.rw_anymargin_k01_whole_simplest_ones_and_st).prog [39]) (H := Lk01.hk) (ob := Lk01.ob) (M := 4000) (loose := Lk01.loose) (d := HandSHeadRun.topDef (OpenLaw.row PySem.Challenge.rw_anymargin_k01_whole_simplest_ones_and_st).prog 39) (kwd := []) Lk01.ob_eq
    (by kernel_rfl) (fun s => by kernel_rfl) Lk01.run (by kernel_rfl) (by kernel_rfl) (by kernel_rfl) (by rfl) (by first | assumption | decide +kernel) (by decide +kernel) ⟨rfl, rfl, rfl, rfl, rfl, by decide +kernel⟩ ?hw ?hc
  case hw => w_witness2
  case hc =>
    refine L2.walk_ofE (l := PySem.Challenge.rw_anymargin_k01_whole_simplest_ones_and_st) (n := 63) (k := Lk01.depth) (x := "_law_script") (CX := L2.CX0) rfl (by decide) (by kernel_rfl) ⟨rfl, by decide, by decide⟩ ?F (fun _ _ _ _ z => z)
    intro w mg fa h Y G hmg0
    have hmg : mg ("law" : PySem.Str) = some (.ref fa) := by
      have e : (HandSHeadRun.topDef (OpenLaw.row PySem.Challenge.rw_anymargin_k01_whole_simplest_ones_and_st).prog 39).name = ("law" : PySem.Str) := by kernel_rfl
      rw [← e]
      exact hmg0
    exact DL.law_F (P := (PySem.Challenge.rw_anymargin_k01_whole_simplest_ones_and_st).prog) (p := Lk01.pg) (sts := Lk01.sts) (fl := Lk01.law_ix) (k := Lk01.depth) (x := "_law_script") rfl rfl Lk01.looked Lk01.math w mg fa h Y G hmg
