import PyProof.Rows.All
import Wide.All
import OpenK.AllK
import Wide.FinOn
import HandS.ForMost
import HandS.Conv
import HandS.TupAny
import HandS.TupMul
import HandS.Wide
import HandS.Deep
import HandS.TupLe
import HandS.IsInst
import HandS.RaiseMore
import HandS.Comp
import HandS.Flow
import HandS.Exc
import HandS.ExcOwn
import HandS.TryMany
import HandS.Zip
import HandS.Dict
import HandS.ExcIs
import HandS.Defaults
import HandS.SortRule
import HandS.Head0
import HandS.Head1
import HandS.Head2
import HandS.HeadEnd
import HandS.HeadHook1
import HandS.HeadHook2
import HandS.HeadHook3
import HandS.HeadHook4
import PySem.Challenge.RW_oddsheld_k27_whole_small_tables_by_own_l
set_option Elab.async false
set_option linter.all false
set_option maxRecDepth 100000
/-! Ev0: a small syntax for Python, plain data, and a functional evaluator. -/
namespace Ev
open PySem

/-! ### data -/
/-- fz: the script (a list that nobody writes); ref d k: the k-th changeable thing made by the frame at depth d -/
inductive D where
  | non | bl (b : Bool) | int (i : Int) | str (s : Str)
  | tup (xs : List D) | lst (xs : List D) | fz (xs : List Int)
  | dct (kvs : List (Str × D)) | ref (d k : Nat)
  deriving Inhabited
inductive Cel where
  | lst (xs : List D) | dct (kvs : List (Str × D))
  deriving Inhabited
/-- the frames' changeable things: cur of the running def, out of its callers (the nearest first) -/
structure S where
  out : List (List Cel)
  cur : List Cel
abbrev S.dep (s : S) : Nat := s.out.length
def getA : List (List Cel) → List Cel → Nat → Nat → Option Cel
  | [], cur, d, k => if d = 0 then cur[k]? else none
  | c :: o, cur, d, k => if d = o.length + 1 then cur[k]? else getA o c d k
def setA : List (List Cel) → List Cel → Nat → Nat → Cel → List (List Cel) × List Cel
  | [], cur, d, k, x => ([], if d = 0 then cur.set k x else cur)
  | c :: o, cur, d, k, x => if d = o.length + 1 then (c :: o, cur.set k x) else let r := setA o c d k x; (r.2 :: r.1, cur)
def S.get (s : S) (d k : Nat) : Option Cel := getA s.out s.cur d k
def S.set (s : S) (d k : Nat) (x : Cel) : S := let r := setA s.out s.cur d k x; ⟨r.1, r.2⟩

mutual
/-- no reference to depth d or deeper -/
def D.shal (d : Nat) : D → Bool
  | .non | .bl _ | .int _ | .str _ | .fz _ => true
  | .tup xs | .lst xs => shals d xs
  | .dct kvs => shalk d kvs
  | .ref e _ => decide (e < d)
def shals (d : Nat) : List D → Bool
  | [] => true
  | x :: xs => x.shal d && shals d xs
def shalk (d : Nat) : List (Str × D) → Bool
  | [] => true
  | (_, x) :: xs => x.shal d && shalk d xs
end
def Cel.shal (d : Nat) : Cel → Bool
  | .lst xs => shals d xs
  | .dct kvs => shalk d kvs

/-! ### results -/
inductive R (α : Type) where
  | ok (a : α) (s : S) | exc (c : Nat) (s : S) | stuck
def R.bind {α β : Type} (r : R α) (f : α → S → R β) : R β := match r with
  | .ok a s => f a s
  | .exc c s => .exc c s
  | .stuck => .stuck
@[simp] theorem R.bind_ok {α β : Type} (a : α) (s : S) (f : α → S → R β) : (R.ok a s).bind f = f a s := rfl
@[simp] theorem R.bind_exc {α β : Type} (c : Nat) (s : S) (f : α → S → R β) : (R.exc c s : R α).bind f = .exc c s := rfl
@[simp] theorem R.bind_stuck {α β : Type} (f : α → S → R β) : (R.stuck : R α).bind f = .stuck := rfl
def R.opt {α : Type} (o : Option α) (s : S) : R α := match o with
  | some a => .ok a s
  | none => .stuck
@[simp] theorem R.opt_some {α : Type} (a : α) (s : S) : R.opt (some a) s = .ok a s := rfl
@[simp] theorem R.opt_none {α : Type} (s : S) : (R.opt none s : R α) = .stuck := rfl
abbrev Env := List (Option D)
inductive RS where
  | next (e : Env) (s : S) | ret (d : D) (s : S) | brk (e : Env) (s : S) | cont (e : Env) (s : S) | exc (c : Nat) (e : Env) (s : S) | stuck

/-! ### equality and order of plain data -/
mutual
/-- as Python's == on plain data (no dicts, no references) -/
def D.eqv : D → D → Bool
  | .non, .non => true
  | .bl a, .bl b => a == b
  | .bl a, .int j => (if a then 1 else 0) == j
  | .int i, .bl b => i == (if b then 1 else 0)
  | .int i, .int j => i == j
  | .str x, .str y => x == y
  | .lst xs, .lst ys => eqvs xs ys
  | .tup xs, .tup ys => eqvs xs ys
  | _, _ => false
def eqvs : List D → List D → Bool
  | [], [] => true
  | x :: xs, y :: ys => x.eqv y && eqvs xs ys
  | _, _ => false
end
mutual
/-- plain data at most n deep -/
def D.plain : Nat → D → Bool
  | _, .non | _, .bl _ | _, .int _ => true
  | _, .str x => x.cps.all fun c => decide (c < 0x110000)
  | n + 1, .lst xs | n + 1, .tup xs => plains n xs
  | _, _ => false
def plains : Nat → List D → Bool
  | _, [] => true
  | n, x :: xs => x.plain n && plains n xs
end
mutual
/-- x < y: ints, texts, tuples -/
def D.lt : D → D → Option Bool
  | .int i, .int j => some (decide (i < j))
  | .tup xs, .tup ys => lts xs ys
  | _, _ => none
def lts : List D → List D → Option Bool
  | [], [] => some false
  | [], _ :: _ => some true
  | _ :: _, [] => some false
  | x :: xs, y :: ys => match lts xs ys with
    | none => none
    | some b => if x.eqv y = true then some b else x.lt y
end

/-! ### the syntax -/
inductive Op2 where | add | sub | mul | fdiv | mod | pow
  deriving DecidableEq
inductive Cm where | eq | ne | lt | le | gt | ge | is | isNot | isIn | notIn
  deriving DecidableEq
inductive Ty where | int | bool | str | tuple | list | dict
  deriving DecidableEq
inductive Bi where
  | len | abs | int | min | max | sum | all | tuple | list | sorted | dict | repr
  deriving DecidableEq
inductive Me where
  | append | extend | remove | pop | get
  deriving DecidableEq
/-- what a loop or a comprehension stores to -/
inductive Tg where | one (i : Nat) | two (i j : Nat)
mutual
inductive E where
  | loc (i : Nat) | cst (c : D) | gc (g : Nat)
  | tup (es : List E) | lst (es : List E)
  /-- a list that is changed: a new cell -/
  | cell (e : E)
  | bin (o : Op2) (a b : E) | neg (a : E)
  | nt (a : E) | and (a b : E) | or (a b : E)
  | cmp (o : Cm) (a b : E) | chain (o p : Cm) (a b c : E)
  | ite (c a b : E)
  | call (f : Nat) (es : List E)
  | bi (b : Bi) (es : List E)
  | isi (a : E) (ts : List Ty)
  | me (m : Me) (o : E) (es : List E)
  | idx (a i : E) | sl (a : E) (lo hi : Option E) | rev (a : E)
  | comp (elt : E) (t : Tg) (it : It) (cond : Option E)
  /-- {'k': e} -/
  | dct1 (k : Str) (e : E)
inductive It where
  | ex (e : E) | rng1 (e : E) | rng2 (a b : E) | zip (a b : E)
end
inductive St where
  | set (i : Nat) (e : E)
  | par (is : List Nat) (es : List E)
  | unp (is : List Nat) (e : E)
  | aug (i : Nat) (o : Op2) (e : E)
  | sto (o i e : E)
  | ex (e : E)
  | ret (e : Option E)
  | ite (c : E) (a b : List St)
  | wh (c : E) (b : List St)
  | fo (t : Tg) (it : It) (b : List St)
  | pass | brk | cont
  | raise (c : Nat)
  | tr (b : List St) (hs : List (Nat × E))
  /-- except j as (slot i): return e, where the exception is of all classes ms -/
  | trA (b : List St) (j i : Nat) (ms : List Nat) (e : E)
structure Def where
  np : Nat
  ns : Nat
  keep : Bool
  body : List St

/-! ### values -/
/-- a changeable thing as it stands now -/
def S.view (s : S) : D → D
  | .ref d k => match s.get d k with
    | some (.lst xs) => .lst xs
    | some (.dct kvs) => .dct kvs
    | none => .ref d k
  | x => x
def truth (s : S) (x : D) : Option Bool := match s.view x with
  | .non => some false
  | .bl b => some b
  | .int i => some (i != 0)
  | .str x => if x.length ≤ 1000000 then some (x.length != 0) else none
  | .tup xs => some (!xs.isEmpty)
  | .lst xs => some (!xs.isEmpty)
  | .fz xs => some (!xs.isEmpty)
  | _ => none
/-- lists and tuples are at most so long -/
def LIM : Nat := 1000000
/-- how great factors may be -/
def BIG : Nat := 2 ^ 400000
def mulOk (i j : Int) : Prop := i.natAbs < 2 ^ 64 ∨ j.natAbs < 2 ^ 64 ∨ (i.natAbs < BIG ∧ j.natAbs < BIG)
instance (i j : Int) : Decidable (mulOk i j) := by unfold mulOk; exact inferInstance
def divOk (j : Int) : Prop := j ≠ 0 ∧ j.natAbs < 2 ^ 8999
instance (j : Int) : Decidable (divOk j) := by unfold divOk; exact inferInstance
def repD (xs : List D) : Nat → List D
  | 0 => []
  | k + 1 => xs ++ repD xs k
def binD (s : S) : Op2 → D → D → Option D
  | .add, .int i, .int j => some (.int (i + j))
  | .sub, .int i, .int j => some (.int (i - j))
  | .mul, .int i, .int j => if mulOk i j then some (.int (i * j)) else none
  | .fdiv, .int i, .int j => if divOk j then some (.int (i.fdiv j)) else none
  | .mod, .int i, .int j => if j = 0 then none else some (.int (i.fmod j))
  | .pow, .int i, .int j => if 0 ≤ j ∧ j ≤ 1000000 ∧ i.natAbs < 2 ^ 64 then some (.int (i ^ j.toNat)) else none
  | .add, .tup xs, .tup ys => if xs.length + ys.length ≤ LIM then some (.tup (xs ++ ys)) else none
  | .add, .str x, .str y => if x.length + y.length ≤ LIM then some (.str (x ++ y)) else none
  | .mul, .tup xs, .int k => if 1 ≤ k ∧ k ≤ 1000 ∧ xs ≠ [] ∧ xs.length ≤ 1000 then some (.tup (repD xs k.toNat)) else none
  | .add, x, y => match s.view x, s.view y with
    | .lst xs, .lst ys => if xs.length + ys.length ≤ LIM then some (.lst (xs ++ ys)) else none
    | _, _ => none
  | _, _, _ => none
def eqD (s : S) (x y : D) : Option Bool := if (s.view x).plain 60 && (s.view y).plain 60 then some ((s.view x).eqv (s.view y)) else none
/-- what is walked or asked by place -/
def items (s : S) (x : D) : Option (List D) := match s.view x with
  | .tup xs => some xs
  | .lst xs => some xs
  | .fz ns => some (ns.map .int)
  | _ => none
def lookK (kvs : List (Str × D)) (x : Str) : Option D := match kvs with
  | [] => none
  | (k, v) :: r => if k = x then some v else lookK r x
/-- a sign within a text -/
def signIn (x y : Str) : Option Bool := if x.length = 1 ∧ y.length ≤ LIM then some (decide (x.cps.toList.headD 0 ∈ y.cps.toList)) else none
def inD (s : S) (x y : D) : Option Bool := match s.view y with
  | .tup ys => if x.plain 60 && plains 60 ys then some (ys.any fun z => z.eqv x) else none
  | .lst ys => if x.plain 60 && plains 60 ys then some (ys.any fun z => z.eqv x) else none
  | .str y => match x with
    | .str x => signIn x y
    | _ => none
  | _ => none
/-- the order of two rows of ints -/
def lexLe : List Int → List Int → Bool
  | [], _ => true
  | _ :: _, [] => false
  | x :: xs, y :: ys => if x = y then lexLe xs ys else decide (x ≤ y)
def intsD : List D → Option (List Int)
  | [] => some []
  | .int i :: r => (intsD r).map (i :: ·)
  | _ => none
def ltD (x y : D) : Option Bool := if x.plain 60 && y.plain 60 then x.lt y else none
def cmpD (s : S) : Cm → D → D → Option Bool
  | .eq, x, y => eqD s x y
  | .ne, x, y => (eqD s x y).map (!·)
  | .lt, x, y => ltD x y
  | .gt, .int i, .int j => some (decide (j < i))
  | .le, .int i, .int j => some (decide (i ≤ j))
  | .ge, .int i, .int j => some (decide (j ≤ i))
  | .le, .tup xs, .tup ys => (intsD xs).bind fun ns => (intsD ys).map fun ms => lexLe ns ms
  | .is, x, .non => match x with
    | .non => some true
    | _ => some false
  | .isNot, x, .non => match x with
    | .non => some false
    | _ => some true
  | .is, .bl a, .bl b => some (a == b)
  | .isNot, .bl a, .bl b => some (a != b)
  | .isIn, x, y => inD s x y
  | .notIn, x, y => (inD s x y).map (!·)
  | _, _, _ => none
def tyD (s : S) (x : D) : Ty → Bool := fun t => match s.view x, t with
  | .bl _, .bool => true
  | .bl _, .int => true
  | .int _, .int => true
  | .str _, .str => true
  | .tup _, .tuple => true
  | .lst _, .list => true
  | .fz _, .list => true
  | .dct _, .dict => true
  | _, _ => false
def allD : List D → Option Bool
  | [] => some true
  | .bl b :: r => (allD r).map (b && ·)
  | _ => none
/-- x into a sorted list, ahead of its equals -/
def insD (x : D) : List D → List D
  | [] => [x]
  | y :: ys => if (y.lt x).getD false = true then y :: insD x ys else x :: y :: ys
def isortD : List D → List D
  | [] => []
  | x :: xs => insD x (isortD xs)
mutual
/-- trees of whole numbers -/
def D.itree : D → Bool
  | .int _ => true
  | .tup xs => itrees xs
  | _ => false
def itrees : List D → Bool
  | [] => true
  | x :: xs => x.itree && itrees xs
end
def fstInt : D → Bool
  | .tup (.int _ :: _) => true
  | _ => false
def fstTup : D → Bool
  | .tup (.tup _ :: _) => true
  | _ => false
def sortD (xs : List D) : Option (List D) := if itrees xs = true ∧ (xs.all fun x => xs.all fun y => (x.lt y).isSome) = true ∧ (xs.length < 2 ∨ xs.all fstInt = true ∨ xs.all fstTup = true) then some (isortD xs) else none
def pairsD : List D → Option (List (Str × D))
  | [] => some []
  | .tup [.str x, v] :: r => (pairsD r).map ((x, v) :: ·)
  | _ => none
def biD (s : S) : Bi → List D → Option D
  | .len, [x] => match s.view x with
    | .str x => if x.length ≤ LIM then some (.int x.length) else none
    | _ => (items s x).map fun xs => .int xs.length
  | .abs, [.int i] => some (.int (if i < 0 then -i else i))
  | .int, [.int i] => some (.int i)
  | .int, [.bl b] => some (.int (if b then 1 else 0))
  | .min, [.int i, .int j] => some (.int (if j < i then j else i))
  | .max, [.int i, .int j] => some (.int (if j > i then j else i))
  | .sum, [x] => match s.view x with
    | .lst xs => (intsD xs).map fun ns => .int ns.sum
    | _ => none
  | .all, [x] => match s.view x with
    | .lst xs => (allD xs).map .bl
    | _ => none
  | .tuple, [x] => match s.view x with
    | .tup xs => some (.tup xs)
    | .lst xs => some (.tup xs)
    | _ => none
  | .list, [x] => (items s x).map .lst
  | .sorted, [x] => match s.view x with
    | .lst xs => if plains 60 xs then (sortD xs).map .lst else none
    | _ => none
  | .repr, [.int i] => if i.natAbs.log2 < 1920 then some (.str (toString i)) else none
  | .repr, [.bl b] => some (.str (if b then "True" else "False"))
  | .repr, [.str x] => if (reprText x).length ≤ LIM then some (.str (reprText x)) else none
  | _, _ => none
def ixD (n : Nat) (i : Int) : Option Nat := if 0 ≤ i then (if i < n then some i.toNat else none) else if -(n : Int) ≤ i then some (i + n).toNat else none
def idxD (s : S) (x i : D) : Option D := match i with
  | .int i => (match s.view x with
    | .str z => if z.length ≤ LIM then (ixD z.cps.toList.length i).bind fun j => (z.cps.toList[j]?).map fun c => .str ⟨#[c]⟩ else none
    | _ => (items s x).bind fun xs => (ixD xs.length i).bind fun j => xs[j]?)
  | _ => none
def clipD (n : Nat) (d : Nat) : Option Int → Nat
  | none => d
  | some i => if i < 0 then (i + n).toNat else min i.toNat n
def cutD (xs : List D) (lo hi : Option Int) : List D := (xs.drop (clipD xs.length 0 lo)).take (clipD xs.length xs.length hi - clipD xs.length 0 lo)
def slD (s : S) (x : D) (lo hi : Option Int) : Option D := match s.view x with
  | .tup xs => some (.tup (cutD xs lo hi))
  | .lst xs => some (.lst (cutD xs lo hi))
  | .fz ns => some (.lst (cutD (ns.map .int) lo hi))
  | .str z => if z.length ≤ LIM then some (.str ⟨((z.cps.toList.drop (clipD z.cps.toList.length 0 lo)).take (clipD z.cps.toList.length z.cps.toList.length hi - clipD z.cps.toList.length 0 lo)).toArray⟩) else none
  | _ => none
def revD (s : S) (x : D) : Option D := match s.view x with
  | .tup xs => some (.tup xs.reverse)
  | _ => none
/-- remove of the first that is equal -/
def remD (x : D) : List D → Option (List D)
  | [] => none
  | y :: ys => if y.eqv x then some ys else (remD x ys).map (y :: ·)
def isL (s : S) (x : D) : Bool := match s.view x with
  | .lst _ => true
  | _ => false
def meD (s : S) : Me → D → List D → R D
  | .append, .ref d k, [y] => match s.get d k with
    | some (.lst xs) => if xs.length < LIM ∧ y.shal (d + 1) then .ok .non (s.set d k (.lst (xs ++ [y]))) else .stuck
    | _ => .stuck
  | .extend, .ref d k, [y] => match s.get d k, s.view y with
    | some (.lst xs), .lst ys => if xs.length + ys.length ≤ LIM ∧ shals (d + 1) ys then .ok .non (s.set d k (.lst (xs ++ ys))) else .stuck
    | _, _ => .stuck
  | .remove, .ref d k, [y] => match s.get d k with
    | some (.lst xs) => if y.plain 60 && plains 60 xs then (match remD y xs with
      | some zs => .ok .non (s.set d k (.lst zs))
      | none => .stuck) else .stuck
    | _ => .stuck
  | .pop, .ref d k, [] => match s.get d k with
    | some (.lst xs) => (match xs.getLast? with
      | some y => .ok y (s.set d k (.lst xs.dropLast))
      | none => .stuck)
    | _ => .stuck
  | _, _, _ => .stuck
def stoD (s : S) : D → D → D → Option S
  | .ref d k, .int i, y => match s.get d k with
    | some (.lst xs) => (match ixD xs.length i with
      | some j => if y.shal (d + 1) then some (s.set d k (.lst (xs.set j y))) else none
      | none => none)
    | _ => none
  | _, _, _ => none
/-- a new cell of the running def -/
def newD (s : S) : D → R D
  | .lst xs => .ok (.ref s.dep s.cur.length) ⟨s.out, s.cur ++ [.lst xs]⟩
  | _ => .stuck
def numsD (lo : Int) (n : Nat) : List D := (List.range n).map fun i => .int (lo + (i : Nat))
def smallD (i : Int) : Prop := -(2 ^ 62) ≤ i ∧ i < 2 ^ 62
instance (i : Int) : Decidable (smallD i) := by unfold smallD; exact inferInstance
def zipD : List D → List D → List D
  | x :: xs, y :: ys => .tup [x, y] :: zipD xs ys
  | _, _ => []
def putT : Tg → D → Env → Option Env
  | .one i, x, e => some (e.set i (some x))
  | .two i j, .tup [x, y], e => some ((e.set i (some x)).set j (some y))
  | _, _, _ => none

/-! ### the evaluator -/
/-- what the text gives: constants of the module, how a def is called, which class is below which -/
structure Cfg where
  gc : Nat → Option D
  call : Nat → List D → S → R D
  sub : Nat → Nat → Bool
/-- an item list, and the cell that must stay as it is while it is walked -/
structure Wk where
  xs : List D
  g : Option (Nat × Nat × List D)
def walkD (s : S) (x : D) : Option Wk := match x with
  | .ref d k => match s.get d k with
    | some (.lst xs) => some ⟨xs, some (d, k, xs)⟩
    | _ => none
  | .tup xs => some ⟨xs, none⟩
  | .lst xs => some ⟨xs, none⟩
  | .fz ns => some ⟨ns.map .int, none⟩
  | _ => none
open Classical in
noncomputable def keptG (s : S) : Option (Nat × Nat × List D) → Bool
  | none => true
  | some (d, k, xs) => decide (s.get d k = some (.lst xs))
/-- the turns of a comprehension -/
noncomputable def compL (g : Option (Nat × Nat × List D)) (step : D → S → R (Option D)) : List D → S → R (List D)
  | [], s => .ok [] s
  | x :: xs, s => (step x s).bind fun o s1 => if keptG s1 g = true then (compL g step xs s1).bind fun ys s2 => match o with
    | some y => if ys.length < LIM then .ok (y :: ys) s2 else .stuck
    | none => .ok ys s2 else .stuck
def noExc {α : Type} : R α → R α
  | .ok a s => .ok a s
  | _ => .stuck
def getV (env : Env) (i : Nat) : Option D := (env[i]?).bind id
def intP : D → Option (Option Int)
  | .int i => some (some i)
  | _ => none
mutual
noncomputable def evE (c : Cfg) : E → Env → S → R D
  | .loc i, env, s => R.opt (getV env i) s
  | .cst d, _, s => .ok d s
  | .gc g, _, s => R.opt (c.gc g) s
  | .tup es, env, s => (evEs c es env s).bind fun xs s => if xs.length ≤ LIM then .ok (.tup xs) s else .stuck
  | .lst es, env, s => (evEs c es env s).bind fun xs s => if xs.length ≤ LIM then .ok (.lst xs) s else .stuck
  | .cell e, env, s => (evE c e env s).bind fun x s => newD s x
  | .bin o a b, env, s => (evE c a env s).bind fun x s => (evE c b env s).bind fun y s => R.opt (binD s o x y) s
  | .neg a, env, s => (evE c a env s).bind fun x s => match x with
    | .int i => .ok (.int (-i)) s
    | _ => .stuck
  | .nt a, env, s => (evE c a env s).bind fun x s => R.opt ((truth s x).map fun k => .bl (!k)) s
  | .and a b, env, s => (evE c a env s).bind fun x s => match truth s x with
    | some true => evE c b env s
    | some false => .ok x s
    | none => .stuck
  | .or a b, env, s => (evE c a env s).bind fun x s => match truth s x with
    | some true => .ok x s
    | some false => evE c b env s
    | none => .stuck
  | .cmp o a b, env, s => (evE c a env s).bind fun x s => (evE c b env s).bind fun y s => R.opt ((cmpD s o x y).map .bl) s
  | .chain o p a b d, env, s => (evE c a env s).bind fun x s => (evE c b env s).bind fun y s => match cmpD s o x y with
    | some true => (evE c d env s).bind fun z s => R.opt ((cmpD s p y z).map .bl) s
    | some false => .ok (.bl false) s
    | none => .stuck
  | .ite t a b, env, s => (evT c t env s).bind fun k s => if k = true then evE c a env s else evE c b env s
  | .call f es, env, s => (evEs c es env s).bind fun xs s => c.call f xs s
  | .bi b es, env, s => (evEs c es env s).bind fun xs s => R.opt (biD s b xs) s
  | .isi a ts, env, s => (evE c a env s).bind fun x s => .ok (.bl (ts.any (tyD s x))) s
  | .me m o es, env, s => (evE c o env s).bind fun x s => if isL s x = true then (evEs c es env s).bind fun ys s => meD s m x ys else .stuck
  | .idx a i, env, s => (evE c a env s).bind fun x s => (evE c i env s).bind fun y s => R.opt (idxD s x y) s
  | .sl a lo hi, env, s => (evE c a env s).bind fun x s => (evO c lo env s).bind fun l s => (evO c hi env s).bind fun h s => R.opt (slD s x l h) s
  | .rev a, env, s => (evE c a env s).bind fun x s => R.opt (revD s x) s
  | .dct1 k a, env, s => (evE c a env s).bind fun x s => .ok (.dct [(k, x)]) s
  | .comp elt t it none, env, s => (evI c it env s).bind fun w s =>
      (compL w.g (fun x s => match putT t x env with
        | none => .stuck
        | some env1 => noExc ((evE c elt env1 s).bind fun y s => .ok (some y) s)) w.xs s).bind fun ys s => .ok (.lst ys) s
  | .comp elt t it (some cd), env, s => (evI c it env s).bind fun w s =>
      (compL w.g (fun x s => match putT t x env with
        | none => .stuck
        | some env1 => noExc ((evT c cd env1 s).bind fun k s => if k = true then (evE c elt env1 s).bind fun y s => .ok (some y) s else .ok none s)) w.xs s).bind fun ys s => .ok (.lst ys) s
noncomputable def evEs (c : Cfg) : List E → Env → S → R (List D)
  | [], _, s => .ok [] s
  | e :: es, env, s => (evE c e env s).bind fun x s => (evEs c es env s).bind fun xs s => .ok (x :: xs) s
noncomputable def evO (c : Cfg) : Option E → Env → S → R (Option Int)
  | none, _, s => .ok none s
  | some e, env, s => (evE c e env s).bind fun x s => R.opt (intP x) s
noncomputable def evT (c : Cfg) : E → Env → S → R Bool
  | .nt a, env, s => (evT c a env s).bind fun k s => .ok (!k) s
  | .and a b, env, s => (evT c a env s).bind fun k s => if k = true then evT c b env s else .ok false s
  | .or a b, env, s => (evT c a env s).bind fun k s => if k = true then .ok true s else evT c b env s
  | .ite t a b, env, s => (evT c t env s).bind fun k s => if k = true then evT c a env s else evT c b env s
  | e, env, s => (evE c e env s).bind fun x s => R.opt (truth s x) s
noncomputable def evI (c : Cfg) : It → Env → S → R Wk
  | .ex e, env, s => (evE c e env s).bind fun x s => R.opt (walkD s x) s
  | .rng1 e, env, s => (evE c e env s).bind fun x s => match x with
    | .int j => if smallD j then .ok ⟨numsD 0 j.toNat, none⟩ s else .stuck
    | _ => .stuck
  | .rng2 a b, env, s => (evE c a env s).bind fun x s => (evE c b env s).bind fun y s => match x, y with
    | .int i, .int j => if smallD i ∧ smallD j then .ok ⟨numsD i (j - i).toNat, none⟩ s else .stuck
    | _, _ => .stuck
  | .zip a b, env, s => (evE c a env s).bind fun x s => (evE c b env s).bind fun y s => match x, y with
    | .tup xs, .tup ys => .ok ⟨zipD xs ys, none⟩ s
    | .lst xs, .lst ys => .ok ⟨zipD xs ys, none⟩ s
    | _, _ => .stuck
end

/-! ### statements -/
def RS.bind (r : RS) (f : Env → S → RS) : RS := match r with
  | .next e s => f e s
  | r => r
@[simp] theorem RS.bind_next (e : Env) (s : S) (f : Env → S → RS) : (RS.next e s).bind f = f e s := rfl
@[simp] theorem RS.bind_ret (d : D) (s : S) (f : Env → S → RS) : (RS.ret d s).bind f = .ret d s := rfl
@[simp] theorem RS.bind_brk (e : Env) (s : S) (f : Env → S → RS) : (RS.brk e s).bind f = .brk e s := rfl
@[simp] theorem RS.bind_cont (e : Env) (s : S) (f : Env → S → RS) : (RS.cont e s).bind f = .cont e s := rfl
@[simp] theorem RS.bind_exc (c : Nat) (e : Env) (s : S) (f : Env → S → RS) : (RS.exc c e s).bind f = .exc c e s := rfl
@[simp] theorem RS.bind_stuck (f : Env → S → RS) : RS.stuck.bind f = .stuck := rfl
/-- an expression within a statement -/
def R.st {α : Type} (r : R α) (env : Env) (f : α → S → RS) : RS := match r with
  | .ok a s => f a s
  | .exc c s => .exc c env s
  | .stuck => .stuck
@[simp] theorem R.st_ok {α : Type} (a : α) (s : S) (env : Env) (f : α → S → RS) : (R.ok a s).st env f = f a s := rfl
@[simp] theorem R.st_exc {α : Type} (c : Nat) (s : S) (env : Env) (f : α → S → RS) : (R.exc c s : R α).st env f = .exc c env s := rfl
@[simp] theorem R.st_stuck {α : Type} (env : Env) (f : α → S → RS) : (R.stuck : R α).st env f = .stuck := rfl
def RS.opt {α : Type} (o : Option α) (f : α → RS) : RS := match o with
  | some a => f a
  | none => .stuck
@[simp] theorem RS.opt_some {α : Type} (a : α) (f : α → RS) : RS.opt (some a) f = f a := rfl
@[simp] theorem RS.opt_none {α : Type} (f : α → RS) : RS.opt (none : Option α) f = .stuck := rfl
/-- the turns of a for loop -/
noncomputable def forL (g : Option (Nat × Nat × List D)) (t : Tg) (body : Env → S → RS) : List D → Env → S → RS
  | [], env, s => .next env s
  | x :: xs, env, s => RS.opt (putT t x env) fun env1 => match body env1 s with
    | .next env2 s2 => if keptG s2 g = true then forL g t body xs env2 s2 else .stuck
    | .cont env2 s2 => if keptG s2 g = true then forL g t body xs env2 s2 else .stuck
    | .brk env2 s2 => .next env2 s2
    | r => r
/-- the turns of a while loop -/
def whL (cond : Env → S → R Bool) (body : Env → S → RS) : Nat → Env → S → RS
  | 0, _, _ => .stuck
  | n + 1, env, s => (cond env s).st env fun k s1 => if k = true then (match body env s1 with
    | .next env2 s2 => whL cond body n env2 s2
    | .cont env2 s2 => whL cond body n env2 s2
    | .brk env2 s2 => .next env2 s2
    | r => r) else .next env s1
def FUEL : Nat := 2 ^ 400000
def putI : List Nat → List D → Env → Option Env
  | [], [], e => some e
  | i :: is, x :: xs, e => putI is xs (e.set i (some x))
  | _, _, _ => none
def items2 (x : D) : Option (List D) := match x with
  | .tup xs => some xs
  | _ => none
def hand (sub : Nat → Nat → Bool) (c : Nat) : List (Nat × E) → Option E
  | [] => none
  | (k, e) :: hs => if sub c k = true then some e else hand sub c hs
mutual
noncomputable def evS (c : Cfg) : St → Env → S → RS
  | .set i e, env, s => (evE c e env s).st env fun x s => .next (env.set i (some x)) s
  | .par is es, env, s => (evEs c es env s).st env fun xs s => RS.opt (putI is xs env) fun env => .next env s
  | .unp is e, env, s => (evE c e env s).st env fun x s => RS.opt (items2 x) fun xs => RS.opt (putI is xs env) fun env => .next env s
  | .aug i o e, env, s => RS.opt (getV env i) fun x => (evE c e env s).st env fun y s => match o, x, y with
    | .add, .int a, .int b => .next (env.set i (some (.int (a + b)))) s
    | .sub, .int a, .int b => .next (env.set i (some (.int (a - b)))) s
    | _, _, _ => .stuck
  | .sto o i e, env, s => (evE c e env s).st env fun v s => (evE c o env s).st env fun x s => (evE c i env s).st env fun y s => RS.opt (stoD s x y v) fun s => .next env s
  | .ex e, env, s => (evE c e env s).st env fun _ s => .next env s
  | .ret none, _, s => .ret .non s
  | .ret (some e), env, s => (evE c e env s).st env fun x s => .ret x s
  | .ite t a b, env, s => (evT c t env s).st env fun k s => if k = true then evSs c a env s else evSs c b env s
  | .wh t b, env, s => whL (evT c t) (evSs c b) FUEL env s
  | .fo t it b, env, s => (evI c it env s).st env fun w s => forL w.g t (evSs c b) w.xs env s
  | .pass, env, s => .next env s
  | .brk, env, s => .brk env s
  | .cont, env, s => .cont env s
  | .raise k, env, s => .exc k env s
  | .tr b hs, env, s => match evSs c b env s with
    | .exc k env2 s2 => (match hand c.sub k hs with
      | some e => (noExc (evE c e env2 s2)).st env2 fun x s3 => .ret x s3
      | none => .exc k env2 s2)
    | r => r
  | .trA b j i ms e, env, s => match evSs c b env s with
    | .exc k env2 s2 => if c.sub k j = true then (if i < env2.length ∧ (ms.all (c.sub k)) = true then (noExc (evE c e [] s2)).st [] fun x s3 => .ret x s3 else .stuck) else .exc k env2 s2
    | r => r
noncomputable def evSs (c : Cfg) : List St → Env → S → RS
  | [], env, s => .next env s
  | st :: r, env, s => (evS c st env s).bind fun env s => evSs c r env s
end

/-! ### calls -/
def mapO {α β : Type} (f : α → Option β) : List α → Option (List β)
  | [] => some []
  | x :: xs => match f x, mapO f xs with
    | some y, some ys => some (y :: ys)
    | _, _ => none
/-- what a def hands back: references to its own cells are turned into what stands there -/
def frzD (cur : List Cel) (dep : Nat) : Nat → D → Option D
  | _, .non => some .non
  | _, .bl b => some (.bl b)
  | _, .int i => some (.int i)
  | _, .str x => some (.str x)
  | _, .fz x => some (.fz x)
  | n + 1, .tup xs => (mapO (frzD cur dep n) xs).map .tup
  | n + 1, .lst xs => (mapO (frzD cur dep n) xs).map .lst
  | n + 1, .ref d k => if d < dep then some (.ref d k) else match cur[k]? with
    | some (.lst xs) => if d = dep then (mapO (frzD cur dep n) xs).map .lst else none
    | _ => none
  | _, _ => none
/-- the def is left with the value d in the state s -/
def leave (keep : Bool) (d : D) (s : S) : R D := match s.out with
  | [] => .stuck
  | c :: o =>
    if keep = true then (match d, s.cur with
      | .ref e 0, [.lst xs] => if e = s.dep ∧ shals s.dep xs = true then .ok (.ref o.length c.length) ⟨o, c ++ [.lst xs]⟩ else .stuck
      | _, _ => .stuck)
    else if s.cur = [] ∨ d.shal s.dep = true then .ok d ⟨o, c⟩
    else R.opt (frzD s.cur s.dep 20 d) ⟨o, c⟩
def startE (n : Nat) (xs : List D) : Env := xs.map some ++ List.replicate (n - xs.length) none
def popS (s : S) : S := match s.out with
  | [] => s
  | c :: o => ⟨o, c⟩
def leaveS (n : Nat) (keep : Bool) : RS → R D
  | .ret d s => if s.out.length = n + 1 then leave keep d s else .stuck
  | .next _ s => if s.out.length = n + 1 then leave false .non s else .stuck
  | .exc c _ s => if s.out.length = n + 1 then .exc c (popS s) else .stuck
  | _ => .stuck
structure Text where
  gc : Nat → Option D
  defs : Nat → Option Def
  sub : Nat → Nat → Bool
noncomputable def run (T : Text) : Nat → Nat → List D → S → R D
  | 0, _, _, _ => .stuck
  | n + 1, f, args, s => match T.defs f with
    | none => .stuck
    | some df => if args.length = df.np then
        leaveS s.out.length df.keep (evSs ⟨T.gc, run T n, T.sub⟩ df.body (startE df.ns args) ⟨s.cur :: s.out, []⟩)
      else .stuck
end Ev

set_option Elab.async false
set_option linter.all false
set_option maxRecDepth 100000
/-! Ev1: how the evaluator's data lie in HandS's heaps. -/
namespace Ev
open PySem PySem.Spec L2

abbrev Rho := Nat → Nat → Addr
abbrev Zs := Addr → Prop
def Live (ρ : Rho) (s : S) (a : Addr) : Prop := ∃ d k c, s.get d k = some c ∧ ρ d k = a

mutual
/-- Z: addresses that no value may name (lists that are being made) -/
inductive Rep (K : PySem.W.Frag) (Z : Zs) (H : Hp) (ρ : Rho) (s : S) : V → D → Prop
  | non : Rep K Z H ρ s .non .non
  | bl (b : Bool) : Rep K Z H ρ s (.bl b) (.bl b)
  | int (i : Int) : Rep K Z H ρ s (.int i) (.int i)
  | str (x : Str) : Rep K Z H ρ s (.str x) (.str x)
  | tup {a : Addr} {vs : List V} {ds : List D} : SqT K H a vs → Reps K Z H ρ s vs ds → Rep K Z H ρ s (.ref a) (.tup ds)
  | lst {a : Addr} {vs : List V} {ds : List D} : H a = some (.lst vs) → ¬ Live ρ s a → ¬ Z a → Reps K Z H ρ s vs ds → Rep K Z H ρ s (.ref a) (.lst ds)
  | fz {a : Addr} {ns : List Int} : Rd H a (.lst (ns.map V.int)) → ¬ Live ρ s a → ¬ Z a → Rep K Z H ρ s (.ref a) (.fz ns)
  | fzK {a : Addr} {ns : List Int} : (∃ (o : Obj) (its : Array Value) (n : Nat), K.lookup a = some o ∧ o.cls = .type "list" ∧ o.dict = none ∧ o.data = .seq its n ∧ its.size ≤ sizeLine ∧ Vals (ns.map V.int) its.toList) → Rep K Z H ρ s (.ref a) (.fz ns)
  | dct {a : Addr} {ks : List (Key × V)} {es : List (Str × D)} : H a = some (.dK ks) → ¬ Live ρ s a → ¬ Z a → Repk K Z H ρ s ks es → Rep K Z H ρ s (.ref a) (.dct es)
  | ref {d k : Nat} {c : Cel} : s.get d k = some c → Rep K Z H ρ s (.ref (ρ d k)) (.ref d k)
inductive Reps (K : PySem.W.Frag) (Z : Zs) (H : Hp) (ρ : Rho) (s : S) : List V → List D → Prop
  | nil : Reps K Z H ρ s [] []
  | cons {v : V} {vs : List V} {d : D} {ds : List D} : Rep K Z H ρ s v d → Reps K Z H ρ s vs ds → Reps K Z H ρ s (v :: vs) (d :: ds)
inductive Repk (K : PySem.W.Frag) (Z : Zs) (H : Hp) (ρ : Rho) (s : S) : List (Key × V) → List (Str × D) → Prop
  | nil : Repk K Z H ρ s [] []
  | cons {x : Str} {v : V} {ks : List (Key × V)} {d : D} {es : List (Str × D)} : Rep K Z H ρ s v d → Repk K Z H ρ s ks es → Repk K Z H ρ s ((.inr x, v) :: ks) ((x, d) :: es)
end

def CelOk (K : PySem.W.Frag) (Z : Zs) (H : Hp) (ρ : Rho) (s : S) (a : Addr) : Cel → Prop
  | .lst ds => ∃ vs, H a = some (.lst vs) ∧ Reps K Z H ρ s vs ds
  | .dct es => ∃ ks, H a = some (.dK ks) ∧ Repk K Z H ρ s ks es
structure StOk (K : PySem.W.Frag) (Z : Zs) (H : Hp) (ρ : Rho) (s : S) : Prop where
  cel : ∀ d k c, s.get d k = some c → CelOk K Z H ρ s (ρ d k) c
  inj : ∀ d k c d' k' c', s.get d k = some c → s.get d' k' = some c' → ρ d k = ρ d' k' → d = d' ∧ k = k'
  shal : ∀ d k c, s.get d k = some c → c.shal (d + 1) = true
  zt : ∀ a, Z a → H a ≠ none ∧ ¬ Live ρ s a
structure Ext (H : Hp) (ρ : Rho) (s : S) (H' : Hp) (ρ' : Rho) (s' : S) : Prop where
  keep : ∀ a o, H a = some o → ¬ Live ρ s a → H' a = some o ∧ ¬ Live ρ' s' a
  refs : ∀ d k c, s.get d k = some c → (∃ c', s'.get d k = some c') ∧ ρ' d k = ρ d k
section
variable {K : PySem.W.Frag} {Z Z' : Zs} {H H1 H2 H' : Hp} {ρ ρ1 ρ2 ρ' : Rho} {s s1 s2 s' : S} {a p : Addr} {v : V} {d : D}
theorem Ext.refl : Ext H ρ s H ρ s := ⟨fun _ _ h n => ⟨h, n⟩, fun _ _ c h => ⟨⟨c, h⟩, rfl⟩⟩
theorem Ext.trans (x : Ext H ρ s H1 ρ1 s1) (y : Ext H1 ρ1 s1 H2 ρ2 s2) : Ext H ρ s H2 ρ2 s2 :=
  ⟨fun a o h n => let ⟨h1, n1⟩ := x.keep a o h n; y.keep a o h1 n1, fun d k c h => by
    obtain ⟨⟨c1, h1⟩, e1⟩ := x.refs d k c h
    obtain ⟨h2, e2⟩ := y.refs d k c1 h1
    exact ⟨h2, e2.trans e1⟩⟩
theorem StOk.live (x : StOk K Z H ρ s) (l : Live ρ s a) : (∃ vs, H a = some (.lst vs)) ∨ ∃ ks, H a = some (.dK ks) := by
  obtain ⟨d, k, c, h, rfl⟩ := l
  have q := x.cel d k c h
  cases c with
  | lst ds => obtain ⟨vs, e, _⟩ := q; exact .inl ⟨vs, e⟩
  | dct es => obtain ⟨ks, e, _⟩ := q; exact .inr ⟨ks, e⟩
theorem StOk.tupNot (x : StOk K Z H ρ s) {vs : List V} (h : Rd H a (.tup vs)) : ¬ Live ρ s a := fun l => by
  rcases x.live l with ⟨ys, e⟩ | ⟨ks, e⟩
  · rcases h with h | ⟨o, h⟩ <;> (rw [h] at e; cases e)
  · rcases h with h | ⟨o, h⟩ <;> (rw [h] at e; cases e)
theorem Ext.sqT (x : StOk K Z H ρ s) (e : Ext H ρ s H' ρ' s') {vs : List V} (h : SqT K H a vs) : SqT K H' a vs := by
  rcases h with h | h
  · have n := x.tupNot h
    rcases h with h | ⟨o, h⟩
    · exact .inl (.inl (e.keep _ _ h n).1)
    · exact .inl (.inr ⟨o, (e.keep _ _ h n).1⟩)
  · exact .inr h

mutual
theorem Rep.mono (x : StOk K Z H ρ s) (e : Ext H ρ s H' ρ' s') (z : ∀ a, Z' a → Z a ∨ H a = none) : ∀ {v : V} {d : D}, Rep K Z H ρ s v d → Rep K Z' H' ρ' s' v d
  | _, _, .non => .non
  | _, _, .bl b => .bl b
  | _, _, .int i => .int i
  | _, _, .str y => .str y
  | _, _, .tup h r => .tup (e.sqT x h) (Reps.mono x e z r)
  | _, _, .lst h n nz r => by
    obtain ⟨h', n'⟩ := e.keep _ _ h n
    exact .lst h' n' (fun q => (z _ q).elim nz fun w => by rw [h] at w; cases w) (Reps.mono x e z r)
  | _, _, .fz h n nz => by
    rcases h with h | ⟨o, h⟩
    · obtain ⟨h', n'⟩ := e.keep _ _ h n
      exact .fz (.inl h') n' fun q => (z _ q).elim nz fun w => by rw [h] at w; cases w
    · obtain ⟨h', n'⟩ := e.keep _ _ h n
      exact .fz (.inr ⟨o, h'⟩) n' fun q => (z _ q).elim nz fun w => by rw [h] at w; cases w
  | _, _, .fzK h => .fzK h
  | _, _, .dct h n nz r => by
    obtain ⟨h', n'⟩ := e.keep _ _ h n
    exact .dct h' n' (fun q => (z _ q).elim nz fun w => by rw [h] at w; cases w) (Repk.mono x e z r)
  | _, _, .ref (d := d) (k := k) h => by
    obtain ⟨⟨c', h'⟩, q⟩ := e.refs _ _ _ h
    rw [← q]
    exact .ref h'
theorem Reps.mono (x : StOk K Z H ρ s) (e : Ext H ρ s H' ρ' s') (z : ∀ a, Z' a → Z a ∨ H a = none) : ∀ {vs : List V} {ds : List D}, Reps K Z H ρ s vs ds → Reps K Z' H' ρ' s' vs ds
  | _, _, .nil => .nil
  | _, _, .cons r t => .cons (Rep.mono x e z r) (Reps.mono x e z t)
theorem Repk.mono (x : StOk K Z H ρ s) (e : Ext H ρ s H' ρ' s') (z : ∀ a, Z' a → Z a ∨ H a = none) : ∀ {ks : List (Key × V)} {es : List (Str × D)}, Repk K Z H ρ s ks es → Repk K Z' H' ρ' s' ks es
  | _, _, .nil => .nil
  | _, _, .cons r t => .cons (Rep.mono x e z r) (Repk.mono x e z t)
end

theorem zsame : ∀ a, Z a → Z a ∨ H a = none := fun _ h => .inl h
theorem Rep.ext (x : StOk K Z H ρ s) (e : Ext H ρ s H' ρ' s') {v : V} {d : D} (r : Rep K Z H ρ s v d) : Rep K Z H' ρ' s' v d := r.mono x e zsame
theorem Reps.ext (x : StOk K Z H ρ s) (e : Ext H ρ s H' ρ' s') {vs : List V} {ds : List D} (r : Reps K Z H ρ s vs ds) : Reps K Z H' ρ' s' vs ds := r.mono x e zsame
theorem CelOk.mono (x : StOk K Z H ρ s) (e : Ext H ρ s H' ρ' s') (z : ∀ a, Z' a → Z a ∨ H a = none) {a : Addr} (ha : H' a = H a) {c : Cel} (h : CelOk K Z H ρ s a c) : CelOk K Z' H' ρ' s' a c := by
  cases c with
  | lst ds => obtain ⟨vs, q, r⟩ := h; exact ⟨vs, ha.trans q, r.mono x e z⟩
  | dct es => obtain ⟨ks, q, r⟩ := h; exact ⟨ks, ha.trans q, r.mono x e z⟩
theorem Reps.length : ∀ {vs : List V} {ds : List D}, Reps K Z H ρ s vs ds → vs.length = ds.length
  | _, _, .nil => rfl
  | _, _, .cons _ t => congrArg (· + 1) (Reps.length t)
theorem Reps.get : ∀ {vs : List V} {ds : List D} {i : Nat} {d : D}, Reps K Z H ρ s vs ds → ds[i]? = some d → ∃ v, vs[i]? = some v ∧ Rep K Z H ρ s v d
  | _, _, _, _, .nil, e => by simp at e
  | _, _, 0, _, .cons r _, e => by simp at e; subst e; exact ⟨_, rfl, r⟩
  | _, _, i + 1, _, .cons _ t, e => by
    obtain ⟨v, h1, h2⟩ := Reps.get (i := i) t (by simpa using e)
    exact ⟨v, by simpa using h1, h2⟩
theorem Reps.getV : ∀ {vs : List V} {ds : List D} {i : Nat} {v : V}, Reps K Z H ρ s vs ds → vs[i]? = some v → ∃ d, ds[i]? = some d ∧ Rep K Z H ρ s v d
  | _, _, _, _, .nil, e => by simp at e
  | _, _, 0, _, .cons r _, e => by simp at e; subst e; exact ⟨_, rfl, r⟩
  | _, _, i + 1, _, .cons _ t, e => by
    obtain ⟨v, h1, h2⟩ := Reps.getV (i := i) t (by simpa using e)
    exact ⟨v, by simpa using h1, h2⟩
theorem Reps.app : ∀ {vs ws : List V} {ds es : List D}, Reps K Z H ρ s vs ds → Reps K Z H ρ s ws es → Reps K Z H ρ s (vs ++ ws) (ds ++ es)
  | _, _, _, _, .nil, q => q
  | _, _, _, _, .cons r t, q => .cons r (Reps.app t q)
theorem Reps.drop : ∀ {vs : List V} {ds : List D} (n : Nat), Reps K Z H ρ s vs ds → Reps K Z H ρ s (vs.drop n) (ds.drop n)
  | _, _, 0, r => r
  | _, _, _ + 1, .nil => .nil
  | _, _, n + 1, .cons _ t => Reps.drop n t
theorem Reps.take : ∀ {vs : List V} {ds : List D} (n : Nat), Reps K Z H ρ s vs ds → Reps K Z H ρ s (vs.take n) (ds.take n)
  | _, _, 0, _ => .nil
  | _, _, _ + 1, .nil => .nil
  | _, _, n + 1, .cons r t => .cons r (Reps.take n t)
theorem Reps.one (r : Rep K Z H ρ s v d) : Reps K Z H ρ s [v] [d] := .cons r .nil
theorem Reps.rev : ∀ {vs : List V} {ds : List D}, Reps K Z H ρ s vs ds → Reps K Z H ρ s vs.reverse ds.reverse
  | _, _, .nil => .nil
  | _, _, .cons r t => by rw [List.reverse_cons, List.reverse_cons]; exact (Reps.rev t).app (.one r)
theorem Reps.set {v : V} {d : D} (r : Rep K Z H ρ s v d) : ∀ {vs : List V} {ds : List D} (i : Nat), Reps K Z H ρ s vs ds → Reps K Z H ρ s (vs.set i v) (ds.set i d)
  | _, _, _, .nil => .nil
  | _, _, 0, .cons _ t => .cons r t
  | _, _, i + 1, .cons q t => .cons q (Reps.set r i t)
theorem Reps.erase : ∀ {vs : List V} {ds : List D} (i : Nat), Reps K Z H ρ s vs ds → Reps K Z H ρ s (vs.eraseIdx i) (ds.eraseIdx i)
  | _, _, _, .nil => .nil
  | _, _, 0, .cons _ t => t
  | _, _, i + 1, .cons q t => .cons q (Reps.erase i t)
theorem Reps.init {vs : List V} {ds : List D} (r : Reps K Z H ρ s vs ds) : Reps K Z H ρ s vs.dropLast ds.dropLast := by
  rw [List.dropLast_eq_take, List.dropLast_eq_take, r.length]
  exact r.take _
theorem Reps.ints : ∀ (ns : List Int), Reps K Z H ρ s (ns.map V.int) (ns.map D.int)
  | [] => .nil
  | n :: ns => .cons (.int n) (Reps.ints ns)
theorem Reps.rep {vs : List V} {ds : List D} (r : Reps K Z H ρ s vs ds) : ∀ k : Nat, Reps K Z H ρ s (List.replicate k vs).flatten (repD ds k)
  | 0 => .nil
  | k + 1 => by
    rw [List.replicate_succ, List.flatten_cons]
    exact r.app (Reps.rep r k)

/-! ### a new thing -/
theorem Ext.fresh {o : HO} (hp : H p = none) : Ext H ρ s (upd H p o) ρ s :=
  ⟨fun a u h n => ⟨by rw [upd_ne (ne_of_none h hp)]; exact h, n⟩, fun _ _ c h => ⟨⟨c, h⟩, rfl⟩⟩
theorem StOk.liveT (x : StOk K Z H ρ s) (l : Live ρ s a) : H a ≠ none := by
  rcases x.live l with ⟨_, e⟩ | ⟨_, e⟩ <;> (rw [e]; intro q; cases q)
theorem StOk.fresh {o : HO} (x : StOk K Z H ρ s) (hp : H p = none) : StOk K Z (upd H p o) ρ s where
  cel := fun d k c h => by
    have ne : ρ d k ≠ p := fun q => x.liveT ⟨d, k, c, h, rfl⟩ (q ▸ hp)
    exact (x.cel d k c h).mono x (Ext.fresh hp) zsame (upd_ne ne)
  inj := x.inj
  shal := x.shal
  zt := fun a h => by
    obtain ⟨h1, h2⟩ := x.zt a h
    refine ⟨?_, h2⟩
    rw [upd_ne fun q => h1 (by rw [q]; exact hp)]
    exact h1
/-- .. reserved -/
def Zs.add (Z : Zs) (p : Addr) : Zs := fun a => Z a ∨ a = p
theorem zadd (hp : H p = none) : ∀ a, Zs.add Z p a → Z a ∨ H a = none := fun a h => h.imp id fun e => by rw [e]; exact hp
theorem StOk.reserve {o : HO} (x : StOk K Z H ρ s) (hp : H p = none) : StOk K (Z.add p) (upd H p o) ρ s where
  cel := fun d k c h => by
    have ne : ρ d k ≠ p := fun q => x.liveT ⟨d, k, c, h, rfl⟩ (q ▸ hp)
    exact (x.cel d k c h).mono x (Ext.fresh hp) (zadd hp) (upd_ne ne)
  inj := x.inj
  shal := x.shal
  zt := fun a h => by
    rcases h with h | h
    · obtain ⟨h1, h2⟩ := x.zt a h
      refine ⟨?_, h2⟩
      rw [upd_ne fun q => h1 (by rw [q]; exact hp)]
      exact h1
    · subst h
      exact ⟨by rw [upd_same]; exact (fun q => nomatch q), fun l => x.liveT l hp⟩
/-- fewer reserved -/
theorem StOk.less (x : StOk K Z H ρ s) (h : ∀ a, Z' a → Z a) : StOk K Z' H ρ s where
  cel := fun d k c q => (x.cel d k c q).mono x Ext.refl (fun a z => .inl (h a z)) rfl
  inj := x.inj
  shal := x.shal
  zt := fun a z => x.zt a (h a z)
theorem Rep.less (x : StOk K Z H ρ s) (h : ∀ a, Z' a → Z a) (r : Rep K Z H ρ s v d) : Rep K Z' H ρ s v d := r.mono x Ext.refl fun a z => .inl (h a z)
theorem Reps.less (x : StOk K Z H ρ s) (h : ∀ a, Z' a → Z a) {vs : List V} {ds : List D} (r : Reps K Z H ρ s vs ds) : Reps K Z' H ρ s vs ds := r.mono x Ext.refl fun a z => .inl (h a z)
/-- a reserved list is changed -/
theorem sqT_wres {xs : List V} {o : HO} (hp : H p = some (.lst xs)) {vs : List V} (h : SqT K H a vs) : SqT K (upd H p o) a vs := by
  rcases h with (h | ⟨u, h⟩) | h
  · exact .inl (.inl (by rw [upd_ne (ne_of h hp (fun q => nomatch q))]; exact h))
  · exact .inl (.inr ⟨u, by rw [upd_ne (ne_of h hp (fun q => nomatch q))]; exact h⟩)
  · exact .inr h
mutual
theorem Rep.wres {xs : List V} {o : HO} (hz : Z p) (hp : H p = some (.lst xs)) : ∀ {v : V} {d : D}, Rep K Z H ρ s v d → Rep K Z (upd H p o) ρ s v d
  | _, _, .non => .non
  | _, _, .bl b => .bl b
  | _, _, .int i => .int i
  | _, _, .str y => .str y
  | _, _, .tup h r => .tup (sqT_wres hp h) (Reps.wres hz hp r)
  | _, _, .lst (a := a) h n nz r => .lst (by rw [upd_ne (show a ≠ p from fun q => nz (by rw [q]; exact hz))]; exact h) n nz (Reps.wres hz hp r)
  | _, _, .fz (a := a) h n nz => .fz (by
      have ne : a ≠ p := fun q => nz (by rw [q]; exact hz)
      rcases h with h | ⟨u, h⟩
      · exact .inl (by rw [upd_ne ne]; exact h)
      · exact .inr ⟨u, by rw [upd_ne ne]; exact h⟩) n nz
  | _, _, .fzK h => .fzK h
  | _, _, .dct (a := a) h n nz r => .dct (by rw [upd_ne (show a ≠ p from fun q => nz (by rw [q]; exact hz))]; exact h) n nz (Repk.wres hz hp r)
  | _, _, .ref h => .ref h
theorem Reps.wres {xs : List V} {o : HO} (hz : Z p) (hp : H p = some (.lst xs)) : ∀ {vs : List V} {ds : List D}, Reps K Z H ρ s vs ds → Reps K Z (upd H p o) ρ s vs ds
  | _, _, .nil => .nil
  | _, _, .cons r t => .cons (Rep.wres hz hp r) (Reps.wres hz hp t)
theorem Repk.wres {xs : List V} {o : HO} (hz : Z p) (hp : H p = some (.lst xs)) : ∀ {ks : List (Key × V)} {es : List (Str × D)}, Repk K Z H ρ s ks es → Repk K Z (upd H p o) ρ s ks es
  | _, _, .nil => .nil
  | _, _, .cons r t => .cons (Rep.wres hz hp r) (Repk.wres hz hp t)
end
theorem StOk.wres {xs : List V} {o : HO} (x : StOk K Z H ρ s) (hz : Z p) (hp : H p = some (.lst xs)) : StOk K Z (upd H p o) ρ s where
  cel := fun d k c h => by
    have ne : ρ d k ≠ p := fun q => (x.zt p hz).2 ⟨d, k, c, h, q⟩
    have q := x.cel d k c h
    cases c with
    | lst ds => obtain ⟨vs, e, r⟩ := q; exact ⟨vs, by rw [upd_ne ne]; exact e, r.wres hz hp⟩
    | dct es => obtain ⟨ks, e, r⟩ := q; exact ⟨ks, by rw [upd_ne ne]; exact e, r.wres hz hp⟩
  inj := x.inj
  shal := x.shal
  zt := fun a h => by
    obtain ⟨h1, h2⟩ := x.zt a h
    refine ⟨?_, h2⟩
    by_cases e : a = p
    · rw [e, upd_same]; exact fun q => nomatch q
    · rw [upd_ne e]; exact h1

/-! ### cells -/
theorem getA_deep : ∀ {o : List (List Cel)} {cur : List Cel} {d k : Nat} {c : Cel}, getA o cur d k = some c → d ≤ o.length
  | [], cur, d, k, c, h => by
    unfold getA at h
    split at h
    · rename_i e; rw [e]; exact Nat.le_refl _
    · cases h
  | c1 :: o, cur, d, k, c, h => by
    unfold getA at h
    split at h
    · rename_i e; rw [e]; exact Nat.le_refl _
    · exact Nat.le_succ_of_le (getA_deep h)
theorem S.get_dep {d k : Nat} {c : Cel} (h : s.get d k = some c) : d ≤ s.dep := getA_deep h
theorem getA_top (o : List (List Cel)) (cur : List Cel) (k : Nat) : getA o cur o.length k = cur[k]? := by
  cases o with
  | nil => rfl
  | cons c o => show (if o.length + 1 = o.length + 1 then _ else _) = _; rw [if_pos rfl]
theorem S.get_top (o : List (List Cel)) (cur : List Cel) (k : Nat) : (S.mk o cur).get o.length k = cur[k]? := getA_top o cur k
theorem getA_low {o : List (List Cel)} {c cur : List Cel} {d k : Nat} (h : d ≤ o.length) : getA (c :: o) cur d k = getA o c d k := by
  show (if d = o.length + 1 then _ else _) = _
  rw [if_neg (by omega)]
theorem S.get_low {o : List (List Cel)} {c cur : List Cel} {d k : Nat} (h : d ≤ o.length) : (S.mk (c :: o) cur).get d k = (S.mk o c).get d k := getA_low h
theorem S.get_cur {o : List (List Cel)} {c c' : List Cel} {d k : Nat} (h : d ≠ o.length) : (S.mk o c).get d k = (S.mk o c').get d k := by
  show getA o c d k = getA o c' d k
  cases o with
  | nil => unfold getA; rw [if_neg (show d ≠ 0 from h), if_neg (show d ≠ 0 from h)]
  | cons c1 o =>
    show (if d = o.length + 1 then _ else _) = (if d = o.length + 1 then _ else _)
    rw [if_neg (show d ≠ o.length + 1 from h), if_neg (show d ≠ o.length + 1 from h)]
theorem setA_len : ∀ (o : List (List Cel)) (cur : List Cel) (d k : Nat) (x : Cel), (setA o cur d k x).1.length = o.length
  | [], _, _, _, _ => rfl
  | c :: o, cur, d, k, x => by
    show (if d = o.length + 1 then (c :: o, cur.set k x) else (((setA o c d k x).2 :: (setA o c d k x).1), cur)).1.length = _
    split
    · rfl
    · show (setA o c d k x).1.length + 1 = o.length + 1
      rw [setA_len]
theorem S.set_dep (s : S) (d k : Nat) (x : Cel) : (s.set d k x).dep = s.dep := setA_len _ _ _ _ _
theorem getA_setA : ∀ (o : List (List Cel)) (cur : List Cel) (d k : Nat) (x : Cel) (d' k' : Nat) {c : Cel}, getA o cur d k = some c →
    getA (setA o cur d k x).1 (setA o cur d k x).2 d' k' = if d' = d ∧ k' = k then some x else getA o cur d' k'
  | [], cur, d, k, x, d', k', c, h => by
    by_cases e : d = 0
    · subst e
      have h' : cur[k]? = some c := h
      have hk : k < cur.length := (List.getElem?_eq_some_iff.mp h').1
      show (if d' = 0 then (if (0 : Nat) = 0 then cur.set k x else cur)[k']? else none) = if d' = 0 ∧ k' = k then some x else (if d' = 0 then cur[k']? else none)
      by_cases e2 : d' = 0
      · rw [if_pos e2, if_pos e2, if_pos rfl, List.getElem?_set]
        by_cases e3 : k = k'
        · rw [if_pos e3, if_pos hk, if_pos ⟨e2, e3.symm⟩]
        · rw [if_neg e3, if_neg fun q => e3 q.2.symm]
      · rw [if_neg e2, if_neg e2, if_neg fun q => e2 q.1]
    · have h' : (if d = 0 then cur[k]? else none) = some c := h
      rw [if_neg e] at h'; cases h'
  | c1 :: o, cur, d, k, x, d', k', c, h => by
    have h' : (if d = o.length + 1 then cur[k]? else getA o c1 d k) = some c := h
    have es : setA (c1 :: o) cur d k x = if d = o.length + 1 then (c1 :: o, cur.set k x) else ((setA o c1 d k x).2 :: (setA o c1 d k x).1, cur) := rfl
    rw [es]
    by_cases e : d = o.length + 1
    · rw [if_pos e] at h' ⊢
      have hk : k < cur.length := (List.getElem?_eq_some_iff.mp h').1
      show (if d' = o.length + 1 then (cur.set k x)[k']? else getA o c1 d' k') = if d' = d ∧ k' = k then some x else (if d' = o.length + 1 then cur[k']? else getA o c1 d' k')
      by_cases e2 : d' = o.length + 1
      · rw [if_pos e2, if_pos e2, List.getElem?_set]
        by_cases e3 : k = k'
        · rw [if_pos e3, if_pos hk, if_pos ⟨e2.trans e.symm, e3.symm⟩]
        · rw [if_neg e3, if_neg fun q => e3 q.2.symm]
      · rw [if_neg e2, if_neg e2, if_neg fun q => e2 (q.1.trans e)]
    · rw [if_neg e] at h' ⊢
      have hd := getA_deep h'
      show (if d' = (setA o c1 d k x).1.length + 1 then cur[k']? else getA (setA o c1 d k x).1 (setA o c1 d k x).2 d' k') = if d' = d ∧ k' = k then some x else (if d' = o.length + 1 then cur[k']? else getA o c1 d' k')
      rw [setA_len]
      by_cases e2 : d' = o.length + 1
      · rw [if_pos e2, if_pos e2, if_neg]
        rintro ⟨q, _⟩
        omega
      · rw [if_neg e2, if_neg e2]
        exact getA_setA o c1 d k x d' k' h'
theorem S.get_set {d k : Nat} {c : Cel} (h : s.get d k = some c) (x : Cel) (d' k' : Nat) : (s.set d k x).get d' k' = if d' = d ∧ k' = k then some x else s.get d' k' := getA_setA s.out s.cur d k x d' k' h

/-- what stands in a heap as a cell -/
def CelV : HO → Cel → Prop
  | .lst _, .lst _ => True
  | .dK _, .dct _ => True
  | _, _ => False
theorem Live.set {d k : Nat} {c x : Cel} (h : s.get d k = some c) : Live ρ (s.set d k x) a ↔ Live ρ s a := by
  constructor
  · rintro ⟨d', k', c', e, q⟩
    rw [S.get_set h] at e
    split at e
    · rename_i w
      obtain ⟨rfl, rfl⟩ := w
      exact ⟨_, _, c, h, q⟩
    · exact ⟨d', k', c', e, q⟩
  · rintro ⟨d', k', c', e, q⟩
    by_cases w : d' = d ∧ k' = k
    · exact ⟨d', k', x, by rw [S.get_set h, if_pos w], q⟩
    · exact ⟨d', k', c', by rw [S.get_set h, if_neg w]; exact e, q⟩
theorem Ext.set {d k : Nat} {c x : Cel} {o : HO} (h : s.get d k = some c) : Ext H ρ s (upd H (ρ d k) o) ρ (s.set d k x) where
  keep := fun a u e n => ⟨by rw [upd_ne fun q => n ⟨d, k, c, h, q.symm⟩]; exact e, fun l => n ((Live.set h).mp l)⟩
  refs := fun d' k' c' e => by
    refine ⟨?_, rfl⟩
    rw [S.get_set h]
    split
    · exact ⟨x, rfl⟩
    · exact ⟨c', e⟩
theorem StOk.setL {d k : Nat} {c : Cel} {vs : List V} {ds : List D} (w : StOk K Z H ρ s) (h : s.get d k = some c) (r : Reps K Z H ρ s vs ds) (hs : shals (d + 1) ds = true) :
    StOk K Z (upd H (ρ d k) (.lst vs)) ρ (s.set d k (.lst ds)) where
  cel := fun d' k' c' e => by
    rw [S.get_set h] at e
    split at e
    · rename_i q
      obtain ⟨rfl, rfl⟩ := q
      cases e
      exact ⟨vs, upd_same, r.ext w (Ext.set h)⟩
    · rename_i q
      have ne : ρ d' k' ≠ ρ d k := fun z => q (w.inj _ _ _ _ _ _ e h z)
      exact (w.cel d' k' c' e).mono w (Ext.set h) zsame (upd_ne ne)
  inj := fun d1 k1 c1 d2 k2 c2 e1 e2 z => by
    have f : ∀ {d' k' : Nat} {c' : Cel}, (s.set d k (.lst ds)).get d' k' = some c' → ∃ c'', s.get d' k' = some c'' := fun {d' k' c'} e => by
      rw [S.get_set h] at e
      split at e
      · rename_i q
        obtain ⟨rfl, rfl⟩ := q
        exact ⟨c, h⟩
      · exact ⟨c', e⟩
    obtain ⟨_, f1⟩ := f e1
    obtain ⟨_, f2⟩ := f e2
    exact w.inj _ _ _ _ _ _ f1 f2 z
  shal := fun d' k' c' e => by
    rw [S.get_set h] at e
    split at e
    · rename_i q
      obtain ⟨rfl, rfl⟩ := q
      cases e
      exact hs
    · exact w.shal d' k' c' e
  zt := fun a z => by
    obtain ⟨h1, h2⟩ := w.zt a z
    refine ⟨?_, fun l => h2 ((Live.set h).mp l)⟩
    rw [upd_ne fun q => h2 ⟨d, k, c, h, q.symm⟩]
    exact h1
/-- a new cell at the reserved p -/
def Rho.put (ρ : Rho) (d k : Nat) (p : Addr) : Rho := fun d' k' => if d' = d ∧ k' = k then p else ρ d' k'
abbrev S.snoc (s : S) (c : Cel) : S := ⟨s.out, s.cur ++ [c]⟩
theorem S.get_snoc (s : S) (c : Cel) (d k : Nat) : (s.snoc c).get d k = if d = s.dep ∧ k = s.cur.length then some c else s.get d k := by
  by_cases e : d = s.dep
  · subst e
    rw [show (s.snoc c).get s.dep k = (s.cur ++ [c])[k]? from S.get_top _ _ _, show s.get s.dep k = s.cur[k]? from S.get_top _ _ _]
    by_cases e2 : k = s.cur.length
    · rw [if_pos ⟨rfl, e2⟩, e2, List.getElem?_concat_length]
    · rw [if_neg fun q => e2 q.2]
      by_cases e3 : k < s.cur.length
      · rw [List.getElem?_append_left e3]
      · rw [List.getElem?_eq_none (by rw [List.length_append]; simp; omega), List.getElem?_eq_none (by omega)]
  · rw [if_neg fun q => e q.1]
    exact S.get_cur e
theorem S.get_len {d k : Nat} {c : Cel} (h : s.get d k = some c) : ¬ (d = s.dep ∧ k = s.cur.length) := by
  rintro ⟨rfl, rfl⟩
  rw [show s.get s.dep s.cur.length = s.cur[s.cur.length]? from S.get_top _ _ _] at h
  simp at h
theorem Live.snoc {c : Cel} : Live (Rho.put ρ s.dep s.cur.length p) (s.snoc c) a ↔ a = p ∨ Live ρ s a := by
  constructor
  · rintro ⟨d, k, c', e, q⟩
    rw [S.get_snoc] at e
    split at e
    · rename_i w
      left
      unfold Rho.put at q
      rw [if_pos w] at q
      exact q.symm
    · rename_i w
      unfold Rho.put at q
      rw [if_neg w] at q
      exact .inr ⟨d, k, c', e, q⟩
  · rintro (e | ⟨d, k, c', e, q⟩)
    · subst e
      exact ⟨s.dep, s.cur.length, c, by rw [S.get_snoc, if_pos ⟨rfl, rfl⟩], by unfold Rho.put; rw [if_pos ⟨rfl, rfl⟩]⟩
    · have w := S.get_len e
      exact ⟨d, k, c', by rw [S.get_snoc, if_neg w]; exact e, by unfold Rho.put; rw [if_neg w]; exact q⟩
mutual
theorem Rep.snoc {c : Cel} {vs : List V} (hz : Z p) (hp : H p = some (.lst vs)) (hz' : ∀ a, Z' a → Z a) : ∀ {v : V} {d : D}, Rep K Z H ρ s v d → Rep K Z' H (Rho.put ρ s.dep s.cur.length p) (s.snoc c) v d
  | _, _, .non => .non
  | _, _, .bl b => .bl b
  | _, _, .int i => .int i
  | _, _, .str y => .str y
  | _, _, .tup h r => .tup h (Reps.snoc hz hp hz' r)
  | _, _, .lst h n nz r => .lst h (fun l => (Live.snoc.mp l).elim (fun e => nz (by rw [e]; exact hz)) n) (fun q => nz (hz' _ q)) (Reps.snoc hz hp hz' r)
  | _, _, .fz h n nz => .fz h (fun l => (Live.snoc.mp l).elim (fun e => nz (by rw [e]; exact hz)) n) (fun q => nz (hz' _ q))
  | _, _, .fzK h => .fzK h
  | _, _, .dct h n nz r => .dct h (fun l => (Live.snoc.mp l).elim (fun e => nz (by rw [e]; exact hz)) n) (fun q => nz (hz' _ q)) (Repk.snoc hz hp hz' r)
  | _, _, .ref (d := d) (k := k) (c := c') h => by
    have w := S.get_len h
    have e : ρ d k = Rho.put ρ s.dep s.cur.length p d k := by unfold Rho.put; rw [if_neg w]
    rw [e]
    exact .ref (c := c') (by rw [S.get_snoc, if_neg w]; exact h)
theorem Reps.snoc {c : Cel} {vs : List V} (hz : Z p) (hp : H p = some (.lst vs)) (hz' : ∀ a, Z' a → Z a) : ∀ {vs : List V} {ds : List D}, Reps K Z H ρ s vs ds → Reps K Z' H (Rho.put ρ s.dep s.cur.length p) (s.snoc c) vs ds
  | _, _, .nil => .nil
  | _, _, .cons r t => .cons (Rep.snoc hz hp hz' r) (Reps.snoc hz hp hz' t)
theorem Repk.snoc {c : Cel} {vs : List V} (hz : Z p) (hp : H p = some (.lst vs)) (hz' : ∀ a, Z' a → Z a) : ∀ {ks : List (Key × V)} {es : List (Str × D)}, Repk K Z H ρ s ks es → Repk K Z' H (Rho.put ρ s.dep s.cur.length p) (s.snoc c) ks es
  | _, _, .nil => .nil
  | _, _, .cons r t => .cons (Rep.snoc hz hp hz' r) (Repk.snoc hz hp hz' t)
end
mutual
/-- a value that is laid names no frame above the running one -/
theorem Rep.shal : ∀ {v : V} {d : D}, Rep K Z H ρ s v d → d.shal (s.dep + 1) = true
  | _, _, .non => by simp [D.shal]
  | _, _, .bl b => by simp [D.shal]
  | _, _, .int i => by simp [D.shal]
  | _, _, .str y => by simp [D.shal]
  | _, _, .tup h r => by simp only [D.shal]; exact Reps.shal r
  | _, _, .lst h n nz r => by simp only [D.shal]; exact Reps.shal r
  | _, _, .fz h n nz => by simp [D.shal]
  | _, _, .fzK h => by simp [D.shal]
  | _, _, .dct h n nz r => by simp only [D.shal]; exact Repk.shal r
  | _, _, .ref h => by
    simp only [D.shal]
    exact decide_eq_true (Nat.lt_succ_of_le (S.get_dep h))
theorem Reps.shal : ∀ {vs : List V} {ds : List D}, Reps K Z H ρ s vs ds → shals (s.dep + 1) ds = true
  | _, _, .nil => by simp [shals]
  | _, _, .cons r t => by simp only [shals, Bool.and_eq_true]; exact ⟨Rep.shal r, Reps.shal t⟩
theorem Repk.shal : ∀ {ks : List (Key × V)} {es : List (Str × D)}, Repk K Z H ρ s ks es → shalk (s.dep + 1) es = true
  | _, _, .nil => by simp [shalk]
  | _, _, .cons r t => by simp only [shalk, Bool.and_eq_true]; exact ⟨Rep.shal r, Repk.shal t⟩
end
theorem StOk.snocL {vs : List V} {ds : List D} (w : StOk K Z H ρ s) (hz : Z p) (hp : H p = some (.lst vs)) (r : Reps K Z H ρ s vs ds) (hz' : ∀ a, Z' a → Z a ∧ a ≠ p) :
    StOk K Z' H (Rho.put ρ s.dep s.cur.length p) (s.snoc (.lst ds)) where
  cel := fun d k c h => by
    rw [S.get_snoc] at h
    unfold Rho.put
    split at h
    · rename_i q
      cases h
      rw [if_pos q]
      exact ⟨vs, hp, r.snoc hz hp fun a z => (hz' a z).1⟩
    · rename_i q
      rw [if_neg q]
      have q := w.cel d k c h
      cases c with
      | lst es => obtain ⟨ws, e, r'⟩ := q; exact ⟨ws, e, r'.snoc hz hp fun a z => (hz' a z).1⟩
      | dct es => obtain ⟨ws, e, r'⟩ := q; exact ⟨ws, e, r'.snoc hz hp fun a z => (hz' a z).1⟩
  inj := fun d1 k1 c1 d2 k2 c2 e1 e2 z => by
    rw [S.get_snoc] at e1 e2
    unfold Rho.put at z
    split at e1
    · rename_i q1
      split at e2
      · rename_i q2
        exact ⟨q1.1.trans q2.1.symm, q1.2.trans q2.2.symm⟩
      · rename_i q2
        rw [if_pos q1, if_neg q2] at z
        exact ((w.zt p hz).2 ⟨_, _, _, e2, z.symm⟩).elim
    · rename_i q1
      split at e2
      · rename_i q2
        rw [if_neg q1, if_pos q2] at z
        exact ((w.zt p hz).2 ⟨_, _, _, e1, z⟩).elim
      · rename_i q2
        rw [if_neg q1, if_neg q2] at z
        exact w.inj _ _ _ _ _ _ e1 e2 z
  shal := fun d k c h => by
    rw [S.get_snoc] at h
    split at h
    · rename_i q
      cases h
      rw [q.1]
      exact r.shal
    · exact w.shal d k c h
  zt := fun a z => by
    obtain ⟨h1, h2⟩ := hz' a z
    obtain ⟨h3, h4⟩ := w.zt a h1
    exact ⟨h3, fun l => (Live.snoc.mp l).elim h2 h4⟩
theorem Ext.snoc {c : Cel} (hp : H p = none) {vs : List V} : Ext H ρ s (upd H p (.lst vs)) (Rho.put ρ s.dep s.cur.length p) (s.snoc c) where
  keep := fun a o h n => by
    have ne := ne_of_none h hp
    exact ⟨by rw [upd_ne ne]; exact h, fun l => (Live.snoc.mp l).elim ne n⟩
  refs := fun d k c' h => by
    have w := S.get_len h
    exact ⟨⟨c', by rw [S.get_snoc, if_neg w]; exact h⟩, by unfold Rho.put; rw [if_neg w]⟩
/-- the same, where p is there already -/
theorem Ext.snoc' {c : Cel} (x : Ext H ρ s H1 ρ1 s1) (hp : H p = none) : Ext H ρ s H1 (Rho.put ρ1 s1.dep s1.cur.length p) (s1.snoc c) where
  keep := fun a o h n => by
    obtain ⟨h1, n1⟩ := x.keep a o h n
    exact ⟨h1, fun l => (Live.snoc.mp l).elim (ne_of_none h hp) n1⟩
  refs := fun d k c' h => by
    obtain ⟨⟨c1, h1⟩, e⟩ := x.refs d k c' h
    have w := S.get_len h1
    exact ⟨⟨c1, by rw [S.get_snoc, if_neg w]; exact h1⟩, by unfold Rho.put; rw [if_neg w]; exact e⟩

/-! ### a call: a new frame, and back -/
theorem getA_push (o : List (List Cel)) (cur : List Cel) (d k : Nat) : getA (cur :: o) [] d k = getA o cur d k := by
  show (if d = o.length + 1 then ([] : List Cel)[k]? else getA o cur d k) = _
  by_cases e : d = o.length + 1
  · rw [if_pos e]
    cases h : getA o cur d k with
    | none => simp
    | some c => exact absurd (getA_deep h) (by omega)
  · rw [if_neg e]
abbrev S.push (s : S) : S := ⟨s.cur :: s.out, []⟩
theorem S.get_push (s : S) (d k : Nat) : s.push.get d k = s.get d k := getA_push _ _ _ _
theorem Live.push : Live ρ s.push a ↔ Live ρ s a := by
  constructor
  · rintro ⟨d, k, c, h, e⟩
    exact ⟨d, k, c, by rw [S.get_push] at h; exact h, e⟩
  · rintro ⟨d, k, c, h, e⟩
    exact ⟨d, k, c, by rw [S.get_push]; exact h, e⟩
theorem Ext.push : Ext H ρ s H ρ s.push := ⟨fun a o h n => ⟨h, fun l => n (Live.push.mp l)⟩, fun d k c h => ⟨⟨c, by rw [S.get_push]; exact h⟩, rfl⟩⟩
theorem StOk.push (w : StOk K Z H ρ s) : StOk K Z H ρ s.push where
  cel := fun d k c h => by
    rw [S.get_push] at h
    exact (w.cel d k c h).mono w Ext.push zsame rfl
  inj := fun d1 k1 c1 d2 k2 c2 e1 e2 z => by
    rw [S.get_push] at e1 e2
    exact w.inj _ _ _ _ _ _ e1 e2 z
  shal := fun d k c h => by
    rw [S.get_push] at h
    exact w.shal d k c h
  zt := fun a z => by
    obtain ⟨h1, h2⟩ := w.zt a z
    exact ⟨h1, fun l => h2 (Live.push.mp l)⟩
mutual
theorem shal_mono {a b : Nat} (h : a ≤ b) : ∀ {d : D}, d.shal a = true → d.shal b = true
  | .non, _ => by simp [D.shal]
  | .bl _, _ => by simp [D.shal]
  | .int _, _ => by simp [D.shal]
  | .str _, _ => by simp [D.shal]
  | .fz _, _ => by simp [D.shal]
  | .tup xs, q => by simp only [D.shal] at q ⊢; exact shals_mono h q
  | .lst xs, q => by simp only [D.shal] at q ⊢; exact shals_mono h q
  | .dct xs, q => by simp only [D.shal] at q ⊢; exact shalk_mono h q
  | .ref e k, q => by simp only [D.shal] at q ⊢; exact decide_eq_true (Nat.lt_of_lt_of_le (of_decide_eq_true q) h)
theorem shals_mono {a b : Nat} (h : a ≤ b) : ∀ {ds : List D}, shals a ds = true → shals b ds = true
  | [], _ => by simp [shals]
  | x :: xs, q => by
    simp only [shals, Bool.and_eq_true] at q ⊢
    exact ⟨shal_mono h q.1, shals_mono h q.2⟩
theorem shalk_mono {a b : Nat} (h : a ≤ b) : ∀ {ds : List (Str × D)}, shalk a ds = true → shalk b ds = true
  | [], _ => by simp [shalk]
  | (_, x) :: xs, q => by
    simp only [shalk, Bool.and_eq_true] at q ⊢
    exact ⟨shal_mono h q.1, shalk_mono h q.2⟩
end
theorem popS_get {o : List (List Cel)} {c cur : List Cel} {d k : Nat} {x : Cel} (h : (S.mk o c).get d k = some x) : (S.mk (c :: o) cur).get d k = some x := by
  rw [S.get_low (S.get_dep h)]
  exact h
mutual
theorem Rep.pop {o : List (List Cel)} {c cur : List Cel} : ∀ {v : V} {d : D}, Rep K Z H ρ ⟨c :: o, cur⟩ v d → d.shal (o.length + 1) = true → Rep K Z H ρ ⟨o, c⟩ v d
  | _, _, .non, _ => .non
  | _, _, .bl b, _ => .bl b
  | _, _, .int i, _ => .int i
  | _, _, .str y, _ => .str y
  | _, _, .tup h r, q => .tup h (Reps.pop r (by simp only [D.shal] at q; exact q))
  | _, _, .lst h n nz r, q => .lst h (fun ⟨d, k, x, e, z⟩ => n ⟨d, k, x, popS_get e, z⟩) nz (Reps.pop r (by simp only [D.shal] at q; exact q))
  | _, _, .fz h n nz, _ => .fz h (fun ⟨d, k, x, e, z⟩ => n ⟨d, k, x, popS_get e, z⟩) nz
  | _, _, .fzK h, _ => .fzK h
  | _, _, .dct h n nz r, q => .dct h (fun ⟨d, k, x, e, z⟩ => n ⟨d, k, x, popS_get e, z⟩) nz (Repk.pop r (by simp only [D.shal] at q; exact q))
  | _, _, .ref (c := x) h, q => .ref (c := x) (by
      simp only [D.shal] at q
      have q := of_decide_eq_true q
      rw [S.get_low (by omega)] at h
      exact h)
theorem Reps.pop {o : List (List Cel)} {c cur : List Cel} : ∀ {vs : List V} {ds : List D}, Reps K Z H ρ ⟨c :: o, cur⟩ vs ds → shals (o.length + 1) ds = true → Reps K Z H ρ ⟨o, c⟩ vs ds
  | _, _, .nil, _ => .nil
  | _, _, .cons r t, q => by
    simp only [shals, Bool.and_eq_true] at q
    exact .cons (Rep.pop r q.1) (Reps.pop t q.2)
theorem Repk.pop {o : List (List Cel)} {c cur : List Cel} : ∀ {ks : List (Key × V)} {es : List (Str × D)}, Repk K Z H ρ ⟨c :: o, cur⟩ ks es → shalk (o.length + 1) es = true → Repk K Z H ρ ⟨o, c⟩ ks es
  | _, _, .nil, _ => .nil
  | _, _, .cons r t, q => by
    simp only [shalk, Bool.and_eq_true] at q
    exact .cons (Rep.pop r q.1) (Repk.pop t q.2)
end
theorem StOk.pop {o : List (List Cel)} {c cur : List Cel} (w : StOk K Z H ρ ⟨c :: o, cur⟩) : StOk K Z H ρ ⟨o, c⟩ where
  cel := fun d k x h => by
    have q := w.cel d k x (popS_get h)
    have z := w.shal d k x (popS_get h)
    have hd := S.get_dep h
    cases x with
    | lst ds =>
      obtain ⟨vs, e, r⟩ := q
      have hd' : d ≤ o.length := hd
      exact ⟨vs, e, r.pop (shals_mono (by omega) z)⟩
    | dct es =>
      obtain ⟨vs, e, r⟩ := q
      have hd' : d ≤ o.length := hd
      exact ⟨vs, e, r.pop (shalk_mono (by omega) z)⟩
  inj := fun d1 k1 c1 d2 k2 c2 e1 e2 z => w.inj _ _ _ _ _ _ (popS_get e1) (popS_get e2) z
  shal := fun d k x h => w.shal d k x (popS_get h)
  zt := fun a z => by
    obtain ⟨h1, h2⟩ := w.zt a z
    exact ⟨h1, fun ⟨d, k, x, e, q⟩ => h2 ⟨d, k, x, popS_get e, q⟩⟩
theorem Ext.pop {o : List (List Cel)} {c cur : List Cel} (hd : s.dep = o.length) (x : Ext H ρ s.push H' ρ' ⟨c :: o, cur⟩) : Ext H ρ s H' ρ' ⟨o, c⟩ where
  keep := fun a u h n => by
    obtain ⟨h1, n1⟩ := x.keep a u h fun l => n (Live.push.mp l)
    exact ⟨h1, fun ⟨d, k, y, e, q⟩ => n1 ⟨d, k, y, popS_get e, q⟩⟩
  refs := fun d k y h => by
    obtain ⟨⟨y', h1⟩, e⟩ := x.refs d k y (by rw [S.get_push]; exact h)
    refine ⟨⟨y', ?_⟩, e⟩
    rw [S.get_low (by have := S.get_dep h; omega)] at h1
    exact h1
end
end Ev

set_option Elab.async false
set_option linter.all false
set_option maxRecDepth 100000
/-! Ev2: the operators' rules. -/
namespace Ev
open PySem PySem.Spec L2 PyProof.Rows

theorem lim_line {n : Nat} (h : n ≤ LIM) : n ≤ sizeLine := Nat.le_trans h (by rw [sizeLine_eq]; decide)
theorem lim_lt {n : Nat} (h : n < LIM) : n < sizeLine := Nat.lt_of_lt_of_le h (lim_line (Nat.le_refl _))

/-- a value comes, by the heap it may have been laid in; s': the cells then -/
def OutE (K : PySem.W.Frag) (Z : Zs) (H : Hp) (ρ : Rho) (s s' : S) (d : D) (Q : VK) : Prop := ∀ v H' ρ', Ext H ρ s H' ρ' s' → StOk K Z H' ρ' s' → Rep K Z H' ρ' s' v d → Q v H'
/-- .. a list that nobody else has -/
def OutL (K : PySem.W.Frag) (Z : Zs) (H : Hp) (ρ : Rho) (s s' : S) (ds : List D) (Q : VK) : Prop := ∀ p vs H' ρ', Ext H ρ s H' ρ' s' → H p = none → StOk K (Z.add p) H' ρ' s' → H' p = some (.lst vs) → Reps K (Z.add p) H' ρ' s' vs ds → Q (.ref p) H'
def OutF (K : PySem.W.Frag) (Z : Zs) (H : Hp) (ρ : Rho) (s s' : S) (d : D) (Q : VK) : Prop := match d with
  | .lst ds => OutL K Z H ρ s s' ds Q
  | d => OutE K Z H ρ s s' d Q
abbrev Out (K : PySem.W.Frag) (Z : Zs) (H : Hp) (ρ : Rho) (s : S) (d : D) (Q : VK) : Prop := OutF K Z H ρ s s d Q
section
variable {K : PySem.W.Frag} {Z Z' : Zs} {H H1 H2 H' : Hp} {ρ ρ1 ρ2 ρ' : Rho} {s s1 s2 s' : S} {a p : Addr} {v x y : V} {d dx dy : D} {Q : VK}
theorem OutE.here (w : StOk K Z H ρ s) (o : OutE K Z H ρ s s d Q) (r : Rep K Z H ρ s v d) : Q v H := o v H ρ Ext.refl w r
theorem Out.bl {b : Bool} (w : StOk K Z H ρ s) (o : Out K Z H ρ s (.bl b) Q) : Q (.bl b) H := OutE.here w o (.bl b)
theorem Out.int {i : Int} (w : StOk K Z H ρ s) (o : Out K Z H ρ s (.int i) Q) : Q (.int i) H := OutE.here w o (.int i)
theorem Out.str {i : Str} (w : StOk K Z H ρ s) (o : Out K Z H ρ s (.str i) Q) : Q (.str i) H := OutE.here w o (.str i)
theorem Out.tupH {a : Addr} {vs : List V} {ds : List D} (w : StOk K Z H ρ s) (o : Out K Z H ρ s (.tup ds) Q) (h : SqT K H a vs) (r : Reps K Z H ρ s vs ds) : Q (.ref a) H := OutE.here w o (.tup h r)
theorem Out.tup {vs : List V} {ds : List D} (w : StOk K Z H ρ s) (o : Out K Z H ρ s (.tup ds) Q) (r : Reps K Z H ρ s vs ds) (hp : H p = none) : Q (.ref p) (upd H p (.tup vs)) :=
  (show OutE K Z H ρ s s (.tup ds) Q from o) _ _ ρ (Ext.fresh hp) (w.fresh hp) (.tup (SqT.of upd_same) (r.ext w (Ext.fresh hp)))
theorem OutL.new {vs : List V} {ds : List D} (w : StOk K Z H ρ s) (o : OutL K Z H ρ s s ds Q) (r : Reps K Z H ρ s vs ds) (hp : H p = none) : Q (.ref p) (upd H p (.lst vs)) :=
  o p vs _ ρ (Ext.fresh hp) hp (w.reserve hp) upd_same (r.mono w (Ext.fresh hp) (zadd hp))
theorem Out.lst {vs : List V} {ds : List D} (w : StOk K Z H ρ s) (o : Out K Z H ρ s (.lst ds) Q) (r : Reps K Z H ρ s vs ds) (hp : H p = none) : Q (.ref p) (upd H p (.lst vs)) := OutL.new w o r hp
theorem zless {q : Addr} : ∀ a, Z a → Zs.add Z q a := fun _ h => .inl h
/-- a new list is a list -/
theorem OutE.toF (w : StOk K Z H ρ s) (o : OutE K Z H ρ s s' d Q) : OutF K Z H ρ s s' d Q := by
  cases d with
  | lst ds =>
    intro p vs H' ρ' e hp w' h r
    exact o _ _ _ e (w'.less zless) (.lst h (fun l => (w'.zt p (.inr rfl)).2 l) (fun z => (w.zt p z).1 hp) (r.less w' zless))
  | _ => exact o
/-- a list that may be read -/
theorem view_lst {ds : List D} (w : StOk K Z H ρ s) (r : Rep K Z H ρ s v d) (h : s.view d = .lst ds) : ∃ a vs, v = .ref a ∧ H a = some (.lst vs) ∧ Reps K Z H ρ s vs ds := by
  cases r with
  | non => cases h
  | bl _ => cases h
  | int _ => cases h
  | str _ => cases h
  | tup _ _ => cases h
  | lst h1 h2 h3 h4 => cases h; exact ⟨_, _, rfl, h1, h4⟩
  | fz _ _ _ => cases h
  | fzK _ => cases h
  | dct _ _ _ _ => cases h
  | @ref d k c e =>
    have q := w.cel d k c e
    unfold S.view at h
    simp only [e] at h
    cases c with
    | lst es => cases h; obtain ⟨vs, h1, h2⟩ := q; exact ⟨_, vs, rfl, h1, h2⟩
    | dct es => cases h
theorem view_tup {ds : List D} (w : StOk K Z H ρ s) (r : Rep K Z H ρ s v d) (h : s.view d = .tup ds) : ∃ a vs, v = .ref a ∧ SqT K H a vs ∧ Reps K Z H ρ s vs ds := by
  cases r with
  | non => cases h
  | bl _ => cases h
  | int _ => cases h
  | str _ => cases h
  | tup h1 h2 => cases h; exact ⟨_, _, rfl, h1, h2⟩
  | lst h1 h2 h3 h4 => cases h
  | fz _ _ _ => cases h
  | fzK _ => cases h
  | dct _ _ _ _ => cases h
  | @ref d k c e =>
    unfold S.view at h
    simp only [e] at h
    cases c <;> cases h
theorem view_fz {ns : List Int} (w : StOk K Z H ρ s) (r : Rep K Z H ρ s v d) (h : s.view d = .fz ns) : ∃ a, v = .ref a ∧ SqL K H a (ns.map V.int) := by
  cases r with
  | non => cases h
  | bl _ => cases h
  | int _ => cases h
  | str _ => cases h
  | tup h1 h2 => cases h
  | lst h1 h2 h3 h4 => cases h
  | fz h1 _ _ => cases h; exact ⟨_, rfl, .inl h1⟩
  | fzK h1 => cases h; exact ⟨_, rfl, .inr h1⟩
  | dct _ _ _ _ => cases h
  | @ref d k c e =>
    unfold S.view at h
    simp only [e] at h
    cases c <;> cases h
theorem view_str {z : Str} (w : StOk K Z H ρ s) (r : Rep K Z H ρ s v d) (h : s.view d = .str z) : v = .str z := by
  cases r with
  | str _ => cases h; rfl
  | @ref d k c e =>
    unfold S.view at h
    simp only [e] at h
    cases c <;> cases h
  | _ => cases h
theorem view_dct {es : List (Str × D)} (w : StOk K Z H ρ s) (r : Rep K Z H ρ s v d) (h : s.view d = .dct es) : ∃ a ks, v = .ref a ∧ H a = some (.dK ks) ∧ Repk K Z H ρ s ks es := by
  cases r with
  | dct h1 _ _ h4 => cases h; exact ⟨_, _, rfl, h1, h4⟩
  | @ref d k c e =>
    have q := w.cel d k c e
    unfold S.view at h
    simp only [e] at h
    cases c with
    | lst es => cases h
    | dct es => cases h; obtain ⟨vs, h1, h2⟩ := q; exact ⟨_, vs, rfl, h1, h2⟩
  | _ => cases h
/-- what items tells stands there -/
theorem items_rep {ds : List D} (w : StOk K Z H ρ s) (r : Rep K Z H ρ s v d) (h : items s d = some ds) : ∃ a vs, v = .ref a ∧ (SqL K H a vs ∨ SqT K H a vs) ∧ Reps K Z H ρ s vs ds := by
  unfold items at h
  split at h
  · rename_i q; cases h; obtain ⟨a, vs, h1, h2, h3⟩ := view_tup w r q; exact ⟨a, vs, h1, .inr h2, h3⟩
  · rename_i q; cases h; obtain ⟨a, vs, h1, h2, h3⟩ := view_lst w r q; exact ⟨a, vs, h1, .inl (.inl (.inl h2)), h3⟩
  · rename_i q; cases h; obtain ⟨a, h1, h2⟩ := view_fz w r q; exact ⟨a, _, h1, .inl h2, Reps.ints _⟩
  · cases h

/-! ### operators -/
def rBin (K : PySem.W.Frag) (o : Op2) : R2 := fun x y H Q => ∃ Z ρ s dx dy d, StOk K Z H ρ s ∧ Rep K Z H ρ s x dx ∧ Rep K Z H ρ s y dy ∧ binD s o dx dy = some d ∧ Out K Z H ρ s d Q
def opOf : Op2 → Operator
  | .add => .Add | .sub => .Sub | .mul => .Mult | .fdiv => .FloorDiv | .mod => .Mod | .pow => .Pow
end
section
variable {X : Cx}
theorem op_fdivX : OpR X (binaryOp .FloorDiv) (rI (fun _ j => j ≠ 0 ∧ j.natAbs.log2 < 9000) fun i j => .int (i.fdiv j)) := opI fun i j _ _ _ _ _ hc q => floordiv_int hc.1 q (.inl (PyProof.noPylong_of_log2 hc.2))
theorem big_mul {i j : Int} (h : mulOk i j) : IntMulOk i j := by
  rcases h with h | h | ⟨h1, h2⟩
  · exact CMul.ok (.inl ⟨by omega, by omega⟩)
  · exact CMul.ok (.inr ⟨by omega, by omega⟩)
  · exact (wide_mul (a := 400000) (b := 400000) h1 h2 (by decide) (by decide) (by decide)).ok
theorem op_mulX : OpR X (binaryOp .Mult) (rI mulOk fun i j => .int (i * j)) := opI fun _ _ _ _ _ _ _ hc q => mul_int q (big_mul hc)
theorem repD_one (xs : List D) : repD xs 1 = xs := by show xs ++ [] = xs; rw [List.append_nil]
theorem tuple_mul1 (l : Addr) (items : Array Value) (n : Nat) (dd : Option Addr) (sl : Array (Option Value)) (u : Tok) (hs : items.isEmpty = false) :
    Meets (Builtin.«tuple.__mul__» ⟨[.ref l, .int 1 u], []⟩) (fun _ R s => s.heap.get? l = some { cls := .type "tuple", dict := dd, data := .seq items n, slots := sl } ∧
      R (.ok (.ret (Value.ref l))) s) :=
  .of_wp fun prog w A R s h => by
    obtain ⟨hp, g, d, tk, os⟩ := s
    obtain ⟨hl, h⟩ := h
    have f1 := AutoSeq1.idx_int
    wp_walk using wpAny_loadPart' hl
    exact ⟨_, rfl, h⟩
/-- t * 1 is t itself -/
theorem op_repT1 : OpR X (binaryOp .Mult) (fun x y H Q => ∃ l xs, x = .ref l ∧ y = .int 1 ∧ SqT X.K H l xs ∧ xs ≠ [] ∧ Q (.ref l) H) := by
  intro pins s σ H x y v u Q I rx ry h
  obtain ⟨l, xs, rfl, rfl, hT, hne, q⟩ := h
  cases rx
  obtain ⟨t, rfl⟩ := ry
  obtain ⟨its, r, ⟨⟨cls, dd, data, sl⟩, ho, hc, n, hd⟩, hs⟩ := I.tuple hT
  simp only at hc hd
  subst hc hd
  have hle : its.length = xs.length := r.length.symm
  have hn : its ≠ [] := fun e => hne (by
    rw [e] at hle
    exact List.eq_nil_of_length_eq_zero hle.symm)
  have hi : its.toArray.isEmpty = false := by
    cases its with
    | nil => exact absurd rfl hn
    | cons a b => rfl
  refine wpAny_binaryOp_repeat_ref (T := "tuple") (U := "int") (by decide) ⟨_, ho, rfl⟩ (fun s' => typeIs_int s' 1 t) noFill_tuple_mul F.fills_int_mul F.slot_int_rmul repeat_tuple F.slot_int_index.lookup
    (call_meets F.slot_int_rmul (typeIs_int s 1 t) F.entry_int_rmul (F.args_int_rmul_2 _ _) (int_rmul_tuple 1 t l its.toArray n dd sl)
      ⟨ho, rfl, ⟨_, ho, rfl⟩, call_meets F.slot_tuple_mul ⟨_, ho, rfl⟩ F.entry_tuple_mul (F.args_tuple_mul_2 _ _) (tuple_mul1 l its.toArray n dd sl t hi) ⟨ho, ?_⟩⟩)
  exact ⟨.ref l, H, I, rfl, q⟩
theorem op_bin (o : Op2) : OpR X (binaryOp (opOf o)) (rBin X.K o) := by
  intro pins sh σ H x y v u Q I rx ry h
  obtain ⟨Z, ρ, s, dx, dy, d, w, hx, hy, hd, out⟩ := h
  -- two ints
  have tw : ∀ {i j : Int}, dx = .int i → dy = .int j → x = .int i ∧ y = .int j := fun {i j} e1 e2 => by
    subst e1 e2
    cases hx
    cases hy
    exact ⟨rfl, rfl⟩
  unfold binD at hd
  split at hd
  · cases hd
    obtain ⟨rfl, rfl⟩ := tw rfl rfl
    exact op_add pins sh σ H _ _ v u Q I rx ry ⟨_, _, rfl, rfl, out.int w⟩
  · cases hd
    obtain ⟨rfl, rfl⟩ := tw rfl rfl
    exact op_sub pins sh σ H _ _ v u Q I rx ry ⟨_, _, rfl, rfl, out.int w⟩
  · split at hd
    · rename_i hc
      cases hd
      obtain ⟨rfl, rfl⟩ := tw rfl rfl
      exact op_mulX pins sh σ H _ _ v u Q I rx ry ⟨_, _, rfl, rfl, hc, out.int w⟩
    · cases hd
  · split at hd
    · rename_i hc
      cases hd
      obtain ⟨rfl, rfl⟩ := tw rfl rfl
      exact op_fdivX pins sh σ H _ _ v u Q I rx ry ⟨_, _, rfl, rfl, ⟨hc.1, Nat.lt_of_lt_of_le (PySem.Flt.log2_lt_of (by decide) hc.2) (by decide)⟩, out.int w⟩
    · cases hd
  · split at hd
    · cases hd
    · rename_i hc
      cases hd
      obtain ⟨rfl, rfl⟩ := tw rfl rfl
      exact op_modN pins sh σ H _ _ v u Q I rx ry ⟨_, _, rfl, rfl, hc, out.int w⟩
  · split at hd
    · rename_i hc
      cases hd
      obtain ⟨rfl, rfl⟩ := tw rfl rfl
      exact op_pow pins sh σ H _ _ v u Q I rx ry ⟨_, _, rfl, rfl, hc, out.int w⟩
    · cases hd
  · split at hd
    · rename_i hc
      cases hd
      cases hx with | tup h1 r1 =>
      cases hy with | tup h2 r2 =>
      refine op_catA pins sh σ H _ _ v u Q I rx ry ⟨_, _, _, _, rfl, rfl, h1, h2, by rw [r1.length, r2.length]; exact lim_line hc, fun e => ?_, fun _ e => ?_, fun _ _ p hp => out.tup w (r1.app r2) hp⟩
      · subst e; cases r1; exact out.tupH w h2 r2
      · subst e; cases r2; rw [List.append_nil] at out; exact out.tupH w h1 r1
    · cases hd
  · split at hd
    · rename_i hc
      cases hd
      cases hx
      cases hy
      exact op_add_str pins sh σ H _ _ v u Q I rx ry ⟨_, _, rfl, rfl, lim_line hc, out.str w⟩
    · cases hd
  · split at hd
    · rename_i k hc
      cases hd
      cases hx with | tup h1 r1 =>
      cases hy
      by_cases h2 : 2 ≤ k
      · exact op_repT pins sh σ H _ _ v u Q I rx ry ⟨_, _, _, rfl, rfl, h1, fun e => hc.2.2.1 (by subst e; cases r1; rfl), h2, hc.2.1, by rw [r1.length]; exact hc.2.2.2, fun p hp => out.tup w (r1.rep _) hp⟩
      · have e : k = 1 := by omega
        subst e
        refine op_repT1 pins sh σ H _ _ v u Q I rx ry ⟨_, _, rfl, rfl, h1, fun e => hc.2.2.1 (by subst e; cases r1; rfl), ?_⟩
        rw [show repD _ (1 : Int).toNat = _ from repD_one _] at out
        exact out.tupH w h1 r1
    · cases hd
  · split at hd
    · rename_i q1 q2
      split at hd
      · rename_i hc
        cases hd
        obtain ⟨a1, vs1, rfl, h1, r1⟩ := view_lst w hx q1
        obtain ⟨a2, vs2, rfl, h2, r2⟩ := view_lst w hy q2
        exact op_cat pins sh σ H _ _ v u Q I rx ry ⟨_, _, _, _, rfl, rfl, h1, h2, by rw [r1.length, r2.length]; exact lim_line hc, fun p hp => out.lst w (r1.app r2) hp⟩
      · cases hd
    · cases hd
  · cases hd
end

/-! ### comparisons -/
mutual
def toP : D → PyData
  | .non => .none
  | .bl b => .bool b
  | .int i => .int i
  | .str x => .str x
  | .tup xs => .tuple (toPs xs)
  | .lst xs => .list (toPs xs)
  | .fz _ => .none
  | .dct _ => .none
  | .ref _ _ => .none
def toPs : List D → List PyData
  | [] => []
  | x :: xs => toP x :: toPs xs
end
mutual
theorem plain_lay : ∀ {n : Nat} {d : D}, d.plain n = true → (toP d).canLay0 = true ∧ (toP d).depth ≤ n
  | _, .non, _ => by simp [toP, PyData.canLay0, PyData.depth]
  | _, .bl _, _ => by simp [toP, PyData.canLay0, PyData.depth]
  | _, .int _, _ => by simp [toP, PyData.canLay0, PyData.depth]
  | 0, .str x, h => by simp only [D.plain] at h; simp only [toP, PyData.canLay0, PyData.depth]; exact ⟨h, Nat.zero_le _⟩
  | n + 1, .str x, h => by simp only [D.plain] at h; simp only [toP, PyData.canLay0, PyData.depth]; exact ⟨h, Nat.zero_le _⟩
  | 0, .tup xs, h => by simp [D.plain] at h
  | n + 1, .tup xs, h => by
    simp only [D.plain] at h
    obtain ⟨h1, h2⟩ := plains_lay h
    simp only [toP, PyData.canLay0, PyData.depth]
    exact ⟨h1, Nat.succ_le_succ h2⟩
  | 0, .lst xs, h => by simp [D.plain] at h
  | n + 1, .lst xs, h => by
    simp only [D.plain] at h
    obtain ⟨h1, h2⟩ := plains_lay h
    simp only [toP, PyData.canLay0, PyData.depth]
    exact ⟨h1, Nat.succ_le_succ h2⟩
  | 0, .fz _, h => by simp [D.plain] at h
  | n + 1, .fz _, h => by simp [D.plain] at h
  | 0, .dct _, h => by simp [D.plain] at h
  | n + 1, .dct _, h => by simp [D.plain] at h
  | 0, .ref _ _, h => by simp [D.plain] at h
  | n + 1, .ref _ _, h => by simp [D.plain] at h
theorem plains_lay : ∀ {n : Nat} {ds : List D}, plains n ds = true → PyData.canLayAll0 (toPs ds) = true ∧ PyData.depthAll (toPs ds) ≤ n
  | _, [], _ => by simp [toPs, PyData.canLayAll0, PyData.depthAll]
  | n, x :: xs, h => by
    simp only [plains, Bool.and_eq_true] at h
    obtain ⟨a1, a2⟩ := plain_lay h.1
    obtain ⟨b1, b2⟩ := plains_lay h.2
    simp only [toPs, PyData.canLayAll0, PyData.depthAll, Bool.and_eq_true]
    exact ⟨⟨a1, b1⟩, Nat.max_le.mpr ⟨a2, b2⟩⟩
end
section
variable {K : PySem.W.Frag} {Z Z' : Zs} {H H1 H2 H' : Hp} {ρ ρ1 ρ2 ρ' : Rho} {s s1 s2 s' : S} {a p : Addr} {v x y : V} {d dx dy : D} {Q : VK}
mutual
theorem dp_of : ∀ {n : Nat} {v : V} {d : D}, Rep K Z H ρ s v d → d.plain n = true → Dp K H v (toP d)
  | _, _, _, .non, _ => by simp only [toP]; exact .non
  | _, _, _, .bl b, _ => by simp only [toP]; exact .bl b
  | _, _, _, .int i, _ => by simp only [toP]; exact .int i
  | _, _, _, .str x, _ => by simp only [toP]; exact .str x
  | 0, _, _, .tup h r, q => by simp [D.plain] at q
  | n + 1, _, _, .tup h r, q => by
    simp only [D.plain] at q
    simp only [toP]
    exact .tup h (dps_of r q)
  | 0, _, _, .lst h _ _ r, q => by simp [D.plain] at q
  | n + 1, _, _, .lst h _ _ r, q => by
    simp only [D.plain] at q
    simp only [toP]
    exact .lst (SqL.of h) (dps_of r q)
  | 0, _, _, .fz _ _ _, q => by simp [D.plain] at q
  | n + 1, _, _, .fz _ _ _, q => by simp [D.plain] at q
  | 0, _, _, .fzK _, q => by simp [D.plain] at q
  | n + 1, _, _, .fzK _, q => by simp [D.plain] at q
  | 0, _, _, .dct _ _ _ _, q => by simp [D.plain] at q
  | n + 1, _, _, .dct _ _ _ _, q => by simp [D.plain] at q
  | 0, _, _, .ref _, q => by simp [D.plain] at q
  | n + 1, _, _, .ref _, q => by simp [D.plain] at q
theorem dps_of : ∀ {n : Nat} {vs : List V} {ds : List D}, Reps K Z H ρ s vs ds → plains n ds = true → DpAll K H vs (toPs ds)
  | _, _, _, .nil, _ => by simp only [toPs]; exact .nil
  | n, _, _, .cons r t, q => by
    simp only [plains, Bool.and_eq_true] at q
    simp only [toPs]
    exact .cons (dp_of r q.1) (dps_of t q.2)
end
@[simp] theorem plain_fz (m : Nat) (l : List Int) : (D.fz l).plain m = false := by cases m <;> simp [D.plain]
@[simp] theorem plain_dct (m : Nat) (l : List (Str × D)) : (D.dct l).plain m = false := by cases m <;> simp [D.plain]
@[simp] theorem plain_ref (m d k : Nat) : (D.ref d k).plain m = false := by cases m <;> simp [D.plain]
theorem plain_tup {m : Nat} {xs : List D} (h : (D.tup xs).plain m = true) : ∃ k, m = k + 1 ∧ plains k xs = true := by
  cases m with
  | zero => simp [D.plain] at h
  | succ k => exact ⟨k, rfl, by simpa [D.plain] using h⟩
theorem plain_lst {m : Nat} {xs : List D} (h : (D.lst xs).plain m = true) : ∃ k, m = k + 1 ∧ plains k xs = true := by
  cases m with
  | zero => simp [D.plain] at h
  | succ k => exact ⟨k, rfl, by simpa [D.plain] using h⟩
mutual
theorem eqv_toP : ∀ (x : D) {n m : Nat} (y : D), x.plain n = true → y.plain m = true → PyData.eqv (toP x) (toP y) = x.eqv y
  | .tup xs, n, m, y, hx, hy => by
    cases y with
    | tup ys =>
      obtain ⟨k, _, h1⟩ := plain_tup hx
      obtain ⟨j, _, h2⟩ := plain_tup hy
      simp only [toP, PyData.eqv, D.eqv]
      exact eqvs_toP xs ys h1 h2
    | fz l => simp at hy
    | dct l => simp at hy
    | ref d k => simp at hy
    | _ => simp [toP, PyData.eqv, D.eqv]
  | .lst xs, n, m, y, hx, hy => by
    cases y with
    | lst ys =>
      obtain ⟨k, _, h1⟩ := plain_lst hx
      obtain ⟨j, _, h2⟩ := plain_lst hy
      simp only [toP, PyData.eqv, D.eqv]
      exact eqvs_toP xs ys h1 h2
    | fz l => simp at hy
    | dct l => simp at hy
    | ref d k => simp at hy
    | _ => simp [toP, PyData.eqv, D.eqv]
  | .non, n, m, y, hx, hy => by
    cases y with
    | fz l => simp at hy
    | dct l => simp at hy
    | ref d k => simp at hy
    | _ => simp [toP, PyData.eqv, D.eqv]
  | .bl b, n, m, y, hx, hy => by
    cases y with
    | fz l => simp at hy
    | dct l => simp at hy
    | ref d k => simp at hy
    | _ => simp [toP, PyData.eqv, D.eqv]
  | .int b, n, m, y, hx, hy => by
    cases y with
    | fz l => simp at hy
    | dct l => simp at hy
    | ref d k => simp at hy
    | _ => simp [toP, PyData.eqv, D.eqv]
  | .str b, n, m, y, hx, hy => by
    cases y with
    | fz l => simp at hy
    | dct l => simp at hy
    | ref d k => simp at hy
    | _ => simp [toP, PyData.eqv, D.eqv]
  | .fz l, n, m, y, hx, hy => by simp at hx
  | .dct l, n, m, y, hx, hy => by simp at hx
  | .ref d k, n, m, y, hx, hy => by simp at hx
theorem eqvs_toP : ∀ (xs : List D) {n m : Nat} (ys : List D), plains n xs = true → plains m ys = true → PyData.eqvAll (toPs xs) (toPs ys) = eqvs xs ys
  | [], n, m, ys, hx, hy => by cases ys <;> simp [toPs, PyData.eqvAll, eqvs]
  | x :: xs, n, m, ys, hx, hy => by
    cases ys with
    | nil => simp [toPs, PyData.eqvAll, eqvs]
    | cons y ys =>
      simp only [plains, Bool.and_eq_true] at hx hy
      simp only [toPs, PyData.eqvAll, eqvs]
      rw [eqv_toP x y hx.1 hy.1, eqvs_toP xs ys hx.2 hy.2]
end
theorem shaped_of {n : Nat} {d : D} (h : d.plain n = true) (hn : n ≤ 64) : SeqAt.shaped (toP d) = true := by
  obtain ⟨h1, h2⟩ := plain_lay h
  unfold SeqAt.shaped
  rw [h1, Bool.true_and]
  exact decide_eq_true (Nat.le_trans h2 hn)
/-- .. of what stands now -/
theorem dp_view (w : StOk K Z H ρ s) (r : Rep K Z H ρ s v d) {n : Nat} (h : (s.view d).plain n = true) : Dp K H v (toP (s.view d)) := by
  cases r with
  | @ref e k c q =>
    have hv : s.view (.ref e k) = match some c with | some (.lst xs) => .lst xs | some (.dct kvs) => .dct kvs | none => .ref e k := by
      unfold S.view
      simp only [q]
      (try (cases c <;> rfl))
    rw [hv] at h ⊢
    cases c with
    | lst xs =>
      obtain ⟨vs, h1, h2⟩ := w.cel e k _ q
      obtain ⟨j, _, h3⟩ := plain_lst h
      simp only [toP]
      exact .lst (SqL.of h1) (dps_of h2 h3)
    | dct kvs => simp at h
  | non => exact dp_of (Z := Z) (ρ := ρ) (s := s) .non h
  | bl b => exact dp_of (Z := Z) (ρ := ρ) (s := s) (.bl b) h
  | int b => exact dp_of (Z := Z) (ρ := ρ) (s := s) (.int b) h
  | str b => exact dp_of (Z := Z) (ρ := ρ) (s := s) (.str b) h
  | tup a b => exact dp_of (Z := Z) (ρ := ρ) (s := s) (.tup a b) h
  | lst a b c e => exact dp_of (Z := Z) (ρ := ρ) (s := s) (.lst a b c e) h
  | fz a b c => exact dp_of (Z := Z) (ρ := ρ) (s := s) (.fz a b c) h
  | fzK a => exact dp_of (Z := Z) (ρ := ρ) (s := s) (.fzK a) h
  | dct a b c e => exact dp_of (Z := Z) (ρ := ρ) (s := s) (.dct a b c e) h
/-- lexicographic -/
theorem lts_lex (e r : Nat → Bool) : ∀ (xs ys : List D) (i : Nat) (b : Bool), (∀ (j : Nat) (x y : D), xs[j]? = some x → ys[j]? = some y → e (i + j) = x.eqv y) → (∀ (j : Nat) (x y : D), xs[j]? = some x → ys[j]? = some y → r (i + j) = (x.lt y).getD false) →
    lts xs ys = some b → Ob.lexAt e r (decide (xs.length < ys.length)) i (min xs.length ys.length) = b
  | [], [], i, b, _, _, h => by simp only [lts] at h; cases h; rfl
  | [], y :: ys, i, b, _, _, h => by simp only [lts] at h; cases h; simp [Ob.lexAt_zero]
  | x :: xs, [], i, b, _, _, h => by simp only [lts] at h; cases h; simp [Ob.lexAt_zero]
  | x :: xs, y :: ys, i, b, he, hr, h => by
    simp only [lts] at h
    rw [List.length_cons, List.length_cons, show min (xs.length + 1) (ys.length + 1) = min xs.length ys.length + 1 by omega, Ob.lexAt_succ]
    have e0 : e i = x.eqv y := he 0 x y rfl rfl
    have r0 : r i = (x.lt y).getD false := hr 0 x y rfl rfl
    cases hl : lts xs ys with
    | none => rw [hl] at h; cases h
    | some c =>
      rw [hl] at h
      simp only at h
      rw [e0, r0]
      split
      · rename_i q
        rw [if_pos q] at h
        cases h
        have := lts_lex e r xs ys (i + 1) b (fun j x y h1 h2 => by rw [Nat.add_assoc, Nat.add_comm 1 j]; exact he (j + 1) x y h1 h2) (fun j x y h1 h2 => by rw [Nat.add_assoc, Nat.add_comm 1 j]; exact hr (j + 1) x y h1 h2) hl
        rw [← this]
        congr 1
        exact decide_eq_decide.mpr (by omega)
      · rename_i q
        rw [if_neg q] at h
        rw [h] <;> rfl
/-- each pair that differs is comparable -/
theorem lts_all : ∀ (xs ys : List D) (b : Bool), lts xs ys = some b → ∀ (j : Nat) (x y : D), xs[j]? = some x → ys[j]? = some y → x.eqv y = false → ∃ c, x.lt y = some c
  | [], ys, b, _, j, x, y, h1, _, _ => by simp at h1
  | x :: xs, [], b, _, j, _, y, _, h2, _ => by simp at h2
  | x :: xs, y :: ys, b, h, j, x', y', h1, h2, q => by
    simp only [lts] at h
    cases hl : lts xs ys with
    | none => rw [hl] at h; cases h
    | some c =>
      rw [hl] at h
      simp only at h
      cases j with
      | zero =>
        simp at h1 h2
        subst h1 h2
        rw [if_neg (by rw [q]; exact Bool.false_ne_true)] at h
        exact ⟨b, h⟩
      | succ j => exact lts_all xs ys c hl j x' y' h1 h2 q
end
section
variable {X : Cx} {pins : List (Addr × Obj)} {σ : L2.St} {H : Hp} {sh : Shared} {Z : Zs} {ρ : Rho} {s : S}
theorem plains_get : ∀ {n : Nat} {ds : List D} {j : Nat} {d : D}, plains n ds = true → ds[j]? = some d → d.plain n = true
  | _, [], _, _, _, h => by simp at h
  | n, x :: xs, 0, _, q, h => by
    simp only [plains, Bool.and_eq_true] at q
    simp at h
    subst h
    exact q.1
  | n, x :: xs, j + 1, d, q, h => by
    simp only [plains, Bool.and_eq_true] at q
    exact plains_get q.2 (by simpa using h)
/-- eqBool of plain data -/
theorem eqAt_rep (I : Inv X pins σ H sh) {n m : Nat} {A : Around} {v u : V} {x y : D} {a b : Value} (rv : Rep X.K Z H ρ s v x) (ru : Rep X.K Z H ρ s u y) (hx : x.plain n = true) (hy : y.plain m = true) (ra : RelV v a) (rb : RelV u b)
    (hu : A.units + n < cLine) : SeqAt.EqAt A sh a b (x.eqv y) := by
  obtain ⟨as, r1⟩ := Dp.reads I (toP x) v a (dp_of rv hx) ra
  obtain ⟨bs, r2⟩ := Dp.reads I (toP y) u b (dp_of ru hy) rb
  rw [← eqv_toP x y hx hy]
  exact fun prog w E Q hq => SeqAt.eqBoolOverData prog w A E sh a b _ _ _ _ Q r1 r2 (plain_lay hx).1 (plain_lay hy).1 (by have := (plain_lay hx).2; have := Nat.min_le_left (toP x).depth (toP y).depth; omega) hq
theorem lt_rep (I : Inv X pins σ H sh) : ∀ (n : Nat) (A : Around) (m : Nat) (v u : V) (x y : D) (a b : Value) (c : Bool), Rep X.K Z H ρ s v x → Rep X.K Z H ρ s u y → x.plain n = true → y.plain m = true → RelV v a → RelV u b →
    A.units + n < cLine → x.lt y = some c → Ob.RcOp .Lt A sh a b c := by
  intro n
  induction n with
  | zero =>
    intro A m v u x y a b c rv ru hx hy ra rb hu h
    cases x with
    | int i =>
      cases y with
      | int j =>
        simp only [D.lt] at h
        cases h
        cases rv
        cases ru
        obtain ⟨t, rfl⟩ := ra
        obtain ⟨t', rfl⟩ := rb
        exact Ob.RcOp.lt_int _ _ _ _
      | _ => simp [D.lt] at h
    | tup xs => simp [D.plain] at hx
    | _ => simp [D.lt] at h
  | succ n ih =>
    intro A m v u x y a b c rv ru hx hy ra rb hu h
    cases x with
    | int i =>
      cases y with
      | int j =>
        simp only [D.lt] at h
        cases h
        cases rv
        cases ru
        obtain ⟨t, rfl⟩ := ra
        obtain ⟨t', rfl⟩ := rb
        exact Ob.RcOp.lt_int _ _ _ _
      | _ => simp [D.lt] at h
    | tup xs =>
      cases y with
      | tup ys =>
        simp only [D.lt] at h
        cases rv with | tup h1 r1 =>
        cases ru with | tup h2 r2 =>
        cases ra
        cases rb
        obtain ⟨its1, v1, t1, z1⟩ := I.tuple h1
        obtain ⟨its2, v2, t2, z2⟩ := I.tuple h2
        have p1 : plains n xs = true := by simpa [D.plain] using hx
        obtain ⟨m', _, p2⟩ := plain_tup hy
        have l1 : its1.length = xs.length := v1.length.symm.trans r1.length
        have l2 : its2.length = ys.length := v2.length.symm.trans r2.length
        have key := lts_lex (fun j => match xs[j]?, ys[j]? with | some x, some y => x.eqv y | _, _ => false) (fun j => match xs[j]?, ys[j]? with | some x, some y => (x.lt y).getD false | _, _ => false) xs ys 0 c
          (fun j x y e1 e2 => by rw [Nat.zero_add]; simp only [e1, e2]) (fun j x y e1 e2 => by rw [Nat.zero_add]; simp only [e1, e2]) h
        have pick : ∀ j (g1 : j < its1.toArray.size) (g2 : j < its2.toArray.size), ∃ x y v' u', xs[j]? = some x ∧ ys[j]? = some y ∧ Rep X.K Z H ρ s v' x ∧ Rep X.K Z H ρ s u' y ∧ RelV v' its1.toArray[j] ∧ RelV u' its2.toArray[j] := fun j g1 g2 => by
          have g1' : j < its1.length := by simpa using g1
          have g2' : j < its2.length := by simpa using g2
          have q1 : j < xs.length := by omega
          have q2 : j < ys.length := by omega
          obtain ⟨v', w1, w2⟩ := r1.get (List.getElem?_eq_getElem q1)
          obtain ⟨u', w3, w4⟩ := r2.get (List.getElem?_eq_getElem q2)
          obtain ⟨a', e1, e2⟩ := v1.get w1
          obtain ⟨b', e3, e4⟩ := v2.get w3
          rw [List.getElem?_eq_getElem g1'] at e1
          rw [List.getElem?_eq_getElem g2'] at e3
          cases e1
          cases e3
          exact ⟨_, _, v', u', List.getElem?_eq_getElem q1, List.getElem?_eq_getElem q2, w2, w4, by simpa using e2, by simpa using e4⟩
        have R := Ob.RcOp.tuples_lt (A := A) (s := sh) (e := fun j => match xs[j]?, ys[j]? with | some x, some y => x.eqv y | _, _ => false) (r := fun j => match xs[j]?, ys[j]? with | some x, some y => (x.lt y).getD false | _, _ => false) t1 t2 (by omega)
          (fun j g1 g2 => by
            obtain ⟨x, y, v', u', e1, e2, w1, w2, w3, w4⟩ := pick j g1 g2
            simp only [e1, e2]
            exact eqAt_rep I w1 w2 (plains_get p1 e1) (plains_get p2 e2) w3 w4 (by show A.units + 1 + n < _; omega))
          (fun j g1 g2 hj => by
            obtain ⟨x, y, v', u', e1, e2, w1, w2, w3, w4⟩ := pick j g1 g2
            simp only [e1, e2] at hj ⊢
            obtain ⟨c', hc'⟩ := lts_all xs ys c h j x y e1 e2 hj
            rw [hc']
            exact ih A.in1 m' v' u' x y _ _ c' w1 w2 (plains_get p1 e1) (plains_get p2 e2) w3 w4 (by show A.units + 1 + n < _; omega) hc')
        have s1 : its1.toArray.size = xs.length := by rw [List.size_toArray]; exact l1
        have s2 : its2.toArray.size = ys.length := by rw [List.size_toArray]; exact l2
        rw [s1, s2, key] at R
        exact R
      | _ => simp [D.lt] at h
    | _ => simp [D.lt] at h

def cmOf : Cm → CmpOp
  | .eq => .Eq | .ne => .NotEq | .lt => .Lt | .le => .LtE | .gt => .Gt | .ge => .GtE | .is => .Is | .isNot => .IsNot | .isIn => .In | .notIn => .NotIn
def rCmp (K : PySem.W.Frag) (o : Cm) : R2 := fun x y H Q => ∃ Z ρ s dx dy b, StOk K Z H ρ s ∧ Rep K Z H ρ s x dx ∧ Rep K Z H ρ s y dy ∧ cmpD s o dx dy = some b ∧ Q (.bl b) H
theorem reps_ints {vs : List V} {ds : List D} : ∀ {ns : List Int}, Reps X.K Z H ρ s vs ds → intsD ds = some ns → vs = ns.map V.int := by
  induction ds generalizing vs with
  | nil => intro ns r h; cases r; simp only [intsD] at h; cases h; rfl
  | cons d ds ih =>
    intro ns r h
    cases r with | cons r t =>
    cases d with
    | int i =>
      simp only [intsD] at h
      cases q : intsD ds with
      | none => rw [q] at h; cases h
      | some ms =>
        rw [q] at h
        cases h
        cases r
        rw [ih t q]
        rfl
    | _ => simp [intsD] at h
theorem lexAt_le : ∀ (ns ms : List Int) (i : Nat) (e r : Nat → Bool), (∀ j, e (i + j) = decide (ns.getD j 0 = ms.getD j 0)) → (∀ j, r (i + j) = decide (ns.getD j 0 ≤ ms.getD j 0)) →
    Ob.lexAt e r (decide (ns.length ≤ ms.length)) i (min ns.length ms.length) = lexLe ns ms
  | [], ms, i, e, r, _, _ => by simp [Ob.lexAt_zero, lexLe]
  | n :: ns, [], i, e, r, _, _ => by simp [Ob.lexAt_zero, lexLe]
  | n :: ns, m :: ms, i, e, r, he, hr => by
    rw [List.length_cons, List.length_cons, show min (ns.length + 1) (ms.length + 1) = min ns.length ms.length + 1 by omega, Ob.lexAt_succ]
    have e0 : e i = decide (n = m) := he 0
    have r0 : r i = decide (n ≤ m) := hr 0
    rw [e0, r0]
    simp only [lexLe]
    by_cases q : n = m
    · rw [if_pos (by simpa using q), if_pos q, ← lexAt_le ns ms (i + 1) e r (fun j => by rw [Nat.add_assoc, Nat.add_comm 1 j]; exact he (j + 1)) (fun j => by rw [Nat.add_assoc, Nat.add_comm 1 j]; exact hr (j + 1))]
      congr 1
      exact decide_eq_decide.mpr (by omega)
    · rw [if_neg (by simpa using q), if_neg q]
theorem any_toP {n m : Nat} {x : D} (hx : x.plain n = true) : ∀ {ys : List D}, plains m ys = true → ((toPs ys).any fun z => PyData.eqv z (toP x)) = ys.any fun z => z.eqv x
  | [], _ => by simp [toPs]
  | y :: ys, h => by
    simp only [plains, Bool.and_eq_true] at h
    simp only [toPs, List.any_cons]
    rw [eqv_toP y x h.1 hx, any_toP hx h.2]
theorem room_in {n : Nat} {x : D} (hx : x.plain n = true) (hn : n ≤ 64) (hu : X.A.units + 65 < cLine) (ds : List PyData) : X.A.units + 1 + min (PyData.depthAll ds) (toP x).depth < cLine := by
  have := (plain_lay hx).2
  have := Nat.min_le_right (PyData.depthAll ds) (toP x).depth
  omega
theorem in_both {neg : Bool} (hu : X.A.units + 65 < cLine) (I : Inv X pins σ H sh) (w : StOk X.K Z H ρ s) {x y : V} {dx dy : D} {b : Bool} {v u : Value} {Q : VK} (rx : RelV x v) (ry : RelV y u) (hx : Rep X.K Z H ρ s x dx) (hy : Rep X.K Z H ρ s y dy)
    (h : inD s dx dy = some b) (q : Q (.bl (if neg = true then !b else b)) H) : wpAny (model X.prog X.w) X.A (compareOp (if neg = true then .NotIn else .In) v u) (EP X pins σ Q) X.xe sh := by
  unfold inD at h
  split at h
  · rename_i ys hv
    split at h
    · rename_i c
      cases h
      rw [Bool.and_eq_true] at c
      obtain ⟨a, vs, rfl, h1, r1⟩ := view_tup w hy hv
      have dy' : Dp X.K H (.ref a) (.tuple (toPs ys)) := .tup h1 (dps_of r1 c.2)
      obtain ⟨as, w1⟩ := Dp.reads I _ _ u dy' ry
      obtain ⟨bs, w2⟩ := Dp.reads I _ _ v (dp_of hx c.1) rx
      cases neg with
      | true => exact SeqAt.notIn_tuple_reads w1 w2 (plains_lay c.2).1 (plain_lay c.1).1 (room_in c.1 (by decide) hu _) ⟨.bl _, H, I, rfl, by rw [any_toP c.1 c.2]; exact q⟩
      | false => exact SeqAt.in_tuple_reads w1 w2 (plains_lay c.2).1 (plain_lay c.1).1 (room_in c.1 (by decide) hu _) ⟨.bl _, H, I, rfl, by rw [any_toP c.1 c.2]; exact q⟩
    · cases h
  · rename_i ys hv
    split at h
    · rename_i c
      cases h
      rw [Bool.and_eq_true] at c
      obtain ⟨a, vs, rfl, h1, r1⟩ := view_lst w hy hv
      have dy' : Dp X.K H (.ref a) (.list (toPs ys)) := .lst (SqL.of h1) (dps_of r1 c.2)
      obtain ⟨as, w1⟩ := Dp.reads I _ _ u dy' ry
      obtain ⟨bs, w2⟩ := Dp.reads I _ _ v (dp_of hx c.1) rx
      cases neg with
      | true => exact SeqAt.notIn_list_reads w1 w2 (plains_lay c.2).1 (plain_lay c.1).1 (room_in c.1 (by decide) hu _) ⟨.bl _, H, I, rfl, by rw [any_toP c.1 c.2]; exact q⟩
      | false => exact SeqAt.in_list_reads w1 w2 (plains_lay c.2).1 (plain_lay c.1).1 (room_in c.1 (by decide) hu _) ⟨.bl _, H, I, rfl, by rw [any_toP c.1 c.2]; exact q⟩
    · cases h
  · rename_i z hv
    split at h
    · rename_i z2
      unfold signIn at h
      split at h
      · rename_i c
        cases h
        have ey := view_str w hy hv
        subst ey
        cases hx
        obtain ⟨⟨⟨l⟩⟩, hl⟩ : ∃ k : Str, k = z2 := ⟨z2, rfl⟩
        subst hl
        have c1 : l.length = 1 := c.1
        obtain ⟨a, rfl⟩ := List.length_eq_one_iff.mp c1
        cases neg with
        | true => exact op_notIn_sign pins sh σ H _ _ v u Q I rx ry ⟨a, z, rfl, rfl, q⟩
        | false => exact op_in_sign pins sh σ H _ _ v u Q I rx ry ⟨a, z, rfl, rfl, q⟩
      · cases h
    · cases h
  · cases h
theorem op_cmp (hu : X.A.units + 100 < cLine) (o : Cm) : OpR X (compareOp (cmOf o)) (rCmp X.K o) := by
  intro pins sh σ H x y v u Q I rx ry h
  obtain ⟨Z, ρ, s, dx, dy, b, w, hx, hy, hd, q⟩ := h
  have tw : ∀ {i j : Int}, dx = .int i → dy = .int j → x = .int i ∧ y = .int j := fun {i j} e1 e2 => by
    subst e1 e2
    cases hx
    cases hy
    exact ⟨rfl, rfl⟩
  unfold cmpD at hd
  split at hd
  · unfold eqD at hd
    split at hd
    · rename_i c
      cases hd
      rw [Bool.and_eq_true] at c
      exact op_eqD (by omega) pins sh σ H _ _ v u Q I rx ry ⟨_, _, dp_view w hx c.1, dp_view w hy c.2, shaped_of c.1 (by decide), shaped_of c.2 (by decide), by rw [eqv_toP _ _ c.1 c.2]; exact q⟩
    · cases hd
  · unfold eqD at hd
    split at hd
    · rename_i c
      cases hd
      rw [Bool.and_eq_true] at c
      exact op_neD (by omega) pins sh σ H _ _ v u Q I rx ry ⟨_, _, dp_view w hx c.1, dp_view w hy c.2, shaped_of c.1 (by decide), shaped_of c.2 (by decide), by rw [eqv_toP _ _ c.1 c.2]; exact q⟩
    · cases hd
  · unfold ltD at hd
    split at hd
    · rename_i c
      rw [Bool.and_eq_true] at c
      exact lt_rep I 60 X.A 60 x y _ _ v u b hx hy c.1 c.2 rx ry (by omega) hd X.prog X.w X.xe _ ⟨.bl b, H, I, rfl, q⟩
    · cases hd
  · cases hd
    obtain ⟨rfl, rfl⟩ := tw rfl rfl
    exact op_gt pins sh σ H _ _ v u Q I rx ry ⟨_, _, rfl, rfl, q⟩
  · cases hd
    obtain ⟨rfl, rfl⟩ := tw rfl rfl
    exact op_le pins sh σ H _ _ v u Q I rx ry ⟨_, _, rfl, rfl, q⟩
  · cases hd
    obtain ⟨rfl, rfl⟩ := tw rfl rfl
    exact op_ge pins sh σ H _ _ v u Q I rx ry ⟨_, _, rfl, rfl, q⟩
  · rename_i xs ys
    cases q1 : intsD xs with
    | none => rw [q1] at hd; cases hd
    | some ns =>
      cases q2 : intsD ys with
      | none => rw [q1, q2] at hd; cases hd
      | some ms =>
        rw [q1, q2] at hd
        cases hd
        cases hx with | tup h1 r1 =>
        cases hy with | tup h2 r2 =>
        rw [reps_ints r1 q1] at h1
        rw [reps_ints r2 q2] at h2
        refine op_leT (by omega) pins sh σ H _ _ v u Q I rx ry ⟨_, _, ns, ms, rfl, rfl, h1, h2, ?_⟩
        rw [lexAt_le ns ms 0 _ _ (fun j => by rw [Nat.zero_add]) (fun j => by rw [Nat.zero_add])]
        exact q
  · cases hy
    refine op_isN pins sh σ H _ _ v u Q I rx ry ⟨rfl, ?_⟩
    split at hd <;> cases hd
    · cases hx; exact q
    · have e : decide (x = V.non) = false := decide_eq_false fun e => by subst e; cases hx; rename_i z; exact z rfl
      rw [e]; exact q
  · cases hy
    refine op_notN pins sh σ H _ _ v u Q I rx ry ⟨rfl, ?_⟩
    split at hd <;> cases hd
    · cases hx; exact q
    · have e : decide (x = V.non) = false := decide_eq_false fun e => by subst e; cases hx; rename_i z; exact z rfl
      rw [e]; exact q
  · cases hd
    cases hx
    cases hy
    refine op_is_bl pins sh σ H _ _ v u Q I rx ry ⟨_, _, rfl, rfl, ?_⟩
    rw [← Bool.beq_eq_decide_eq]
    exact q
  · cases hd
    cases hx
    cases hy
    refine op_isnot_bl pins sh σ H _ _ v u Q I rx ry ⟨_, _, rfl, rfl, ?_⟩
    rw [← Bool.beq_eq_decide_eq]
    exact q
  · exact in_both (neg := false) (by omega) I w rx ry hx hy hd q
  · cases z : inD s dx dy with
    | none => rw [z] at hd; cases hd
    | some c =>
      rw [z] at hd
      cases hd
      exact in_both (neg := true) (by omega) I w rx ry hx hy z q
  · cases hd
end
end Ev

set_option Elab.async false
set_option linter.all false
set_option maxRecDepth 100000
/-! Ev3: subscripts, slices, built-ins, methods, isinstance, truth. -/
namespace Ev
open PySem PySem.Spec L2 PyProof.Rows
section
variable {X : Cx} {pins : List (Addr × Obj)} {σ : L2.St} {H : Hp} {sh : Shared} {Z : Zs} {ρ : Rho} {s s' : S} {v x y : V} {d : D} {Q : VK}
/-! ### truth -/
def rTru (K : PySem.W.Frag) : V → Hp → (Bool → Hp → Prop) → Prop := fun x H Q => ∃ Z ρ s d k, StOk K Z H ρ s ∧ Rep K Z H ρ s x d ∧ truth s d = some k ∧ Q k H
theorem truV_of (w : StOk X.K Z H ρ s) {k : Bool} (r : Rep X.K Z H ρ s x d) (h : truth s d = some k) : TruV X.K x H k := by
  unfold truth at h
  split at h
  · rename_i q
    cases h
    cases r with
    | non => rfl
    | @ref e j c z => unfold S.view at q; simp only [z] at q; cases c <;> cases q
    | _ => cases q
  · rename_i q
    cases h
    cases r with
    | bl b => cases q; rfl
    | @ref e j c z => unfold S.view at q; simp only [z] at q; cases c <;> cases q
    | _ => cases q
  · rename_i q
    cases h
    cases r with
    | int b => cases q; rfl
    | @ref e j c z => unfold S.view at q; simp only [z] at q; cases c <;> cases q
    | _ => cases q
  · rename_i z q
    split at h
    · rename_i c
      cases h
      have e := view_str w r q
      subst e
      refine ⟨lim_line c, ?_⟩
      show (z.length != 0) = (((z.length : Nat) : Int) != 0)
      rcases Nat.eq_zero_or_pos z.length with e | e
      · rw [e]; rfl
      · rw [bne_iff_ne.mpr (by omega), bne_iff_ne.mpr (by omega)]
    · cases h
  · rename_i q
    cases h
    obtain ⟨a, vs, rfl, h1, r1⟩ := view_tup w r q
    exact .inr (.inl ⟨vs, h1, by have := r1.length; cases vs <;> cases r1 <;> rfl⟩)
  · rename_i q
    cases h
    obtain ⟨a, vs, rfl, h1, r1⟩ := view_lst w r q
    exact .inl ⟨vs, SqL.of h1, by cases r1 <;> rfl⟩
  · rename_i q
    cases h
    obtain ⟨a, rfl, h1⟩ := view_fz w r q
    exact .inl ⟨_, h1, by rename_i ns; cases ns <;> rfl⟩
  · cases h
/-! ### places -/
def rIdx (K : PySem.W.Frag) : R2 := fun x y H Q => ∃ Z ρ s dx dy d, StOk K Z H ρ s ∧ Rep K Z H ρ s x dx ∧ Rep K Z H ρ s y dy ∧ idxD s dx dy = some d ∧ OutE K Z H ρ s s d Q
theorem ix_idx : IxR X (rIdx X.K) := by
  intro value slice pins sh σ H x y v u Q I rx ry h hs
  obtain ⟨Z, ρ, s, dx, dy, d, w, hx, hy, hd, out⟩ := h
  unfold idxD at hd
  split at hd
  · rename_i i
    cases hy
    split at hd
    · rename_i z q
      split at hd
      · rename_i c
        have e := view_str w hx q
        subst e
        cases e1 : ixD z.cps.toList.length i with
        | none => rw [e1] at hd; cases hd
        | some j =>
          rw [e1, Option.bind_some] at hd
          cases e2 : z.cps.toList[j]? with
          | none => rw [e2] at hd; cases hd
          | some ch =>
            rw [e2] at hd
            cases hd
            refine ix_str value slice pins sh σ H _ _ v u Q I rx ry ⟨z, i, ch, rfl, rfl, lim_line c, ?_, OutE.here w out (.str _)⟩ hs
            show (ixN z.cps.toList.length i).bind (fun j => z.cps.toList[j]?) = some ch
            rw [show ixN z.cps.toList.length i = ixD z.cps.toList.length i from rfl, e1]
            exact e2
      · cases hd
    · cases e0 : items s dx with
      | none => rw [e0] at hd; cases hd
      | some xs =>
        rw [e0, Option.bind_some] at hd
        cases e1 : ixD xs.length i with
        | none => rw [e1] at hd; cases hd
        | some j =>
          rw [e1, Option.bind_some] at hd
          obtain ⟨a, vs, rfl, hq, r⟩ := items_rep w hx e0
          obtain ⟨v', e2, r'⟩ := r.get hd
          have at_ : atI vs i = some v' := by
            show (ixN vs.length i).bind (fun j => vs[j]?) = some v'
            rw [show ixN vs.length i = ixD xs.length i by rw [r.length]; rfl, e1]
            exact e2
          rcases hq with hq | hq
          · exact ix_list value slice pins sh σ H _ _ v u Q I rx ry ⟨a, vs, i, v', rfl, rfl, hq, at_, OutE.here w out r'⟩ hs
          · exact ix_tup value slice pins sh σ H _ _ v u Q I rx ry ⟨a, vs, i, v', rfl, rfl, hq, at_, OutE.here w out r'⟩ hs
  · cases hd
/-! ### slices -/
theorem clip_sIx (n d : Nat) (o : Option Int) : HT.sIx n d o = clipD n d o := by
  cases o <;> rfl
theorem cut_rep {vs : List V} {ds : List D} {K : PySem.W.Frag} (r : Reps K Z H ρ s vs ds) (lo hi : Option Int) : Reps K Z H ρ s (cutV vs lo hi) (cutD ds lo hi) := by
  unfold cutV cutD
  rw [clip_sIx, clip_sIx, r.length]
  exact (r.drop _).take _
theorem cut_all {ds : List D} {lo hi : Option Int} (h1 : clipD ds.length 0 lo = 0) (h2 : clipD ds.length ds.length hi = ds.length) : cutD ds lo hi = ds := by
  unfold cutD
  rw [h1, h2]
  simp
def rCut (K : PySem.W.Frag) : V → Option Int → Option Int → Hp → VK → Prop := fun x lo hi H Q => ∃ Z ρ s dx d, StOk K Z H ρ s ∧ Rep K Z H ρ s x dx ∧ slD s dx lo hi = some d ∧ Out K Z H ρ s d Q
theorem sl_cut : SlR X (rCut X.K) := by
  intro pins sh σ H x v vl vu lo hi sl Q I rx hs pl pu h
  obtain ⟨Z, ρ, s, dx, d, w, hx, hd, out⟩ := h
  unfold slD at hd
  split at hd
  · rename_i xs q
    cases hd
    obtain ⟨a, vs, rfl, h1, r⟩ := view_tup w hx q
    refine sl_tupA pins sh σ H _ v vl vu lo hi sl Q I rx hs pl pu ⟨a, vs, rfl, h1, fun ⟨c1, c2⟩ => ?_, fun _ p hp => out.tup w (cut_rep r lo hi) hp⟩
    rw [clip_sIx, r.length] at c1 c2
    rw [cut_all c1 c2] at out
    exact out.tupH w h1 r
  · rename_i xs q
    cases hd
    obtain ⟨a, vs, rfl, h1, r⟩ := view_lst w hx q
    exact sl_list pins sh σ H _ v vl vu lo hi sl Q I rx hs pl pu ⟨a, vs, rfl, SqL.of h1, fun p hp => out.lst w (cut_rep r lo hi) hp⟩
  · rename_i ns q
    cases hd
    obtain ⟨a, rfl, h1⟩ := view_fz w hx q
    exact sl_list pins sh σ H _ v vl vu lo hi sl Q I rx hs pl pu ⟨a, _, rfl, h1, fun p hp => out.lst w (cut_rep (Reps.ints ns) lo hi) hp⟩
  · rename_i z q
    split at hd
    · rename_i c
      cases hd
      have e := view_str w hx q
      subst e
      exact sl_str pins sh σ H _ v vl vu lo hi sl Q I rx hs pl pu ⟨z, rfl, lim_line c, out.str w⟩
    · cases hd
  · cases hd
/-! ### built-ins -/
def rBi (K : PySem.W.Frag) (b : Bi) : List V → Hp → VK → Prop := fun vs H Q => ∃ Z ρ s ds d, StOk K Z H ρ s ∧ Reps K Z H ρ s vs ds ∧ biD s b ds = some d ∧ Out K Z H ρ s d Q
def biV : Bi → Value
  | .len => .builtin "len" | .abs => .builtin "abs" | .int => .type "int" | .min => .builtin "min" | .max => .builtin "max" | .sum => .builtin "sum" | .all => .builtin "all"
  | .tuple => .type "tuple" | .list => .type "list" | .sorted => .builtin "sorted" | .dict => .type "dict" | .repr => .builtin "repr"
theorem reps_bls {vs : List V} {ds : List D} : ∀ {b : Bool}, Reps X.K Z H ρ s vs ds → allD ds = some b → ∃ bs : List Bool, vs = bs.map V.bl ∧ bs.all id = b := by
  induction ds generalizing vs with
  | nil => intro b r h; cases r; cases h; exact ⟨[], rfl, rfl⟩
  | cons d ds ih =>
    intro b r h
    cases r with | cons r t =>
    cases d with
    | bl i =>
      simp only [allD] at h
      cases q : allD ds with
      | none => rw [q] at h; cases h
      | some c =>
        rw [q] at h
        cases h
        cases r
        obtain ⟨bs, e1, e2⟩ := ih t q
        exact ⟨i :: bs, by rw [e1]; rfl, by rw [← e2]; rfl⟩
    | _ => simp [allD] at h
theorem reps1 {vs : List V} (r : Reps X.K Z H ρ s vs [d]) : ∃ v, vs = [v] ∧ Rep X.K Z H ρ s v d := by
  cases r with | cons r t => cases t; exact ⟨_, rfl, r⟩
theorem reps2 {d' : D} {vs : List V} (r : Reps X.K Z H ρ s vs [d, d']) : ∃ v u, vs = [v, u] ∧ Rep X.K Z H ρ s v d ∧ Rep X.K Z H ρ s u d' := by
  cases r with | cons r t => cases t with | cons r' t => cases t; exact ⟨_, _, rfl, r, r'⟩
/-- sorted: shown apart -/
def SortedOk : Prop := ∀ X : Cx, X.calm = true → X.A.units + 100 < cLine → CallR X (.builtin "sorted") (fun vs H Q => ∃ Z ρ s d xs ys, StOk X.K Z H ρ s ∧ Reps X.K Z H ρ s vs [d] ∧ s.view d = .lst xs ∧ plains 60 xs = true ∧ sortD xs = some ys ∧ Out X.K Z H ρ s (.lst ys) Q)
theorem call_bi (hS : SortedOk) (hc : X.calm = true) (hu : X.A.units + 100 < cLine) (b : Bi) : CallR X (biV b) (rBi X.K b) := by
  intro pins sh σ H vs us Q I rv h
  obtain ⟨Z, ρ, s, ds, d, w, r, hd, out⟩ := h
  unfold biD at hd
  split at hd
  · rename_i x
    obtain ⟨v, rfl, r1⟩ := reps1 r
    split at hd
    · rename_i z q
      split at hd
      · rename_i c
        cases hd
        have e := view_str w r1 q
        subst e
        exact call_len pins sh σ H _ us Q I rv ⟨_, _, rfl, ⟨lim_line c, rfl⟩, out.int w⟩
      · cases hd
    · cases e : items s x with
      | none => rw [e] at hd; cases hd
      | some xs =>
        rw [e] at hd
        cases hd
        obtain ⟨a, ws, rfl, hq, rr⟩ := items_rep w r1 e
        have out : Out X.K Z H ρ s (.int (xs.length : Nat)) Q := out
        rw [← rr.length] at out
        refine call_len pins sh σ H _ us Q I rv ⟨_, _, rfl, ?_, out.int w⟩
        rcases hq with hq | hq
        · exact .inl ⟨ws, hq, rfl⟩
        · exact .inr ⟨ws, hq, rfl⟩
  · cases hd
    obtain ⟨v, rfl, r1⟩ := reps1 r
    cases r1
    exact call_abs pins sh σ H _ us Q I rv ⟨_, rfl, out.int w⟩
  · cases hd
    obtain ⟨v, rfl, r1⟩ := reps1 r
    cases r1
    exact call_int1 pins sh σ H _ us Q I rv (.inl ⟨_, rfl, out.int w⟩)
  · cases hd
    obtain ⟨v, rfl, r1⟩ := reps1 r
    cases r1
    exact call_int1 pins sh σ H _ us Q I rv (.inr ⟨_, rfl, out.int w⟩)
  · cases hd
    obtain ⟨v, u, rfl, r1, r2⟩ := reps2 r
    cases r1
    cases r2
    exact call_min2 hc pins sh σ H _ us Q I rv ⟨_, _, rfl, out.int w⟩
  · cases hd
    obtain ⟨v, u, rfl, r1, r2⟩ := reps2 r
    cases r1
    cases r2
    exact call_max2 hc pins sh σ H _ us Q I rv ⟨_, _, rfl, out.int w⟩
  · obtain ⟨v, rfl, r1⟩ := reps1 r
    split at hd
    · rename_i xs q
      cases e : intsD xs with
      | none => rw [e] at hd; cases hd
      | some ns =>
        rw [e] at hd
        cases hd
        obtain ⟨a, ws, rfl, h1, rr⟩ := view_lst w r1 q
        rw [reps_ints rr e] at h1
        exact cr_sum hc pins sh σ H _ us Q I rv ⟨a, ns, rfl, SqL.of h1, out.int w⟩
    · cases hd
  · obtain ⟨v, rfl, r1⟩ := reps1 r
    split at hd
    · rename_i xs q
      cases e : allD xs with
      | none => rw [e] at hd; cases hd
      | some b =>
        rw [e] at hd
        cases hd
        obtain ⟨a, ws, rfl, h1, rr⟩ := view_lst w r1 q
        obtain ⟨bs, rfl, rfl⟩ := reps_bls rr e
        exact cr_all hc pins sh σ H _ us Q I rv ⟨a, bs, rfl, SqL.of h1, out.bl w⟩
    · cases hd
  · obtain ⟨v, rfl, r1⟩ := reps1 r
    split at hd
    · rename_i xs q
      cases hd
      obtain ⟨a, ws, rfl, h1, rr⟩ := view_tup w r1 q
      exact call_tuple_of pins sh σ H _ us Q I rv ⟨a, ws, rfl, .inr ⟨h1, out.tupH w h1 rr⟩⟩
    · rename_i xs q
      cases hd
      obtain ⟨a, ws, rfl, h1, rr⟩ := view_lst w r1 q
      exact call_tuple_of pins sh σ H _ us Q I rv ⟨a, ws, rfl, .inl ⟨SqL.of h1, fun p hp => out.tup w rr hp⟩⟩
    · cases hd
  · rename_i x
    obtain ⟨v, rfl, r1⟩ := reps1 r
    cases e : items s x with
    | none => rw [e] at hd; cases hd
    | some xs =>
      rw [e] at hd
      cases hd
      obtain ⟨a, ws, rfl, hq, rr⟩ := items_rep w r1 e
      exact call_list_of pins sh σ H _ us Q I rv ⟨a, ws, rfl, hq, fun p hp => out.lst w rr hp⟩
  · split at hd
    · rename_i xs q
      split at hd
      · rename_i c
        cases e : sortD xs with
        | none => rw [e] at hd; cases hd
        | some ys =>
          rw [e] at hd
          cases hd
          exact hS X hc hu pins sh σ H _ us Q I rv ⟨Z, ρ, s, _, xs, ys, w, r, q, c, e, out⟩
      · cases hd
    · cases hd
  · obtain ⟨v, rfl, r1⟩ := reps1 r
    cases r1
    split at hd
    · rename_i c
      cases hd
      exact SkE.call_repr_int pins sh σ H _ us Q I rv ⟨_, rfl, c, out.str w⟩
    · cases hd
  · obtain ⟨v, rfl, r1⟩ := reps1 r
    cases r1
    cases hd
    obtain ⟨u, rfl, rr⟩ := vals1 rv
    cases rr
    exact PySem.P.repr_of_bool ⟨.str _, H, I.tok _, ⟨_, rfl⟩, out.str w⟩
  · obtain ⟨v, rfl, r1⟩ := reps1 r
    cases r1
    split at hd
    · rename_i c
      cases hd
      obtain ⟨u, rfl, t, rfl⟩ := vals1 rv
      exact PySem.P.repr_of_str (hsz := lim_line c) ⟨.str _, H, I.tok _, ⟨_, rfl⟩, out.str w⟩
    · cases hd
  · cases hd
end
end Ev

set_option Elab.async false
set_option linter.all false
set_option maxRecDepth 100000
/-! Ev4: methods of lists, stores, isinstance. -/
namespace Ev
open PySem PySem.Spec L2 PyProof.Rows PySem.MeetsSeq

theorem remove_loopAt (l : Addr) (items : Array Value) (n : Nat) (x : Value) (e : Value → Bool) (j : Nat) (hj : j < items.size)
    (hit : e items[j] = true) (k : Nat) (hs1 : items.size ≤ sizeLine) :
    ∀ i : Nat, j - i = k → i ≤ j → (∀ m (hm : m < items.size), i ≤ m → m < j → e items[m] = false) → Meets (Builtin.«list.remove.loop» ⟨[.ref l, x, rawInt i], []⟩)
      (fun A R s => s.heap.get? l = some { cls := .type "list", dict := none, data := .seq items n, slots := #[] } ∧ (∀ y, y ∈ items → SeqAt.EqAt A.in1 s y x (e y)) ∧ R (.ok (.ret .none)) { s with heap := s.heap.update l (Obj.mapSeq fun xs => xs.eraseIdxIfInBounds j) }) := by
  induction k with
  | zero =>
    intro i hk hij hno prog w A R s h
    obtain ⟨hp, g, d, tk, os⟩ := s; obtain ⟨hl, he, h⟩ := h
    have hij' : i = j := by omega
    subst hij'
    wp_walk using wpAny_loadPart' hl
    have hi : items[((i : Nat) : Int).toNat]? = some items[i] := by simp [hj]
    rw [hi]
    refine wpAny_bind (he _ (Array.getElem_mem hj) prog w _ _ ?_)
    rw [hit]
    have hz' : (items.eraseIdxIfInBounds i).size ≤ sizeLine + 1 := Nat.le_trans (size_erased items _) (Nat.le_succ_of_le hs1)
    wp_walk using (wpAny_updateSeq hl rfl (hz := hs1) (_hz' := hz')), wpAny_loadPart' hl
    simpa using h
  | succ k ih =>
    intro i hk hij hno prog w A R s h
    obtain ⟨hp, g, d, tk, os⟩ := s; obtain ⟨hl, he, h⟩ := h
    have hlt : i < items.size := by omega
    wp_walk using wpAny_loadPart' hl
    have hi : items[((i : Nat) : Int).toNat]? = some items[i] := by simp [hlt]
    have hc : ((i : Int) + 1) = ((i + 1 : Nat) : Int) := by push_cast; rfl
    rw [hi]
    refine wpAny_bind (he _ (Array.getElem_mem hlt) prog w _ _ ?_)
    rw [hno i hlt (Nat.le_refl _) (by omega)]
    wp_walk
    rw [hc]
    exact ⟨plainId_quiet plain_remove_loop _, codeAny_builtin entry_remove_loop (by
      rw [Around.under_plainId plain_remove_loop _]
      exact ih (i + 1) (by omega) (by omega) (fun m hm h1 h2 => hno m hm (by omega) h2) prog w A R _ ⟨hl, he, h⟩)⟩
theorem list_removeAt (l : Addr) (items : Array Value) (n : Nat) (x : Value) (e : Value → Bool) (j : Nat) (hj : j < items.size)
    (hit : e items[j] = true) (hno : ∀ m (hm : m < items.size), m < j → e items[m] = false) (hs1 : items.size ≤ sizeLine) :
    Meets (Builtin.«list.remove» ⟨[.ref l, x], []⟩)
      (fun A R s => s.heap.get? l = some { cls := .type "list", dict := none, data := .seq items n, slots := #[] } ∧ (∀ y, y ∈ items → SeqAt.EqAt A.in1 s y x (e y)) ∧ R (.ok (.ret .none)) { s with heap := s.heap.update l (Obj.mapSeq fun xs => xs.eraseIdxIfInBounds j) }) := by
  intro prog w A R s h
  obtain ⟨hp, g, d, tk, os⟩ := s; obtain ⟨hl, he, h⟩ := h
  wp_walk using wpAny_loadPart' hl
  exact ⟨plainId_quiet plain_remove_loop _, codeAny_builtin entry_remove_loop (by
    rw [Around.under_plainId plain_remove_loop _]
    exact remove_loopAt l items n x e j hj hit _ hs1 0 rfl (Nat.zero_le _) (fun m hm _ h2 => hno m hm h2) prog w A R _ ⟨hl, he, h⟩)⟩

theorem remD_at {x : D} : ∀ {ys zs : List D}, remD x ys = some zs → ∃ j y, ys[j]? = some y ∧ y.eqv x = true ∧ (∀ m y', m < j → ys[m]? = some y' → y'.eqv x = false) ∧ zs = ys.eraseIdx j
  | [], _, h => by cases h
  | y :: ys, zs, h => by
    simp only [remD] at h
    split at h
    · rename_i c
      cases h
      exact ⟨0, y, rfl, c, fun m _ hm => absurd hm (Nat.not_lt_zero _), rfl⟩
    · rename_i c
      cases q : remD x ys with
      | none => rw [q] at h; cases h
      | some ws =>
        rw [q] at h
        cases h
        obtain ⟨j, y', h1, h2, h3, h4⟩ := remD_at q
        refine ⟨j + 1, y', h1, h2, fun m z hm hz => ?_, by rw [h4]; rfl⟩
        cases m with
        | zero =>
          cases hz
          exact Bool.eq_false_iff.mpr c
        | succ m => exact h3 m z (by omega) hz
section
variable {X : Cx} {pins : List (Addr × Obj)} {σ : L2.St} {H : Hp} {sh : Shared} {Z : Zs} {ρ : Rho} {s s' : S} {v x y : V} {d : D} {Q : VK}
def rRemD : V → List V → Hp → VK → Prop := fun x xs H Q => ∃ (l : Addr) (ys : List V) (j : Nat), x = .ref l ∧ H l = some (.lst ys) ∧ j < ys.length ∧ Q .non (upd H l (.lst (ys.eraseIdx j)))
theorem mt_removeD (hu : X.A.units + 100 < cLine) : MtM X "list.remove" (fun x vs H Q => ∃ Z ρ s l ys dy ds j y', vs = [y'] ∧ x = .ref l ∧ H l = some (.lst ys) ∧ StOk X.K Z H ρ s ∧ Reps X.K Z H ρ s ys ds ∧ Rep X.K Z H ρ s y' dy ∧ dy.plain 60 = true ∧ plains 60 ds = true ∧
    (∃ z, ds[j]? = some z ∧ D.eqv z dy = true) ∧ (∀ m z, m < j → ds[m]? = some z → D.eqv z dy = false) ∧ Q .non (upd H l (.lst (ys.eraseIdx j)))) := by
  intro pins sh σ H x xs v us Q I rx rxs h
  obtain ⟨Z, ρ, s, l, ys, dy, ds, j, y', rfl, rfl, hH, w, r, ry', p1, p2, ⟨z, hz, hze⟩, hno, q⟩ := h
  cases rx
  obtain ⟨u, rfl, ru⟩ := rxs.one
  obtain ⟨hz1, its, n, rv, hl, e⟩ := I.lstM hH
  have hlen : its.length = ds.length := hl.symm.trans r.length
  obtain ⟨as, h4⟩ := Dp.readsAll I (toPs ds) _ its (dps_of r p2) rv
  obtain ⟨bs, r1⟩ := Dp.reads I (toP dy) y' u (dp_of ry' p1) ru
  have hxs := (plains_lay p2).1
  have hd0 := (plain_lay p1).1
  have hmap : its.map (SeqAt.readOf sh.heap) = toPs ds := SeqAt.readsAll_map (toPs ds) its as hxs h4
  have toPs_get : ∀ {m : Nat} {es : List D} {z : D}, es[m]? = some z → (toPs es)[m]? = some (toP z) := by
    intro m es z
    induction es generalizing m with
    | nil => intro h; simp at h
    | cons a as ih =>
      intro h
      cases m with
      | zero => simp at h; subst h; rfl
      | succ m => simp only [toPs]; exact ih (by simpa using h)
  have hjd : j < ds.length := (List.getElem?_eq_some_iff.mp hz).1
  have hjl : j < its.length := by omega
  have at_ : ∀ (m : Nat) (hm : m < its.toArray.size) (z' : D), ds[m]? = some z' → SeqAt.readOf sh.heap its.toArray[m] = toP z' := by
    intro m hm z' hz'
    have hml : m < its.length := by simpa using hm
    have q0 := toPs_get hz'
    rw [← hmap, List.getElem?_map, List.getElem?_eq_getElem hml] at q0
    have e1 : SeqAt.readOf sh.heap its[m] = toP z' := Option.some.inj (show some (SeqAt.readOf sh.heap its[m]) = some (toP z') from q0)
    simpa using e1
  have hroom : X.A.units + 1 + min (PyData.depthAll (toPs ds)) (toP dy).depth < cLine := room_in p1 (by decide) (by omega) _
  refine call_meets PySem.F.slot_list_remove ⟨_, e, rfl⟩ PySem.F.entry_list_remove (PySem.F.args_list_remove_2 _ _)
    (list_removeAt l its.toArray n u (fun u => PyData.eqv (SeqAt.readOf sh.heap u) (toP dy)) j (by simpa using hjl) ?_ ?_ (by rw [List.size_toArray]; omega)) ⟨e, SeqAt.items_eqAt (vs := its.toArray) (show ReadsAll sh.heap its.toArray.toList (toPs ds) as from h4) r1 hxs hd0 hroom, ?_⟩
  · show PyData.eqv (SeqAt.readOf sh.heap its.toArray[j]) (toP dy) = true
    rw [at_ j (by simpa using hjl) z hz, eqv_toP z dy (plains_get p2 hz) p1]
    exact hze
  · intro m hm hmj
    have hmd : m < ds.length := by omega
    have hz' : ds[m]? = some ds[m] := List.getElem?_eq_getElem hmd
    show PyData.eqv (SeqAt.readOf sh.heap its.toArray[m]) (toP dy) = false
    rw [at_ m hm _ hz', eqv_toP _ dy (plains_get p2 hz') p1]
    exact hno m _ hmj hz'
  · have rr := rv.eraseIdx j
    refine ⟨.non, _, I.lset (its' := its.eraseIdx j) (t' := sh.toks) hH e ?_ rr ?_, rfl, q⟩
    · show its.toArray.eraseIdxIfInBounds j = (its.eraseIdx j).toArray
      rw [List.eraseIdxIfInBounds_toArray]
    · exact Nat.le_trans (len_erase _ _) hz1

/-! ### methods -/
def meI : Me → String
  | .append => "list.append" | .extend => "list.extend" | .remove => "list.remove" | .pop => "list.pop" | .get => "dict.get"
def rMe (K : PySem.W.Frag) (m : Me) : V → List V → Hp → VK → Prop := fun x vs H Q => ∃ Z ρ s dx ds d s', StOk K Z H ρ s ∧ Rep K Z H ρ s x dx ∧ Reps K Z H ρ s vs ds ∧ meD s m dx ds = .ok d s' ∧ OutE K Z H ρ s s' d Q
theorem shals_app {n : Nat} : ∀ {xs ys : List D}, shals n xs = true → shals n ys = true → shals n (xs ++ ys) = true
  | [], _, _, h => h
  | x :: xs, ys, h1, h2 => by
    simp only [shals, Bool.and_eq_true] at h1
    rw [List.cons_append]
    simp only [shals, Bool.and_eq_true]
    exact ⟨h1.1, shals_app h1.2 h2⟩
theorem shals_mem {n : Nat} : ∀ {xs : List D}, shals n xs = true ↔ ∀ x ∈ xs, D.shal n x = true
  | [] => by simp [shals]
  | x :: xs => by simp only [shals, Bool.and_eq_true, List.mem_cons, forall_eq_or_imp, shals_mem]
theorem ref_at (w : StOk X.K Z H ρ s) {e k : Nat} {xs : List D} (r : Rep X.K Z H ρ s v (.ref e k)) (h : s.get e k = some (.lst xs)) : v = .ref (ρ e k) ∧ ∃ vs, H (ρ e k) = some (.lst vs) ∧ Reps X.K Z H ρ s vs xs ∧ shals (e + 1) xs = true := by
  cases r with | ref h' =>
  obtain ⟨vs, h1, h2⟩ := w.cel _ _ _ h
  exact ⟨rfl, vs, h1, h2, w.shal _ _ _ h⟩
theorem mt_me (hu : X.A.units + 100 < cLine) (m : Me) : MtM X (meI m) (rMe X.K m) := by
  intro pins sh σ H x vs v us Q I rx rxs h
  obtain ⟨Z, ρ, s, dx, ds, d, s', w, hx, hvs, hd, out⟩ := h
  unfold meD at hd
  split at hd
  · rename_i e k y
    split at hd
    · rename_i xs hg
      split at hd
      · rename_i c
        cases hd
        obtain ⟨rfl, ws, h1, h2, h3⟩ := ref_at w hx hg
        obtain ⟨y', rfl, ry⟩ := reps1 hvs
        refine mt_append pins sh σ H _ _ v us Q I rx rxs ⟨_, ws, y', rfl, rfl, h1, by rw [h2.length]; exact lim_lt c.1, ?_⟩
        refine out _ _ ρ (Ext.set hg) (w.setL hg (h2.app (.one ry)) (shals_app h3 (by simp only [shals, Bool.and_true]; exact c.2))) .non
      · cases hd
    · cases hd
  · rename_i e k y
    split at hd
    · rename_i xs ys hg hv
      split at hd
      · rename_i c
        cases hd
        obtain ⟨rfl, ws, h1, h2, h3⟩ := ref_at w hx hg
        obtain ⟨y', rfl, ry⟩ := reps1 hvs
        obtain ⟨a, zs, rfl, h4, h5⟩ := view_lst w ry hv
        refine mt_extend pins sh σ H _ _ v us Q I rx rxs ⟨_, a, ws, zs, rfl, rfl, h1, h4, by rw [h2.length, h5.length]; exact lim_line c.1, ?_⟩
        exact out _ _ ρ (Ext.set hg) (w.setL hg (h2.app h5) (shals_app h3 c.2)) .non
      · cases hd
    · cases hd
  · rename_i e k y
    split at hd
    · rename_i xs hg
      split at hd
      · rename_i c
        rw [Bool.and_eq_true] at c
        split at hd
        · rename_i zs hz
          cases hd
          obtain ⟨rfl, ws, h1, h2, h3⟩ := ref_at w hx hg
          obtain ⟨y', rfl, ry⟩ := reps1 hvs
          obtain ⟨j, z, e1, e2, e3, e4⟩ := remD_at hz
          subst e4
          refine mt_removeD hu pins sh σ H _ _ v us Q I rx rxs ⟨Z, ρ, s, _, ws, y, xs, j, y', rfl, rfl, h1, w, h2, ry, c.1, c.2, ⟨z, e1, e2⟩, e3, ?_⟩
          refine out _ _ ρ (Ext.set hg) (w.setL hg (h2.erase j) (shals_mem.mpr fun x hx => shals_mem.mp h3 x (List.mem_of_mem_eraseIdx hx))) .non
        · cases hd
      · cases hd
    · cases hd
  · rename_i e k
    split at hd
    · rename_i xs hg
      split at hd
      · rename_i y hy
        cases hd
        obtain ⟨rfl, ws, h1, h2, h3⟩ := ref_at w hx hg
        cases hvs
        rw [List.getLast?_eq_getElem?] at hy
        obtain ⟨y', q1, q2⟩ := h2.get hy
        refine mt_pop pins sh σ H _ _ v us Q I rx rxs ⟨_, ws, y', rfl, rfl, h1, by rw [h2.length]; exact q1, ?_⟩
        exact out _ _ ρ (Ext.set hg) (w.setL hg h2.init (shals_mem.mpr fun x hx => shals_mem.mp h3 x (List.dropLast_subset _ hx))) (q2.ext w (Ext.set hg))
      · cases hd
    · cases hd
  · cases hd
theorem tyV_lst (w : StOk X.K Z H ρ s) {m : Me} {ds : List D} {s' : S} {d' : D} (r : Rep X.K Z H ρ s v d) (h : meD s m d ds = .ok d' s') : tyV X.K "list" v H := by
  have key : ∀ {e k : Nat} {xs : List D}, d = .ref e k → s.get e k = some (.lst xs) → tyV X.K "list" v H := fun {e k xs} e1 hg => by
    subst e1
    obtain ⟨rfl, ws, h1, _, _⟩ := ref_at w r hg
    exact .inl ⟨rfl, ws, SqL.of h1⟩
  unfold meD at h
  split at h
  · split at h
    · rename_i hg; exact key rfl hg
    · cases h
  · split at h
    · rename_i hg _; exact key rfl hg
    · cases h
  · split at h
    · rename_i hg; exact key rfl hg
    · cases h
  · split at h
    · rename_i hg; exact key rfl hg
    · cases h
  · cases h
/-! ### stores -/
def rSto (K : PySem.W.Frag) : V → V → V → Hp → (Hp → Prop) → Prop := fun o i v H Q => ∃ Z ρ s dx dy dv s', StOk K Z H ρ s ∧ Rep K Z H ρ s o dx ∧ Rep K Z H ρ s i dy ∧ Rep K Z H ρ s v dv ∧ stoD s dx dy dv = some s' ∧ ∀ H' ρ', Ext H ρ s H' ρ' s' → StOk K Z H' ρ' s' → Q H'
theorem set_sto : PSet X (rSto X.K) := by
  intro pins sh σ H o i v ov iv u Q I ro ri rv h
  obtain ⟨Z, ρ, s, dx, dy, dv, s', w, hx, hy, hv, hd, out⟩ := h
  unfold stoD at hd
  split at hd
  · rename_i e k i
    split at hd
    · rename_i xs hg
      split at hd
      · rename_i j hj
        split at hd
        · rename_i c
          cases hd
          obtain ⟨rfl, ws, h1, h2, h3⟩ := ref_at w hx hg
          cases hy
          refine set_list pins sh σ H _ _ v ov iv u Q I ro ri rv ⟨_, ws, i, j, rfl, rfl, h1, by rw [show ixN ws.length i = ixD xs.length i by rw [h2.length]; rfl]; exact hj, ?_⟩
          refine out _ ρ (Ext.set hg) (w.setL hg (h2.set hv j) (shals_mem.mpr fun x hx => ?_))
          rcases List.mem_or_eq_of_mem_set hx with q | q
          · exact shals_mem.mp h3 x q
          · rw [q]; exact c
        · cases hd
      · cases hd
    · cases hd
  · cases hd
/-! ### isinstance -/
def tyN : Ty → String
  | .int => "int" | .bool => "bool" | .str => "str" | .tuple => "tuple" | .list => "list" | .dict => "dict"
inductive Kd where | non | bl | int | str | tup | lst | dct
def kdN : Kd → String
  | .non => "NoneType" | .bl => "bool" | .int => "int" | .str => "str" | .tup => "tuple" | .lst => "list" | .dct => "dict"
def kdT : Kd → Ty → Bool
  | .bl, .bool => true | .bl, .int => true | .int, .int => true | .str, .str => true | .tup, .tuple => true | .lst, .list => true | .dct, .dict => true
  | _, _ => false
theorem kit_kd (k : Kd) (c : Ty) : kitB (kdN k) (tyN c) = some (kdT k c) := by cases k <;> cases c <;> decide +kernel
theorem ty_of (w : StOk X.K Z H ρ s) (r : Rep X.K Z H ρ s x d) : ∃ k : Kd, TyX X.K H x (.type (kdN k)) ∧ ∀ c : Ty, tyD s d c = kdT k c := by
  cases r with
  | non => exact ⟨.non, .base .non, fun c => by cases c <;> rfl⟩
  | bl b => exact ⟨.bl, .base (.bl b), fun c => by cases c <;> rfl⟩
  | int b => exact ⟨.int, .base (.int b), fun c => by cases c <;> rfl⟩
  | str b => exact ⟨.str, .base (.str b), fun c => by cases c <;> rfl⟩
  | tup h r =>
    refine ⟨.tup, ?_, fun c => by cases c <;> rfl⟩
    rcases h with (h | ⟨o, h⟩) | ⟨o, its, n, h1, h2, _⟩
    · exact .base (.tup h)
    · exact .fTuple h
    · exact .kTuple h1 h2
  | lst h _ _ r => exact ⟨.lst, .base (.lst h), fun c => by cases c <;> rfl⟩
  | fz h _ _ =>
    refine ⟨.lst, ?_, fun c => by cases c <;> rfl⟩
    rcases h with h | ⟨o, h⟩
    · exact .base (.lst h)
    · exact .base (.frz h)
  | fzK h =>
    obtain ⟨o, its, n, h1, h2, _⟩ := h
    exact ⟨.lst, .kList h1 h2, fun c => by cases c <;> rfl⟩
  | dct h _ _ r => exact ⟨.dct, .base (.dK h), fun c => by cases c <;> rfl⟩
  | @ref e k c q =>
    have q' := w.cel e k c q
    have hv : s.view (.ref e k) = match some c with | some (.lst xs) => .lst xs | some (.dct kvs) => .dct kvs | none => .ref e k := by
      unfold S.view
      simp only [q]
      (try (cases c <;> rfl))
    cases c with
    | lst xs =>
      obtain ⟨vs, h1, _⟩ := q'
      exact ⟨.lst, .base (.lst h1), fun c => by unfold tyD; rw [hv]; cases c <;> rfl⟩
    | dct xs =>
      obtain ⟨vs, h1, _⟩ := q'
      exact ⟨.dct, .base (.dK h1), fun c => by unfold tyD; rw [hv]; cases c <;> rfl⟩
/-- isinstance of one built-in class -/
theorem isi_one (w : StOk X.K Z H ρ s) (r : Rep X.K Z H ρ s x d) (c : Ty) : ∃ t u, ClsV (.ty (tyN c)) u ∧ TyX X.K H x t ∧ PySem.W.kitOne X.K t u = some (tyD s d c) := by
  obtain ⟨k, h1, h2⟩ := ty_of w r
  exact ⟨_, _, .ty _, h1, by rw [h2]; exact kit_ty (kit_kd k c)⟩
theorem isi_any (w : StOk X.K Z H ρ s) (r : Rep X.K Z H ρ s x d) (cs : List Ty) : ∃ t, TyX X.K H x t ∧ PySem.W.kitAny X.K t (cs.map fun c => Value.type (tyN c)) = some (cs.any (tyD s d)) := by
  obtain ⟨k, h1, h2⟩ := ty_of w r
  refine ⟨_, h1, ?_⟩
  induction cs with
  | nil => exact kitAny_nil
  | cons c cs ih =>
    rw [List.map_cons, List.any_cons]
    refine kitAny_cons (b := tyD s d c) (by rw [h2]; exact kit_ty (kit_kd k c)) (fun e => ?_) (fun e => ?_)
    · rw [e, Bool.false_or]; exact ih
    · rw [e, Bool.true_or]
end
end Ev

set_option Elab.async false
set_option linter.all false
set_option maxRecDepth 100000
/-! Ev5: expressions: what the evaluator tells is what the machine does. -/
namespace Ev
open PySem PySem.Spec L2 PyProof.Rows

theorem PE.imp {X : Cx} {e : Expr} {t t' : TE} (h : PE X e t) (i : ∀ σ H Q, t' σ H Q → t σ H Q) : PE X e t' := ⟨fun pins s σ H Q I q => h.run pins s σ H Q I (i σ H Q q)⟩
theorem PT.imp {X : Cx} {e : Expr} {t t' : TT} (h : PT X e t) (i : ∀ σ H Q, t' σ H Q → t σ H Q) : PT X e t' := ⟨fun pins s σ H Q I q => h.run pins s σ H Q I (i σ H Q q)⟩
theorem PW.imp {X : Cx} {e : Expr} {t t' : TT} (h : PW X e t) (i : ∀ σ H Q, t' σ H Q → t σ H Q) : PW X e t' := ⟨fun wh pins s σ H Q I q => h.run wh pins s σ H Q I (i σ H Q q)⟩
theorem PA.imp {X : Cx} {es : List Expr} {t t' : TA} (h : PA X es t) (i : ∀ σ H Q, t' σ H Q → t σ H Q) : PA X es t' := ⟨fun pos pins s σ H Q I q => h.run pos pins s σ H Q I (i σ H Q q)⟩
theorem PO.imp {X : Cx} {e : Option Expr} {t t' : TO} (h : PO X e t) (i : ∀ σ H Q, t' σ H Q → t σ H Q) : PO X e t' := ⟨fun pins s σ H Q I q => h.run pins s σ H Q I (i σ H Q q)⟩

/-! ### the locals -/
structure RelE (K : PySem.W.Frag) (Z : Zs) (H : Hp) (ρ : Rho) (s : S) (σ : L2.St) (env : Env) : Prop where
  len : env.length ≤ σ.length
  var : ∀ i d, getV env i = some d → ∃ v, σ[i]? = some (some v) ∧ Rep K Z H ρ s v d
section
variable {K : PySem.W.Frag} {Z Z' : Zs} {H H1 H2 H' : Hp} {ρ ρ1 ρ2 ρ' : Rho} {s s1 s2 s' : S} {σ : L2.St} {env : Env} {cv : Nat → Value} {W : WX}
theorem RelE.mono (w : StOk K Z H ρ s) (e : Ext H ρ s H' ρ' s') (z : ∀ a, Z' a → Z a ∨ H a = none) (r : RelE K Z H ρ s σ env) : RelE K Z' H' ρ' s' σ env :=
  ⟨r.len, fun i d h => let ⟨v, h1, h2⟩ := r.var i d h; ⟨v, h1, h2.mono w e z⟩⟩
theorem RelE.ext (w : StOk K Z H ρ s) (e : Ext H ρ s H' ρ' s') (r : RelE K Z H ρ s σ env) : RelE K Z H' ρ' s' σ env := r.mono w e zsame
theorem getV_set {env : Env} {i j : Nat} {d : D} : getV (env.set i (some d)) j = if i = j then (if i < env.length then some d else none) else getV env j := by
  unfold getV
  rw [List.getElem?_set]
  by_cases e : i = j
  · rw [if_pos e, if_pos e]
    by_cases h : i < env.length
    · rw [if_pos h, if_pos h]; rfl
    · rw [if_neg h, if_neg h]; rfl
  · rw [if_neg e, if_neg e]
theorem RelE.set {i : Nat} {v : V} {d : D} (r : RelE K Z H ρ s σ env) (h : Rep K Z H ρ s v d) : RelE K Z H ρ s (σ.set i (some v)) (env.set i (some d)) where
  len := by rw [List.length_set, List.length_set]; exact r.len
  var := fun j e q => by
    rw [getV_set] at q
    split at q
    · rename_i ij
      subst ij
      split at q
      · rename_i hl
        cases q
        exact ⟨v, List.getElem?_set_self (Nat.lt_of_lt_of_le hl r.len), h⟩
      · cases q
    · rename_i ij
      obtain ⟨u, h1, h2⟩ := r.var j e q
      exact ⟨u, by rw [List.getElem?_set_ne ij]; exact h1, h2⟩

/-! ### results -/
/-- an exception comes -/
def ExcO (K : PySem.W.Frag) (cv : Nat → Value) (W : WX) (Z : Zs) (H : Hp) (ρ : Rho) (s : S) (σ : L2.St) (n : Nat) (s' : S) : Prop := ∀ H' ρ', Ext H ρ s H' ρ' s' → StOk K Z H' ρ' s' → W (cv n) none σ H'
def PostG (K : PySem.W.Frag) (cv : Nat → Value) (W : WX) (Z : Zs) (H : Hp) (ρ : Rho) (s : S) (σ : L2.St) {α β : Type} (rep : Hp → Rho → S → β → α → Prop) (r : R α) (Q : β → Hp → Prop) : Prop := match r with
  | .ok a s' => ∀ b H' ρ', Ext H ρ s H' ρ' s' → StOk K Z H' ρ' s' → rep H' ρ' s' b a → Q b H'
  | .exc n s' => ExcO K cv W Z H ρ s σ n s'
  | .stuck => False
def PostL (K : PySem.W.Frag) (cv : Nat → Value) (W : WX) (Z : Zs) (H : Hp) (ρ : Rho) (s : S) (σ : L2.St) (r : R D) (Q : VK) : Prop := match r with
  | .ok (.lst ds) s' => OutL K Z H ρ s s' ds Q
  | r => PostG K cv W Z H ρ s σ (Rep K Z) r Q
def PostD (fr : Bool) (K : PySem.W.Frag) (cv : Nat → Value) (W : WX) (Z : Zs) (H : Hp) (ρ : Rho) (s : S) (σ : L2.St) (r : R D) (Q : VK) : Prop := match fr with
  | true => PostL K cv W Z H ρ s σ r Q
  | false => PostG K cv W Z H ρ s σ (Rep K Z) r Q
variable {α β γ δ : Type} {rep : Hp → Rho → S → β → α → Prop} {rep' : Hp → Rho → S → δ → γ → Prop}
theorem ExcO.shift (e : Ext H ρ s H1 ρ1 s1) {n : Nat} (p : ExcO K cv W Z H ρ s σ n s') : ExcO K cv W Z H1 ρ1 s1 σ n s' := fun H' ρ' e' w' => p H' ρ' (e.trans e') w'
theorem PostG.shift (e : Ext H ρ s H1 ρ1 s1) {r : R α} {Q : β → Hp → Prop} (p : PostG K cv W Z H ρ s σ rep r Q) : PostG K cv W Z H1 ρ1 s1 σ rep r Q := by
  cases r with
  | ok a s' => exact fun b H' ρ' e' w' h => p b H' ρ' (e.trans e') w' h
  | exc n s' => exact ExcO.shift e p
  | stuck => exact p
theorem OutL.shift (w : StOk K Z H1 ρ1 s1) (e : Ext H ρ s H1 ρ1 s1) {ds : List D} {Q : VK} (p : OutL K Z H ρ s s' ds Q) : OutL K Z H1 ρ1 s1 s' ds Q := fun q vs H' ρ' e' hq w' h r => by
  refine p q vs H' ρ' (e.trans e') ?_ w' h r
  cases z : H q with
  | none => rfl
  | some o =>
    by_cases l : Live ρ s q
    · obtain ⟨d, k, c, h1, h2⟩ := l
      obtain ⟨⟨c', h3⟩, h4⟩ := e.refs d k c h1
      exact absurd hq (w.liveT ⟨d, k, c', h3, h4.trans h2⟩)
    · obtain ⟨h1, _⟩ := e.keep q o z l
      rw [hq] at h1; cases h1
theorem PostD.shift {fr : Bool} (w : StOk K Z H1 ρ1 s1) (e : Ext H ρ s H1 ρ1 s1) {r : R D} {Q : VK} (p : PostD fr K cv W Z H ρ s σ r Q) : PostD fr K cv W Z H1 ρ1 s1 σ r Q := by
  cases fr with
  | false => exact PostG.shift e p
  | true =>
    cases r with
    | exc n s' => exact ExcO.shift e p
    | stuck => exact p
    | ok d s' =>
      cases d with
      | lst ds => exact OutL.shift w e p
      | _ => exact PostG.shift (cv := cv) (W := W) (σ := σ) (r := R.ok _ s') e p
theorem PostG.mono {r : R α} {Q Q' : β → Hp → Prop} (p : PostG K cv W Z H ρ s σ rep r Q) (h : ∀ b H', Q b H' → Q' b H') : PostG K cv W Z H ρ s σ rep r Q' := by
  cases r with
  | ok a s' => exact fun b H' ρ' e' w' q => h _ _ (p b H' ρ' e' w' q)
  | exc n s' => exact p
  | stuck => exact p
theorem PostG.bind {r : R α} {f : α → S → R γ} {Q : δ → Hp → Prop} (p : PostG K cv W Z H ρ s σ rep' (r.bind f) Q) :
    PostG K cv W Z H ρ s σ rep r (fun b H1 => ∃ a s1 ρ1, Ext H ρ s H1 ρ1 s1 ∧ StOk K Z H1 ρ1 s1 ∧ rep H1 ρ1 s1 b a ∧ PostG K cv W Z H1 ρ1 s1 σ rep' (f a s1) Q) := by
  cases r with
  | ok a s' => exact fun b H' ρ' e w q => ⟨a, s', ρ', e, w, q, PostG.shift e p⟩
  | exc n s' => exact p
  | stuck => exact p
theorem PostD.bind {fr : Bool} {r : R α} {f : α → S → R D} {Q : VK} (p : PostD fr K cv W Z H ρ s σ (r.bind f) Q) :
    PostG K cv W Z H ρ s σ rep r (fun b H1 => ∃ a s1 ρ1, Ext H ρ s H1 ρ1 s1 ∧ StOk K Z H1 ρ1 s1 ∧ rep H1 ρ1 s1 b a ∧ PostD fr K cv W Z H1 ρ1 s1 σ (f a s1) Q) := by
  cases r with
  | ok a s' => exact fun b H' ρ' e w q => ⟨a, s', ρ', e, w, q, PostD.shift w e p⟩
  | exc n s' => cases fr <;> exact p
  | stuck => cases fr <;> exact p
theorem PostG.bindE {r : R α} {f : α → S → R γ} {Q : δ → Hp → Prop} (p : PostG K cv W Z H ρ s σ rep' (r.bind f) Q) :
    PostG K cv W Z H ρ s σ rep r (fun b H1 => ∃ a s1 ρ1, r = .ok a s1 ∧ Ext H ρ s H1 ρ1 s1 ∧ StOk K Z H1 ρ1 s1 ∧ rep H1 ρ1 s1 b a ∧ PostG K cv W Z H1 ρ1 s1 σ rep' (f a s1) Q) := by
  cases r with
  | ok a s' => exact fun b H' ρ' e w q => ⟨a, s', ρ', rfl, e, w, q, PostG.shift e p⟩
  | exc n s' => exact p
  | stuck => exact p
theorem PostG.opt {o : Option α} {s : S} {Q : β → Hp → Prop} (p : PostG K cv W Z H ρ s σ rep (R.opt o s) Q) : ∃ a, o = some a ∧ ∀ b H' ρ', Ext H ρ s H' ρ' s → StOk K Z H' ρ' s → rep H' ρ' s b a → Q b H' := by
  cases o with
  | none => exact p.elim
  | some a => exact ⟨a, rfl, p⟩
theorem PostD.opt {o : Option D} {s : S} {Q : VK} (w : StOk K Z H ρ s) {fr : Bool} (p : PostD fr K cv W Z H ρ s σ (R.opt o s) Q) : ∃ d, o = some d ∧ Out K Z H ρ s d Q := by
  cases o with
  | none => cases fr <;> exact p.elim
  | some d =>
    refine ⟨d, rfl, ?_⟩
    cases fr with
    | false => exact OutE.toF w p
    | true => cases d <;> exact p
theorem PostD.optE {o : Option D} {s : S} {Q : VK} (p : PostD false K cv W Z H ρ s σ (R.opt o s) Q) : ∃ d, o = some d ∧ OutE K Z H ρ s s d Q := PostG.opt p
/-- fresh is easier to take -/
theorem PostD.toL (w : StOk K Z H ρ s) {r : R D} {Q : VK} (p : PostD false K cv W Z H ρ s σ r Q) : PostD true K cv W Z H ρ s σ r Q := by
  cases r with
  | ok d s' =>
    have q : OutF K Z H ρ s s' d Q := OutE.toF w p
    cases d <;> exact q
  | exc n s' => exact p
  | stuck => exact p
end

/-! ### readings by the evaluator -/
section
variable (K : PySem.W.Frag) (cv : Nat → Value) (W : WX) (c : Cfg)
def tE (fr : Bool) (e : E) : TE := fun σ H Q => ∃ Z env ρ s, StOk K Z H ρ s ∧ RelE K Z H ρ s σ env ∧ PostD fr K cv W Z H ρ s σ (evE c e env s) Q
def tT (e : E) : TT := fun σ H Q => ∃ Z env ρ s, StOk K Z H ρ s ∧ RelE K Z H ρ s σ env ∧ PostG K cv W Z H ρ s σ (fun _ _ _ b a => b = a) (evT c e env s) Q
def tEs (es : List E) : TA := fun σ H Q => ∃ Z env ρ s, StOk K Z H ρ s ∧ RelE K Z H ρ s σ env ∧ PostG K cv W Z H ρ s σ (Reps K Z) (evEs c es env s) Q
def tOp' (e : Option E) : TO := fun σ H Q => ∃ Z env ρ s, StOk K Z H ρ s ∧ RelE K Z H ρ s σ env ∧ PostG K cv W Z H ρ s σ (fun _ _ _ b a => b = a) (evO c e env s) Q
end
section
variable {X : Cx} {cv : Nat → Value} {W : WX} {c : Cfg} {e a b : Expr} {ea eb ec : E} {pos : Pos}
theorem pe_fr (h : PE X e (tE X.K cv W c true ea)) : PE X e (tE X.K cv W c false ea) := PE.imp h fun σ H Q ⟨Z, env, ρ, s, w, re, p⟩ => ⟨Z, env, ρ, s, w, re, p.toL w⟩
theorem s_loc {i : Nat} {x : Str} (hN : X.N[i]? = some x) (hv : Vis X.env.scope x) (hd : (x == ("__debug__" : Str)) = false) (hcd : (x == ("__classdict__" : Str)) = false) : PE X (.Name x pos) (tE X.K cv W c false (.loc i)) := by
  refine PE.imp (pe_var hN hv hd hcd) ?_
  rintro σ H Q ⟨Z, env, ρ, s, w, re, p⟩
  simp only [evE] at p
  obtain ⟨d, hd, out⟩ := PostD.optE p
  obtain ⟨v, h1, h2⟩ := re.var i d hd
  exact ⟨v, h1, OutE.here w out h2⟩
theorem s_cst {v : V} {d : D} (h : PE X e (tC v)) (r : ∀ Z H ρ s, Rep X.K Z H ρ s v d) : PE X e (tE X.K cv W c false (.cst d)) := by
  refine PE.imp h ?_
  rintro σ H Q ⟨Z, env, ρ, s, w, re, p⟩
  simp only [evE] at p
  exact OutE.here w p (r _ _ _ _)
theorem s_gc {v : V} {d : D} {g : Nat} (h : PE X e (tC v)) (hg : c.gc g = some d) (r : ∀ Z H ρ s, Rep X.K Z H ρ s v d) : PE X e (tE X.K cv W c false (.gc g)) := by
  refine PE.imp h ?_
  rintro σ H Q ⟨Z, env, ρ, s, w, re, p⟩
  simp only [evE, hg] at p
  exact OutE.here w p (r _ _ _ _)
theorem s_bin {o : Op2} {fr : Bool} (ha : PE X a (tE X.K cv W c false ea)) (hb : PE X b (tE X.K cv W c false eb)) : PE X (.BinOp a (opOf o) b pos) (tE X.K cv W c fr (.bin o ea eb)) := by
  refine PE.imp (pe_op (op_bin o) ha hb) ?_
  rintro σ H Q ⟨Z, env, ρ, s, w, re, p⟩
  simp only [evE] at p
  refine ⟨Z, env, ρ, s, w, re, PostG.mono p.bind fun x H1 ⟨dx, s1, ρ1, e1, w1, r1, p1⟩ => ?_⟩
  refine ⟨Z, env, ρ1, s1, w1, re.ext w e1, PostG.mono p1.bind fun y H2 ⟨dy, s2, ρ2, e2, w2, r2, p2⟩ => ?_⟩
  obtain ⟨d, hd, out⟩ := p2.opt w2
  exact ⟨Z, ρ2, s2, dx, dy, d, w2, r1.ext w1 e2, r2, hd, out⟩
theorem s_neg (ha : PE X a (tE X.K cv W c false ea)) : PE X (.UnaryOp .USub a pos) (tE X.K cv W c false (.neg ea)) := by
  refine PE.imp (pe_un un_neg ha) ?_
  rintro σ H Q ⟨Z, env, ρ, s, w, re, p⟩
  simp only [evE] at p
  refine ⟨Z, env, ρ, s, w, re, PostG.mono p.bind fun x H1 ⟨dx, s1, ρ1, e1, w1, r1, p1⟩ => ?_⟩
  split at p1
  · cases r1
    exact ⟨_, rfl, OutE.here w1 p1 (.int _)⟩
  · exact p1.elim
theorem s_not (ha : PE X a (tE X.K cv W c false ea)) : PE X (.UnaryOp .Not a pos) (tE X.K cv W c false (.nt ea)) := by
  refine PE.imp (pe_notT ha) ?_
  rintro σ H Q ⟨Z, env, ρ, s, w, re, p⟩
  simp only [evE] at p
  refine ⟨Z, env, ρ, s, w, re, PostG.mono p.bind fun x H1 ⟨dx, s1, ρ1, e1, w1, r1, p1⟩ => ?_⟩
  obtain ⟨d, hd, out⟩ := PostD.optE p1
  cases q : truth s1 dx with
  | none => rw [q] at hd; cases hd
  | some k =>
    rw [q] at hd
    cases hd
    exact ⟨k, truV_of w1 r1 q, OutE.here w1 out (.bl _)⟩
theorem s_and {b' : Expr} {rest : List Expr} (ha : PE X a (tE X.K cv W c false ea)) (hb : PE X (.BoolOp .And (b' :: rest) pos) (tE X.K cv W c false eb)) : PE X (.BoolOp .And (a :: b' :: rest) pos) (tE X.K cv W c false (.and ea eb)) := by
  refine PE.imp (pe_andT ha hb) ?_
  rintro σ H Q ⟨Z, env, ρ, s, w, re, p⟩
  simp only [evE] at p
  refine ⟨Z, env, ρ, s, w, re, PostG.mono p.bind fun x H1 ⟨dx, s1, ρ1, e1, w1, r1, p1⟩ => ?_⟩
  split at p1
  · rename_i q
    exact ⟨true, truV_of w1 r1 q, iteT ⟨Z, env, ρ1, s1, w1, re.ext w e1, p1⟩⟩
  · rename_i q
    exact ⟨false, truV_of w1 r1 q, iteF (OutE.here w1 p1 r1)⟩
  · exact p1.elim
theorem s_or {b' : Expr} {rest : List Expr} (ha : PE X a (tE X.K cv W c false ea)) (hb : PE X (.BoolOp .Or (b' :: rest) pos) (tE X.K cv W c false eb)) : PE X (.BoolOp .Or (a :: b' :: rest) pos) (tE X.K cv W c false (.or ea eb)) := by
  refine PE.imp (pe_orT ha hb) ?_
  rintro σ H Q ⟨Z, env, ρ, s, w, re, p⟩
  simp only [evE] at p
  refine ⟨Z, env, ρ, s, w, re, PostG.mono p.bind fun x H1 ⟨dx, s1, ρ1, e1, w1, r1, p1⟩ => ?_⟩
  split at p1
  · rename_i q
    exact ⟨true, truV_of w1 r1 q, iteT (OutE.here w1 p1 r1)⟩
  · rename_i q
    exact ⟨false, truV_of w1 r1 q, iteF ⟨Z, env, ρ1, s1, w1, re.ext w e1, p1⟩⟩
  · exact p1.elim
/-! tests -/
theorem s_truth (ha : PE X a (tE X.K cv W c false ea)) (he : ∀ whole, isTrue a X.env whole = (do let v ← whole; standAt a.pos; holding [v] (truthy v))) (hv : ∀ env s, evT c ea env s = (evE c ea env s).bind fun x s => R.opt (truth s x) s) : PT X a (tT X.K cv W c ea) := by
  refine PT.imp (pt_truth ha he) ?_
  rintro σ H Q ⟨Z, env, ρ, s, w, re, p⟩
  rw [hv] at p
  refine ⟨Z, env, ρ, s, w, re, PostG.mono (PostG.bind (rep := Rep X.K Z) p) fun x H1 ⟨dx, s1, ρ1, e1, w1, r1, p1⟩ => ?_⟩
  obtain ⟨k, hk, out⟩ := PostG.opt p1
  exact ⟨k, truV_of w1 r1 hk, out k H1 ρ1 Ext.refl w1 rfl⟩
theorem s_tnot (ha : PT X a (tT X.K cv W c ea)) : PT X (.UnaryOp .Not a pos) (tT X.K cv W c (.nt ea)) := by
  refine PT.imp (pt_not ha) ?_
  rintro σ H Q ⟨Z, env, ρ, s, w, re, p⟩
  simp only [evT] at p
  refine ⟨Z, env, ρ, s, w, re, PostG.mono (PostG.bind (rep := fun _ _ _ b a => b = a) p) fun k H1 ⟨k', s1, ρ1, e1, w1, r1, p1⟩ => ?_⟩
  subst r1
  exact p1 _ H1 ρ1 Ext.refl w1 rfl
theorem s_tand {b' : Expr} {rest : List Expr} (ha : PT X a (tT X.K cv W c ea)) (hb : PW X (.BoolOp .And (b' :: rest) pos) (tT X.K cv W c eb)) : PW X (.BoolOp .And (a :: b' :: rest) pos) (tT X.K cv W c (.and ea eb)) := by
  refine PW.imp (pw_and ha hb) ?_
  rintro σ H Q ⟨Z, env, ρ, s, w, re, p⟩
  simp only [evT] at p
  refine ⟨Z, env, ρ, s, w, re, PostG.mono (PostG.bind (rep := fun _ _ _ b a => b = a) p) fun k H1 ⟨k', s1, ρ1, e1, w1, r1, p1⟩ => ?_⟩
  subst r1
  cases k with
  | true => exact iteT ⟨Z, env, ρ1, s1, w1, re.ext w e1, p1⟩
  | false => exact iteF (p1 _ H1 ρ1 Ext.refl w1 rfl)
theorem s_tor {b' : Expr} {rest : List Expr} (ha : PT X a (tT X.K cv W c ea)) (hb : PW X (.BoolOp .Or (b' :: rest) pos) (tT X.K cv W c eb)) : PW X (.BoolOp .Or (a :: b' :: rest) pos) (tT X.K cv W c (.or ea eb)) := by
  refine PW.imp (pw_or ha hb) ?_
  rintro σ H Q ⟨Z, env, ρ, s, w, re, p⟩
  simp only [evT] at p
  refine ⟨Z, env, ρ, s, w, re, PostG.mono (PostG.bind (rep := fun _ _ _ b a => b = a) p) fun k H1 ⟨k', s1, ρ1, e1, w1, r1, p1⟩ => ?_⟩
  subst r1
  cases k with
  | false => exact iteF ⟨Z, env, ρ1, s1, w1, re.ext w e1, p1⟩
  | true => exact iteT (p1 _ H1 ρ1 Ext.refl w1 rfl)

theorem s_cmp {o : Cm} (hu : X.A.units + 100 < cLine) (hm : behindInMarks (cmOf o) b = false) (ha : PE X a (tE X.K cv W c false ea)) (hb : PE X b (tE X.K cv W c false eb)) : PE X (.Compare a [cmOf o] [b] pos) (tE X.K cv W c false (.cmp o ea eb)) := by
  refine PE.imp (pe_cmpR (op_cmp hu o) ha hb hm) ?_
  rintro σ H Q ⟨Z, env, ρ, s, w, re, p⟩
  simp only [evE] at p
  refine ⟨Z, env, ρ, s, w, re, PostG.mono p.bind fun x H1 ⟨dx, s1, ρ1, e1, w1, r1, p1⟩ => ?_⟩
  refine ⟨Z, env, ρ1, s1, w1, re.ext w e1, PostG.mono p1.bind fun y H2 ⟨dy, s2, ρ2, e2, w2, r2, p2⟩ => ?_⟩
  obtain ⟨d, hd, out⟩ := PostD.optE p2
  cases q : cmpD s2 o dx dy with
  | none => rw [q] at hd; cases hd
  | some k =>
    rw [q] at hd
    cases hd
    exact ⟨Z, ρ2, s2, dx, dy, k, w2, r1.ext w1 e2, r2, q, OutE.here w2 out (.bl k)⟩
theorem s_tcmp {o : Cm} (hu : X.A.units + 100 < cLine) (hm : behindInMarks (cmOf o) b = false) (ha : PE X a (tE X.K cv W c false ea)) (hb : PE X b (tE X.K cv W c false eb)) : PT X (.Compare a [cmOf o] [b] pos) (tT X.K cv W c (.cmp o ea eb)) := by
  refine PT.imp (pt_cmpR (op_cmp hu o) ha hb hm) ?_
  rintro σ H Q ⟨Z, env, ρ, s, w, re, p⟩
  have hv : evT c (.cmp o ea eb) env s = (evE c (.cmp o ea eb) env s).bind fun x s => R.opt (truth s x) s := by simp only [evT]
  rw [hv] at p
  simp only [evE] at p
  refine ⟨Z, env, ρ, s, w, re, ?_⟩
  cases q1 : evE c ea env s with
  | stuck => rw [q1] at p; exact p.elim
  | exc n s1 => rw [q1] at p; exact p
  | ok dx s1 =>
    rw [q1] at p
    intro x H1 ρ1 e1 w1 r1
    refine ⟨Z, env, ρ1, s1, w1, re.ext w e1, ?_⟩
    have p := PostG.shift e1 p
    simp only [R.bind_ok] at p
    cases q2 : evE c eb env s1 with
    | stuck => rw [q2] at p; exact p.elim
    | exc n s2 => rw [q2] at p; exact p
    | ok dy s2 =>
      rw [q2] at p
      intro y H2 ρ2 e2 w2 r2
      have p := PostG.shift e2 p
      simp only [R.bind_ok] at p
      cases q : cmpD s2 o dx dy with
      | none => rw [q] at p; exact p.elim
      | some k =>
        rw [q] at p
        have p : Q k H2 := p k H2 ρ2 Ext.refl w2 rfl
        exact ⟨Z, ρ2, s2, dx, dy, k, w2, r1.ext w1 e2, r2, q, k, rfl, p⟩
theorem chain_bl {o p : Cm} {a b d : E} {env : Env} {s s' : S} {x : D} (h : evE c (.chain o p a b d) env s = .ok x s') : ∃ k, x = .bl k := by
  simp only [evE] at h
  cases q1 : evE c a env s with
  | stuck => rw [q1] at h; cases h
  | exc n s1 => rw [q1] at h; cases h
  | ok x1 s1 =>
    rw [q1] at h
    simp only [R.bind_ok] at h
    cases q2 : evE c b env s1 with
    | stuck => rw [q2] at h; cases h
    | exc n s1 => rw [q2] at h; cases h
    | ok x2 s2 =>
      rw [q2] at h
      simp only [R.bind_ok] at h
      split at h
      · cases q3 : evE c d env s2 with
        | stuck => rw [q3] at h; cases h
        | exc n s1 => rw [q3] at h; cases h
        | ok x3 s3 =>
          rw [q3] at h
          simp only [R.bind_ok] at h
          cases q : cmpD s3 p x2 x3 with
          | none => rw [q] at h; cases h
          | some k => rw [q] at h; cases h; exact ⟨k, rfl⟩
      · cases h; exact ⟨_, rfl⟩
      · cases h
theorem s_chain {cc : Expr} {o o' : Cm} (hu : X.A.units + 100 < cLine) (hm : lastMarks [cmOf o, cmOf o'] [b, cc] = false) (ha : PE X a (tE X.K cv W c false ea)) (hb : PE X b (tE X.K cv W c false eb)) (hc : PE X cc (tE X.K cv W c false ec)) :
    PE X (.Compare a [cmOf o, cmOf o'] [b, cc] pos) (tE X.K cv W c false (.chain o o' ea eb ec)) ∧ PT X (.Compare a [cmOf o, cmOf o'] [b, cc] pos) (tT X.K cv W c (.chain o o' ea eb ec)) := by
  have key : ∀ σ H (Q : VK), tE X.K cv W c false (.chain o o' ea eb ec) σ H Q → tChain (rCmp X.K o) (rCmp X.K o') (tE X.K cv W c false ea) (tE X.K cv W c false eb) (tE X.K cv W c false ec) σ H Q := by
    rintro σ H Q ⟨Z, env, ρ, s, w, re, p⟩
    simp only [evE] at p
    refine ⟨Z, env, ρ, s, w, re, PostG.mono p.bind fun x H1 ⟨dx, s1, ρ1, e1, w1, r1, p1⟩ => ?_⟩
    refine ⟨Z, env, ρ1, s1, w1, re.ext w e1, PostG.mono p1.bind fun y H2 ⟨dy, s2, ρ2, e2, w2, r2, p2⟩ => ?_⟩
    split at p2
    · rename_i q
      refine ⟨Z, ρ2, s2, dx, dy, true, w2, r1.ext w1 e2, r2, q, true, rfl, iteT ?_⟩
      refine ⟨Z, env, ρ2, s2, w2, (re.ext w e1).ext w1 e2, PostG.mono (PostD.bind p2) fun z H3 ⟨dz, s3, ρ3, e3, w3, r3, p3⟩ => ?_⟩
      obtain ⟨d, hd, out⟩ := PostD.optE p3
      cases q' : cmpD s3 o' dy dz with
      | none => rw [q'] at hd; cases hd
      | some k =>
        rw [q'] at hd
        cases hd
        exact ⟨Z, ρ3, s3, dy, dz, k, w3, r2.ext w2 e3, r3, q', OutE.here w3 out (.bl k)⟩
    · rename_i q
      exact ⟨Z, ρ2, s2, dx, dy, false, w2, r1.ext w1 e2, r2, q, false, rfl, iteF (OutE.here w2 p2 (.bl _))⟩
    · exact p2.elim
  refine ⟨PE.imp (pe_chain (op_cmp hu o) (op_cmp hu o') ha hb hc hm) key, PT.imp (pt_chain (op_cmp hu o) (op_cmp hu o') ha hb hc hm) ?_⟩
  rintro σ H Q ⟨Z, env, ρ, s, w, re, p⟩
  have hv : evT c (.chain o o' ea eb ec) env s = (evE c (.chain o o' ea eb ec) env s).bind fun x s => R.opt (truth s x) s := by simp only [evT]
  rw [hv] at p
  refine key σ H _ ⟨Z, env, ρ, s, w, re, PostG.mono (PostG.bindE (rep := Rep X.K Z) p) fun x H1 ⟨dx, s1, ρ1, e0, e1, w1, r1, p1⟩ => ?_⟩
  obtain ⟨k, hk, out⟩ := PostG.opt p1
  obtain ⟨k', rfl⟩ := chain_bl e0
  cases r1
  have ek : k' = k := Option.some.inj hk
  subst ek
  exact ⟨k', rfl, out k' H1 ρ1 Ext.refl w1 rfl⟩
theorem s_ite {cc : Expr} (hc : PT X cc (tT X.K cv W c ec)) (ha : PE X a (tE X.K cv W c false ea)) (hb : PE X b (tE X.K cv W c false eb)) : PE X (.IfExp cc a b pos) (tE X.K cv W c false (.ite ec ea eb)) := by
  refine PE.imp (pe_ifExp hc ha hb) ?_
  rintro σ H Q ⟨Z, env, ρ, s, w, re, p⟩
  simp only [evE] at p
  refine ⟨Z, env, ρ, s, w, re, PostG.mono (PostD.bind (rep := fun _ _ _ b a => b = a) p) fun k H1 ⟨k', s1, ρ1, e1, w1, r1, p1⟩ => ?_⟩
  subst r1
  cases k with
  | true => exact iteT ⟨Z, env, ρ1, s1, w1, re.ext w e1, p1⟩
  | false => exact iteF ⟨Z, env, ρ1, s1, w1, re.ext w e1, p1⟩
/-! argument lists -/
theorem s_nil : PA X [] (tEs X.K cv W c []) := by
  refine PA.imp pa_nil ?_
  rintro σ H Q ⟨Z, env, ρ, s, w, re, p⟩
  simp only [evEs] at p
  exact p [] H ρ Ext.refl w .nil
theorem s_cons {es : List Expr} {ees : List E} (ha : PE X a (tE X.K cv W c false ea)) (hb : PA X es (tEs X.K cv W c ees)) (hs : starEach (a :: es) X.env = (false, eval a X.env) :: starEach es X.env) : PA X (a :: es) (tEs X.K cv W c (ea :: ees)) := by
  refine PA.imp (pa_cons ha hb hs) ?_
  rintro σ H Q ⟨Z, env, ρ, s, w, re, p⟩
  simp only [evEs] at p
  refine ⟨Z, env, ρ, s, w, re, PostG.mono (PostG.bind (rep := Rep X.K Z) p) fun x H1 ⟨dx, s1, ρ1, e1, w1, r1, p1⟩ => ?_⟩
  refine ⟨Z, env, ρ1, s1, w1, re.ext w e1, PostG.mono (PostG.bind (rep := Reps X.K Z) p1) fun xs H2 ⟨dxs, s2, ρ2, e2, w2, r2, p2⟩ => ?_⟩
  exact p2 _ H2 ρ2 Ext.refl w2 (.cons (r1.ext w1 e2) r2)
section
variable {es : List Expr} {ees : List E}
theorem s_tup {k : Nat} (h : PA X es (tEs X.K cv W c ees)) : PE X (.Tuple es k pos) (tE X.K cv W c false (.tup ees)) := by
  refine PE.imp (pe_tup h) ?_
  rintro σ H Q ⟨Z, env, ρ, s, w, re, p⟩
  simp only [evE] at p
  refine ⟨Z, env, ρ, s, w, re, PostG.mono (PostD.bind (rep := Reps X.K Z) p) fun xs H1 ⟨dxs, s1, ρ1, e1, w1, r1, p1⟩ => ?_⟩
  split at p1
  · rename_i hl
    exact ⟨by rw [r1.length]; exact lim_line hl, fun q hq => Out.tup w1 p1 r1 hq⟩
  · exact p1.elim
theorem s_lst (h : PA X es (tEs X.K cv W c ees)) : PE X (.List es pos) (tE X.K cv W c true (.lst ees)) := by
  refine PE.imp (pe_lst h) ?_
  rintro σ H Q ⟨Z, env, ρ, s, w, re, p⟩
  simp only [evE] at p
  refine ⟨Z, env, ρ, s, w, re, PostG.mono (PostD.bind (rep := Reps X.K Z) p) fun xs H1 ⟨dxs, s1, ρ1, e1, w1, r1, p1⟩ => ?_⟩
  split at p1
  · rename_i hl
    exact ⟨by rw [r1.length]; exact lim_line hl, fun q hq => OutL.new w1 p1 r1 hq⟩
  · exact p1.elim
theorem s_bi {bi : Bi} {x : Str} {fr : Bool} {p0 : Pos} (hS : SortedOk) (hu : X.A.units + 100 < cLine) (hcm : X.calm = true) (hg : Gl X x) (hm : X.mg x = none) (hv : bootBuiltins x = some (biV bi)) (ha : PA X (a :: es) (tEs X.K cv W c ees))
    (hn : x ≠ "__name__") (hdb : (x == ("__debug__" : Str)) = false) (he : starEach (a :: es) X.env = (false, eval a X.env) :: starEach es X.env) (hpl : (backTo pos (starEach es X.env)).any (·.1) = false) :
    PE X (.Call (.Name x p0) (a :: es) [] pos) (tE X.K cv W c fr (.bi bi ees)) := by
  have fin : ∀ σ H (Q : VK), tE X.K cv W c fr (.bi bi ees) σ H Q → tCB (rBi X.K bi) (tEs X.K cv W c ees) σ H Q := by
    rintro σ H Q ⟨Z, env, ρ, s, w, re, p⟩
    simp only [evE] at p
    refine ⟨Z, env, ρ, s, w, re, PostG.mono (PostD.bind (rep := Reps X.K Z) p) fun xs H1 ⟨dxs, s1, ρ1, e1, w1, r1, p1⟩ => ?_⟩
    obtain ⟨d, hd, out⟩ := p1.opt w1
    exact ⟨Z, ρ1, s1, dxs, d, w1, r1, hd, out⟩
  have hc := call_bi hS hcm hu bi
  cases bi <;> first
    | exact PE.imp (pe_callB hc hg hm hv ha hn hdb he hpl) fin
    | exact PE.imp (pe_callTy hc hg hm hv ha hn hdb he hpl) fin
theorem s_idx {fr : Bool} (ha : PE X a (tE X.K cv W c false ea)) (hb : PE X b (tE X.K cv W c false eb)) (hs : PlainIx b) : PE X (.Subscript a b pos) (tE X.K cv W c false (.idx ea eb)) := by
  refine PE.imp (pe_ix ix_idx ha hb hs) ?_
  rintro σ H Q ⟨Z, env, ρ, s, w, re, p⟩
  simp only [evE] at p
  refine ⟨Z, env, ρ, s, w, re, PostG.mono p.bind fun x H1 ⟨dx, s1, ρ1, e1, w1, r1, p1⟩ => ?_⟩
  refine ⟨Z, env, ρ1, s1, w1, re.ext w e1, PostG.mono p1.bind fun y H2 ⟨dy, s2, ρ2, e2, w2, r2, p2⟩ => ?_⟩
  obtain ⟨d, hd, out⟩ := PostD.optE p2
  exact ⟨Z, ρ2, s2, dx, dy, d, w2, r1.ext w1 e2, r2, hd, out⟩
theorem s_onone : PO X none (tOp' X.K cv W c none) := by
  refine PO.imp po_none ?_
  rintro σ H Q ⟨Z, env, ρ, s, w, re, p⟩
  simp only [evO] at p
  exact p none H ρ Ext.refl w rfl
theorem s_osome (ha : PE X a (tE X.K cv W c false ea)) : PO X (some a) (tOp' X.K cv W c (some ea)) := by
  refine PO.imp (po_some ha) ?_
  rintro σ H Q ⟨Z, env, ρ, s, w, re, p⟩
  simp only [evO] at p
  refine ⟨Z, env, ρ, s, w, re, PostG.mono (PostG.bind (rep := Rep X.K Z) p) fun x H1 ⟨dx, s1, ρ1, e1, w1, r1, p1⟩ => ?_⟩
  obtain ⟨o, ho, out⟩ := PostG.opt p1
  cases dx with
  | int i =>
    cases ho
    cases r1
    exact ⟨i, rfl, out _ H1 ρ1 Ext.refl w1 rfl⟩
  | _ => cases ho
theorem s_sl {fr : Bool} {lo hi : Option Expr} {elo ehi : Option E} {p2 : Pos} (ha : PE X a (tE X.K cv W c false ea)) (hl : PO X lo (tOp' X.K cv W c elo)) (hh : PO X hi (tOp' X.K cv W c ehi)) : PE X (.Subscript a (.Slice lo hi none p2) pos) (tE X.K cv W c fr (.sl ea elo ehi)) := by
  refine PE.imp (pe_slice sl_cut ha hl hh) ?_
  rintro σ H Q ⟨Z, env, ρ, s, w, re, p⟩
  simp only [evE] at p
  refine ⟨Z, env, ρ, s, w, re, PostG.mono (PostD.bind (rep := Rep X.K Z) p) fun x H1 ⟨dx, s1, ρ1, e1, w1, r1, p1⟩ => ?_⟩
  refine ⟨Z, env, ρ1, s1, w1, re.ext w e1, PostG.mono (PostD.bind (rep := fun _ _ _ b a => b = a) p1) fun l H2 ⟨l', s2, ρ2, e2, w2, r2, p2⟩ => ?_⟩
  subst r2
  refine ⟨Z, env, ρ2, s2, w2, (re.ext w e1).ext w1 e2, PostG.mono (PostD.bind (rep := fun _ _ _ b a => b = a) p2) fun u H3 ⟨u', s3, ρ3, e3, w3, r3, p3⟩ => ?_⟩
  subst r3
  obtain ⟨d, hd, out⟩ := p3.opt w3
  exact ⟨Z, ρ3, s3, dx, d, w3, r1.ext w1 (e2.trans e3), hd, out⟩
theorem isL_ty {K : PySem.W.Frag} {Z : Zs} {H : Hp} {ρ : Rho} {s : S} {v : V} {d : D} (w : StOk K Z H ρ s) (r : Rep K Z H ρ s v d) (h : isL s d = true) : tyV K "list" v H := by
  unfold isL at h
  split at h
  · rename_i xs q
    obtain ⟨a, vs, rfl, h1, _⟩ := view_lst w r q
    exact .inl ⟨rfl, vs, SqL.of h1⟩
  · cases h
theorem s_me1 {m : Me} {name : Str} {apos cpos : Pos} (hu : X.A.units + 100 < cLine) (pa : PlainAttrs "list") (slot : Slot "list" name (meI m)) (hty : typeOf (.builtin (meI m)) = pure (.type "method_descriptor")) (ha : PE X a (tE X.K cv W c false ea)) (hb : PA X (b :: es) (tEs X.K cv W c ees))
    (hbase : attributeBase a name X.env (eval a X.env) = eval a X.env)
    (hfew : ((backTo cpos (starEach (b :: es) X.env)).all (fun x => !x.1) && (backToKw cpos (keywordEach [] X.env)).all (fun x => x.1.isSome) && decide ((b :: es).length + ([] : List Keyword).length + (if ([] : List Keyword).isEmpty then 0 else 1) < 30)) = true)
    (hline : (apos.endLine == cpos.line) = true) (hs : starEach (b :: es) X.env = (false, eval b X.env) :: starEach es X.env) (hplain : (backTo cpos (starEach es X.env)).any (·.1) = false) :
    PE X (.Call (.Attribute a name apos) (b :: es) [] cpos) (tE X.K cv W c false (.me m ea ees)) := by
  refine PE.imp (pe_bm pa slot hty (mt_me hu m) ha hb hbase hfew hline hs hplain) ?_
  rintro σ H Q ⟨Z, env, ρ, s, w, re, p⟩
  simp only [evE] at p
  refine ⟨Z, env, ρ, s, w, re, PostG.mono (PostD.bind (rep := Rep X.K Z) p) fun x H1 ⟨dx, s1, ρ1, e1, w1, r1, p1⟩ => ?_⟩
  split at p1
  · rename_i hl
    refine ⟨isL_ty w1 r1 hl, Z, env, ρ1, s1, w1, re.ext w e1, PostG.mono (PostD.bind (rep := Reps X.K Z) p1) fun xs H2 ⟨dxs, s2, ρ2, e2, w2, r2, p2⟩ => ?_⟩
    cases q : meD s2 m dx dxs with
    | stuck => rw [q] at p2; exact p2.elim
    | exc n s3 =>
      exfalso
      unfold meD at q
      repeat (first | cases q | split at q)
    | ok d s3 =>
      rw [q] at p2
      exact ⟨Z, ρ2, s2, dx, dxs, d, s3, w2, r1.ext w1 e2, r2, q, p2⟩
  · exact p1.elim
theorem s_me0 {m : Me} {name : Str} {apos cpos : Pos} (hu : X.A.units + 100 < cLine) (pa : PlainAttrs "list") (slot : Slot "list" name (meI m)) (hty : typeOf (.builtin (meI m)) = pure (.type "method_descriptor")) (ha : PE X a (tE X.K cv W c false ea))
    (hbase : attributeBase a name X.env (eval a X.env) = eval a X.env) (hline : (apos.endLine == cpos.line) = true) :
    PE X (.Call (.Attribute a name apos) [] [] cpos) (tE X.K cv W c false (.me m ea [])) := by
  refine PE.imp (pe_bm0 pa slot hty (mt_me hu m) ha hbase hline) ?_
  rintro σ H Q ⟨Z, env, ρ, s, w, re, p⟩
  simp only [evE, evEs, R.bind_ok] at p
  refine ⟨Z, env, ρ, s, w, re, PostG.mono (PostD.bind (rep := Rep X.K Z) p) fun x H1 ⟨dx, s1, ρ1, e1, w1, r1, p1⟩ => ?_⟩
  split at p1
  · rename_i hl
    refine ⟨isL_ty w1 r1 hl, ?_⟩
    cases q : meD s1 m dx [] with
    | stuck => rw [q] at p1; exact p1.elim
    | exc n s3 =>
      exfalso
      unfold meD at q
      repeat (first | cases q | split at q)
    | ok d s3 =>
      rw [q] at p1
      exact ⟨Z, ρ1, s1, dx, [], d, s3, w1, r1, .nil, q, p1⟩
  · exact p1.elim
/-! isinstance -/
theorem s_isi1 {ty : Ty} {p0 p1 : Pos} (hg : Gl X "isinstance") (hm : X.mg "isinstance" = none) (ht : PE X b (tC (.ty (tyN ty)))) (ha : PE X a (tE X.K cv W c false ea))
    (h1 : starEach [a, b] X.env = (false, eval a X.env) :: starEach [b] X.env) (h2 : starEach [b] X.env = (false, eval b X.env) :: starEach [] X.env) :
    PE X (.Call (.Name "isinstance" p0) [a, b] [] pos) (tE X.K cv W c false (.isi ea [ty])) := by
  refine PE.imp (pe_callB call_isi hg hm (by decide +kernel) (pa_cons ha (pa_cons ht pa_nil h2) h1) (by decide) (by decide) h1 (by rw [h2]; rfl)) ?_
  rintro σ H Q ⟨Z, env, ρ, s, w, re, p⟩
  simp only [evE] at p
  refine ⟨Z, env, ρ, s, w, re, PostG.mono (PostD.bind (rep := Rep X.K Z) p) fun x H1 ⟨dx, s1, ρ1, e1, w1, r1, p1⟩ => ?_⟩
  obtain ⟨t, u, c1, c2, c3⟩ := isi_one w1 r1 ty
  refine ⟨x, .ty (tyN ty), t, u, _, rfl, c1, c2, c3, OutE.here w1 p1 ?_⟩
  rw [List.any_cons, List.any_nil, Bool.or_false]
  exact .bl _
def tTys (ts : List Ty) : TA := fun _ H Q => Q (ts.map fun t => V.ty (tyN t)) H
theorem tys_cls : ∀ tys : List Ty, Paired ClsV (tys.map fun t => V.ty (tyN t)) (tys.map fun c => Value.type (tyN c))
  | [] => .nil
  | y :: ys => .cons (.ty _) (tys_cls ys)
theorem s_isiT {es : List Expr} {tys : List Ty} {k : Nat} {p0 p1 p2 : Pos} (hg : Gl X "isinstance") (hm : X.mg "isinstance" = none) (ht : PA X es (tTys tys)) (hl : tys.length ≤ 20) (ha : PE X a (tE X.K cv W c false ea))
    (h1 : starEach [a, .Tuple es k p1] X.env = (false, eval a X.env) :: starEach [.Tuple es k p1] X.env) :
    PE X (.Call (.Name "isinstance" p0) [a, .Tuple es k p1] [] pos) (tE X.K cv W c false (.isi ea tys)) := by
  refine PE.imp (pe_callB call_isiT hg hm (by decide +kernel) (pa_cons ha (pa_cons (pe_tup ht) pa_nil rfl) h1) (by decide) (by decide) h1 rfl) ?_
  rintro σ H Q ⟨Z, env, ρ, s, w, re, p⟩
  simp only [evE] at p
  refine ⟨Z, env, ρ, s, w, re, PostG.mono (PostD.bind (rep := Rep X.K Z) p) fun x H1 ⟨dx, s1, ρ1, e1, w1, r1, p1⟩ => ?_⟩
  refine ⟨by rw [List.length_map]; exact Nat.le_trans hl (by rw [sizeLine_eq]; decide), fun q hq => ?_⟩
  have w2 := w1.fresh (o := .tup (tys.map fun t => V.ty (tyN t))) hq
  obtain ⟨t, c1, c2⟩ := isi_any w2 (r1.ext w1 (Ext.fresh hq)) tys
  exact ⟨x, q, _, t, _, _, rfl, upd_same, tys_cls tys, c1, c2, p1 _ _ ρ1 (Ext.fresh hq) w2 (.bl _)⟩
end
/-! ### calls -/
/-- what a def promises, by the evaluator -/
def spOf (K : PySem.W.Frag) (cv : Nat → Value) (np : Nat) (cf : List D → S → R D) : Sp := fun vs H Q E => vs.length = np ∧ ∃ Z ρ s ds, StOk K Z H ρ s ∧ Reps K Z H ρ s vs ds ∧ PostG K cv (fun cls d _ H => E cls d H) Z H ρ s [] (Rep K Z) (cf ds s) Q
structure CallOk (X : Cx) (cv : Nat → Value) (x : Str) (cf : List D → S → R D) : Prop where
  ex : ∃ (f : Addr) (fd : FuncData) (ps : List Str) (k : Nat), X.mg x = some (.ref f) ∧ PySem.W.keepIn X.K (.ref f) = true ∧ Binds X.K fd ps [] ∧ FnOk X.prog X.w X.K X.mg X.base (L2.CX X.prog X.w) k f fd ps (spOf X.K cv ps.length cf) ∧ Room k X.A ∧
    ∀ ds s, ds.length ≠ ps.length → cf ds s = .stuck
theorem pe_callS0 {CX : CXT} {k : Nat} {f : Addr} {fd : FuncData} {ps : List Str} {sp : Sp} {E : L2.St → XK} {x : Str} {p : Pos} (F : FnOk X.prog X.w X.K X.mg X.base CX k f fd ps sp) (hr : Room k X.A) (hg : Gl X x) (hm : X.mg x = some (.ref f)) (hk : PySem.W.keepIn X.K (.ref f) = true) (hb : Binds X.K fd ps []) (hx : ∀ σ, PassesAt CX X σ (E σ))
    (hdb : (x == ("__debug__" : Str)) = false) : PE X (.Call (.Name x p) [] [] pos) (tCallS sp E tNil) := by
  refine ⟨fun pins s σ H Q I h => ?_⟩
  refine wpAny_Call_Name_kw (ld_glob I hg hm ?_ hdb)
  exact PySem.W.callWith_K0 I.kIn hk (run_fnS (us := []) F hr hb (hx σ) I .nil h)
section
variable {es : List Expr} {ees : List E}
theorem call_read {f : Nat} {np : Nat} (hst : ∀ ds s, ds.length ≠ np → c.call f ds s = .stuck) : ∀ σ H (Q : VK), tE X.K cv W c false (.call f ees) σ H Q → tCallS (spOf X.K cv np (c.call f)) (WE W) (tEs X.K cv W c ees) σ H Q := by
  rintro σ H Q ⟨Z, env, ρ, s, w, re, p⟩
  simp only [evE] at p
  refine ⟨Z, env, ρ, s, w, re, PostG.mono (PostD.bind (rep := Reps X.K Z) p) fun vs H1 ⟨ds, s1, ρ1, e1, w1, r1, p1⟩ => ?_⟩
  refine ⟨?_, Z, ρ1, s1, ds, w1, r1, ?_⟩
  · rw [r1.length]
    by_cases q : ds.length = np
    · exact q
    · rw [hst ds s1 q] at p1; exact p1.elim
  · cases q : c.call f ds s1 with
    | stuck => rw [q] at p1; exact p1.elim
    | ok d s2 => rw [q] at p1; exact p1
    | exc n s2 => rw [q] at p1; exact p1
theorem s_call {f : Nat} {x : Str} {p : Pos} (tk : Takes X W) (h : CallOk X cv x (c.call f)) (hg : Gl X x) (hdb : (x == ("__debug__" : Str)) = false) (ha : PA X (a :: es) (tEs X.K cv W c ees))
    (he : starEach (a :: es) X.env = (false, eval a X.env) :: starEach es X.env) (hpl : (backTo pos (starEach es X.env)).any (·.1) = false) : PE X (.Call (.Name x p) (a :: es) [] pos) (tE X.K cv W c false (.call f ees)) := by
  obtain ⟨fa, fd, ps, k, h1, h2, h3, h4, h5, h6⟩ := h.ex
  exact PE.imp (pe_callS h4 h5 hg h1 h2 h3 (fun σ => passAt tk σ) ha hdb he hpl) (call_read h6)
theorem s_call0 {f : Nat} {x : Str} {p : Pos} (tk : Takes X W) (h : CallOk X cv x (c.call f)) (hg : Gl X x) (hdb : (x == ("__debug__" : Str)) = false) : PE X (.Call (.Name x p) [] [] pos) (tE X.K cv W c false (.call f [])) := by
  obtain ⟨fa, fd, ps, k, h1, h2, h3, h4, h5, h6⟩ := h.ex
  refine PE.imp (pe_callS0 h4 h5 hg h1 h2 h3 (fun σ => passAt tk σ) hdb) fun σ H Q q => ?_
  obtain ⟨Z, env, ρ, s, w, re, p⟩ := call_read h6 σ H Q q
  simp only [evEs] at p
  exact p [] H ρ Ext.refl w .nil
end
/-! ### what is walked -/
/-- J walks the items w.xs -/
def JOk (K : PySem.W.Frag) (Z : Zs) (H : Hp) (ρ : Rho) (s : S) (J : L2.It) (wk : Wk) : Prop :=
  ∀ Z1 H1 ρ1 s1, StOk K Z1 H1 ρ1 s1 → (∀ a, Z1 a → Z a ∨ H a = none) → Ext H ρ s H1 ρ1 s1 → keptG s1 wk.g = true → ∀ i,
    (∀ d, wk.xs[i]? = some d → J.go i H1 ∧ ∀ x H', J.yld i H1 x H' → Ext H1 ρ1 s1 H' ρ1 s1 ∧ StOk K Z1 H' ρ1 s1 ∧ Rep K Z1 H' ρ1 s1 x d ∧ ∀ a, Z1 a → H' a = H1 a) ∧
    (wk.xs.length ≤ i → J.stop i H1)
def tI (K : PySem.W.Frag) (cv : Nat → Value) (W : WX) (c : Cfg) (it : It) : TI := fun σ H Q => ∃ Z env ρ s, StOk K Z H ρ s ∧ RelE K Z H ρ s σ env ∧ PostG K cv W Z H ρ s σ (fun H ρ s J wk => JOk K Z H ρ s J wk ∧ keptG s wk.g = true) (evI c it env s) Q
theorem PI.imp {tg iter : Expr} {t t' : TI} (h : PI X tg iter t) (i : ∀ σ H Q, t' σ H Q → t σ H Q) : PI X tg iter t' := ⟨fun pins s σ H Q I q => h.run pins s σ H Q I (i σ H Q q)⟩
def iSeq (K : PySem.W.Frag) (tl : TE) : TI := fun σ H R => tl σ H fun x H1 => ∃ a, x = .ref a ∧ (((∃ xs, SqL K H1 a xs) ∧ R (Itl K a) H1) ∨ ((∃ xs, SqT K H1 a xs) ∧ R (Itt K a) H1))
theorem pi_seq {tg l : Expr} {tl : TE} (hl : PE X l tl) : PI X tg l (iSeq X.K tl) := by
  refine ⟨fun pins s σ H R I h => ?_⟩
  refine thn (hl.run pins s σ H _ I h) fun v s1 ⟨x, H1, I1, r1, q1⟩ => ?_
  obtain ⟨a, e, q⟩ := q1
  subst e
  cases r1
  rcases q with ⟨⟨xs, hq⟩, q⟩ | ⟨⟨xs, hq⟩, q⟩
  · obtain ⟨its, rv, p, hz⟩ := I1.list hq
    refine wpAny_pyIter_list p.isList ?_
    refine ⟨s1.heap.objs.size, [s1.heap.objs.size], _, _, H1, rfl, I1.kept (t' := s1.toks) fun b o e => Heap.get?_push_of_some _ e, turn_list a _, ⟨_, Heap.get?_push_size _ rfl, rfl, rfl⟩, fun b hb => ?_, q⟩
    have e : b = s1.heap.objs.size := by simpa using hb
    subst e
    exact I1.fpOk (Nat.le_refl _) (I1.hok.fresh (Nat.le_refl _))
  · obtain ⟨its, rv, p, hz⟩ := I1.tuple hq
    refine wpAny_pyIter_tuple (show s1.heap.IsTuple a its.toArray from p) ?_
    refine ⟨s1.heap.objs.size, [s1.heap.objs.size], _, _, H1, rfl, I1.kept (t' := s1.toks) fun b o e => Heap.get?_push_of_some _ e, turn_tuple a _, ⟨_, Heap.get?_push_size _ rfl, rfl, rfl⟩, fun b hb => ?_, q⟩
    have e : b = s1.heap.objs.size := by simpa using hb
    subst e
    exact I1.fpOk (Nat.le_refl _) (I1.hok.fresh (Nat.le_refl _))
/-- a list as it stands at each turn -/
theorem jok_list {K : PySem.W.Frag} {Z : Zs} {H : Hp} {ρ : Rho} {s : S} {a : Addr} {wk : Wk} (h : ∀ Z1 H1 ρ1 s1, StOk K Z1 H1 ρ1 s1 → (∀ a, Z1 a → Z a ∨ H a = none) → Ext H ρ s H1 ρ1 s1 → keptG s1 wk.g = true → ∃ vs, SqL K H1 a vs ∧ Reps K Z1 H1 ρ1 s1 vs wk.xs) : JOk K Z H ρ s (Itl K a) wk := by
  intro Z1 H1 ρ1 s1 w1 z1 e1 k1 i
  obtain ⟨vs, hq, r⟩ := h Z1 H1 ρ1 s1 w1 z1 e1 k1
  refine ⟨fun d hd => ?_, fun hl => ⟨vs, hq, by rw [r.length]; exact hl⟩⟩
  obtain ⟨v, hv, rv⟩ := r.get hd
  refine ⟨⟨vs, v, hq, hv⟩, fun x H' hy => ?_⟩
  obtain ⟨rfl, hy⟩ := hy
  have e := hy vs hq
  rw [hv] at e
  cases e
  exact ⟨Ext.refl, w1, rv, fun _ _ => rfl⟩
theorem jok_tup {K : PySem.W.Frag} {Z : Zs} {H : Hp} {ρ : Rho} {s : S} {a : Addr} {wk : Wk} {vs : List V} (w : StOk K Z H ρ s) (hq : SqT K H a vs) (r : Reps K Z H ρ s vs wk.xs) : JOk K Z H ρ s (Itt K a) wk := by
  intro Z1 H1 ρ1 s1 w1 z1 e1 k1 i
  have hq1 := e1.sqT w hq
  have r1 := r.mono w e1 z1
  refine ⟨fun d hd => ?_, fun hl => ⟨vs, hq1, by rw [r.length]; exact hl⟩⟩
  obtain ⟨v, hv, rv⟩ := r1.get hd
  refine ⟨⟨vs, v, hq1, hv⟩, fun x H' hy => ?_⟩
  obtain ⟨rfl, hy⟩ := hy
  have e := hy vs hq1
  rw [hv] at e
  cases e
  exact ⟨Ext.refl, w1, rv, fun _ _ => rfl⟩
theorem jok_rng {K : PySem.W.Frag} {Z : Zs} {H : Hp} {ρ : Rho} {s : S} {lo : Int} {n : Nat} : JOk K Z H ρ s (Itr lo n) ⟨numsD lo n, none⟩ := by
  intro Z1 H1 ρ1 s1 w1 z1 e1 k1 i
  refine ⟨fun d hd => ?_, fun hl => ?_⟩
  · have hd : (numsD lo n)[i]? = some d := hd
    unfold numsD at hd
    rw [List.getElem?_map] at hd
    have hi : i < n := by
      by_cases hi : i < n
      · exact hi
      · rw [List.getElem?_eq_none (by rw [List.length_range]; omega)] at hd; cases hd
    rw [List.getElem?_range hi] at hd
    cases hd
    refine ⟨hi, fun x H' hy => ?_⟩
    obtain ⟨rfl, rfl⟩ := hy
    exact ⟨Ext.refl, w1, .int _, fun _ _ => rfl⟩
  · have hl : (numsD lo n).length ≤ i := hl
    unfold numsD at hl
    rw [List.length_map, List.length_range] at hl
    exact hl
theorem s_itE {tg : Expr} (ha : PE X a (tE X.K cv W c false ea)) : PI X tg a (tI X.K cv W c (.ex ea)) := by
  refine PI.imp (pi_seq ha) ?_
  rintro σ H Q ⟨Z, env, ρ, s, w, re, p⟩
  simp only [evI] at p
  refine ⟨Z, env, ρ, s, w, re, PostG.mono (PostG.bind (rep := Rep X.K Z) p) fun x H1 ⟨dx, s1, ρ1, e1, w1, r1, p1⟩ => ?_⟩
  obtain ⟨wk, hw, out⟩ := PostG.opt p1
  have out := fun J => out J H1 ρ1 Ext.refl w1
  cases r1 with
  | tup h r =>
    cases hw
    exact ⟨_, rfl, .inr ⟨⟨_, h⟩, out _ ⟨jok_tup w1 h r, rfl⟩⟩⟩
  | lst h n nz r =>
    cases hw
    refine ⟨_, rfl, .inl ⟨⟨_, SqL.of h⟩, out _ ⟨jok_list fun Z1 H2 ρ2 s2 w2 z2 e2 _ => ?_, rfl⟩⟩⟩
    obtain ⟨h', n'⟩ := e2.keep _ _ h n
    exact ⟨_, SqL.of h', r.mono w1 e2 z2⟩
  | fz h n nz =>
    cases hw
    refine ⟨_, rfl, .inl ⟨⟨_, .inl h⟩, out _ ⟨jok_list fun Z1 H2 ρ2 s2 w2 z2 e2 _ => ?_, rfl⟩⟩⟩
    rcases h with h | ⟨o, h⟩
    · exact ⟨_, .inl (.inl (e2.keep _ _ h n).1), Reps.ints _⟩
    · exact ⟨_, .inl (.inr ⟨o, (e2.keep _ _ h n).1⟩), Reps.ints _⟩
  | fzK h =>
    cases hw
    exact ⟨_, rfl, .inl ⟨⟨_, .inr h⟩, out _ ⟨jok_list fun Z1 H2 ρ2 s2 w2 z2 e2 _ => ⟨_, .inr h, Reps.ints _⟩, rfl⟩⟩⟩
  | @ref d k c q =>
    have hw' : (match s1.get d k with | some (.lst xs) => some (⟨xs, some (d, k, xs)⟩ : Wk) | _ => none) = some wk := hw
    rw [q] at hw'
    cases c with
    | dct es => cases hw'
    | lst xs =>
      cases hw'
      obtain ⟨vs, h1, h2⟩ := w1.cel _ _ _ q
      refine ⟨_, rfl, .inl ⟨⟨_, SqL.of h1⟩, out _ ⟨jok_list fun Z1 H2 ρ2 s2 w2 z2 e2 k2 => ?_, by simp [keptG, q]⟩⟩⟩
      have k2' : s2.get d k = some (.lst xs) := by simpa [keptG] using k2
      obtain ⟨ws, h3, h4⟩ := w2.cel _ _ _ k2'
      rw [(e2.refs d k _ q).2] at h3
      exact ⟨ws, SqL.of h3, h4⟩
  | _ => cases hw
theorem s_itR1 {tg : Expr} {p p0 : Pos} (hg : Gl X "range") (hm : X.mg "range" = none) (ha : PE X a (tE X.K cv W c false ea)) (hs : starEach [a] X.env = [(false, eval a X.env)]) : PI X tg (.Call (.Name "range" p) [a] [] p0) (tI X.K cv W c (.rng1 ea)) := by
  refine PI.imp (pi_range1 hg hm (pa_cons ha pa_nil hs) hs) ?_
  rintro σ H Q ⟨Z, env, ρ, s, w, re, p⟩
  simp only [evI] at p
  refine ⟨Z, env, ρ, s, w, re, PostG.mono (PostG.bind (rep := Rep X.K Z) p) fun x H1 ⟨dx, s1, ρ1, e1, w1, r1, p1⟩ => ?_⟩
  split at p1
  · rename_i j
    split at p1
    · rename_i hj
      cases r1
      exact ⟨j, rfl, hj.1, hj.2, p1 _ H1 ρ1 Ext.refl w1 ⟨jok_rng, rfl⟩⟩
    · exact p1.elim
  · exact p1.elim
theorem s_itR2 {tg : Expr} {p p0 : Pos} (hg : Gl X "range") (hm : X.mg "range" = none) (ha : PE X a (tE X.K cv W c false ea)) (hb : PE X b (tE X.K cv W c false eb)) (hs : starEach [a, b] X.env = [(false, eval a X.env), (false, eval b X.env)]) (hs2 : starEach [b] X.env = [(false, eval b X.env)]) :
    PI X tg (.Call (.Name "range" p) [a, b] [] p0) (tI X.K cv W c (.rng2 ea eb)) := by
  refine PI.imp (pi_range2 hg hm (pa_cons ha (pa_cons hb pa_nil hs2) (by rw [hs, hs2])) hs hs2) ?_
  rintro σ H Q ⟨Z, env, ρ, s, w, re, p⟩
  simp only [evI] at p
  refine ⟨Z, env, ρ, s, w, re, PostG.mono (PostG.bind (rep := Rep X.K Z) p) fun x H1 ⟨dx, s1, ρ1, e1, w1, r1, p1⟩ => ?_⟩
  refine ⟨Z, env, ρ1, s1, w1, re.ext w e1, PostG.mono (PostG.bind (rep := Rep X.K Z) p1) fun y H2 ⟨dy, s2, ρ2, e2, w2, r2, p2⟩ => ?_⟩
  cases dx with
  | int i =>
    cases dy with
    | int j =>
      have p2 : PostG X.K cv W Z H2 ρ2 s2 σ (fun H ρ s J wk => JOk X.K Z H ρ s J wk ∧ keptG s wk.g = true) (if smallD i ∧ smallD j then R.ok (⟨numsD i (j - i).toNat, none⟩ : Wk) s2 else R.stuck) Q := p2
      split at p2
      · rename_i hj
        cases r1
        cases r2
        exact ⟨i, j, rfl, ⟨hj.1.1, hj.1.2, hj.2.1, hj.2.2⟩, p2 _ H2 ρ2 Ext.refl w2 ⟨jok_rng, rfl⟩⟩
      · exact p2.elim
    | _ => exact p2.elim
  | _ => cases dy <;> exact p2.elim
theorem zip_get : ∀ {xs ys : List D} {i : Nat} {d : D}, (zipD xs ys)[i]? = some d → ∃ x y, xs[i]? = some x ∧ ys[i]? = some y ∧ d = .tup [x, y]
  | [], ys, i, d, h => by simp [zipD] at h
  | x :: xs, [], i, d, h => by simp [zipD] at h
  | x :: xs, y :: ys, 0, d, h => by simp [zipD] at h; exact ⟨x, y, rfl, rfl, h.symm⟩
  | x :: xs, y :: ys, i + 1, d, h => by
    simp only [zipD, List.getElem?_cons_succ] at h
    exact zip_get (xs := xs) (ys := ys) (i := i) h
theorem zip_len : ∀ (xs ys : List D), (zipD xs ys).length = min xs.length ys.length
  | [], ys => by simp [zipD]
  | x :: xs, [] => by simp [zipD]
  | x :: xs, y :: ys => by simp only [zipD, List.length_cons, zip_len xs ys]; omega
theorem s_itZ {elts : List Expr} {kk : Nat} {p p0 tpos : Pos} (hg : Gl X "zip") (hm : X.mg "zip" = none) (ha : PE X a (tE X.K cv W c false ea)) (hb : PE X b (tE X.K cv W c false eb)) (hs : starEach [a, b] X.env = (false, eval a X.env) :: starEach [b] X.env) (hs2 : starEach [b] X.env = [(false, eval b X.env)]) :
    PI X (.Tuple elts kk tpos) (.Call (.Name "zip" p) [a, b] [] p0) (tI X.K cv W c (.zip ea eb)) := by
  refine PI.imp (RZ.pi_zipA hg hm (pa_cons ha (pa_cons hb pa_nil hs2) hs) hs (by rw [hs2]; rfl)) ?_
  rintro σ H Q ⟨Z, env, ρ, s, w, re, p⟩
  simp only [evI] at p
  refine ⟨Z, env, ρ, s, w, re, PostG.mono (PostG.bind (rep := Rep X.K Z) p) fun x H1 ⟨dx, s1, ρ1, e1, w1, r1, p1⟩ => ?_⟩
  refine ⟨Z, env, ρ1, s1, w1, re.ext w e1, PostG.mono (PostG.bind (rep := Rep X.K Z) p1) fun y H2 ⟨dy, s2, ρ2, e2, w2, r2, p2⟩ => ?_⟩
  have r1 := r1.ext w1 e2
  have pair : ∀ {Z1 : Zs} {H1 : Hp} {ρ1 : Rho} {s1 : S} {x y : V} {dx dy : D} {T : Addr}, StOk X.K Z1 H1 ρ1 s1 → H1 T = none → Rep X.K Z1 H1 ρ1 s1 x dx → Rep X.K Z1 H1 ρ1 s1 y dy →
      Ext H1 ρ1 s1 (upd H1 T (.tup [x, y])) ρ1 s1 ∧ StOk X.K Z1 (upd H1 T (.tup [x, y])) ρ1 s1 ∧ Rep X.K Z1 (upd H1 T (.tup [x, y])) ρ1 s1 (.ref T) (.tup [dx, dy]) ∧ ∀ a, Z1 a → upd H1 T (.tup [x, y]) a = H1 a := fun {Z1 H1 ρ1 s1 x y dx dy T} w h rx ry =>
    ⟨Ext.fresh h, w.fresh h, .tup (SqT.of upd_same) (.cons (rx.ext w (Ext.fresh h)) (.cons (ry.ext w (Ext.fresh h)) .nil)), fun a hz => upd_ne fun e => (w.zt a hz).1 (by rw [e]; exact h)⟩
  cases dx with
  | tup xs =>
    cases dy with
    | tup ys =>
      cases r1 with | tup h1 q1 =>
      cases r2 with | tup h2 q2 =>
      refine ⟨_, _, _, _, rfl, .inr ⟨h1, h2, p2 _ H2 ρ2 Ext.refl w2 ⟨?_, rfl⟩⟩⟩
      intro Z3 H3 ρ3 s3 w3 z3 e3 _ i
      have g1 := e3.sqT w2 h1
      have g2 := e3.sqT w2 h2
      have k1 := q1.mono w2 e3 z3
      have k2 := q2.mono w2 e3 z3
      refine ⟨fun d hd => ?_, fun hl => ⟨_, _, g1, g2, ?_⟩⟩
      · obtain ⟨x, y, hx, hy, rfl⟩ := zip_get hd
        obtain ⟨vx, a1, a2⟩ := k1.get hx
        obtain ⟨vy, b1, b2⟩ := k2.get hy
        refine ⟨⟨_, _, vx, vy, g1, g2, a1, b1⟩, fun v H' hyd => ?_⟩
        obtain ⟨T, x', y', rfl, hT, rfl, f1, f2⟩ := hyd
        have u1 := f1 _ g1
        have u2 := f2 _ g2
        rw [a1] at u1
        rw [b1] at u2
        cases u1
        cases u2
        exact pair w3 hT a2 b2
      · have hl : (zipD xs ys).length ≤ i := hl
        rw [zip_len] at hl
        rw [k1.length, k2.length]
        omega
    | _ => exact p2.elim
  | lst xs =>
    cases dy with
    | lst ys =>
      cases r1 with | lst h1 n1 nz1 q1 =>
      cases r2 with | lst h2 n2 nz2 q2 =>
      refine ⟨_, _, _, _, rfl, .inl ⟨SqL.of h1, SqL.of h2, p2 _ H2 ρ2 Ext.refl w2 ⟨?_, rfl⟩⟩⟩
      intro Z3 H3 ρ3 s3 w3 z3 e3 _ i
      have g1 : SqL X.K H3 _ _ := SqL.of (e3.keep _ _ h1 n1).1
      have g2 : SqL X.K H3 _ _ := SqL.of (e3.keep _ _ h2 n2).1
      have k1 := q1.mono w2 e3 z3
      have k2 := q2.mono w2 e3 z3
      refine ⟨fun d hd => ?_, fun hl => ⟨_, _, g1, g2, ?_⟩⟩
      · obtain ⟨x, y, hx, hy, rfl⟩ := zip_get hd
        obtain ⟨vx, a1, a2⟩ := k1.get hx
        obtain ⟨vy, b1, b2⟩ := k2.get hy
        refine ⟨⟨_, _, vx, vy, g1, g2, a1, b1⟩, fun v H' hyd => ?_⟩
        obtain ⟨T, x', y', rfl, hT, rfl, f1, f2⟩ := hyd
        have u1 := f1 _ g1
        have u2 := f2 _ g2
        rw [a1] at u1
        rw [b1] at u2
        cases u1
        cases u2
        exact pair w3 hT a2 b2
      · have hl : (zipD xs ys).length ≤ i := hl
        rw [zip_len] at hl
        rw [k1.length, k2.length]
        omega
    | _ => exact p2.elim
  | _ => cases dy <;> exact p2.elim

/-! ### comprehensions -/
def WF : WX := fun _ _ _ _ => False
theorem compL_le {g : Option (Nat × Nat × List D)} {step : D → S → R (Option D)} : ∀ {xs : List D} {s : S} {ys : List D} {s' : S}, compL g step xs s = .ok ys s' → ys.length ≤ LIM
  | [], s, ys, s', h => by simp only [compL] at h; cases h; exact Nat.zero_le _
  | x :: xs, s, ys, s', h => by
    simp only [compL] at h
    cases q : step x s with
    | stuck => rw [q] at h; cases h
    | exc n s1 => rw [q] at h; cases h
    | ok o s1 =>
      rw [q] at h
      simp only [R.bind_ok] at h
      split at h
      · cases q2 : compL g step xs s1 with
        | stuck => rw [q2] at h; cases h
        | exc n s1 => rw [q2] at h; cases h
        | ok zs s2 =>
          rw [q2] at h
          simp only [R.bind_ok] at h
          cases o with
          | none => cases h; exact compL_le q2
          | some y =>
            simp only at h
            split at h
            · rename_i hl; cases h; exact hl
            · cases h
      · cases h
theorem compL_step {g : Option (Nat × Nat × List D)} {step : D → S → R (Option D)} {x : D} {xs : List D} {s : S} {ys : List D} {s' : S} (h : compL g step (x :: xs) s = .ok ys s') :
    ∃ o s1 zs, step x s = .ok o s1 ∧ keptG s1 g = true ∧ compL g step xs s1 = .ok zs s' ∧ ys = o.toList ++ zs := by
  simp only [compL] at h
  cases q : step x s with
  | stuck => rw [q] at h; cases h
  | exc n s1 => rw [q] at h; cases h
  | ok o s1 =>
    rw [q] at h
    simp only [R.bind_ok] at h
    split at h
    · rename_i hk
      cases q2 : compL g step xs s1 with
      | stuck => rw [q2] at h; cases h
      | exc n s1 => rw [q2] at h; cases h
      | ok zs s2 =>
        rw [q2] at h
        simp only [R.bind_ok] at h
        cases o with
        | none => cases h; exact ⟨none, s1, ys, rfl, hk, q2, rfl⟩
        | some y =>
          simp only at h
          split at h
          · cases h; exact ⟨some y, s1, zs, rfl, hk, q2, rfl⟩
          · cases h
    · cases h
/-- one turn: the target, the test, the element -/
def TurnOk (K : PySem.W.Frag) (g : TG) (tt : TT) (te : TE) (vs : List Nat) (σ : L2.St) (env : Env) (step : D → S → R (Option D)) : Prop :=
  ∀ Z1 H1 ρ1 s1 x d o s', StOk K Z1 H1 ρ1 s1 → RelE K Z1 H1 ρ1 s1 σ env → Rep K Z1 H1 ρ1 s1 x d → step d s1 = .ok o s' → ∀ (G1 : V → Hp → Prop) (G0 : Hp → Prop),
    (∀ y, o = some y → ∀ v H' ρ', Ext H1 ρ1 s1 H' ρ' s' → StOk K Z1 H' ρ' s' → Rep K Z1 H' ρ' s' v y → G1 v H') → (o = none → ∀ H' ρ', Ext H1 ρ1 s1 H' ρ' s' → StOk K Z1 H' ρ' s' → G0 H') →
    g x (wipe σ vs) H1 fun σ2 H2 => wipe σ2 vs = wipe σ vs ∧ tt σ2 H2 fun b H3 => if b = true then te σ2 H3 G1 else G0 H3
theorem comp_core {it : It} {g : TG} {tt : TT} {te : TE} {vs : List Nat} {step : Env → D → S → R (Option D)} (hT : ∀ σ env, TurnOk X.K g tt te vs σ env (step env)) (hx : ∀ env x s n s', step env x s ≠ .exc n s') : ∀ σ H (Q : VK),
    (∃ Z env ρ s, StOk X.K Z H ρ s ∧ RelE X.K Z H ρ s σ env ∧ PostD true X.K cv W Z H ρ s σ ((evI c it env s).bind fun w s => (compL w.g (step env) w.xs s).bind fun ys s => .ok (.lst ys) s) Q) → tLc (tI X.K cv W c it) g tt te vs σ H Q := by
  rintro σ H Q ⟨Z, env, ρ, s, w, re, p⟩
  refine ⟨Z, env, ρ, s, w, re, PostG.mono (PostD.bind (rep := fun H ρ s J wk => JOk X.K Z H ρ s J wk ∧ keptG s wk.g = true) p) fun J H1 ⟨wk, s1, ρ1, e1, w1, ⟨j1, k1⟩, p1⟩ => ?_⟩
  have noex : ∀ (xs : List D) (s : S) (n : Nat) (s' : S), compL wk.g (step env) xs s ≠ .exc n s' := by
    intro xs
    induction xs with
    | nil => intro s n s' h; simp only [compL] at h; cases h
    | cons x xs ih =>
      intro s n s' h
      simp only [compL] at h
      cases q : step env x s with
      | stuck => rw [q] at h; cases h
      | exc m s1 => exact hx _ _ _ _ _ q
      | ok o s1 =>
        rw [q] at h
        simp only [R.bind_ok] at h
        split at h
        · cases q2 : compL wk.g (step env) xs s1 with
          | stuck => rw [q2] at h; cases h
          | exc m s2 => exact ih _ _ _ q2
          | ok zs s2 =>
            rw [q2] at h
            simp only [R.bind_ok] at h
            cases o with
            | none => cases h
            | some y => simp only at h; split at h <;> cases h
        · cases h
  cases q : compL wk.g (step env) wk.xs s1 with
  | stuck => rw [q] at p1; exact p1.elim
  | exc n s2 => exact absurd q (noex _ _ _ _)
  | ok ys sE =>
    rw [q] at p1
    have p1 : OutL X.K Z H1 ρ1 s1 sE ys Q := p1
    intro D' hD
    have wD := w1.reserve (o := .lst []) hD
    have hle := compL_le q
    have re1 := re.ext w e1
    refine ⟨fun i m H2 => ∃ ρ2 s2 acc dacc zs, StOk X.K (Z.add D') H2 ρ2 s2 ∧ Ext H1 ρ1 s1 H2 ρ2 s2 ∧ H2 D' = some (.lst acc) ∧ Reps X.K (Z.add D') H2 ρ2 s2 acc dacc ∧ keptG s2 wk.g = true ∧ m + i = wk.xs.length ∧ compL wk.g (step env) (wk.xs.drop i) s2 = .ok zs sE ∧ ys = dacc ++ zs, ⟨wk.xs.length, ρ1, s1, [], [], ys, wD, Ext.fresh hD, upd_same, .nil, k1, rfl, by rw [List.drop_zero]; exact q, rfl⟩, ?_⟩
    rintro i m H2 ⟨ρ2, s2, acc, dacc, zs, w2, e2, hH2, racc, hk, hm, hc, hys⟩
    have jj := j1 (Z.add D') H2 ρ2 s2 w2 (zadd hD) e2 hk i
    by_cases hi : i < wk.xs.length
    · right
      obtain ⟨hgo, hyld⟩ := jj.1 _ (List.getElem?_eq_getElem hi)
      refine ⟨hgo, fun H' => ∃ ρ2 s2 acc dacc zs, StOk X.K (Z.add D') H' ρ2 s2 ∧ Ext H1 ρ1 s1 H' ρ2 s2 ∧ H' D' = some (.lst acc) ∧ Reps X.K (Z.add D') H' ρ2 s2 acc dacc ∧ keptG s2 wk.g = true ∧ compL wk.g (step env) (wk.xs.drop (i + 1)) s2 = .ok zs sE ∧ ys = dacc ++ zs, ?_, ?_⟩
      · rintro H' ⟨ρ', s', acc', dacc', zs', a1, a2, a3, a4, a5, a6, a7⟩
        exact ⟨m - 1, by omega, ρ', s', acc', dacc', zs', a1, a2, a3, a4, a5, by omega, a6, a7⟩
      · intro x H' hy
        obtain ⟨e3, w3, rx, hz⟩ := hyld x H' hy
        rw [List.drop_eq_getElem_cons hi] at hc
        obtain ⟨o, s4, zs', hs, hk4, hc4, hzs⟩ := compL_step hc
        have re3 : RelE X.K (Z.add D') H' ρ2 s2 σ env := (re1.mono w1 (e2.trans e3) (zadd hD))
        have hD3 : H' D' = some (.lst acc) := (hz D' (.inr rfl)).trans hH2
        have nl3 : ¬ Live ρ2 s2 D' := (w3.zt D' (.inr rfl)).2
        refine hT σ env (Z.add D') H' ρ2 s2 x _ o s4 w3 re3 rx hs _ _ ?_ ?_
        · rintro y rfl v H4 ρ4 e4 w4 ry
          have hD4 : H4 D' = some (.lst acc) := (e4.keep _ _ hD3 nl3).1
          have racc4 := (racc.ext w2 e3).ext w3 e4
          have hzs' : zs = y :: zs' := hzs
          have hlen : acc.length < LIM := by
            rw [hys, List.length_append, hzs', List.length_cons] at hle
            rw [racc.length]
            omega
          refine ⟨acc, hD4, lim_lt hlen, ρ4, s4, acc ++ [v], dacc ++ [y], zs', w4.wres (.inr rfl) hD4, ?_, upd_same, (racc4.app (.one ry)).wres (.inr rfl) hD4, hk4, hc4, by rw [hys, hzs', List.append_assoc]; rfl⟩
          have e5 := (e2.trans e3).trans e4
          exact ⟨fun a u h n => by
            obtain ⟨g1, g2⟩ := e5.keep a u h n
            exact ⟨by rw [upd_ne (ne_of_none h hD)]; exact g1, g2⟩, e5.refs⟩
        · rintro rfl H4 ρ4 e4 w4
          have hD4 : H4 D' = some (.lst acc) := (e4.keep _ _ hD3 nl3).1
          exact ⟨ρ4, s4, acc, dacc, zs', w4, (e2.trans e3).trans e4, hD4, (racc.ext w2 e3).ext w3 e4, hk4, hc4, by rw [hys, hzs]; rfl⟩
    · left
      refine ⟨jj.2 (by omega), ?_⟩
      rw [List.drop_eq_nil_of_le (by omega)] at hc
      simp only [compL] at hc
      cases hc
      rw [List.append_nil] at hys
      subst hys
      exact p1 D' acc H2 ρ2 e2 hD w2 hH2 racc

def gOf (K : PySem.W.Frag) : Tg → TG
  | .one i => gName i
  | .two i j => gTup K 2 (gCons (gName i) (gCons (gName j) gNil))
def tgIx : Tg → List Nat
  | .one i => [i]
  | .two i j => [i, j]
def tgOk : Tg → Prop
  | .one _ => True
  | .two i j => i ≠ j
theorem wipe_one (σ : L2.St) (i : Nat) : wipe σ [i] = σ.set i none := rfl
theorem wipe_two (σ : L2.St) (i j : Nat) : wipe σ [i, j] = (σ.set j none).set i none := rfl
/-- the target is laid -/
theorem put_read {t : Tg} (ht : tgOk t) {K : PySem.W.Frag} {Z : Zs} {H : Hp} {ρ : Rho} {s : S} {σ : L2.St} {env env1 : Env} {x : V} {d : D} (re : RelE K Z H ρ s σ env) (rx : Rep K Z H ρ s x d) (hp : putT t d env = some env1) {G : L2.St → Hp → Prop}
    (h : ∀ σ2, RelE K Z H ρ s σ2 env1 → wipe σ2 (tgIx t) = wipe σ (tgIx t) → G σ2 H) : gOf K t x (wipe σ (tgIx t)) H G := by
  cases t with
  | one i =>
    simp only [putT] at hp
    cases hp
    refine h _ ?_ ?_
    · show RelE K Z H ρ s ((σ.set i none).set i (some x)) _
      rw [List.set_set]
      exact re.set rx
    · show ((σ.set i none).set i (some x)).set i none = σ.set i none
      rw [List.set_set, List.set_set]
  | two i j =>
    have ne : i ≠ j := ht
    unfold putT at hp
    split at hp
    · rename_i e1; cases e1
    · rename_i i' j' x' y' e1
      cases hp
      cases e1
      cases rx with | tup hq rs =>
      cases rs with | cons r1 t1 =>
      cases t1 with | cons r2 t2 =>
      cases t2
      refine ⟨_, _, rfl, hq, rfl, _, _, rfl, _, _, rfl, rfl, h _ ?_ ?_⟩
      · show RelE K Z H ρ s ((((σ.set j none).set i none).set i _).set j _) _
        rw [List.set_set, List.set_comm _ _ ne.symm, List.set_set]
        exact (re.set r1).set r2
      · show ((((((σ.set j none).set i none).set i _).set j _).set j none).set i none) = (σ.set j none).set i none
        rw [List.set_set, List.set_set, List.set_comm _ _ ne, List.set_set]
        rw [List.set_set]
    · cases hp
noncomputable def step0 (c : Cfg) (t : Tg) (ea : E) (env : Env) (x : D) (s : S) : R (Option D) := match putT t x env with
  | none => .stuck
  | some env1 => noExc ((evE c ea env1 s).bind fun y s => .ok (some y) s)
noncomputable def step1 (c : Cfg) (t : Tg) (ea ec : E) (env : Env) (x : D) (s : S) : R (Option D) := match putT t x env with
  | none => .stuck
  | some env1 => noExc ((evT c ec env1 s).bind fun k s => if k = true then (evE c ea env1 s).bind fun y s => .ok (some y) s else .ok none s)

theorem turn0 {t : Tg} (ht : tgOk t) (K : PySem.W.Frag) (σ : L2.St) (env : Env) : TurnOk K (gOf K t) tYes (tE K cv WF c false ea) (tgIx t) σ env (step0 c t ea env) := by
  intro Z1 H1 ρ1 s1 x d o s' w re rx hs G1 G0 h1 h0
  unfold step0 at hs
  cases hp : putT t d env with
  | none => rw [hp] at hs; cases hs
  | some env1 =>
    rw [hp] at hs
    simp only at hs
    refine put_read ht re rx hp fun σ2 re2 hw => ⟨hw, iteT (B := G0 H1) ⟨Z1, env1, ρ1, s1, w, re2, ?_⟩⟩
    cases q : evE c ea env1 s1 with
    | stuck => rw [q] at hs; cases hs
    | exc n s2 => rw [q] at hs; cases hs
    | ok y s2 =>
      rw [q] at hs
      cases hs
      exact h1 y rfl
theorem turn1 {t : Tg} (ht : tgOk t) (K : PySem.W.Frag) (σ : L2.St) (env : Env) : TurnOk K (gOf K t) (tT K cv WF c ec) (tE K cv WF c false ea) (tgIx t) σ env (step1 c t ea ec env) := by
  intro Z1 H1 ρ1 s1 x d o s' w re rx hs G1 G0 h1 h0
  unfold step1 at hs
  cases hp : putT t d env with
  | none => rw [hp] at hs; cases hs
  | some env1 =>
    rw [hp] at hs
    simp only at hs
    refine put_read ht re rx hp fun σ2 re2 hw => ⟨hw, Z1, env1, ρ1, s1, w, re2, ?_⟩
    cases q : evT c ec env1 s1 with
    | stuck => rw [q] at hs; cases hs
    | exc n s2 => rw [q] at hs; cases hs
    | ok k s2 =>
      rw [q] at hs
      intro b H2 ρ2 e2 w2 hb
      subst hb
      cases b with
      | false =>
        cases hs
        exact iteF (h0 rfl H2 ρ2 e2 w2)
      | true =>
        refine iteT ⟨Z1, env1, ρ2, s2, w2, re2.ext w e2, ?_⟩
        simp only [R.bind_ok, if_true] at hs
        cases q2 : evE c ea env1 s2 with
        | stuck => rw [q2] at hs; cases hs
        | exc n s3 => rw [q2] at hs; cases hs
        | ok y s3 =>
          rw [q2] at hs
          cases hs
          exact fun v H3 ρ3 e3 w3 r3 => h1 y rfl v H3 ρ3 (e2.trans e3) w3 r3
theorem noExc_ne {α : Type} {r : R α} {n : Nat} {s : S} : noExc r ≠ .exc n s := by cases r <;> exact fun h => nomatch h
theorem s_comp0 {t : Tg} {it : It} {tg iter : Expr} {scope : Scope} {own : List (Str × Nat)} (hc : X.calm = true) (hN : X.N.Nodup) (ht : tgOk t) (ho : own.map (·.2) = tgIx t) (hi : PI X tg iter (tI X.K cv W c it)) (ok : BlkOk X.N X.env.scope scope own)
    (hg : ∀ (s : Shared) (H : Hp) (C : Addr) (cl : List (Str × Addr)) (fp : List Addr), PG (X.blk s H scope (compEnvC scope cl C X.env) fp) tg (gOf X.K t))
    (he : ∀ (s : Shared) (H : Hp) (C : Addr) (cl : List (Str × Addr)) (fp : List Addr), PE (X.blk s H scope (compEnvC scope cl C X.env) fp) a (tE X.K cv WF c false ea)) (hs : ∀ x, foldedSetIterable iter X.env x = pure x) :
    PE X (.ListComp a [⟨tg, iter, [], 0⟩] scope pos) (tE X.K cv W c true (.comp ea t it none)) ∧
    ∀ {i : Nat} {y : Str} {py spos : Pos}, X.N[i]? = some y → X.env.scope.names.lookup y = some .local → swapsWith (.ListComp a [⟨tg, iter, [], 0⟩] scope pos) (some (.Name y py)) spos.line X.env = pure true →
      PS X (.Assign [.Name y py] (.ListComp a [⟨tg, iter, [], 0⟩] scope pos) spos) (tAsg (tE X.K cv W c true (.comp ea t it none)) (gName i)) := by
  have key : ∀ σ H (Q : VK), tE X.K cv W c true (.comp ea t it none) σ H Q → tLc (tI X.K cv W c it) (gOf X.K t) tYes (tE X.K cv WF c false ea) (own.map (·.2)) σ H Q := by
    rintro σ H Q ⟨Z, env, ρ, s, w, re, p⟩
    rw [ho]
    refine comp_core (step := step0 c t ea) (fun σ env => turn0 ht X.K σ env) (fun env x s n s' h => ?_) σ H Q ⟨Z, env, ρ, s, w, re, ?_⟩
    · unfold step0 at h
      split at h
      · cases h
      · exact noExc_ne h
    · simp only [evE] at p
      exact p
  refine ⟨PE.imp (pe_lc hc hN hi ok hg (fun _ _ _ _ _ => pts_nil) he hs) key, fun {i y py spos} hy hl hw => ?_⟩
  have q := ps_setLc hc hN hy hl hw hi ok hg (fun _ _ _ _ _ => pts_nil) he hs
  exact ⟨fun pins s σ H D I h => q.run pins s σ H D I (key σ H _ h)⟩
theorem s_comp1 {t : Tg} {it : It} {tg iter cd : Expr} {scope : Scope} {own : List (Str × Nat)} (hc : X.calm = true) (hN : X.N.Nodup) (ht : tgOk t) (ho : own.map (·.2) = tgIx t) (hi : PI X tg iter (tI X.K cv W c it)) (ok : BlkOk X.N X.env.scope scope own)
    (hg : ∀ (s : Shared) (H : Hp) (C : Addr) (cl : List (Str × Addr)) (fp : List Addr), PG (X.blk s H scope (compEnvC scope cl C X.env) fp) tg (gOf X.K t))
    (hcd : ∀ (s : Shared) (H : Hp) (C : Addr) (cl : List (Str × Addr)) (fp : List Addr), PT (X.blk s H scope (compEnvC scope cl C X.env) fp) cd (tT X.K cv WF c ec))
    (he : ∀ (s : Shared) (H : Hp) (C : Addr) (cl : List (Str × Addr)) (fp : List Addr), PE (X.blk s H scope (compEnvC scope cl C X.env) fp) a (tE X.K cv WF c false ea)) (hs : ∀ x, foldedSetIterable iter X.env x = pure x) :
    PE X (.ListComp a [⟨tg, iter, [cd], 0⟩] scope pos) (tE X.K cv W c true (.comp ea t it (some ec))) ∧
    ∀ {i : Nat} {y : Str} {py spos : Pos}, X.N[i]? = some y → X.env.scope.names.lookup y = some .local → swapsWith (.ListComp a [⟨tg, iter, [cd], 0⟩] scope pos) (some (.Name y py)) spos.line X.env = pure true →
      PS X (.Assign [.Name y py] (.ListComp a [⟨tg, iter, [cd], 0⟩] scope pos) spos) (tAsg (tE X.K cv W c true (.comp ea t it (some ec))) (gName i)) := by
  have key : ∀ σ H (Q : VK), tE X.K cv W c true (.comp ea t it (some ec)) σ H Q → tLc (tI X.K cv W c it) (gOf X.K t) (tT X.K cv WF c ec) (tE X.K cv WF c false ea) (own.map (·.2)) σ H Q := by
    rintro σ H Q ⟨Z, env, ρ, s, w, re, p⟩
    rw [ho]
    refine comp_core (step := step1 c t ea ec) (fun σ env => turn1 ht X.K σ env) (fun env x s n s' h => ?_) σ H Q ⟨Z, env, ρ, s, w, re, ?_⟩
    · unfold step1 at h
      split at h
      · cases h
      · exact noExc_ne h
    · simp only [evE] at p
      exact p
  refine ⟨PE.imp (pe_lc hc hN hi ok hg (fun s H C cl fp => pts_one (hcd s H C cl fp)) he hs) key, fun {i y py spos} hy hl hw => ?_⟩
  have q := ps_setLc hc hN hy hl hw hi ok hg (fun s H C cl fp => pts_one (hcd s H C cl fp)) he hs
  exact ⟨fun pins s σ H D I h => q.run pins s σ H D I (key σ H _ h)⟩
end
end Ev

set_option Elab.async false
set_option linter.all false
set_option maxRecDepth 100000
/-! EvR: t[::-1] of a tuple. -/
namespace Ev
open PySem PySem.Spec L2 PyProof.Rows
theorem back_adjust (n : Nat) : Builtin.Slice.sliceAdjust none none (-1) (n : Int) = ((n : Int) - 1, -1) := rfl
theorem back_places (n : Nat) : Builtin.Slice.slicePlaces ((n : Int) - 1) (-1) (-1) = n := by
  unfold Builtin.Slice.slicePlaces
  rw [if_neg (by decide)]
  by_cases h : (n : Int) - 1 > -1
  · rw [if_pos h, show (-(-1) : Int) = 1 by decide, Int.ediv_one]
    omega
  · rw [if_neg h]
    omega
theorem back_pick (xs : Array Value) : ((List.range xs.size).filterMap fun (k : Nat) => xs[((xs.size : Int) - 1 + (k : Int) * -1).toNat]?).toArray = xs.toList.reverse.toArray := by
  congr 1
  have gen : ∀ l : List Nat, (∀ k ∈ l, k < xs.size) → l.filterMap (fun (k : Nat) => xs[((xs.size : Int) - 1 + (k : Int) * -1).toNat]?) = (l.map fun k => xs.size - 1 - k).filterMap fun k => xs[k]? := by
    intro l
    induction l with
    | nil => intro _; rfl
    | cons k l ih =>
      intro h
      have hk := h k List.mem_cons_self
      rw [List.map_cons, List.filterMap_cons, List.filterMap_cons, ih fun j hj => h j (List.mem_cons_of_mem _ hj), show ((xs.size : Int) - 1 + (k : Int) * -1).toNat = xs.size - 1 - k by omega]
  have e := gen (List.range xs.size) fun k hk => List.mem_range.mp hk
  rw [e, PySem.W.krv_range, List.filterMap_reverse, PySem.W.krv_all]
section
variable {prog : Program} {w : World} {A : Around} {E : Value → Shared → Prop} {s : Shared}
theorem back_item {t sl : Addr} {its : Array Value} {tk : Tok} {Q : Value → Shared → Prop} (ht : IsTup s.heap t its) (hs : s.heap.IsSliceOf sl .none .none (.int (-1) tk)) (hz : its.size ≤ sizeLine)
    (h : Q (.ref s.heap.objs.size) { s with heap := s.heap.push { cls := .type "tuple", data := .seq its.toList.reverse.toArray } }) : wpAny (model prog w) A (getItem (.ref t) (.ref sl)) Q E s := by
  have hok : sizeOk (.seq its.toList.reverse.toArray) := by
    show its.toList.reverse.toArray.size ≤ sizeLine
    simpa using hz
  obtain ⟨o, ho, hc, hd⟩ := id hs
  have hT : s.TypeIs (.ref sl) "slice" := ⟨o, ho, hc⟩
  unfold getItem
  try with_reducible refine wpAny_holding ?_
  first | refine wpAny_bind (wpAny_pure ?_) | skip
  refine wpAny_bind (wpAny_sequenceKey (IsTup.typeIs ht) (by decide) ?_)
  refine wpAny_bind (wpAny_callSpecial?_slot (name := Str.ofString "__getitem__") (IsTup.typeIs ht) PyProof.Rows.slot_tuple_getitem (wpAny_call_entry PyProof.Rows.slot_tuple_getitem (IsTup.typeIs ht) entry_tuple_getitem ?_ (args_tuple_getitem _ _)))
  show wpAny _ _ (Builtin.Tuple.tupleItemsOf (.ref t) >>= _) _ _ s
  refine wpAny_bind (tupleItemsOf_ ht (wpAny_bind (wpAny_typeOf hT ?_)))
  rw [if_pos (by decide)]
  have app : ∀ {R : Int × Int × Nat → Shared → Prop}, R ((its.size : Int) - 1, -1, its.size) s → wpAny (model prog w) A.in1 (Builtin.Slice.sliceApplied (.ref sl) (pure (its.size : Int))) R E s := fun {R} hR => by
    unfold Builtin.Slice.sliceApplied Builtin.Slice.sliceFields
    refine wpAny_bind (wpAny_bind (wpAny_field ho hd (x := .none) rfl (wpAny_bind (wpAny_field ho hd (x := .none) rfl (wpAny_bind (wpAny_field ho hd (x := .int (-1) tk) rfl (wpAny_pure ?_)))))))
    refine wpAny_bind (slicePart_int ?_)
    show wpAny _ _ (if ((-1 : Int) == 0) = true then _ else _) _ _ s
    rw [if_neg (by decide)]
    refine wpAny_bind (slicePart_none (wpAny_bind (slicePart_none (wpAny_bind (wpAny_pure ?_)))))
    show wpAny _ _ (match Builtin.Slice.sliceAdjust none none (-1) (its.size : Int) with | (lo, hi) => pure (lo, (-1 : Int), Builtin.Slice.slicePlaces lo hi (-1))) _ _ s
    rw [back_adjust]
    show wpAny _ _ (pure ((its.size : Int) - 1, (-1 : Int), Builtin.Slice.slicePlaces ((its.size : Int) - 1) (-1) (-1))) _ _ s
    rw [back_places]
    exact wpAny_pure hR
  refine wpAny_bind (app ?_)
  have hno : ¬ ((((its.size : Int) - 1) == 0 && (-1 : Int) == 1 && its.size == its.size) = true) := by
    intro q
    rw [Bool.and_eq_true, Bool.and_eq_true] at q
    exact absurd q.1.2 (by decide)
  show wpAny _ _ (if (((its.size : Int) - 1) == 0 && (-1 : Int) == 1 && its.size == its.size) = true then _ else _) _ _ s
  rw [if_neg hno, back_pick]
  first
    | exact wpAny_bind (m := Builtin.Tuple.tupleExact _) (wpAny_newObj_type (wpAny_pure ⟨_, rfl, wpAny_pure h⟩) hok)
    | exact wpAny_bind (m := Builtin.Tuple.tupleExact _) (wpAny_newObj_type (wpAny_bind (wpAny_pure (wpAny_pure ⟨_, rfl, wpAny_pure h⟩))) hok)
    | exact wpAny_bind (wpAny_bind (m := Builtin.Tuple.tupleExact _) (wpAny_newObj_type (wpAny_pure (wpAny_pure ⟨_, rfl, wpAny_pure h⟩)) hok))
    | exact wpAny_bind (wpAny_bind (m := Builtin.Tuple.tupleExact _) (wpAny_newObj_type (wpAny_pure ⟨_, rfl, wpAny_pure h⟩) hok))
end
def tRev (K : PySem.W.Frag) (te : TE) : TE := fun σ H Q => te σ H fun x H1 => ∃ a xs, x = .ref a ∧ SqT K H1 a xs ∧ ∀ p, H1 p = none → Q (.ref p) (upd H1 p (.tup xs.reverse))
section
variable {X : Cx} {e : Expr} {te : TE} {pos p1 p2 p3 : Pos} {j : Nat}
theorem pe_rev (he : PE X e te) : PE X (.Subscript e (.Slice none none (some (.UnaryOp .USub (.Constant (.int 1) j p1) p2)) p3) pos) (tRev X.K te) := by
  refine ⟨fun pins s σ H Q I h => ?_⟩
  refine Subscript_ (thn (he.run pins s σ H _ I h) fun v s1 ⟨x, H1, I1, r1, q1⟩ => ?_)
  obtain ⟨a, xs, rfl, hx, q⟩ := q1
  cases r1
  refine wpAny_Slice ?_
  rw [evalPart_none]
  refine wpAny_pure (wpAny_pure ?_)
  have hst : PO X (some (.UnaryOp .USub (.Constant (.int 1) j p1) p2)) (tPart (tUn (rU fun i => .int (-i)) (tC (.int 1)))) := po_some (pe_un un_neg pe_int)
  refine thn (hst.run pins s1 σ H1 (fun o H2 => o = some (-1) ∧ H2 = H1) I1 ⟨1, rfl, -1, rfl, rfl, rfl⟩) fun vs s2 ⟨o, H2, I2, pt, eo, eH⟩ => ?_
  subst eo
  subst eH
  cases pt with | int i tk =>
  have I4 : Inv X pins σ H2 { s2 with heap := s2.heap.push { cls := .type "slice", data := .fields #[.none, .none, .int (-1) tk] } } := I2.kept (t' := s2.toks) fun b ob q => Heap.get?_push_of_some _ q
  obtain ⟨its, r, ht, hz⟩ := I4.tuple hx
  show wpAny (model X.prog X.w) X.A (subscriptTail e _ (.ref a) (.ref s2.heap.objs.size)) (EP X pins σ Q) X.xe { s2 with heap := s2.heap.push { cls := .type "slice", data := .fields #[.none, .none, .int (-1) tk] } }
  refine tail_any (ops := [.ref a, .ref s2.heap.objs.size]) (IsTup.typeIs ht) PyProof.Rows.slot_tuple_getitem.lookup (back_item ht (Heap.IsSliceOf.new ..) (by rw [List.size_toArray, ← r.length]; exact hz) ?_) (by with_unfolding_all rfl)
  refine ⟨.ref _, _, I4.laid (t' := s2.toks) (o := .tup xs.reverse) (fun b ob q => Heap.get?_push_of_some _ q) (Nat.le_refl _) ?_, rfl, q _ (I4.hok.fresh (Nat.le_refl _))⟩
  refine ⟨by rw [List.length_reverse]; exact hz, _, r.reverse, IsTup.new _ _⟩
theorem Reps.snoc1 {K : PySem.W.Frag} {Z : Zs} {H : Hp} {ρ : Rho} {s : S} {v : V} {d : D} (r : Rep K Z H ρ s v d) : ∀ {vs : List V} {ds : List D}, Reps K Z H ρ s vs ds → Reps K Z H ρ s (vs ++ [v]) (ds ++ [d])
  | _, _, .nil => .cons r .nil
  | _, _, .cons q t => .cons q (Reps.snoc1 r t)
theorem Reps.back {K : PySem.W.Frag} {Z : Zs} {H : Hp} {ρ : Rho} {s : S} : ∀ {vs : List V} {ds : List D}, Reps K Z H ρ s vs ds → Reps K Z H ρ s vs.reverse ds.reverse
  | _, _, .nil => .nil
  | _, _, .cons q t => by
    rw [List.reverse_cons, List.reverse_cons]
    exact Reps.snoc1 q (Reps.back t)
theorem s_rev {cv : Nat → Value} {W : WX} {c : Cfg} {ea : E} (ha : PE X e (tE X.K cv W c false ea)) : PE X (.Subscript e (.Slice none none (some (.UnaryOp .USub (.Constant (.int 1) j p1) p2)) p3) pos) (tE X.K cv W c false (.rev ea)) := by
  refine PE.imp (pe_rev ha) ?_
  rintro σ H Q ⟨Z, env, ρ, s, w, re, p⟩
  simp only [evE] at p
  refine ⟨Z, env, ρ, s, w, re, PostG.mono p.bind fun x H1 ⟨dx, s1, ρ1, e1, w1, r1, p1⟩ => ?_⟩
  obtain ⟨d, hd, out⟩ := PostD.optE p1
  unfold revD at hd
  split at hd
  · rename_i xs q
    cases hd
    obtain ⟨a, vs, rfl, h1, r⟩ := view_tup w1 r1 q
    exact ⟨a, vs, rfl, h1, fun p hp => Out.tup w1 out (Reps.back r) hp⟩
  · cases hd
end
end Ev

set_option Elab.async false
set_option linter.all false
set_option maxRecDepth 100000
/-! EvD: {'k': e}. -/
namespace Ev
open PySem PySem.Spec L2 PyProof.Rows
section
variable {K : PySem.W.Frag} {Z Z' : Zs} {H H1 H2 H' : Hp} {ρ ρ1 ρ2 ρ' : Rho} {s s1 s2 s' : S} {a p : Addr} {v : V} {d : D}
theorem sqT_wresG {w0 o : HO} (nt : ∀ vs, w0 ≠ .tup vs) (nf : ∀ b u, w0 ≠ .frz b u) (hp : H p = some w0) {vs : List V} (h : SqT K H a vs) : SqT K (upd H p o) a vs := by
  rcases h with (h | ⟨u, h⟩) | h
  · exact .inl (.inl (by rw [upd_ne (ne_of h hp (fun q => nt _ q.symm))]; exact h))
  · exact .inl (.inr ⟨u, by rw [upd_ne (ne_of h hp (fun q => nf _ _ q.symm))]; exact h⟩)
  · exact .inr h
mutual
theorem Rep.wresG {w0 o : HO} (nt : ∀ vs, w0 ≠ .tup vs) (nf : ∀ b u, w0 ≠ .frz b u) (hz : Z p) (hp : H p = some w0) : ∀ {v : V} {d : D}, Rep K Z H ρ s v d → Rep K Z (upd H p o) ρ s v d
  | _, _, .non => .non
  | _, _, .bl b => .bl b
  | _, _, .int i => .int i
  | _, _, .str y => .str y
  | _, _, .tup h r => .tup (sqT_wresG nt nf hp h) (Reps.wresG nt nf hz hp r)
  | _, _, .lst (a := a) h n nz r => .lst (by rw [upd_ne (show a ≠ p from fun q => nz (by rw [q]; exact hz))]; exact h) n nz (Reps.wresG nt nf hz hp r)
  | _, _, .fz (a := a) h n nz => .fz (by
      have ne : a ≠ p := fun q => nz (by rw [q]; exact hz)
      rcases h with h | ⟨u, h⟩
      · exact .inl (by rw [upd_ne ne]; exact h)
      · exact .inr ⟨u, by rw [upd_ne ne]; exact h⟩) n nz
  | _, _, .fzK h => .fzK h
  | _, _, .dct (a := a) h n nz r => .dct (by rw [upd_ne (show a ≠ p from fun q => nz (by rw [q]; exact hz))]; exact h) n nz (Repk.wresG nt nf hz hp r)
  | _, _, .ref h => .ref h
theorem Reps.wresG {w0 o : HO} (nt : ∀ vs, w0 ≠ .tup vs) (nf : ∀ b u, w0 ≠ .frz b u) (hz : Z p) (hp : H p = some w0) : ∀ {vs : List V} {ds : List D}, Reps K Z H ρ s vs ds → Reps K Z (upd H p o) ρ s vs ds
  | _, _, .nil => .nil
  | _, _, .cons r t => .cons (Rep.wresG nt nf hz hp r) (Reps.wresG nt nf hz hp t)
theorem Repk.wresG {w0 o : HO} (nt : ∀ vs, w0 ≠ .tup vs) (nf : ∀ b u, w0 ≠ .frz b u) (hz : Z p) (hp : H p = some w0) : ∀ {ks : List (Key × V)} {es : List (Str × D)}, Repk K Z H ρ s ks es → Repk K Z (upd H p o) ρ s ks es
  | _, _, .nil => .nil
  | _, _, .cons r t => .cons (Rep.wresG nt nf hz hp r) (Repk.wresG nt nf hz hp t)
end
theorem StOk.wresG {w0 o : HO} (nt : ∀ vs, w0 ≠ .tup vs) (nf : ∀ b u, w0 ≠ .frz b u) (x : StOk K Z H ρ s) (hz : Z p) (hp : H p = some w0) : StOk K Z (upd H p o) ρ s where
  cel := fun d k c h => by
    have ne : ρ d k ≠ p := fun q => (x.zt p hz).2 ⟨d, k, c, h, q⟩
    have q := x.cel d k c h
    cases c with
    | lst ds => obtain ⟨vs, e, r⟩ := q; exact ⟨vs, by rw [upd_ne ne]; exact e, r.wresG nt nf hz hp⟩
    | dct es => obtain ⟨ks, e, r⟩ := q; exact ⟨ks, by rw [upd_ne ne]; exact e, r.wresG nt nf hz hp⟩
  inj := x.inj
  shal := x.shal
  zt := fun a h => by
    obtain ⟨h1, h2⟩ := x.zt a h
    refine ⟨?_, h2⟩
    by_cases e : a = p
    · rw [e, upd_same]; exact fun q => nomatch q
    · rw [upd_ne e]; exact h1
end
section
variable {X : Cx} {cv : Nat → Value} {W : WX} {c : Cfg} {e : Expr} {ea : E} {pos p1 : Pos} {j : Nat} {k : Str}
theorem s_dct1 (ha : PE X e (tE X.K cv W c false ea)) : PE X (.Dict [some (.Constant (.str k) j p1)] [e] pos) (tE X.K cv W c false (.dct1 k ea)) := by
  refine PE.imp (pe_disp (pps_cons pe_str ha pps_nil) rfl rfl (by simp) (by show 1 ≤ 15; decide)) ?_
  rintro σ H Q ⟨Z, env, ρ, s, w, re, pr⟩
  simp only [evE] at pr
  intro p hp
  have w0 : StOk X.K (Z.add p) (upd H p (.dK [])) ρ s := w.reserve hp
  have re0 : RelE X.K (Z.add p) (upd H p (.dK [])) ρ s σ env := re.mono w (Ext.fresh hp) (zadd hp)
  refine ⟨Z.add p, env, ρ, s, w0, re0, ?_⟩
  cases q : evE c ea env s with
  | stuck => rw [q] at pr; exact pr.elim
  | exc n s1 =>
    rw [q] at pr
    exact fun H' ρ' e' w' => pr H' ρ' ((Ext.fresh hp).trans e') (w'.less zless)
  | ok d s1 =>
    rw [q] at pr
    intro y H' ρ' e' w' ry
    have nl : ¬ Live ρ s p := fun l => w.liveT l hp
    have hp' : H' p = some (.dK []) := (e'.keep p _ upd_same nl).1
    have nl' : ¬ Live ρ' s1 p := (e'.keep p _ upd_same nl).2
    refine ⟨hp', [(.inr k, y)], rfl, (by show 1 ≤ 15; decide), ?_⟩
    have pr : ∀ b H' ρ', Ext H ρ s H' ρ' s1 → StOk X.K Z H' ρ' s1 → Rep X.K Z H' ρ' s1 b (.dct [(k, d)]) → Q b H' := pr
    have wz : StOk X.K (Z.add p) (upd H' p (.dK [(.inr k, y)])) ρ' s1 := w'.wresG (w0 := .dK []) (by intro _ q; cases q) (by intro _ _ q; cases q) (.inr rfl) hp'
    have ry' : Rep X.K (Z.add p) (upd H' p (.dK [(.inr k, y)])) ρ' s1 y d := ry.wresG (w0 := .dK []) (by intro _ q; cases q) (by intro _ _ q; cases q) (.inr rfl) hp'
    refine pr (.ref p) (upd H' p (.dK [(.inr k, y)])) ρ' ⟨fun b u hb n => ?_, fun d k c h => e'.refs d k c h⟩ (wz.less zless) (.dct upd_same nl' (fun z => (w.zt p z).1 hp) (.cons (ry'.less wz zless) .nil))
    have ne : b ≠ p := ne_of_none hb hp
    have z := e'.keep b u (by rw [upd_ne ne]; exact hb) n
    exact ⟨by rw [upd_ne ne]; exact z.1, z.2⟩
end
end Ev

set_option Elab.async false
set_option linter.all false
set_option maxRecDepth 100000
/-! Ev6: the text of an expression, translated; the translation is what the evaluator runs. -/
namespace Ev
open PySem PySem.Spec L2 PyProof.Rows

/-- the module's names: defs, constants, exception classes by number; built-ins that nobody bound -/
structure Nm where
  fs : List (Str × Nat)
  gs : List (Str × Nat)
  cs : List (Str × Nat)
  bs : List Str
def okN (x : Str) : Bool := !(x == ("__debug__" : Str)) && !(x == ("__classdict__" : Str)) && !(x == ("__name__" : Str))
def visB (sc : Scope) (x : Str) : Bool := match sc.names.lookup x with
  | some .local => true
  | some .cell => true
  | some .free => true
  | _ => false
def glB (sc : Scope) (x : Str) : Bool := match sc.names.lookup x with
  | some .globalImplicit => true
  | _ => false
def ixOf (N : List Str) (x : Str) : Option Nat := N.findIdx? fun y => decide (y = x)
theorem ixOf_get {N : List Str} {x : Str} {i : Nat} (h : ixOf N x = some i) : N[i]? = some x := by
  unfold ixOf at h
  rw [List.findIdx?_eq_some_iff_getElem] at h
  obtain ⟨h1, h2, _⟩ := h
  rw [List.getElem?_eq_getElem h1]
  exact congrArg some (of_decide_eq_true h2)
def opM : Operator → Option Op2
  | .Add => some .add | .Sub => some .sub | .Mult => some .mul | .FloorDiv => some .fdiv | .Mod => some .mod | .Pow => some .pow
  | _ => none
theorem opM_of {o : Operator} {p : Op2} (h : opM o = some p) : o = opOf p := by cases o <;> cases h <;> rfl
def cmM : CmpOp → Option Cm
  | .Eq => some .eq | .NotEq => some .ne | .Lt => some .lt | .LtE => some .le | .Gt => some .gt | .GtE => some .ge | .Is => some .is | .IsNot => some .isNot | .In => some .isIn | .NotIn => some .notIn
theorem cmM_of {o : CmpOp} {p : Cm} (h : cmM o = some p) : o = cmOf p := by cases o <;> cases h <;> rfl
def biS : Bi → Str
  | .len => "len" | .abs => "abs" | .int => "int" | .min => "min" | .max => "max" | .sum => "sum" | .all => "all" | .tuple => "tuple" | .list => "list" | .sorted => "sorted" | .dict => "dict" | .repr => "repr"
def allBi : List Bi := [.len, .abs, .int, .min, .max, .sum, .all, .tuple, .list, .sorted, .dict, .repr]
def biM (x : Str) : Option Bi := allBi.find? fun b => decide (biS b = x)
theorem biM_of {x : Str} {b : Bi} (h : biM x = some b) : x = biS b := (of_decide_eq_true (List.find?_some (p := fun b => decide (biS b = x)) h)).symm
theorem boot_bi (b : Bi) : bootBuiltins (biS b) = some (biV b) := by cases b <;> decide +kernel
theorem bi_name (b : Bi) : biS b ≠ "__name__" := by cases b <;> decide
def tyS : Ty → Str
  | .int => "int" | .bool => "bool" | .str => "str" | .tuple => "tuple" | .list => "list" | .dict => "dict"
def allTy : List Ty := [.int, .bool, .str, .tuple, .list, .dict]
def tyM (x : Str) : Option Ty := allTy.find? fun b => decide (tyS b = x)
theorem tyM_of {x : Str} {b : Ty} (h : tyM x = some b) : x = tyS b := (of_decide_eq_true (List.find?_some (p := fun b => decide (tyS b = x)) h)).symm
theorem boot_ty (b : Ty) : bootBuiltins (tyS b) = some (.type (tyN b)) := by cases b <;> decide +kernel
theorem ty_name (b : Ty) : tyS b ≠ "__name__" := by cases b <;> decide
def meS : Me → Str
  | .append => "append" | .extend => "extend" | .remove => "remove" | .pop => "pop" | .get => "get"
def allMe : List Me := [.append, .extend, .remove, .pop]
def meM (x : Str) : Option Me := allMe.find? fun b => decide (meS b = x)
theorem meM_of {x : Str} {b : Me} (h : meM x = some b) : x = meS b ∧ b ≠ .get := by
  refine ⟨(of_decide_eq_true (List.find?_some (p := fun b => decide (meS b = x)) h)).symm, ?_⟩
  have := List.mem_of_find?_eq_some h
  intro e
  subst e
  revert this
  decide
/-- neither starred, nor a slice, nor a set -/
def okE : Expr → Bool
  | .Starred .. => false
  | .Slice .. => false
  | .Set .. => false
  | _ => true
/-- its test is its value's truth -/
def plT : Expr → Bool
  | .UnaryOp .Not _ _ => false
  | .BoolOp .. => false
  | .IfExp .. => false
  | .Compare .. => false
  | _ => true
section
variable {env : PySem.Env} {e : Expr} {es : List Expr}
theorem okE_star (h : okE e = true) : starEach (e :: es) env = (false, eval e env) :: starEach es env := by
  cases e <;> first | rfl | cases h
theorem okE_ix (h : okE e = true) : PlainIx e := by
  intro o i
  cases e <;> first | rfl | cases h
theorem okE_mark (h : okE e = true) (op : CmpOp) : behindInMarks op e = false := by
  cases e <;> first | rfl | cases h
theorem okE_fold (h : okE e = true) : ∀ x, foldedSetIterable e env x = pure x := by
  intro x
  cases e <;> first | rfl | cases h
theorem plT_true (h : plT e = true) : ∀ whole, isTrue e env whole = (do let v ← whole; standAt e.pos; holding [v] (truthy v)) := by
  intro whole
  cases e with
  | UnaryOp op a p => cases op <;> first | rfl | cases h
  | _ => first | rfl | cases h
theorem all_star : ∀ {es : List Expr}, (∀ e ∈ es, okE e = true) → starEach es env = es.map fun e => (false, eval e env)
  | [], _ => rfl
  | e :: es, h => by rw [okE_star (h e List.mem_cons_self), all_star fun a ha => h a (List.mem_cons_of_mem _ ha)]; rfl
theorem all_back {pos : Pos} (h : ∀ e ∈ es, okE e = true) : (backTo pos (starEach es env)).any (·.1) = false := by
  rw [all_star h]
  unfold backTo
  rw [List.map_map, List.any_map]
  induction es with
  | nil => rfl
  | cons a as ih => rw [List.any_cons, ih fun e he => h e (List.mem_cons_of_mem _ he)]; rfl
theorem all_few {pos : Pos} (h : ∀ e ∈ es, okE e = true) (hl : es.length < 30) : ((backTo pos (starEach es env)).all (fun x => !x.1) && (backToKw pos (keywordEach [] env)).all (fun x => x.1.isSome) && decide (es.length + ([] : List Keyword).length + (if ([] : List Keyword).isEmpty then 0 else 1) < 30)) = true := by
  have h1 : (backTo pos (starEach es env)).all (fun x => !x.1) = true := by
    rw [all_star h]
    unfold backTo
    rw [List.map_map, List.all_map]
    induction es with
    | nil => rfl
    | cons a as ih => rw [List.all_cons, ih (fun e he => h e (List.mem_cons_of_mem _ he)) (by simp at hl; omega)]; rfl
  rw [h1, Bool.true_and, Bool.and_eq_true]
  exact ⟨rfl, decide_eq_true (by simpa using hl)⟩
theorem lastMarks2 {o o' : CmpOp} {b c : Expr} (h : okE c = true) : lastMarks [o, o'] [b, c] = false := okE_mark h o'
/-- not super() -/
def baseB : Expr → Bool
  | .Name .. => true
  | .Subscript .. => true
  | _ => false
theorem base_of {a : Str} (h : baseB e = true) : attributeBase e a env (eval e env) = eval e env := by
  cases e <;> first | rfl | cases h
end

/-! ### the translation -/
section
variable (nm : Nm) (N : List Str) (f : Bool → Scope → Expr → Option E)
def trName (sc : Scope) (x : Str) : Option E := if okN x = true then (if visB sc x = true then (ixOf N x).map .loc else if glB sc x = true then (nm.gs.lookup x).map .gc else none) else none
def trConst : Const → Option E
  | .none => some (.cst .non)
  | .bool b => some (.cst (.bl b))
  | .int i => some (.cst (.int i))
  | .str s => some (.cst (.str s))
  | _ => none
def trList (sc : Scope) (es : List Expr) : Option (List E) := if es.all okE = true ∧ es.length < 30 then mapO (f false sc) es else none
def trUn (t : Bool) (sc : Scope) (op : UnaryOp) (a : Expr) : Option E := match op with
  | .USub => (f false sc a).map .neg
  | .Not => (f t sc a).map .nt
  | _ => none
def trBool (t : Bool) (sc : Scope) (op : BoolOp) (es : List Expr) (pos : Pos) : Option E := match es with
  | [] => none
  | [a] => f t sc a
  | a :: b :: r => match f t sc a, f t sc (.BoolOp op (b :: r) pos) with
    | some a', some b' => some (match op with | .And => .and a' b' | .Or => .or a' b')
    | _, _ => none
def trCmp (sc : Scope) (a : Expr) (ops : List CmpOp) (bs : List Expr) : Option E := match ops, bs with
  | [o], [b] => if okE b = true then (match cmM o, f false sc a, f false sc b with
    | some o, some a, some b => some (.cmp o a b)
    | _, _, _ => none) else none
  | [o, p], [b, d] => if okE d = true then (match cmM o, cmM p, f false sc a, f false sc b, f false sc d with
    | some o, some p, some a, some b, some d => some (.chain o p a b d)
    | _, _, _, _, _ => none) else none
  | _, _ => none
def trTys (sc : Scope) : List Expr → Option (List Ty)
  | [] => some []
  | .Name x _ :: r => if glB sc x = true ∧ x ∈ nm.bs ∧ okN x = true then (match tyM x, trTys sc r with
    | some t, some ts => some (t :: ts)
    | _, _ => none) else none
  | _ => none
def trIsi (sc : Scope) (a t : Expr) : Option E := match t with
  | .Name x p => (match trTys nm sc [.Name x p], f false sc a with
    | some [t], some a => some (.isi a [t])
    | _, _ => none)
  | .Tuple es _ _ => if es.length < 20 then (match trTys nm sc es, f false sc a with
    | some ts, some a => some (.isi a ts)
    | _, _ => none) else none
  | _ => none
def trCallN (sc : Scope) (x : Str) (args : List Expr) : Option E :=
  if okN x = true ∧ glB sc x = true then
    (if x = "isinstance" then (if x ∈ nm.bs then (match args with
      | [a, t] => if okE a = true then trIsi nm f sc a t else none
      | _ => none) else none)
    else match nm.fs.lookup x with
      | some k => (trList f sc args).map (.call k)
      | none => if x ∈ nm.bs ∧ args ≠ [] then (match biM x with
        | some b => (trList f sc args).map (.bi b)
        | none => none) else none)
  else none
def trMe (sc : Scope) (o : Expr) (m : Str) (apos : Pos) (args : List Expr) (cpos : Pos) : Option E :=
  if (apos.endLine == cpos.line) = true ∧ baseB o = true then (match meM m, f false sc o, trList f sc args with
    | some m, some o, some es => some (.me m o es)
    | _, _, _ => none) else none
def trOpt (sc : Scope) : Option Expr → Option (Option E)
  | none => some none
  | some e => (f false sc e).map some
def trSub (sc : Scope) (a i : Expr) : Option E := match i with
  | .Slice none none (some (.UnaryOp .USub (.Constant (.int 1) _ _) _)) _ => (f false sc a).map .rev
  | .Slice lo hi none _ => (match f false sc a, trOpt f sc lo, trOpt f sc hi with
    | some a, some lo, some hi => some (.sl a lo hi)
    | _, _, _ => none)
  | i => if okE i = true then (match f false sc a, f false sc i with
    | some a, some i => some (.idx a i)
    | _, _ => none) else none
def trTg : Expr → Option (Tg × List (Str × Nat))
  | .Name x _ => (ixOf N x).map fun i => (.one i, [(x, i)])
  | .Tuple [.Name x _, .Name y _] _ _ => match ixOf N x, ixOf N y with
    | some i, some j => if i ≠ j then some (.two i j, [(x, i), (y, j)]) else none
    | _, _ => none
  | _ => none
/-- the names of a target, as the scope that runs has them -/
def tgNames (sc : Scope) (fn : Str → Bool) (own : List (Str × Nat)) : Bool := own.all fun p => match sc.names.lookup p.1 with
  | some .local => true
  | some .cell => fn p.1
  | _ => false
def trIt (sc : Scope) (tg it : Expr) : Option It := match it with
  | .Call (.Name x _) args [] _ =>
    if okN x = true ∧ glB sc x = true ∧ x = "range" ∧ x ∈ nm.bs then (match args with
      | [a] => if okE a = true then (f false sc a).map .rng1 else none
      | [a, b] => if okE a = true ∧ okE b = true then (match f false sc a, f false sc b with
        | some a, some b => some (.rng2 a b)
        | _, _ => none) else none
      | _ => none)
    else if okN x = true ∧ glB sc x = true ∧ x = "zip" ∧ x ∈ nm.bs then (match tg, args with
      | .Tuple _ _ _, [a, b] => if okE a = true ∧ okE b = true then (match f false sc a, f false sc b with
        | some a, some b => some (.zip a b)
        | _, _ => none) else none
      | _, _ => none)
    else (f false sc it).map .ex
  | _ => (f false sc it).map .ex
def trComp (sc : Scope) (elt : Expr) (gs : List Comprehension) (csc : Scope) : Option E := match gs with
  | [⟨tg, it, ifs, 0⟩] => if okE it = true then (match trTg N tg with
    | some (t, own) => if blkC N sc csc own = true ∧ tgNames (relS csc sc) (fun x => csc.names.lookup x == some .cell) own = true then (match trIt nm f sc tg it, f false (relS csc sc) elt with
      | some it', some e' => (match ifs with
        | [] => some (.comp e' t it' none)
        | [cd] => (f true (relS csc sc) cd).map fun d => .comp e' t it' (some d)
        | _ => none)
      | _, _ => none) else none
    | none => none) else none
  | _ => none
def trDict (sc : Scope) (ks : List (Option Expr)) (vs : List Expr) : Option E := match ks, vs with
  | [some (.Constant (.str k) _ _)], [v] => (f false sc v).map (.dct1 k)
  | _, _ => none
def trF (t : Bool) (sc : Scope) : Expr → Option E
  | .Name x _ => trName nm N sc x
  | .Constant k _ _ => trConst k
  | .Tuple es _ _ => (trList f sc es).map .tup
  | .List es _ => (trList f sc es).map .lst
  | .BinOp a op b _ => match opM op, f false sc a, f false sc b with
    | some o, some a, some b => some (.bin o a b)
    | _, _, _ => none
  | .UnaryOp op a _ => trUn f t sc op a
  | .BoolOp op es pos => trBool f t sc op es pos
  | .Compare a ops bs _ => trCmp f sc a ops bs
  | .IfExp d a b _ => if t = true then none else match f true sc d, f false sc a, f false sc b with
    | some d, some a, some b => some (.ite d a b)
    | _, _, _ => none
  | .Call (.Name x _) args [] _ => trCallN nm f sc x args
  | .Call (.Attribute o m apos) args [] cpos => trMe f sc o m apos args cpos
  | .Subscript a i _ => trSub f sc a i
  | .ListComp elt gs csc _ => trComp nm N f sc elt gs csc
  | .Dict ks vs _ => trDict f sc ks vs
  | _ => none
end
def tr (nm : Nm) (N : List Str) : Nat → Bool → Scope → Expr → Option E
  | 0 => fun _ _ _ => none
  | n + 1 => trF nm N (tr nm N n)
/-- lists that nobody else has -/
def fresh : E → Bool
  | .lst _ => true
  | .bin .. => true
  | .sl .. => true
  | .bi .. => true
  | .comp .. => true
  | _ => false

/-! ### where one stands -/
structure Ok (nm : Nm) (N : List Str) (cv : Nat → Value) (c : Cfg) (X : Cx) (W : WX) : Prop where
  names : X.N = N
  nd : X.N.Nodup
  calm : X.calm = true
  tk : Takes X W
  room : X.A.units + 100 < cLine
  sorted : SortedOk
  bl : ∀ x, x ∈ nm.bs → X.mg x = none
  gcs : ∀ x g d, nm.gs.lookup x = some g → c.gc g = some d → ∃ v u, X.mg x = some u ∧ RelV v u ∧ ∀ Z H ρ s, Rep X.K Z H ρ s v d
  gcN : ∀ x g, nm.gs.lookup x = some g → ∃ d, c.gc g = some d
  fn : ∀ x k, nm.fs.lookup x = some k → CallOk X cv x (c.call k)
structure Good (nm : Nm) (N : List Str) (cv : Nat → Value) (c : Cfg) (f : Bool → Scope → Expr → Option E) : Prop where
  pe : ∀ (X : Cx) (W : WX), Ok nm N cv c X W → ∀ e e', f false X.env.scope e = some e' → PE X e (tE X.K cv W c false e') ∧ (fresh e' = true → PE X e (tE X.K cv W c true e'))
  pt : ∀ (X : Cx) (W : WX), Ok nm N cv c X W → ∀ e e', f true X.env.scope e = some e' → PT X e (tT X.K cv W c e')
  pw : ∀ (X : Cx) (W : WX), Ok nm N cv c X W → ∀ op es pos e', f true X.env.scope (.BoolOp op es pos) = some e' → PW X (.BoolOp op es pos) (tT X.K cv W c e')
  ok : ∀ t sc e e', f t sc e = some e' → okE e = true
end Ev

set_option Elab.async false
set_option linter.all false
set_option maxRecDepth 100000
/-! Ev7: the translation is right. -/
namespace Ev
open PySem PySem.Spec L2 PyProof.Rows
section
variable {nm : Nm} {N : List Str} {cv : Nat → Value} {c : Cfg} {f : Bool → Scope → Expr → Option E} {X : Cx} {W : WX}
theorem okN_d {x : Str} (h : okN x = true) : (x == ("__debug__" : Str)) = false ∧ (x == ("__classdict__" : Str)) = false ∧ x ≠ "__name__" := by
  unfold okN at h
  simp only [Bool.and_eq_true, Bool.not_eq_true'] at h
  exact ⟨h.1.1, h.1.2, fun e => by rw [e] at h; simp at h⟩
theorem visB_of {sc : Scope} {x : Str} (h : visB sc x = true) : Vis sc x := by
  unfold visB at h
  split at h
  · exact .inl (by assumption)
  · exact .inr (.inl (by assumption))
  · exact .inr (.inr (by assumption))
  · cases h
theorem glB_of {x : Str} (h : glB X.env.scope x = true) : Gl X x := by
  unfold glB at h
  split at h
  · assumption
  · cases h
theorem Ok.blk (o : Ok nm N cv c X W) (s : Shared) (H : Hp) (scope : Scope) (C : Addr) (cl : List (Str × Addr)) (fp : List Addr) : Ok nm N cv c (X.blk s H scope (compEnvC scope cl C X.env) fp) WF where
  names := o.names
  nd := o.nd
  calm := o.calm
  tk := takes_none5
  room := o.room
  sorted := o.sorted
  bl := o.bl
  gcs := o.gcs
  gcN := o.gcN
  fn := fun x k h => ⟨(o.fn x k h).ex⟩
theorem t_name (o : Ok nm N cv c X W) {x : Str} {pos : Pos} {e' : E} (h : trName nm N X.env.scope x = some e') : PE X (.Name x pos) (tE X.K cv W c false e') ∧ fresh e' = false := by
  unfold trName at h
  split at h
  · rename_i hn
    obtain ⟨d1, d2, d3⟩ := okN_d hn
    split at h
    · rename_i hv
      cases q : ixOf N x with
      | none => rw [q] at h; cases h
      | some i =>
        rw [q] at h
        cases h
        exact ⟨s_loc (by rw [o.names]; exact ixOf_get q) (visB_of hv) d1 d2, rfl⟩
    · split at h
      · rename_i hg
        cases q : nm.gs.lookup x with
        | none => rw [q] at h; cases h
        | some g =>
          rw [q] at h
          cases h
          obtain ⟨d, hd⟩ := o.gcN x g q
          obtain ⟨v, u, hm, r, rp⟩ := o.gcs x g d q hd
          exact ⟨s_gc (pe_glob (glB_of hg) hm r d1) hd rp, rfl⟩
      · cases h
  · cases h
theorem t_const {k : Const} {j : Nat} {pos : Pos} {e' : E} (h : trConst k = some e') : PE X (.Constant k j pos) (tE X.K cv W c false e') ∧ fresh e' = false := by
  cases k with
  | none => cases h; exact ⟨s_cst pe_non fun _ _ _ _ => .non, rfl⟩
  | bool b => cases h; exact ⟨s_cst pe_bl fun _ _ _ _ => .bl b, rfl⟩
  | int b => cases h; exact ⟨s_cst pe_int fun _ _ _ _ => .int b, rfl⟩
  | str b => cases h; exact ⟨s_cst pe_str fun _ _ _ _ => .str b, rfl⟩
  | _ => cases h
theorem mapO_cons {α β : Type} {g : α → Option β} {x : α} {xs : List α} {ys : List β} (h : mapO g (x :: xs) = some ys) : ∃ y zs, g x = some y ∧ mapO g xs = some zs ∧ ys = y :: zs := by
  simp only [mapO] at h
  split at h
  · rename_i y zs h1 h2; cases h; exact ⟨y, zs, h1, h2, rfl⟩
  · cases h
theorem t_args (G : Good nm N cv c f) (o : Ok nm N cv c X W) : ∀ {es : List Expr} {ees : List E}, es.all okE = true → mapO (f false X.env.scope) es = some ees → PA X es (tEs X.K cv W c ees)
  | [], ees, _, h => by simp only [mapO] at h; cases h; exact s_nil
  | e :: es, ees, ha, h => by
    rw [List.all_cons, Bool.and_eq_true] at ha
    obtain ⟨y, zs, h1, h2, rfl⟩ := mapO_cons h
    exact s_cons (G.pe X W o e y h1).1 (t_args G o ha.2 h2) (okE_star ha.1)
theorem t_list (G : Good nm N cv c f) (o : Ok nm N cv c X W) {es : List Expr} {ees : List E} (h : trList f X.env.scope es = some ees) : PA X es (tEs X.K cv W c ees) ∧ (∀ e ∈ es, okE e = true) ∧ es.length < 30 := by
  unfold trList at h
  split at h
  · rename_i ha
    exact ⟨t_args G o ha.1 h, fun e he => List.all_eq_true.mp ha.1 e he, ha.2⟩
  · cases h
theorem t_tys (o : Ok nm N cv c X W) : ∀ {es : List Expr} {ts : List Ty}, trTys nm X.env.scope es = some ts → PA X es (tTys ts) ∧ (∀ e ∈ es, okE e = true) ∧ ts.length = es.length
  | [], ts, h => by
    cases h
    exact ⟨PA.imp pa_nil fun σ H Q q => q, (fun e he => nomatch he), rfl⟩
  | e :: es, ts, h => by
    cases e with
    | Name x p =>
      simp only [trTys] at h
      split at h
      · rename_i hg
        split at h
        · rename_i t ts' ht hts
          cases h
          obtain ⟨h1, h2, h3⟩ := t_tys o hts
          obtain ⟨d1, d2, d3⟩ := okN_d hg.2.2
          have hx := tyM_of ht
          subst hx
          have p1 : PE X (.Name (tyS t) p) (tC (.ty (tyN t))) := pe_bltn (glB_of hg.1) (o.bl _ hg.2.1) (boot_ty t) rfl d3 d1
          refine ⟨PA.imp (pa_cons p1 h1 (okE_star rfl)) fun σ H Q q => q, fun e he => ?_, by simp [h3]⟩
          rcases List.mem_cons.mp he with rfl | he
          · rfl
          · exact h2 e he
        · cases h
      · cases h
    | _ => simp [trTys] at h
theorem t_isi (G : Good nm N cv c f) (o : Ok nm N cv c X W) {a t : Expr} {e' : E} {p0 pos : Pos} (hg : glB X.env.scope "isinstance" = true) (hb : ("isinstance" : Str) ∈ nm.bs) (ha : okE a = true) (h : trIsi nm f X.env.scope a t = some e') : PE X (.Call (.Name "isinstance" p0) [a, t] [] pos) (tE X.K cv W c false e') ∧ fresh e' = false := by
  unfold trIsi at h
  split at h
  · rename_i x p
    split at h
    · rename_i ty a' ht hf
      cases h
      have ht' := ht
      simp only [trTys] at ht'
      split at ht'
      · rename_i hx
        split at ht'
        · rename_i t2 ts2 h1 h2
          cases ht'
          have hx' := tyM_of h1
          subst hx'
          obtain ⟨d1, d2, d3⟩ := okN_d hx.2.2
          exact ⟨s_isi1 (p1 := p) (glB_of hg) (o.bl _ hb) (pe_bltn (glB_of hx.1) (o.bl _ hx.2.1) (boot_ty _) rfl d3 d1) (G.pe X W o a a' hf).1 (okE_star ha) (okE_star rfl), rfl⟩
        · cases ht'
      · cases ht'
    · cases h
  · rename_i es k p
    split at h
    · rename_i hl
      split at h
      · rename_i ts a' ht hf
        cases h
        obtain ⟨h1, h2, h3⟩ := t_tys o ht
        exact ⟨s_isiT (p2 := p) (glB_of hg) (o.bl _ hb) h1 (by omega) (G.pe X W o a a' hf).1 (okE_star ha), rfl⟩
      · cases h
    · cases h
  · cases h
theorem t_call (G : Good nm N cv c f) (o : Ok nm N cv c X W) {x : Str} {args : List Expr} {e' : E} {p0 pos : Pos} (h : trCallN nm f X.env.scope x args = some e') : PE X (.Call (.Name x p0) args [] pos) (tE X.K cv W c false e') ∧ (fresh e' = true → PE X (.Call (.Name x p0) args [] pos) (tE X.K cv W c true e')) := by
  have nofr : ∀ {e : Expr} {e' : E}, PE X e (tE X.K cv W c false e') ∧ fresh e' = false → PE X e (tE X.K cv W c false e') ∧ (fresh e' = true → PE X e (tE X.K cv W c true e')) := fun {e e'} ⟨a, b⟩ => ⟨a, fun q => by rw [b] at q; cases q⟩
  unfold trCallN at h
  split at h
  · rename_i hn
    obtain ⟨d1, d2, d3⟩ := okN_d hn.1
    split at h
    · rename_i hi
      subst hi
      split at h
      · rename_i hb
        split at h
        · rename_i a t
          split at h
          · rename_i ha
            exact nofr (t_isi G o hn.2 hb ha h)
          · cases h
        · cases h
      · cases h
    · split at h
      · rename_i k hk
        cases q : trList f X.env.scope args with
        | none => rw [q] at h; cases h
        | some ees =>
          rw [q] at h
          cases h
          obtain ⟨h1, h2, h3⟩ := t_list G o q
          refine nofr ⟨?_, rfl⟩
          cases args with
          | nil =>
            unfold trList at q
            rw [if_pos ⟨rfl, by decide⟩] at q
            cases q
            exact s_call0 o.tk (o.fn x k hk) (glB_of hn.2) d1
          | cons a as => exact s_call o.tk (o.fn x k hk) (glB_of hn.2) d1 h1 (okE_star (h2 a List.mem_cons_self)) (all_back fun e he => h2 e (List.mem_cons_of_mem _ he))
      · split at h
        · rename_i hb
          split at h
          · rename_i b hbm
            have hx := biM_of hbm
            subst hx
            cases q : trList f X.env.scope args with
            | none => rw [q] at h; cases h
            | some ees =>
              rw [q] at h
              cases h
              obtain ⟨h1, h2, h3⟩ := t_list G o q
              cases args with
              | nil => exact absurd rfl hb.2
              | cons a as =>
                have k1 : ∀ fr, PE X (.Call (.Name (biS b) p0) (a :: as) [] pos) (tE X.K cv W c fr (.bi b ees)) := fun fr =>
                  s_bi o.sorted o.room o.calm (glB_of hn.2) (o.bl _ hb.1) (boot_bi b) h1 d3 d1 (okE_star (h2 a List.mem_cons_self)) (all_back fun e he => h2 e (List.mem_cons_of_mem _ he))
                exact ⟨k1 false, fun _ => k1 true⟩
          · cases h
        · cases h
  · cases h
theorem t_me (G : Good nm N cv c f) (o : Ok nm N cv c X W) {ob : Expr} {m : Str} {args : List Expr} {e' : E} {apos pos : Pos} (h : trMe f X.env.scope ob m apos args pos = some e') : PE X (.Call (.Attribute ob m apos) args [] pos) (tE X.K cv W c false e') ∧ fresh e' = false := by
  unfold trMe at h
  split at h
  · rename_i hl
    split at h
    · rename_i m' o' es' hm ho hes
      cases h
      obtain ⟨hx, hng⟩ := meM_of hm
      subst hx
      obtain ⟨h1, h2, h3⟩ := t_list G o hes
      have po := (G.pe X W o ob o' ho).1
      refine ⟨?_, rfl⟩
      cases args with
      | nil =>
        unfold trList at hes
        rw [if_pos ⟨rfl, by decide⟩] at hes
        cases hes
        cases m' with
        | append => exact s_me0 o.room PySem.F.plainAttrs_list PySem.F.slot_list_append PySem.F.type_list_append po (base_of hl.2) hl.1
        | extend => exact s_me0 o.room PySem.F.plainAttrs_list PySem.F.slot_list_extend PySem.F.type_list_extend po (base_of hl.2) hl.1
        | remove => exact s_me0 o.room PySem.F.plainAttrs_list PySem.F.slot_list_remove PySem.F.type_list_remove po (base_of hl.2) hl.1
        | pop => exact s_me0 o.room PySem.F.plainAttrs_list PySem.F.slot_list_pop PySem.F.type_list_pop po (base_of hl.2) hl.1
        | get => exact absurd rfl hng
      | cons a as =>
        have ha := okE_star (es := as) (env := X.env) (h2 a List.mem_cons_self)
        have hb := all_back (es := as) (env := X.env) (pos := pos) fun e he => h2 e (List.mem_cons_of_mem _ he)
        have hf := all_few (env := X.env) (pos := pos) h2 h3
        cases m' with
        | append => exact s_me1 o.room PySem.F.plainAttrs_list PySem.F.slot_list_append PySem.F.type_list_append po h1 (base_of hl.2) hf hl.1 ha hb
        | extend => exact s_me1 o.room PySem.F.plainAttrs_list PySem.F.slot_list_extend PySem.F.type_list_extend po h1 (base_of hl.2) hf hl.1 ha hb
        | remove => exact s_me1 o.room PySem.F.plainAttrs_list PySem.F.slot_list_remove PySem.F.type_list_remove po h1 (base_of hl.2) hf hl.1 ha hb
        | pop => exact s_me1 o.room PySem.F.plainAttrs_list PySem.F.slot_list_pop PySem.F.type_list_pop po h1 (base_of hl.2) hf hl.1 ha hb
        | get => exact absurd rfl hng
    · cases h
  · cases h
theorem t_opt (G : Good nm N cv c f) (o : Ok nm N cv c X W) {e : Option Expr} {e' : Option E} (h : trOpt f X.env.scope e = some e') : PO X e (tOp' X.K cv W c e') := by
  cases e with
  | none => cases h; exact s_onone
  | some e =>
    simp only [trOpt] at h
    cases q : f false X.env.scope e with
    | none => rw [q] at h; cases h
    | some y => rw [q] at h; cases h; exact s_osome (G.pe X W o e y q).1
theorem t_sub (G : Good nm N cv c f) (o : Ok nm N cv c X W) {a i : Expr} {e' : E} {pos : Pos} (h : trSub f X.env.scope a i = some e') : PE X (.Subscript a i pos) (tE X.K cv W c false e') ∧ (fresh e' = true → PE X (.Subscript a i pos) (tE X.K cv W c true e')) := by
  unfold trSub at h
  split at h
  · cases q : f false X.env.scope a with
    | none => rw [q] at h; cases h
    | some a' =>
      rw [q] at h
      cases h
      exact ⟨s_rev (G.pe X W o a a' q).1, fun z => by cases z⟩
  · rename_i lo hi p
    split at h
    · rename_i a' lo' hi' ha hlo hhi
      cases h
      have k1 : ∀ fr, PE X (.Subscript a (.Slice lo hi none p) pos) (tE X.K cv W c fr (.sl a' lo' hi')) := fun fr => s_sl (G.pe X W o a a' ha).1 (t_opt G o hlo) (t_opt G o hhi)
      exact ⟨k1 false, fun _ => k1 true⟩
    · cases h
  · split at h
    · rename_i hi
      split at h
      · rename_i a' i' ha hi'
        cases h
        exact ⟨s_idx (fr := false) (G.pe X W o a a' ha).1 (G.pe X W o _ i' hi').1 (okE_ix hi), fun q => by cases q⟩
      · cases h
    · cases h
theorem t_it (G : Good nm N cv c f) (o : Ok nm N cv c X W) {tg it : Expr} {i' : It} (hk : okE it = true) (h : trIt nm f X.env.scope tg it = some i') : PI X tg it (tI X.K cv W c i') := by
  have dflt : ∀ {i' : It}, (f false X.env.scope it).map It.ex = some i' → PI X tg it (tI X.K cv W c i') := fun {i'} h => by
    cases q : f false X.env.scope it with
    | none => rw [q] at h; cases h
    | some y => rw [q] at h; cases h; exact s_itE (G.pe X W o it y q).1
  unfold trIt at h
  split at h
  · rename_i x p args p0
    split at h
    · rename_i hx
      obtain ⟨h1, h2, h3, h4⟩ := hx
      subst h3
      split at h
      · rename_i a
        split at h
        · rename_i ha
          cases q : f false X.env.scope a with
          | none => rw [q] at h; cases h
          | some y => rw [q] at h; cases h; exact s_itR1 (glB_of h2) (o.bl _ h4) (G.pe X W o a y q).1 (okE_star ha)
        · cases h
      · rename_i a b
        split at h
        · rename_i ha
          split at h
          · rename_i a' b' qa qb
            cases h
            exact s_itR2 (glB_of h2) (o.bl _ h4) (G.pe X W o a a' qa).1 (G.pe X W o b b' qb).1 (by rw [okE_star ha.1, okE_star ha.2]; rfl) (okE_star ha.2)
          · cases h
        · cases h
      · cases h
    · split at h
      · rename_i hx
        obtain ⟨h1, h2, h3, h4⟩ := hx
        subst h3
        split at h
        · rename_i elts k tp a b
          split at h
          · rename_i ha
            split at h
            · rename_i a' b' qa qb
              cases h
              exact s_itZ (glB_of h2) (o.bl _ h4) (G.pe X W o a a' qa).1 (G.pe X W o b b' qb).1 (okE_star ha.1) (okE_star ha.2)
            · cases h
          · cases h
        · cases h
      · exact dflt h
  · exact dflt h

theorem t_tg {tg : Expr} {t : Tg} {own : List (Str × Nat)} (h : trTg N tg = some (t, own)) : tgOk t ∧ own.map (·.2) = tgIx t := by
  unfold trTg at h
  split at h
  · rename_i x p
    cases q : ixOf N x with
    | none => rw [q] at h; cases h
    | some i => rw [q] at h; cases h; exact ⟨trivial, rfl⟩
  · split at h
    · rename_i i j h1 h2
      split at h
      · rename_i ne; cases h; exact ⟨ne, rfl⟩
      · cases h
    · cases h
  · cases h
theorem t_pg {Y : Cx} {tg : Expr} {t : Tg} {own : List (Str × Nat)} (hN : Y.N = N) (hnd : Y.N.Nodup) (hc : Y.calm = true) (h : trTg N tg = some (t, own)) (hn : tgNames Y.env.scope Y.fn own = true) : PG Y tg (gOf Y.K t) := by
  have one : ∀ {x : Str} {p : Pos} {i : Nat}, ixOf N x = some i → (match Y.env.scope.names.lookup x with | some .local => true | some .cell => Y.fn x | _ => false) = true → PG Y (.Name x p) (gName i) := fun {x p i} hi hx => by
    have hi' : Y.N[i]? = some x := by rw [hN]; exact ixOf_get hi
    split at hx
    · rename_i q
      exact pg_name hnd hi' (.inl q) (.inr q)
    · rename_i q
      exact pg_name hnd hi' (.inr q) (.inl hx)
    · cases hx
  unfold trTg at h
  split at h
  · rename_i x p
    cases q : ixOf N x with
    | none => rw [q] at h; cases h
    | some i =>
      rw [q] at h
      cases h
      unfold tgNames at hn
      rw [List.all_cons, Bool.and_eq_true] at hn
      exact one q hn.1
  · rename_i x p1 y p2 k p
    split at h
    · rename_i i j h1 h2
      split at h
      · rename_i ne
        cases h
        unfold tgNames at hn
        rw [List.all_cons, Bool.and_eq_true, List.all_cons, Bool.and_eq_true] at hn
        exact pg_tup hc (pgs_cons (one h1 hn.1) (pgs_cons (one h2 hn.2.1) pgs_nil rfl) rfl) rfl rfl
      · cases h
    · cases h
  · cases h
theorem t_comp (G : Good nm N cv c f) (o : Ok nm N cv c X W) {elt : Expr} {gs : List Comprehension} {csc : Scope} {e' : E} {pos : Pos} (h : trComp nm N f X.env.scope elt gs csc = some e') :
    PE X (.ListComp elt gs csc pos) (tE X.K cv W c true e') ∧ fresh e' = true ∧
    ∀ {i : Nat} {y : Str} {py spos : Pos}, X.N[i]? = some y → X.env.scope.names.lookup y = some .local → swapsWith (.ListComp elt gs csc pos) (some (.Name y py)) spos.line X.env = pure true →
      PS X (.Assign [.Name y py] (.ListComp elt gs csc pos) spos) (tAsg (tE X.K cv W c true e') (gName i)) := by
  unfold trComp at h
  split at h
  · rename_i tg it ifs
    split at h
    · rename_i hok
      split at h
      · rename_i t own ht
        split at h
        · rename_i hb
          split at h
          · rename_i it' e1 hi he
            obtain ⟨tok, town⟩ := t_tg ht
            have hpi := t_it G o hok hi
            have hblk := blkOk_by hb.1
            rw [← o.names] at hblk
            have hpg : ∀ (s : Shared) (H : Hp) (C : Addr) (cl : List (Str × Addr)) (fp : List Addr), PG (X.blk s H csc (compEnvC csc cl C X.env) fp) tg (gOf X.K t) := fun s H C cl fp =>
              t_pg (Y := X.blk s H csc (compEnvC csc cl C X.env) fp) o.names o.nd o.calm ht hb.2
            have hel : ∀ (s : Shared) (H : Hp) (C : Addr) (cl : List (Str × Addr)) (fp : List Addr), PE (X.blk s H csc (compEnvC csc cl C X.env) fp) elt (tE X.K cv WF c false e1) := fun s H C cl fp =>
              (G.pe (X.blk s H csc (compEnvC csc cl C X.env) fp) WF (o.blk s H csc C cl fp) elt e1 he).1
            split at h
            · cases h
              obtain ⟨k1, k2⟩ := s_comp0 (pos := pos) o.calm o.nd tok town hpi hblk hpg hel (okE_fold hok)
              exact ⟨k1, rfl, k2⟩
            · rename_i cd
              cases q : f true (relS csc X.env.scope) cd with
              | none => rw [q] at h; cases h
              | some d =>
                rw [q] at h
                cases h
                obtain ⟨k1, k2⟩ := s_comp1 (pos := pos) o.calm o.nd tok town hpi hblk hpg (fun s H C cl fp => G.pt (X.blk s H csc (compEnvC csc cl C X.env) fp) WF (o.blk s H csc C cl fp) cd d q) hel (okE_fold hok)
                exact ⟨k1, rfl, k2⟩
            · cases h
          · cases h
        · cases h
      · cases h
    · cases h
  · cases h
theorem t_ok {t : Bool} {sc : Scope} {e : Expr} {e' : E} (h : trF nm N f t sc e = some e') : okE e = true := by
  cases e <;> first | rfl | (simp [trF] at h)
theorem t_fresh {e : Expr} {e' : E} (h : PE X e (tE X.K cv W c false e') ∧ fresh e' = false) : PE X e (tE X.K cv W c false e') ∧ (fresh e' = true → PE X e (tE X.K cv W c true e')) := ⟨h.1, fun q => by rw [h.2] at q; cases q⟩
theorem t_cmp (G : Good nm N cv c f) (o : Ok nm N cv c X W) {a : Expr} {ops : List CmpOp} {bs : List Expr} {e' : E} {pos : Pos} (h : trCmp f X.env.scope a ops bs = some e') :
    (PE X (.Compare a ops bs pos) (tE X.K cv W c false e') ∧ fresh e' = false) ∧ PT X (.Compare a ops bs pos) (tT X.K cv W c e') := by
  unfold trCmp at h
  split at h
  · rename_i op b
    split at h
    · rename_i hb
      split at h
      · rename_i o' a' b' ho ha hb'
        cases h
        have e := cmM_of ho
        subst e
        have pa := (G.pe X W o a a' ha).1
        have pb := (G.pe X W o b b' hb').1
        exact ⟨⟨s_cmp o.room (okE_mark hb _) pa pb, rfl⟩, s_tcmp o.room (okE_mark hb _) pa pb⟩
      · cases h
    · cases h
  · rename_i op p b d
    split at h
    · rename_i hd
      split at h
      · rename_i o1 p1 a' b' d' h1 h2 ha hb hd'
        cases h
        have e := cmM_of h1
        subst e
        have e := cmM_of h2
        subst e
        have k := s_chain (pos := pos) (o := o1) (o' := p1) o.room (lastMarks2 hd) (G.pe X W o a a' ha).1 (G.pe X W o b b' hb).1 (G.pe X W o d d' hd').1
        exact ⟨⟨k.1, rfl⟩, k.2⟩
      · cases h
    · cases h
  · cases h
/-- neither a negation, and, or, nor a choice -/
def plE : E → Bool
  | .nt _ => false
  | .and .. => false
  | .or .. => false
  | .ite .. => false
  | _ => true
theorem plE_evT {e' : E} (h : plE e' = true) : ∀ env s, evT c e' env s = (evE c e' env s).bind fun x s => R.opt (truth s x) s := by
  intro env s
  cases e' <;> first | (simp only [evT]; done) | cases h
theorem plE_of {t : Bool} {sc : Scope} {e : Expr} {e' : E} (h : trF nm N f t sc e = some e') (hp : plT e = true) : plE e' = true := by
  have mp : ∀ {α : Type} {o : Option α} {g : α → E} {x : E}, (∀ a, plE (g a) = true) → o.map g = some x → plE x = true := fun {α o g x} hg h => by
    cases o with
    | none => cases h
    | some a => cases h; exact hg a
  cases e with
  | Name x pos =>
    simp only [trF, trName] at h
    repeat (first | split at h | (exact mp (fun _ => rfl) h) | cases h)
  | Constant k j pos =>
    simp only [trF] at h
    cases k <;> first | (cases h; rfl) | cases h
  | Tuple es k pos => exact mp (fun _ => rfl) h
  | List es pos => exact mp (fun _ => rfl) h
  | BinOp a op b pos =>
    simp only [trF] at h
    split at h <;> cases h
    rfl
  | UnaryOp op a pos =>
    simp only [trF, trUn] at h
    cases op with
    | Not => cases hp
    | USub => exact mp (fun _ => rfl) h
    | _ => cases h
  | BoolOp op es pos => cases hp
  | Compare a ops bs pos => cases hp
  | IfExp d a b pos => cases hp
  | Call g args kws pos =>
    cases g with
    | Name x p =>
      cases kws with
      | nil =>
        simp only [trF, trCallN, trIsi] at h
        repeat (first | split at h | (exact mp (fun _ => rfl) h) | (cases h; rfl) | cases h)
      | cons _ _ => simp [trF] at h
    | Attribute ob m ap =>
      cases kws with
      | nil =>
        simp only [trF, trMe] at h
        repeat (first | split at h | (cases h; rfl) | cases h)
      | cons _ _ => simp [trF] at h
    | _ => simp [trF] at h
  | Subscript a i pos =>
    simp only [trF, trSub] at h
    repeat (first | split at h | (exact mp (fun _ => rfl) h) | (cases h; rfl) | cases h)
  | ListComp elt gs csc pos =>
    simp only [trF, trComp] at h
    repeat (first | split at h | (exact mp (fun _ => rfl) h) | (cases h; rfl) | cases h)
  | Dict ks vs pos =>
    simp only [trF, trDict] at h
    repeat (first | split at h | (exact mp (fun _ => rfl) h) | (cases h; rfl) | cases h)
  | _ => simp [trF] at h
theorem trF_t {sc : Scope} {e : Expr} (hp : plT e = true) : trF nm N f true sc e = trF nm N f false sc e := by
  cases e with
  | UnaryOp op a pos => cases op <;> first | rfl | cases hp
  | BoolOp op es pos => cases hp
  | IfExp d a b pos => cases hp
  | Call g args kws pos =>
    cases g with
    | Name x p => cases kws <;> rfl
    | Attribute ob m ap => cases kws <;> rfl
    | _ => rfl
  | _ => rfl
theorem trF_pe (G : Good nm N cv c f) : ∀ (X : Cx) (W : WX), Ok nm N cv c X W → ∀ e e', trF nm N f false X.env.scope e = some e' → PE X e (tE X.K cv W c false e') ∧ (fresh e' = true → PE X e (tE X.K cv W c true e')) := fun X W o e e' h => by
  cases e with
  | Name x pos => exact t_fresh (t_name o h)
  | Constant k j pos => exact t_fresh (t_const h)
  | Tuple es k pos =>
    simp only [trF] at h
    cases q : trList f X.env.scope es with
    | none => rw [q] at h; cases h
    | some ees => rw [q] at h; cases h; exact t_fresh ⟨s_tup (t_list G o q).1, rfl⟩
  | List es pos =>
    simp only [trF] at h
    cases q : trList f X.env.scope es with
    | none => rw [q] at h; cases h
    | some ees =>
      rw [q] at h
      cases h
      have k := s_lst (pos := pos) (t_list G o q).1
      exact ⟨pe_fr k, fun _ => k⟩
  | BinOp a op b pos =>
    simp only [trF] at h
    split at h
    · rename_i o' a' b' ho ha hb
      cases h
      have e := opM_of ho
      subst e
      have k : ∀ fr, PE X (.BinOp a (opOf o') b pos) (tE X.K cv W c fr (.bin o' a' b')) := fun fr => s_bin (G.pe X W o a a' ha).1 (G.pe X W o b b' hb).1
      exact ⟨k false, fun _ => k true⟩
    · cases h
  | UnaryOp op a pos =>
    simp only [trF, trUn] at h
    split at h
    · cases q : f false X.env.scope a with
      | none => rw [q] at h; cases h
      | some a' => rw [q] at h; cases h; exact t_fresh ⟨s_neg (G.pe X W o a a' q).1, rfl⟩
    · cases q : f false X.env.scope a with
      | none => rw [q] at h; cases h
      | some a' => rw [q] at h; cases h; exact t_fresh ⟨s_not (G.pe X W o a a' q).1, rfl⟩
    · cases h
  | BoolOp op es pos =>
    simp only [trF, trBool] at h
    split at h
    · cases h
    · rename_i a
      obtain ⟨k1, k2⟩ := G.pe X W o a e' h
      refine ⟨⟨fun pins s σ H Q I hw => BoolOp_one (k1.run pins s σ H Q I hw)⟩, fun q => ⟨fun pins s σ H Q I hw => BoolOp_one ((k2 q).run pins s σ H Q I hw)⟩⟩
    · rename_i a b r
      split at h
      · rename_i a' b' ha hb
        cases h
        have pa := (G.pe X W o a a' ha).1
        have pb := (G.pe X W o _ b' hb).1
        cases op with
        | And => exact t_fresh ⟨s_and pa pb, rfl⟩
        | Or => exact t_fresh ⟨s_or pa pb, rfl⟩
      · cases h
  | Compare a ops bs pos => exact t_fresh (t_cmp G o h).1
  | IfExp d a b pos =>
    simp only [trF] at h
    split at h
    · rename_i q; cases q
    · split at h
      · rename_i d' a' b' hd ha hb
        cases h
        exact t_fresh ⟨s_ite (G.pt X W o d d' hd) (G.pe X W o a a' ha).1 (G.pe X W o b b' hb).1, rfl⟩
      · cases h
  | Call g args kws pos =>
    cases g with
    | Name x p =>
      cases kws with
      | nil => exact t_call G o h
      | cons _ _ => simp [trF] at h
    | Attribute ob m ap =>
      cases kws with
      | nil => exact t_fresh (t_me G o h)
      | cons _ _ => simp [trF] at h
    | _ => simp [trF] at h
  | Subscript a i pos => exact t_sub G o h
  | ListComp elt gs csc pos =>
    obtain ⟨k1, k2, _⟩ := t_comp (pos := pos) G o h
    exact ⟨pe_fr k1, fun _ => k1⟩
  | Dict ks vs pos =>
    simp only [trF, trDict] at h
    split at h
    · rename_i k j p v
      cases q : f false X.env.scope v with
      | none => rw [q] at h; cases h
      | some v' =>
        rw [q] at h
        cases h
        exact ⟨s_dct1 (G.pe X W o v v' q).1, fun z => by cases z⟩
    · cases h
  | _ => simp [trF] at h
theorem trF_pw (G : Good nm N cv c f) : ∀ (X : Cx) (W : WX), Ok nm N cv c X W → ∀ op es pos e', trF nm N f true X.env.scope (.BoolOp op es pos) = some e' → PW X (.BoolOp op es pos) (tT X.K cv W c e') := fun X W o op es pos e' h => by
  simp only [trF, trBool] at h
  split at h
  · cases h
  · rename_i a
    cases op with
    | And => exact pw_and1 (G.pt X W o a e' h)
    | Or => exact pw_or1 (G.pt X W o a e' h)
  · rename_i a b r
    split at h
    · rename_i a' b' ha hb
      cases h
      have pa := G.pt X W o a a' ha
      have pb := G.pw X W o op _ pos b' hb
      cases op with
      | And => exact s_tand pa pb
      | Or => exact s_tor pa pb
    · cases h
theorem trF_good (G : Good nm N cv c f) : Good nm N cv c (trF nm N f) where
  ok := fun t sc e e' h => t_ok h
  pe := trF_pe G
  pw := trF_pw G
  pt := fun X W o e e' h => by
    by_cases hp : plT e = true
    · have h' := h
      rw [trF_t hp] at h'
      exact s_truth (trF_pe G X W o e e' h').1 (plT_true hp) (plE_evT (plE_of h hp))
    · cases e with
      | UnaryOp op a pos =>
        cases op with
        | Not =>
          simp only [trF, trUn] at h
          cases q : f true X.env.scope a with
          | none => rw [q] at h; cases h
          | some a' => rw [q] at h; cases h; exact s_tnot (G.pt X W o a a' q)
        | _ => exact absurd rfl hp
      | BoolOp op es pos => exact (trF_pw G X W o op es pos e' h).pt
      | Compare a ops bs pos => exact (t_cmp G o h).2
      | IfExp d a b pos => simp [trF] at h
      | _ => exact absurd rfl hp
theorem tr_good : ∀ n, Good nm N cv c (tr nm N n)
  | 0 => ⟨(fun _ _ _ _ _ h => nomatch h), (fun _ _ _ _ _ h => nomatch h), (fun _ _ _ _ _ _ _ h => nomatch h), (fun _ _ _ _ h => nomatch h)⟩
  | n + 1 => trF_good (tr_good n)
end
end Ev

set_option Elab.async false
set_option linter.all false
set_option maxRecDepth 100000
/-! Ev8: statements: what the evaluator tells is what the machine does. -/
namespace Ev
open PySem PySem.Spec L2 PyProof.Rows

theorem PS.imp {X : Cx} {st : Stmt} {t t' : TS} (h : PS X st t) (i : ∀ D σ H, t' D σ H → t D σ H) : PS X st t' := ⟨fun pins s σ H D I q => h.run pins s σ H D I (i D σ H q)⟩
theorem PSs.imp {X : Cx} {st : List Stmt} {t t' : TS} (h : PSs X st t) (i : ∀ D σ H, t' D σ H → t D σ H) : PSs X st t' := ⟨fun pins s σ H D I q => h.run pins s σ H D I (i D σ H q)⟩
section
variable (K : PySem.W.Frag) (cv : Nat → Value) (W : WX) (c : Cfg)
def PostS (Z : Zs) (H : Hp) (ρ : Rho) (s : S) (r : RS) (D : Ends) : Prop := match r with
  | .next env' s' => ∀ σ' H' ρ', Ext H ρ s H' ρ' s' → StOk K Z H' ρ' s' → RelE K Z H' ρ' s' σ' env' → D.nx σ' H'
  | .ret d s' => ∀ v H' ρ', Ext H ρ s H' ρ' s' → StOk K Z H' ρ' s' → Rep K Z H' ρ' s' v d → D.rt v H'
  | .brk env' s' => ∀ σ' H' ρ', Ext H ρ s H' ρ' s' → StOk K Z H' ρ' s' → RelE K Z H' ρ' s' σ' env' → D.bk σ' H'
  | .cont env' s' => ∀ σ' H' ρ', Ext H ρ s H' ρ' s' → StOk K Z H' ρ' s' → RelE K Z H' ρ' s' σ' env' → D.ct σ' H'
  | .exc n env' s' => ∀ σ' H' ρ', Ext H ρ s H' ρ' s' → StOk K Z H' ρ' s' → RelE K Z H' ρ' s' σ' env' → W (cv n) none σ' H'
  | .stuck => False
def tS (st : St) : TS := fun D σ H => ∃ Z env ρ s, StOk K Z H ρ s ∧ RelE K Z H ρ s σ env ∧ PostS K cv W Z H ρ s (evS c st env s) D
def tSs (sts : List St) : TS := fun D σ H => ∃ Z env ρ s, StOk K Z H ρ s ∧ RelE K Z H ρ s σ env ∧ PostS K cv W Z H ρ s (evSs c sts env s) D
end
section
variable {K : PySem.W.Frag} {Z Z' : Zs} {H H1 H2 H' : Hp} {ρ ρ1 ρ2 ρ' : Rho} {s s1 s2 s' : S} {σ : L2.St} {env : Env} {cv : Nat → Value} {W : WX} {D : Ends}
theorem PostS.shift (e : Ext H ρ s H1 ρ1 s1) {r : RS} (p : PostS K cv W Z H ρ s r D) : PostS K cv W Z H1 ρ1 s1 r D := by
  cases r with
  | next env' s' => exact fun σ' H' ρ' e' w' r' => p σ' H' ρ' (e.trans e') w' r'
  | ret d s' => exact fun v H' ρ' e' w' r' => p v H' ρ' (e.trans e') w' r'
  | brk env' s' => exact fun σ' H' ρ' e' w' r' => p σ' H' ρ' (e.trans e') w' r'
  | cont env' s' => exact fun σ' H' ρ' e' w' r' => p σ' H' ρ' (e.trans e') w' r'
  | exc n env' s' => exact fun σ' H' ρ' e' w' r' => p σ' H' ρ' (e.trans e') w' r'
  | stuck => exact p
theorem PostS.st {α β : Type} {rep : Hp → Rho → S → β → α → Prop} {r : R α} {f : α → S → RS} (w : StOk K Z H ρ s) (re : RelE K Z H ρ s σ env) (p : PostS K cv W Z H ρ s (r.st env f) D) :
    PostG K cv W Z H ρ s σ rep r (fun b H1 => ∃ a s1 ρ1, Ext H ρ s H1 ρ1 s1 ∧ StOk K Z H1 ρ1 s1 ∧ rep H1 ρ1 s1 b a ∧ PostS K cv W Z H1 ρ1 s1 (f a s1) D) := by
  cases r with
  | ok a s' => exact fun b H' ρ' e w' q => ⟨a, s', ρ', e, w', q, PostS.shift e p⟩
  | exc n s' => exact fun H' ρ' e w' => p σ H' ρ' e w' (re.ext w e)
  | stuck => exact p
theorem PostS.opt {α : Type} {o : Option α} {f : α → RS} (p : PostS K cv W Z H ρ s (RS.opt o f) D) : ∃ a, o = some a ∧ PostS K cv W Z H ρ s (f a) D := by
  cases o with
  | none => exact p.elim
  | some a => exact ⟨a, rfl, p⟩
theorem PostS.mono {r : RS} {D' : Ends} (p : PostS K cv W Z H ρ s r D) (h1 : ∀ σ H, D.nx σ H → D'.nx σ H) (h2 : ∀ v H, D.rt v H → D'.rt v H) (h3 : ∀ σ H, D.bk σ H → D'.bk σ H) (h4 : ∀ σ H, D.ct σ H → D'.ct σ H) : PostS K cv W Z H ρ s r D' := by
  cases r with
  | next env' s' => exact fun σ' H' ρ' e' w' r' => h1 _ _ (p σ' H' ρ' e' w' r')
  | ret d s' => exact fun v H' ρ' e' w' r' => h2 _ _ (p v H' ρ' e' w' r')
  | brk env' s' => exact fun σ' H' ρ' e' w' r' => h3 _ _ (p σ' H' ρ' e' w' r')
  | cont env' s' => exact fun σ' H' ρ' e' w' r' => h4 _ _ (p σ' H' ρ' e' w' r')
  | exc n env' s' => exact p
  | stuck => exact p
end
section
variable {X : Cx} {cv : Nat → Value} {W : WX} {c : Cfg} {a b e : Expr} {ea eb : E} {pos : Pos}
/-! small statements -/
theorem k_nil : PSs X [] (tSs X.K cv W c []) := by
  refine PSs.imp pss_nil ?_
  rintro D σ H ⟨Z, env, ρ, s, w, re, p⟩
  simp only [evSs] at p
  exact p σ H ρ Ext.refl w re
theorem k_cons {st : Stmt} {sts : List Stmt} {st' : St} {sts' : List St} (h1 : PS X st (tS X.K cv W c st')) (h2 : PSs X sts (tSs X.K cv W c sts')) : PSs X (st :: sts) (tSs X.K cv W c (st' :: sts')) := by
  refine PSs.imp (pss_cons h1 h2) ?_
  rintro D σ H ⟨Z, env, ρ, s, w, re, p⟩
  simp only [evSs] at p
  refine ⟨Z, env, ρ, s, w, re, ?_⟩
  cases q : evS c st' env s with
  | next env' s' =>
    rw [q] at p
    exact fun σ' H' ρ' e' w' r' => ⟨Z, env', ρ', s', w', r', PostS.shift e' p⟩
  | ret d s' => rw [q] at p; exact p
  | brk env' s' => rw [q] at p; exact p
  | cont env' s' => rw [q] at p; exact p
  | exc n env' s' => rw [q] at p; exact p
  | stuck => rw [q] at p; exact p
theorem k_pass : PS X (.Pass pos) (tS X.K cv W c .pass) := by
  refine PS.imp ps_pass ?_
  rintro D σ H ⟨Z, env, ρ, s, w, re, p⟩
  simp only [evS] at p
  exact p σ H ρ Ext.refl w re
theorem k_brk : PS X (.Break pos) (tS X.K cv W c .brk) := by
  refine PS.imp ps_break ?_
  rintro D σ H ⟨Z, env, ρ, s, w, re, p⟩
  simp only [evS] at p
  exact p σ H ρ Ext.refl w re
theorem k_cont : PS X (.Continue pos) (tS X.K cv W c .cont) := by
  refine PS.imp ps_continue ?_
  rintro D σ H ⟨Z, env, ρ, s, w, re, p⟩
  simp only [evS] at p
  exact p σ H ρ Ext.refl w re
theorem k_ex (ha : PE X a (tE X.K cv W c false ea)) (hs : swapsWith a none pos.line X.env = pure false) : PS X (.Expr a pos) (tS X.K cv W c (.ex ea)) := by
  refine PS.imp (ps_expr ha hs) ?_
  rintro D σ H ⟨Z, env, ρ, s, w, re, p⟩
  simp only [evS] at p
  refine ⟨Z, env, ρ, s, w, re, PostG.mono (PostS.st (rep := Rep X.K Z) w re p) fun x H1 ⟨dx, s1, ρ1, e1, w1, r1, p1⟩ => ?_⟩
  exact p1 σ H1 ρ1 Ext.refl w1 (re.ext w e1)
theorem k_ret (ha : PE X a (tE X.K cv W c false ea)) : PS X (.Return (some a) pos) (tS X.K cv W c (.ret (some ea))) := by
  refine PS.imp (ps_ret ha) ?_
  rintro D σ H ⟨Z, env, ρ, s, w, re, p⟩
  simp only [evS] at p
  refine ⟨Z, env, ρ, s, w, re, PostG.mono (PostS.st (rep := Rep X.K Z) w re p) fun x H1 ⟨dx, s1, ρ1, e1, w1, r1, p1⟩ => ?_⟩
  exact p1 x H1 ρ1 Ext.refl w1 r1
theorem k_retN : PS X (.Return none pos) (tS X.K cv W c (.ret none)) := by
  refine PS.imp ps_retN ?_
  rintro D σ H ⟨Z, env, ρ, s, w, re, p⟩
  simp only [evS] at p
  exact p .non H ρ Ext.refl w .non
theorem k_if {sa sb : List Stmt} {sa' sb' : List St} (hc : PT X e (tT X.K cv W c ea)) (ha : PSs X sa (tSs X.K cv W c sa')) (hb : PSs X sb (tSs X.K cv W c sb')) : PS X (.If e sa sb pos) (tS X.K cv W c (.ite ea sa' sb')) := by
  refine PS.imp (ps_if hc ha hb) ?_
  rintro D σ H ⟨Z, env, ρ, s, w, re, p⟩
  simp only [evS] at p
  refine ⟨Z, env, ρ, s, w, re, PostG.mono (PostS.st (rep := fun _ _ _ b a => b = a) w re p) fun k H1 ⟨k', s1, ρ1, e1, w1, r1, p1⟩ => ?_⟩
  subst r1
  cases k with
  | true => exact iteT ⟨Z, env, ρ1, s1, w1, re.ext w e1, p1⟩
  | false => exact iteF ⟨Z, env, ρ1, s1, w1, re.ext w e1, p1⟩
/-! stores to names -/
theorem set_read {i : Nat} : ∀ D σ H, tS X.K cv W c (.set i ea) D σ H → tAsg (tE X.K cv W c false ea) (gName i) D σ H := by
  rintro D σ H ⟨Z, env, ρ, s, w, re, p⟩
  simp only [evS] at p
  refine ⟨Z, env, ρ, s, w, re, PostG.mono (PostS.st (rep := Rep X.K Z) w re p) fun x H1 ⟨dx, s1, ρ1, e1, w1, r1, p1⟩ => ?_⟩
  exact p1 _ H1 ρ1 Ext.refl w1 ((re.ext w e1).set r1)
theorem toL_read {i : Nat} : ∀ D σ H, tAsg (tE X.K cv W c false ea) (gName i) D σ H → tAsg (tE X.K cv W c true ea) (gName i) D σ H := by
  rintro D σ H ⟨Z, env, ρ, s, w, re, p⟩
  exact ⟨Z, env, ρ, s, w, re, p.toL w⟩
/-- a new cell -/
theorem cell_read {i : Nat} : ∀ D σ H, tS X.K cv W c (.set i (.cell ea)) D σ H → tAsg (tE X.K cv W c true ea) (gName i) D σ H := by
  rintro D σ H ⟨Z, env, ρ, s, w, re, p⟩
  simp only [evS, evE] at p
  refine ⟨Z, env, ρ, s, w, re, ?_⟩
  cases q : evE c ea env s with
  | stuck => rw [q] at p; exact p.elim
  | exc n s1 => rw [q] at p; exact fun H' ρ' e' w' => p σ H' ρ' e' w' (re.ext w e')
  | ok d s1 =>
    rw [q] at p
    simp only [R.bind_ok] at p
    cases d with
    | lst ds =>
      suffices g : OutL X.K Z H ρ s s1 ds (fun x H1 => gName i x σ H1 D.nx) from g
      intro p0 vs H1 ρ1 e1 hp w1 h1 r1
      have p : PostS X.K cv W Z H ρ s (.next (env.set i (some (.ref s1.dep s1.cur.length))) (s1.snoc (.lst ds))) D := p
      have hz : ∀ a, Z a → Zs.add Z p0 a ∧ a ≠ p0 := fun a h => ⟨.inl h, fun e => (w.zt a h).1 (by rw [e]; exact hp)⟩
      have w2 := w1.snocL (Z' := Z) (.inr rfl) h1 r1 hz
      refine p _ H1 _ (e1.snoc' hp) w2 ?_
      have re1 : RelE X.K (Z.add p0) H1 ρ1 s1 σ env := re.mono w e1 (zadd hp)
      have re2 : RelE X.K Z H1 (Rho.put ρ1 s1.dep s1.cur.length p0) (s1.snoc (.lst ds)) σ env := ⟨re1.len, fun j d hj => by
        obtain ⟨v, g1, g2⟩ := re1.var j d hj
        exact ⟨v, g1, g2.snoc (.inr rfl) h1 fun a h => .inl h⟩⟩
      refine re2.set ?_
      have e0 : p0 = (Rho.put ρ1 s1.dep s1.cur.length p0) s1.dep s1.cur.length := by unfold Rho.put; rw [if_pos ⟨rfl, rfl⟩]
      rw [show V.ref p0 = V.ref ((Rho.put ρ1 s1.dep s1.cur.length p0) s1.dep s1.cur.length) by rw [← e0]]
      exact .ref (c := .lst ds) (by rw [S.get_snoc, if_pos ⟨rfl, rfl⟩])
    | _ => exact p.elim
/-- a new cell is handed back -/
theorem k_retC (ha : PE X a (tE X.K cv W c true ea)) : PS X (.Return (some a) pos) (tS X.K cv W c (.ret (some (.cell ea)))) := by
  refine PS.imp (ps_ret ha) ?_
  rintro D σ H ⟨Z, env, ρ, s, w, re, p⟩
  simp only [evS, evE] at p
  refine ⟨Z, env, ρ, s, w, re, ?_⟩
  cases q : evE c ea env s with
  | stuck => rw [q] at p; exact p.elim
  | exc n s1 => rw [q] at p; exact fun H' ρ' e' w' => p σ H' ρ' e' w' (re.ext w e')
  | ok d s1 =>
    rw [q] at p
    simp only [R.bind_ok] at p
    cases d with
    | lst ds =>
      suffices g : OutL X.K Z H ρ s s1 ds D.rt from g
      intro p0 vs H1 ρ1 e1 hp w1 h1 r1
      have p : PostS X.K cv W Z H ρ s (.ret (.ref s1.dep s1.cur.length) (s1.snoc (.lst ds))) D := p
      have hz : ∀ a, Z a → Zs.add Z p0 a ∧ a ≠ p0 := fun a h => ⟨.inl h, fun e => (w.zt a h).1 (by rw [e]; exact hp)⟩
      have w2 := w1.snocL (Z' := Z) (.inr rfl) h1 r1 hz
      refine p _ H1 _ (e1.snoc' hp) w2 ?_
      have e0 : p0 = (Rho.put ρ1 s1.dep s1.cur.length p0) s1.dep s1.cur.length := by unfold Rho.put; rw [if_pos ⟨rfl, rfl⟩]
      rw [show V.ref p0 = V.ref ((Rho.put ρ1 s1.dep s1.cur.length p0) s1.dep s1.cur.length) by rw [← e0]]
      exact .ref (c := .lst ds) (by rw [S.get_snoc, if_pos ⟨rfl, rfl⟩])
    | _ => exact p.elim

/-! several targets -/
def gNames : List Nat → TGs
  | [] => gNil
  | i :: is => gCons (gName i) (gNames is)
theorem names_read {K : PySem.W.Frag} {Z : Zs} {H : Hp} {ρ : Rho} {s : S} {G : L2.St → Hp → Prop} : ∀ {is : List Nat} {vs : List V} {ds : List D} {σ : L2.St} {env env' : Env}, RelE K Z H ρ s σ env → Reps K Z H ρ s vs ds → putI is ds env = some env' → (∀ σ', RelE K Z H ρ s σ' env' → G σ' H) → gNames is vs σ H G
  | [], vs, ds, σ, env, env', re, r, hp, h => by
    cases r with
    | nil => simp only [putI] at hp; cases hp; exact ⟨rfl, h _ re⟩
    | cons _ _ => simp [putI] at hp
  | i :: is, vs, ds, σ, env, env', re, r, hp, h => by
    cases r with
    | nil => simp [putI] at hp
    | cons r t =>
      simp only [putI] at hp
      exact ⟨_, _, rfl, names_read (re.set r) t hp h⟩
theorem putI_len : ∀ {is : List Nat} {ds : List D} {env env' : Env}, putI is ds env = some env' → ds.length = is.length
  | [], [], _, _, _ => rfl
  | i :: is, d :: ds, env, env', h => by
    simp only [putI] at h
    exact congrArg (· + 1) (putI_len h)
  | [], _ :: _, _, _, h => by simp [putI] at h
  | _ :: _, [], _, _, h => by simp [putI] at h
theorem k_unp {is : List Nat} {ts : List Expr} {k : Nat} {p2 : Pos} (hg : PG X (.Tuple ts k p2) (gTup X.K is.length (gNames is))) (ha : PE X a (tE X.K cv W c false ea)) (hs : swapsWithSole [.Tuple ts k p2] a pos.line X.env = pure false) (hw : swappedStores [.Tuple ts k p2] a X.env = pure none) :
    PS X (.Assign [.Tuple ts k p2] a pos) (tS X.K cv W c (.unp is ea)) := by
  refine PS.imp (ps_asg ha hg hs hw rfl) ?_
  rintro D σ H ⟨Z, env, ρ, s, w, re, p⟩
  simp only [evS] at p
  refine ⟨Z, env, ρ, s, w, re, PostG.mono (PostS.st (rep := Rep X.K Z) w re p) fun x H1 ⟨dx, s1, ρ1, e1, w1, r1, p1⟩ => ?_⟩
  obtain ⟨xs, hx, p2⟩ := p1.opt
  obtain ⟨env', hp, p3⟩ := p2.opt
  clear p1 p2
  cases dx with
  | tup ds =>
    cases hx
    cases r1 with | tup hq rs =>
    exact ⟨_, _, rfl, hq, by rw [rs.length, putI_len hp], names_read (re.ext w e1) rs hp fun σ' re' => p3 σ' H1 ρ1 Ext.refl w1 re'⟩
  | _ => cases hx
theorem k_parN {is : List Nat} {ts es : List Expr} {ees : List E} {k k2 : Nat} {p2 p3 : Pos} (hl : is.length ≤ 100) (hg : PG X (.Tuple ts k p2) (gTup X.K is.length (gNames is))) (ha : PA X es (tEs X.K cv W c ees)) (hs : swapsWithSole [.Tuple ts k p2] (.Tuple es k2 p3) pos.line X.env = pure false) (hw : swappedStores [.Tuple ts k p2] (.Tuple es k2 p3) X.env = pure none) :
    PS X (.Assign [.Tuple ts k p2] (.Tuple es k2 p3) pos) (tS X.K cv W c (.par is ees)) := by
  refine PS.imp (ps_asg (s_tup ha) hg hs hw rfl) ?_
  rintro D σ H ⟨Z, env, ρ, s, w, re, p⟩
  simp only [evS] at p
  refine ⟨Z, env, ρ, s, w, re, ?_⟩
  simp only [evE]
  cases q : evEs c ees env s with
  | stuck => rw [q] at p; exact p.elim
  | exc n s1 => rw [q] at p; exact fun H' ρ' e' w' => p σ H' ρ' e' w' (re.ext w e')
  | ok ds s1 =>
    rw [q] at p
    obtain ⟨env', hp, p1⟩ := PostS.opt p
    simp only [R.bind_ok]
    have hd : ds.length ≤ LIM := by rw [putI_len hp]; exact Nat.le_trans hl (by decide)
    rw [if_pos hd]
    intro v H1 ρ1 e1 w1 r1
    cases r1 with | tup hq rs =>
    exact ⟨_, _, rfl, hq, by rw [rs.length, putI_len hp], names_read (re.ext w e1) rs hp fun σ' re' => p1 σ' H1 ρ1 e1 w1 re'⟩
theorem k_par2 {i j : Nat} {x y : Str} {ees : List E} {px py pt pt2 : Pos} {kt k2 : Nat} (hc : X.calm = true) (hN : X.N.Nodup) (hi : X.N[i]? = some x) (hj : X.N[j]? = some y) (hij : i ≠ j)
    (hx : X.env.scope.names.lookup x = some .local) (hy : X.env.scope.names.lookup y = some .local) (ha : PA X [a, b] (tEs X.K cv W c ees))
    (hw : swappedStores [.Tuple [.Name x px, .Name y py] kt pt] (.Tuple [a, b] k2 pt2) X.env = pure (some [x, y]))
    (hs : swapsWithSole [.Tuple [.Name x px, .Name y py] kt pt] (.Tuple [a, b] k2 pt2) pos.line X.env = pure false) :
    PS X (.Assign [.Tuple [.Name x px, .Name y py] kt pt] (.Tuple [a, b] k2 pt2) pos) (tS X.K cv W c (.par [i, j] ees)) := by
  refine PS.imp (ps_par hc hN hi hj hij hx hy ha hw hs) ?_
  rintro D σ H ⟨Z, env, ρ, s, w, re, p⟩
  simp only [evS] at p
  refine ⟨Z, env, ρ, s, w, re, PostG.mono (PostS.st (rep := Reps X.K Z) w re p) fun vs H1 ⟨ds, s1, ρ1, e1, w1, r1, p1⟩ => ?_⟩
  obtain ⟨env', hp, p1⟩ := p1.opt
  cases r1 with
  | nil => simp [putI] at hp
  | cons r t =>
    cases t with
    | nil => simp [putI] at hp
    | cons r' t' =>
      cases t' with
      | nil =>
        simp only [putI] at hp
        cases hp
        exact ⟨_, _, rfl, p1 _ H1 ρ1 Ext.refl w1 (((re.ext w e1).set r).set r')⟩
      | cons _ _ => simp [putI] at hp
/-! x += e -/
theorem k_aug {i : Nat} {x : Str} {op : Op2} {p2 : Pos} (hop : op = .add ∨ op = .sub) (hN : X.N.Nodup) (hi : X.N[i]? = some x) (hx : Loc X.env.scope x) (ha : PE X a (tE X.K cv W c false ea)) (hf : X.fn x = true ∨ X.env.scope.names.lookup x = some .local) :
    PS X (.AugAssign (.Name x p2) (opOf op) a pos) (tS X.K cv W c (.aug i op ea)) := by
  rcases hop with rfl | rfl
  · refine PS.imp (ps_aug hN hi hx ha ip_add hf) ?_
    rintro D σ H ⟨Z, env, ρ, s, w, re, p⟩
    simp only [evS] at p
    obtain ⟨d, hd, p⟩ := p.opt
    obtain ⟨v, hv, rv⟩ := re.var i d hd
    refine ⟨v, hv, Z, env, ρ, s, w, re, PostG.mono (PostS.st (rep := Rep X.K Z) w re p) fun y H1 ⟨dy, s1, ρ1, e1, w1, r1, p1⟩ => ?_⟩
    cases d with
    | int n =>
      cases dy with
      | int m =>
        cases rv
        cases r1
        exact ⟨n, m, rfl, rfl, p1 _ H1 ρ1 Ext.refl w1 ((re.ext w e1).set (.int _))⟩
      | _ => exact p1.elim
    | _ => cases dy <;> exact p1.elim
  · refine PS.imp (ps_aug hN hi hx ha ip_sub hf) ?_
    rintro D σ H ⟨Z, env, ρ, s, w, re, p⟩
    simp only [evS] at p
    obtain ⟨d, hd, p⟩ := p.opt
    obtain ⟨v, hv, rv⟩ := re.var i d hd
    refine ⟨v, hv, Z, env, ρ, s, w, re, PostG.mono (PostS.st (rep := Rep X.K Z) w re p) fun y H1 ⟨dy, s1, ρ1, e1, w1, r1, p1⟩ => ?_⟩
    cases d with
    | int n =>
      cases dy with
      | int m =>
        cases rv
        cases r1
        exact ⟨n, m, rfl, rfl, p1 _ H1 ρ1 Ext.refl w1 ((re.ext w e1).set (.int _))⟩
      | _ => exact p1.elim
    | _ => cases dy <;> exact p1.elim
/-! o[i] = e -/
theorem k_sto {ob ix : Expr} {eo ei : E} {p2 : Pos} (ho : PE X ob (tE X.K cv W c false eo)) (hi : PE X ix (tE X.K cv W c false ei)) (ha : PE X a (tE X.K cv W c false ea))
    (hass : ∀ v, assign (.Subscript ob ix p2) X.env v = (do
      let ov ← holding [v] (eval ob X.env)
      let iv ← holding [v, ov] (eval ix X.env)
      standAt p2
      holding [v, ov, iv] (setItem ov iv v)
      release [v, ov, iv] [])) (hs : swapsWithSole [.Subscript ob ix p2] a pos.line X.env = pure false) (hw : swappedStores [.Subscript ob ix p2] a X.env = pure none) :
    PS X (.Assign [.Subscript ob ix p2] a pos) (tS X.K cv W c (.sto eo ei ea)) := by
  refine PS.imp (ps_asg ha (pg_sub ho hi set_sto hass) hs hw rfl) ?_
  rintro D σ H ⟨Z, env, ρ, s, w, re, p⟩
  simp only [evS] at p
  refine ⟨Z, env, ρ, s, w, re, PostG.mono (PostS.st (rep := Rep X.K Z) w re p) fun v H1 ⟨dv, s1, ρ1, e1, w1, r1, p1⟩ => ?_⟩
  have re1 := re.ext w e1
  refine ⟨Z, env, ρ1, s1, w1, re1, PostG.mono (PostS.st (rep := Rep X.K Z) w1 re1 p1) fun x H2 ⟨dx, s2, ρ2, e2, w2, r2, p2⟩ => ?_⟩
  have re2 := re1.ext w1 e2
  refine ⟨Z, env, ρ2, s2, w2, re2, PostG.mono (PostS.st (rep := Rep X.K Z) w2 re2 p2) fun y H3 ⟨dy, s3, ρ3, e3, w3, r3, p3⟩ => ?_⟩
  obtain ⟨s4, hs4, p4⟩ := p3.opt
  exact ⟨Z, ρ3, s3, dx, dy, dv, s4, w3, r2.ext w2 e3, r3, (r1.ext w1 e2).ext w2 e3, hs4, fun H' ρ' e' w' => p4 σ H' ρ' e' w' ((re2.ext w2 e3).ext w3 e')⟩
/-! while -/
theorem k_wh {body : List Stmt} {body' : List St} (hp : PassesOwn (model X.prog X.w) X.A X.env X.xe) (hc : PT X e (tT X.K cv W c ea)) (hb : PSs X body (tSs X.K cv W c body')) : PS X (.While e body [] pos) (tS X.K cv W c (.wh ea body')) := by
  refine PS.imp (ps_while hp hc hb) ?_
  rintro D σ H ⟨Z, env, ρ, s, w, re, p⟩
  simp only [evS] at p
  generalize FUEL = m0 at p
  refine ⟨fun m σ H => ∃ env ρ s, StOk X.K Z H ρ s ∧ RelE X.K Z H ρ s σ env ∧ PostS X.K cv W Z H ρ s (whL (evT c ea) (evSs c body') m env s) D, ⟨m0, env, ρ, s, w, re, p⟩, ?_⟩
  rintro m σ1 H1 ⟨env1, ρ1, s1, w1, re1, p1⟩
  cases m with
  | zero => exact p1.elim
  | succ m =>
    simp only [whL] at p1
    refine ⟨Z, env1, ρ1, s1, w1, re1, PostG.mono (PostS.st (rep := fun _ _ _ b a => b = a) w1 re1 p1) fun k H2 ⟨k', s2, ρ2, e2, w2, r2, p2⟩ => ?_⟩
    subst r2
    have re2 := re1.ext w1 e2
    cases k with
    | false => exact iteF (p2 σ1 H2 ρ2 Ext.refl w2 re2)
    | true =>
      refine iteT ⟨fun σ H => ∃ env ρ s, StOk X.K Z H ρ s ∧ RelE X.K Z H ρ s σ env ∧ PostS X.K cv W Z H ρ s (whL (evT c ea) (evSs c body') m env s) D, fun σ' H' h => ⟨m, Nat.lt_succ_self m, h⟩, Z, env1, ρ2, s2, w2, re2, ?_⟩
      rw [if_pos rfl] at p2
      cases q : evSs c body' env1 s2 with
      | stuck => rw [q] at p2; exact p2.elim
      | next env' s' => rw [q] at p2; exact fun σ' H' ρ' e' w' r' => ⟨env', ρ', s', w', r', PostS.shift e' p2⟩
      | cont env' s' => rw [q] at p2; exact fun σ' H' ρ' e' w' r' => ⟨env', ρ', s', w', r', PostS.shift e' p2⟩
      | brk env' s' => rw [q] at p2; exact p2
      | ret d s' => rw [q] at p2; exact p2
      | exc n env' s' => rw [q] at p2; exact p2
/-! for -/
theorem put_for {t : Tg} {K : PySem.W.Frag} {Z : Zs} {H : Hp} {ρ : Rho} {s : S} {σ : L2.St} {env env1 : Env} {x : V} {d : D} (re : RelE K Z H ρ s σ env) (rx : Rep K Z H ρ s x d) (hp : putT t d env = some env1) {G : L2.St → Hp → Prop}
    (h : ∀ σ2, RelE K Z H ρ s σ2 env1 → G σ2 H) : gOf K t x σ H G := by
  cases t with
  | one i =>
    simp only [putT] at hp
    cases hp
    exact h _ (re.set rx)
  | two i j =>
    unfold putT at hp
    split at hp
    · rename_i e1; cases e1
    · rename_i i' j' x' y' e1
      cases hp
      cases e1
      cases rx with | tup hq rs =>
      cases rs with | cons r1 t1 =>
      cases t1 with | cons r2 t2 =>
      cases t2
      exact ⟨_, _, rfl, hq, rfl, _, _, rfl, _, _, rfl, rfl, h _ ((re.set r1).set r2)⟩
    · cases hp
theorem k_fo {t : Tg} {it : It} {tg iter : Expr} {body : List Stmt} {body' : List St} (hp : PassesOwn (model X.prog X.w) X.A X.env X.xe) (hc : X.calm = true) (hi : PI X tg iter (tI X.K cv W c it)) (hg : PG X tg (gOf X.K t)) (hb : PSs X body (tSs X.K cv W c body'))
    (hs : ∀ x, foldedSetIterable iter X.env x = pure x) : PS X (.For tg iter body [] pos) (tS X.K cv W c (.fo t it body')) := by
  refine PS.imp (ps_for hp hc hi hg hb hs) ?_
  rintro D σ H ⟨Z, env, ρ, s, w, re, p⟩
  simp only [evS] at p
  refine ⟨Z, env, ρ, s, w, re, PostG.mono (PostS.st (rep := fun H ρ s J wk => JOk X.K Z H ρ s J wk ∧ keptG s wk.g = true) w re p) fun J H1 ⟨wk, s1, ρ1, e1, w1, ⟨j1, k1⟩, p1⟩ => ?_⟩
  refine ⟨fun i m σ H => ∃ env ρ s, StOk X.K Z H ρ s ∧ Ext H1 ρ1 s1 H ρ s ∧ RelE X.K Z H ρ s σ env ∧ keptG s wk.g = true ∧ m + i = wk.xs.length ∧ PostS X.K cv W Z H ρ s (forL wk.g t (evSs c body') (wk.xs.drop i) env s) D, ⟨wk.xs.length, env, ρ1, s1, w1, Ext.refl, re.ext w e1, k1, rfl, by rw [List.drop_zero]; exact p1⟩, ?_⟩
  rintro i m σ2 H2 ⟨env2, ρ2, s2, w2, e2, re2, k2, hm, p2⟩
  have jj := j1 Z H2 ρ2 s2 w2 (fun a h => .inl h) e2 k2 i
  by_cases hi : i < wk.xs.length
  · right
    obtain ⟨hgo, hyld⟩ := jj.1 _ (List.getElem?_eq_getElem hi)
    refine ⟨hgo, fun σ H => ∃ env ρ s, StOk X.K Z H ρ s ∧ Ext H1 ρ1 s1 H ρ s ∧ RelE X.K Z H ρ s σ env ∧ keptG s wk.g = true ∧ PostS X.K cv W Z H ρ s (forL wk.g t (evSs c body') (wk.xs.drop (i + 1)) env s) D, ?_, ?_⟩
    · rintro σ' H' ⟨env', ρ', s', a1, a2, a3, a4, a5⟩
      exact ⟨m - 1, by omega, env', ρ', s', a1, a2, a3, a4, by omega, a5⟩
    · intro x H' hy
      obtain ⟨e3, w3, rx, _⟩ := hyld x H' hy
      rw [List.drop_eq_getElem_cons hi] at p2
      simp only [forL] at p2
      obtain ⟨env3, hp3, p3⟩ := p2.opt
      have re3 := re2.ext w2 e3
      have p3 := PostS.shift e3 p3
      refine put_for re3 rx hp3 fun σ3 re3 => ⟨Z, env3, ρ2, s2, w3, re3, ?_⟩
      cases q : evSs c body' env3 s2 with
      | stuck => rw [q] at p3; exact p3.elim
      | next env' s' =>
        rw [q] at p3
        simp only at p3
        split at p3
        · rename_i hk
          exact fun σ' H' ρ' e' w' r' => ⟨env', ρ', s', w', (e2.trans e3).trans e', r', hk, PostS.shift e' p3⟩
        · exact p3.elim
      | cont env' s' =>
        rw [q] at p3
        simp only at p3
        split at p3
        · rename_i hk
          exact fun σ' H' ρ' e' w' r' => ⟨env', ρ', s', w', (e2.trans e3).trans e', r', hk, PostS.shift e' p3⟩
        · exact p3.elim
      | brk env' s' => rw [q] at p3; exact p3
      | ret d s' => rw [q] at p3; exact p3
      | exc n env' s' => rw [q] at p3; exact p3
  · left
    rw [List.drop_eq_nil_of_le (by omega)] at p2
    simp only [forL] at p2
    exact ⟨jj.2 (by omega), p2 σ2 H2 ρ2 Ext.refl w2 re2⟩
end
end Ev

set_option Elab.async false
set_option linter.all false
set_option maxRecDepth 100000
/-! Ev9: the text of a statement, translated. -/
namespace Ev
open PySem PySem.Spec L2 PyProof.Rows

def veB : List Value := [.type "ValueError", .type "Exception", .type "BaseException", .type "object"]
section
variable {X : Cx} {C : Addr} {bmB : List Value} {B newId initId : String}
/-- X() -/
theorem pmk_own0 {x : Str} {p pos : Pos} (F : ExcBaseFacts B newId initId bmB) (q : PySem.W.excIn X.K C bmB newId = true) (gC : X.mg x = some (.ref C)) (kC : PySem.W.keepIn X.K (.ref C) = true) (r : Raises X (.ref C)) (hg : Gl X x)
    (hdb : (x == ("__debug__" : Str)) = false) : PMk X (.Call (.Name x p) [] [] pos) (fun _ H Q => Q (.ref C) none H) := by
  intro pins s σ H Q I h
  refine wpAny_Call_Name_kw (ld_glob I hg gC ?_ hdb)
  refine PySem.W.callWith_K0 I.kIn kC ?_
  show wpAny _ _ (call (.ref C) []) _ _ _
  obtain ⟨bm, N, nm, qn, bs, hdct, sn, sub, ab, col, dd, k0, k1, k2, k3, k5, mN, hC, hN, hni, T⟩ := exc_obj I.kIn q
  refine wpAny_call_exc_subT F T hC hN hni (fun h' e hm => ?_) (Nat.zero_le _)
  exact mk_of I hm r h (I.hok.gone hm.new)
end
/-! ### where one stands -/
structure Ok2 (nm : Nm) (N : List Str) (cv : Nat → Value) (c : Cfg) (X : Cx) (W : WX) : Prop where
  ok : Ok nm N cv c X W
  kind : X.env.scope.kind = .function
  st : X.stack = X.env :: X.outer
  fr : X.env.frame = some X.env.locals
  po : PassesOwn (model X.prog X.w) X.A X.env X.xe
  fn : ∀ x, X.fn x = true
  cs : ∀ x k, nm.cs.lookup x = some k → ∃ C, cv k = .ref C ∧ X.mg x = some (.ref C) ∧ PySem.W.excIn X.K C veB "ValueError.__new__" = true ∧ PySem.W.keepIn X.K (.ref C) = true ∧ Raises X (.ref C)
  exm : ∀ j x k, nm.cs.lookup x = some k → PySem.W.exmOne X.K (cv j) (cv k) = some (c.sub j k)
  exi : ∀ j x k, nm.cs.lookup x = some k → ∃ D, cv j = .ref D ∧ ExcC X.K D
/-! ### the translation -/
def noSw : Expr → Bool
  | .ListComp .. => false
  | .SetComp .. => false
  | .DictComp .. => false
  | _ => true
def storeB (sc : Scope) (x : Str) : Bool := match sc.names.lookup x with
  | some .local => true
  | some .cell => true
  | _ => false
def swB (sc : Scope) (x : Str) (xp : Pos) (csc : Scope) (vp : Pos) : Bool := sc.names.lookup x == some .local && xp.line == vp.line && !(csc.names.any fun (n, k) => n == x && (k == .local || k == .cell))
section
variable (nm : Nm) (N mu : List Str) (F : Bool → Scope → Expr → Option E) (g : Stmt → Option St) (sc : Scope)
def mkSet (i : Nat) (x : Str) (e : E) : St := if decide (x ∈ mu) && fresh e then .set i (.cell e) else .set i e
def isLC : Expr → Bool
  | .ListComp .. => true
  | _ => false
def trSet (x : Str) (e : Expr) : Option St := if (noSw e || isLC e) && storeB sc x then (match ixOf N x, F false sc e with
    | some i, some e' => some (mkSet mu i x e')
    | _, _ => none) else none
def trC1 : Expr → Option E
  | .Constant k _ _ => trConst k
  | _ => none
def trCT : Expr → Option E
  | .Constant k _ _ => trConst k
  | .Tuple es _ _ => (mapO trC1 es).map .tup
  | _ => none
def trHand : ExceptHandler → Option (Nat × E)
  | .ExceptHandler (some (.Name x _)) none [.Return (some e) _] _ => if okN x && glB sc x then (match nm.cs.lookup x, trCT e with
    | some j, some e => some (j, e)
    | _, _ => none) else none
  | _ => none
/-- constants and isinstance(n, C), n the exception that is noted -/
def trH1 (n : Str) : Expr → Option (E × List Nat)
  | .Constant k _ _ => (trConst k).map fun e => (e, [])
  | .Call (.Name z _) [.Name n' _, .Name y _] [] _ => if z = "isinstance" ∧ n' = n ∧ okN y = true ∧ glB sc y = true ∧ glB sc "isinstance" = true ∧ ("isinstance" : Str) ∈ nm.bs then (nm.cs.lookup y).map fun m => (.cst (.bl true), [m]) else none
  | _ => none
def trHT (n : Str) : Expr → Option (E × List Nat)
  | .Tuple es _ _ => (mapO (trH1 nm sc n) es).map fun l => (.tup (l.map (·.1)), l.flatMap (·.2))
  | e => trH1 nm sc n e
def trAs : ExceptHandler → List ExceptHandler → Option (Nat × Nat × List Nat × E)
  | .ExceptHandler (some (.Name x _)) (some n) [.Return (some e) _] _, [] => if okN x = true ∧ glB sc x = true ∧ okN n = true ∧ sc.names.lookup n = some .local then (match nm.cs.lookup x, ixOf N n, trHT nm sc n e with
    | some j, some i, some (e', ms) => some (j, i, ms, e')
    | _, _, _ => none) else none
  | _, _ => none
def trTry (b : List St) (h : ExceptHandler) (hs : List ExceptHandler) : Option St := match trAs nm N sc h hs with
  | some (j, i, ms, e) => some (.trA b j i ms e)
  | none => (mapO (trHand nm sc) (h :: hs)).map (.tr b)
def trIxs : List Expr → Option (List Nat)
  | [] => some []
  | .Name x _ :: r => if storeB sc x then (match ixOf N x, trIxs r with
    | some i, some is => some (i :: is)
    | _, _ => none) else none
  | _ => none
def isTup : Expr → Bool
  | .Tuple .. => true
  | _ => false
def lineB : List Expr → Bool
  | [.Name _ p, .Name _ q] => q.line == p.line
  | _ => false
def trPar (ts : List Expr) (e : Expr) : Option St := match ts, e with
  | [.Name x px, .Name y py], .Tuple [a, b] _ _ =>
    if decide (x ≠ y) && (sc.names.lookup x == some .local && (sc.names.lookup y == some .local && (py.line == px.line && (okE a && (okE b && (!([a, b].all (foldedForSure 8)) && !([a, b].all (constantsAlone 8)))))))) then
      (match ixOf N x, ixOf N y, F false sc a, F false sc b with
      | some i, some j, some a', some b' => if i ≠ j then some (.par [i, j] [a', b']) else none
      | _, _, _, _ => none)
    else none
  | _, _ => none
/-- several names at once, the stores in the order that they stand in -/
def parName (sc : Scope) (line : Nat) : Expr → Option Str
  | .Name id pos => if sc.names.lookup id == some .local && pos.line == line then some id else none
  | _ => none
def plainPar (sc : Scope) (ts es : List Expr) : Bool := es.all (foldedForSure 8) || (!(ts.length == 2 || ts.length == 3) || (ts.filterMap (parName sc ((ts.head?.map (·.pos.line)).getD 0))).length != ts.length)
def trParN (ts : List Expr) (e : Expr) : Option St := match e with
  | .Tuple es _ _ => if plainPar sc ts es = true ∧ es.all okE = true ∧ es.length < 30 ∧ ts.length = es.length then (match trIxs N sc ts, mapO (F false sc) es with
    | some is, some es' => some (.par is es')
    | _, _ => none) else none
  | _ => none
def trAsg (t : Expr) (e : Expr) : Option St := match t with
  | .Name x _ => trSet N mu F sc x e
  | .Subscript ob ix _ => if okE ix then (match F false sc ob, F false sc ix, F false sc e with
    | some o, some i, some e => some (.sto o i e)
    | _, _, _ => none) else none
  | .Tuple ts _ _ => if isTup e then (match trParN N F sc ts e with
    | some st => some st
    | none => trPar N F sc ts e) else (match trIxs N sc ts, F false sc e with
    | some is, some e => some (.unp is e)
    | _, _ => none)
  | _ => none
def trRaise : Expr → Option St
  | .Call (.Name x _) [] [] _ => if okN x && glB sc x then (nm.cs.lookup x).map .raise else none
  | _ => none
def trSF : Stmt → Option St
  | .Assign [t] e _ => trAsg N mu F sc t e
  | .AugAssign (.Name x _) op e _ => if storeB sc x then (match ixOf N x, opM op, F false sc e with
    | some i, some .add, some e => some (.aug i .add e)
    | some i, some .sub, some e => some (.aug i .sub e)
    | _, _, _ => none) else none
  | .Expr e _ => if noSw e then (F false sc e).map .ex else none
  | .Return none _ => some (.ret none)
  | .Return (some e) _ => (F false sc e).map fun e => if decide (("return" : Str) ∈ mu) && fresh e then .ret (some (.cell e)) else .ret (some e)
  | .If d a b _ => match F true sc d, mapO g a, mapO g b with
    | some d, some a, some b => some (.ite d a b)
    | _, _, _ => none
  | .While d a [] _ => match F true sc d, mapO g a with
    | some d, some a => some (.wh d a)
    | _, _ => none
  | .For tg it a [] _ => if okE it then (match trTg N tg with
    | some (t, own) => if tgNames sc (fun _ => true) own then (match trIt nm F sc tg it, mapO g a with
      | some it', some a => some (.fo t it' a)
      | _, _ => none) else none
    | none => none) else none
  | .Pass _ => some .pass
  | .Break _ => some .brk
  | .Continue _ => some .cont
  | .Raise (some e) none _ => trRaise nm sc e
  | .Try b (h :: hs) [] [] _ => (mapO g b).bind fun b => trTry nm N sc b h hs
  | _ => none
end
def trS (nm : Nm) (N mu : List Str) (sc : Scope) : Nat → Stmt → Option St
  | 0 => fun _ => none
  | n + 1 => trSF nm N mu (tr nm N 60) (trS nm N mu sc n) sc

/-! ### it is right -/
section
variable {nm : Nm} {N mu : List Str} {cv : Nat → Value} {c : Cfg} {F : Bool → Scope → Expr → Option E} {g : Stmt → Option St} {sc : Scope} {X : Cx} {W : WX}
theorem storeB_of {x : Str} (h : storeB sc x = true) : Loc sc x := by
  unfold storeB at h
  split at h
  · exact .inl (by assumption)
  · exact .inr (by assumption)
  · cases h
theorem noSw_of {e : Expr} (h : noSw e = true) (t : Option Expr) (l : Nat) (env : PySem.Env) : swapsWith e t l env = pure false := by
  cases e <;> first | rfl | cases h
theorem swap_sub {e ob ix : Expr} {p : Pos} {l : Nat} {env : PySem.Env} : swapsWithSole [.Subscript ob ix p] e l env = pure false := by
  cases e <;> rfl
theorem swap_tup {e : Expr} {ts : List Expr} {k : Nat} {p : Pos} {l : Nat} {env : PySem.Env} : swapsWithSole [.Tuple ts k p] e l env = pure false := by
  cases e <;> rfl
theorem swapped_tup {e : Expr} {ts : List Expr} {k : Nat} {p : Pos} {env : PySem.Env} (h : isTup e = false) : swappedStores [.Tuple ts k p] e env = pure none := by
  cases e <;> first | rfl | cases h
theorem swap_lc {elt : Expr} {gs : List Comprehension} {csc : Scope} {vp xp : Pos} {x : Str} {l : Nat} (hk : X.env.scope.kind = .function) : swapsWith (.ListComp elt gs csc vp) (some (.Name x xp)) l X.env = pure (swB X.env.scope x xp csc vp) := by
  have hb : X.env.blockKind = .function := by
    unfold Env.blockKind
    rw [hk]
    rfl
  unfold swapsWith
  dsimp only
  rw [hb]
  rfl
def isStar : Expr → Bool
  | .Starred .. => true
  | _ => false
theorem okE_st {a : Expr} (h : okE a = true) : isStar a = false := by
  cases a <;> first | rfl | cases h
theorem swapped2 {x y : Str} {px py pt pt2 : Pos} {a b : Expr} {kt k2 : Nat} (hk : X.env.scope.kind = .function) (hx : X.env.scope.names.lookup x = some .local) (hy : X.env.scope.names.lookup y = some .local) (hl : (py.line == px.line) = true) (hxy : x ≠ y)
    (ha : okE a = true) (hb : okE b = true) (h1 : [a, b].all (foldedForSure 8) = false) (h2 : [a, b].all (constantsAlone 8) = false) : swappedStores [.Tuple [.Name x px, .Name y py] kt pt] (.Tuple [a, b] k2 pt2) X.env = pure (some [x, y]) := by
  have hbk : X.env.blockKind = .function := by
    unfold Env.blockKind
    rw [hk]
    rfl
  have kx : X.env.kindOf x = some .local := hx
  have ky : X.env.kindOf y = some .local := hy
  have ed : [x, y].eraseDups.length = 2 := by
    have : (y == x) = false := by simpa using fun e => hxy e.symm
    simp [List.eraseDups_cons, this]
  have hl' : py.line = px.line := eq_of_beq hl
  unfold swappedStores
  dsimp only
  refine (if_neg ?_).trans ((if_neg ?_).trans ((if_neg ?_).trans ((if_neg ?_).trans ((if_neg ?_).trans ?_))))
  · rw [hbk]
    simp
  · intro h
    have h : (isStar a || (isStar b || false)) = true := h
    rw [okE_st ha, okE_st hb] at h
    cases h
  · simp [List.filterMap_cons, List.filterMap_nil, Expr.pos, kx, ky, hl', ed]
  · rw [h1]
    decide
  · rw [h2]
    decide
  · simp [List.filterMap_cons, List.filterMap_nil, Expr.pos, kx, ky, hl']
theorem asg_len : ∀ (ts : List Expr) (env : PySem.Env), (assignEach ts env).length = ts.length
  | [], _ => rfl
  | t :: r, env => by cases t <;> simp [assignEach, asg_len r env]
theorem swapped_plain {ts es : List Expr} {pt pt2 : Pos} {kt k2 : Nat} {env : PySem.Env} (h : plainPar env.scope ts es = true) : swappedStores [.Tuple ts kt pt] (.Tuple es k2 pt2) env = pure none := by
  unfold plainPar at h
  have e : (fun e : Expr => match e with
    | .Name id pos => if env.kindOf id == some .local && pos.line == (ts.head?.map (·.pos.line)).getD 0 then some id else none
    | _ => none) = parName env.scope ((ts.head?.map (·.pos.line)).getD 0) := by
    funext e
    cases e <;> rfl
  unfold swappedStores
  dsimp only
  rw [Bool.or_eq_true, Bool.or_eq_true] at h
  split
  · rfl
  · rename_i h1
    split
    · rfl
    · split
      · rfl
      · rename_i h3
        rcases h with h | h | h
        · rw [if_pos h]
        · rw [h] at h1
          simp at h1
        · exfalso
          apply h3
          rw [Bool.or_eq_true]
          left
          have h4 : ((ts.filterMap (fun e : Expr => match e with
            | .Name id pos => if env.kindOf id == some .local && pos.line == (ts.head?.map (·.pos.line)).getD 0 then some id else none
            | _ => none)).length != ts.length) = true := by rw [e]; exact h
          exact h4
/-- one statement's soundness -/
def GoodS (nm : Nm) (N : List Str) (cv : Nat → Value) (c : Cfg) (g : Scope → Stmt → Option St) : Prop := ∀ (X : Cx) (W : WX), Ok2 nm N cv c X W → ∀ st st', g X.env.scope st = some st' → PS X st (tS X.K cv W c st')
theorem g_list (o : Ok2 nm N cv c X W) {g : Scope → Stmt → Option St} (G : GoodS nm N cv c g) : ∀ {sts : List Stmt} {sts' : List St}, mapO (g X.env.scope) sts = some sts' → PSs X sts (tSs X.K cv W c sts')
  | [], _, h => by simp only [mapO] at h; cases h; exact k_nil
  | s :: sts, sts', h => by
    obtain ⟨y, zs, h1, h2, rfl⟩ := mapO_cons h
    exact k_cons (G X W o s y h1) (g_list o G h2)
theorem g_set (G : Good nm N cv c F) (o : Ok2 nm N cv c X W) (hF : F = trF nm N f) (Gf : Good nm N cv c f) {x : Str} {xp pos : Pos} {e : Expr} {st' : St} (h : trSet N mu F X.env.scope x e = some st') : PS X (.Assign [.Name x xp] e pos) (tS X.K cv W c st') := by
  unfold trSet at h
  split at h
  · rename_i hc
    rw [Bool.and_eq_true] at hc
    obtain ⟨hc, hs⟩ := hc
    split at h
    · rename_i i e' h1 h2
      cases h
      obtain ⟨pf, pt⟩ := G.pe X W o.ok e e' h2
      have hi : X.N[i]? = some x := by rw [o.ok.names]; exact ixOf_get h1
      have plain : swapsWith e (some (.Name x xp)) pos.line X.env = pure false → PS X (.Assign [.Name x xp] e pos) (tS X.K cv W c (mkSet mu i x e')) := fun hw => by
        unfold mkSet
        split
        · rename_i hm
          rw [Bool.and_eq_true] at hm
          exact PS.imp (ps_set o.ok.nd hi (storeB_of hs) (pt hm.2) hw (.inl (o.fn x))) cell_read
        · exact PS.imp (ps_set o.ok.nd hi (storeB_of hs) pf hw (.inl (o.fn x))) set_read
      by_cases hn : noSw e = true
      · exact plain (noSw_of hn _ _ _)
      · have hl : isLC e = true := by
          cases q : noSw e with
          | true => exact absurd q hn
          | false => rw [q] at hc; exact hc
        cases e with
        | ListComp elt gs csc vp =>
          cases q : swB X.env.scope x xp csc vp with
          | false => exact plain (by rw [swap_lc o.kind, q])
          | true =>
            have hloc : X.env.scope.names.lookup x = some .local := by
              unfold swB at q
              rw [Bool.and_eq_true, Bool.and_eq_true] at q
              exact eq_of_beq q.1.1
            rw [hF] at h2
            obtain ⟨_, k2, k3⟩ := t_comp (pos := vp) Gf o.ok h2
            have p := k3 (py := xp) (spos := pos) hi hloc (by rw [swap_lc o.kind, q])
            unfold mkSet
            split
            · exact PS.imp p cell_read
            · exact PS.imp p fun D σ H q => toL_read D σ H (set_read D σ H q)
        | _ => cases hl
    · cases h
  · cases h
theorem g_ixs (o : Ok2 nm N cv c X W) : ∀ {ts : List Expr} {is : List Nat}, trIxs N X.env.scope ts = some is → PGs X ts (gNames is) ∧ (assignEach ts X.env).length = is.length ∧ (assignEach ts X.env).findIdx? (·.1) = none
  | [], is, h => by
    simp only [trIxs] at h
    cases h
    exact ⟨pgs_nil, rfl, rfl⟩
  | t :: ts, is, h => by
    cases t with
    | Name x p =>
      simp only [trIxs] at h
      split at h
      · rename_i hs
        split at h
        · rename_i i is' h1 h2
          cases h
          obtain ⟨k1, k2, k3⟩ := g_ixs o h2
          have e : assignEach (.Name x p :: ts) X.env = (false, assign (.Name x p) X.env) :: assignEach ts X.env := rfl
          refine ⟨pgs_cons (pg_name o.ok.nd (by rw [o.ok.names]; exact ixOf_get h1) (storeB_of hs) (.inl (o.fn x))) k1 (by rw [e]; rfl), by rw [e, List.length_cons, List.length_cons, k2], ?_⟩
          rw [e, List.findIdx?_cons, k3]
          rfl
        · cases h
      · cases h
    | _ => simp [trIxs] at h
theorem g_asg (G : Good nm N cv c F) (o : Ok2 nm N cv c X W) (hF : F = trF nm N f) (Gf : Good nm N cv c f) {t e : Expr} {pos : Pos} {st' : St} (h : trAsg N mu F X.env.scope t e = some st') : PS X (.Assign [t] e pos) (tS X.K cv W c st') := by
  cases t with
  | Name x p => exact g_set G o hF Gf h
  | Subscript ob ix p =>
    simp only [trAsg] at h
    split at h
    · rename_i hk
      split at h
      · rename_i eo ei ee h1 h2 h3
        cases h
        refine k_sto (G.pe X W o.ok ob eo h1).1 (G.pe X W o.ok ix ei h2).1 (G.pe X W o.ok e ee h3).1 (fun v => ?_) swap_sub rfl
        cases ix <;> first | rfl | cases hk
      · cases h
    · cases h
  | Tuple ts k p =>
    simp only [trAsg] at h
    split at h
    · split at h
      · rename_i st hpar
        cases h
        unfold trParN at hpar
        split at hpar
        · rename_i es k2 pt2 _
          split at hpar
          · rename_i hc
            obtain ⟨c1, c2, c3, c4⟩ := hc
            split at hpar
            · rename_i is es' h1 h2
              cases hpar
              obtain ⟨k1, kk2, k3⟩ := g_ixs o h1
              have hl : is.length = es.length := by
                rw [← kk2, ← c4, asg_len]
              exact k_parN (by omega) (pg_tup o.ok.calm k1 kk2 k3) (t_args G o.ok c2 h2) swap_tup (swapped_plain c1)
            · cases hpar
          · cases hpar
        · cases hpar
      unfold trPar at h
      split at h
      · rename_i x px y py a b k2 pt2
        split at h
        · rename_i hc
          simp only [Bool.and_eq_true, decide_eq_true_eq, beq_iff_eq, Bool.not_eq_true'] at hc
          obtain ⟨c1, c2, c3, c4, c5, c6, c7, c8⟩ := hc
          split at h
          · rename_i i j a' b' h1 h2 h3 h4
            split at h
            · rename_i hij
              cases h
              exact k_par2 o.ok.calm o.ok.nd (by rw [o.ok.names]; exact ixOf_get h1) (by rw [o.ok.names]; exact ixOf_get h2) hij c2 c3 (s_cons (G.pe X W o.ok _ a' h3).1 (s_cons (G.pe X W o.ok _ b' h4).1 s_nil (okE_star c6)) (okE_star c5)) (swapped2 o.kind c2 c3 (by simpa using c4) c1 c5 c6 c7 c8) rfl
            · cases h
          · cases h
        · cases h
      · cases h
    · rename_i ht
      split at h
      · rename_i is ee h1 h2
        cases h
        obtain ⟨k1, k2, k3⟩ := g_ixs o h1
        exact k_unp (pg_tup o.ok.calm k1 k2 k3) (G.pe X W o.ok e ee h2).1 swap_tup (swapped_tup (by simpa using ht))
      · cases h
  | _ => simp [trAsg] at h
theorem g_raise (o : Ok2 nm N cv c X W) {e : Expr} {pos : Pos} {st' : St} (h : trRaise nm X.env.scope e = some st') : PS X (.Raise (some e) none pos) (tS X.K cv W c st') := by
  unfold trRaise at h
  split at h
  · rename_i x p p2
    split at h
    · rename_i hc
      rw [Bool.and_eq_true] at hc
      cases q : nm.cs.lookup x with
      | none => rw [q] at h; cases h
      | some k =>
        rw [q] at h
        cases h
        obtain ⟨C, e1, e2, e3, e4, e5⟩ := o.cs x k q
        refine PS.imp (ps_raise o.ok.calm o.ok.tk (pmk_own0 PySem.F.excBase_ValueError e3 e2 e4 e5 (glB_of hc.2) (okN_d hc.1).1)) ?_
        rintro D σ H ⟨Z, env, ρ, s, w, re, p⟩
        simp only [evS] at p
        rw [← e1]
        exact p σ H ρ Ext.refl w re
    · cases h
  · cases h
def hTab (K : PySem.W.Frag) (cv : Nat → Value) (c : Cfg) (hs : List (Nat × E)) : List (Value × (Addr → Value → Option Addr → TS)) := hs.map fun p => (cv p.1, fun _ _ _ => tSs K cv (fun _ _ _ _ => False) c [.ret (some p.2)])
theorem c_args {Y : Cx} {W' : WX} : ∀ {es : List Expr} {ees : List E}, mapO trC1 es = some ees → PA Y es (tEs Y.K cv W' c ees)
  | [], ees, h => by simp only [mapO] at h; cases h; exact s_nil
  | e :: es, ees, h => by
    obtain ⟨y, zs, h1, h2, rfl⟩ := mapO_cons h
    cases e with
    | Constant k j p => exact s_cons (t_const h1).1 (c_args h2) rfl
    | _ => cases h1
theorem c_ct {Y : Cx} {W' : WX} {e : Expr} {e' : E} (h : trCT e = some e') : PE Y e (tE Y.K cv W' c false e') := by
  cases e with
  | Constant k j p => exact (t_const h).1
  | Tuple es k p =>
    simp only [trCT] at h
    cases q : mapO trC1 es with
    | none => rw [q] at h; cases h
    | some ees => rw [q] at h; cases h; exact s_tup (c_args q)
  | _ => cases h
theorem g_hands (o : Ok2 nm N cv c X W) : ∀ {hds : List ExceptHandler} {hs : List (Nat × E)}, mapO (trHand nm X.env.scope) hds = some hs → HdsOk X hds (hTab X.K cv c hs) ∧ ∀ p ∈ hs, ∃ x, nm.cs.lookup x = some p.1
  | [], hs, h => by
    simp only [mapO] at h
    cases h
    exact ⟨.nil, fun p hp => absurd hp (by simp)⟩
  | hd :: hds, hs, h => by
    obtain ⟨y, zs, h1, h2, rfl⟩ := mapO_cons h
    obtain ⟨r1, r2⟩ := g_hands o h2
    unfold trHand at h1
    split at h1
    · rename_i x np e p1 p2
      split at h1
      · rename_i hc
        rw [Bool.and_eq_true] at hc
        split at h1
        · rename_i j' e' q1 q2
          cases h1
          obtain ⟨C, e1, e2, _⟩ := o.cs x j' q1
          refine ⟨.cons ⟨glB_of hc.2, (okN_d hc.1).1, .inl (by rw [e1]; exact e2)⟩ (fun a oe cls d pn _ _ => ?_) r1, fun p hp => ?_⟩
          · exact k_cons (k_ret (c_ct q2)) k_nil
          · cases hp with
            | head => exact ⟨x, q1⟩
            | tail _ hp => exact r2 p hp
        · cases h1
      · cases h1
    · cases h1
theorem hand_read (o : Ok2 nm N cv c X W) {D : Ends} {k : Nat} {Z : Zs} {env : Env} {ρ : Rho} {s : S} {σ : L2.St} {H : Hp} (w : StOk X.K Z H ρ s) (re : RelE X.K Z H ρ s σ env) : ∀ {hs : List (Nat × E)}, (∀ p ∈ hs, ∃ x, nm.cs.lookup x = some p.1) →
    PostS X.K cv W Z H ρ s (match hand c.sub k hs with | some e => (noExc (evE c e env s)).st env fun x s3 => .ret x s3 | none => .exc k env s) D → wMany X.K W D (hTab X.K cv c hs) (cv k) none σ H
  | [], _, p => by
    simp only [hand] at p
    exact p σ H ρ Ext.refl w re
  | (j, e) :: hs, hm, p => by
    obtain ⟨x, hx⟩ := hm (j, e) List.mem_cons_self
    refine ⟨_, o.exm k x j hx, fun hb a ha => ?_, fun hb => ?_⟩
    · simp only [hand] at p
      rw [if_pos hb] at p
      dsimp only at p
      refine ⟨Z, env, ρ, s, w, re, ?_⟩
      simp only [evSs, evS]
      cases q : evE c e env s with
      | ok d s' => rw [q] at p; exact p
      | exc n s' => rw [q] at p; exact p.elim
      | stuck => rw [q] at p; exact p.elim
    · simp only [hand] at p
      rw [if_neg (by rw [hb]; decide)] at p
      exact hand_read o w re (fun p hp => hm p (List.mem_cons_of_mem _ hp)) p
theorem Ok2.tr (o : Ok2 nm N cv c X W) {W' : WX} {pn : List (Addr × Obj)} {xe : Value → Shared → Prop} (tk : Takes (X.tr pn xe) W') (po : PassesOwn (model X.prog X.w) X.A X.env xe) : Ok2 nm N cv c (X.tr pn xe) W' where
  ok := { names := o.ok.names, nd := o.ok.nd, calm := o.ok.calm, tk := tk, room := o.ok.room, sorted := o.ok.sorted, bl := o.ok.bl, gcs := o.ok.gcs, gcN := o.ok.gcN, fn := fun x k h => ⟨(o.ok.fn x k h).ex⟩ }
  kind := o.kind
  st := o.st
  fr := o.fr
  po := po
  fn := o.fn
  cs := o.cs
  exm := o.exm
  exi := o.exi
theorem g_try (o : Ok2 nm N cv c X W) {g : Scope → Stmt → Option St} (G : GoodS nm N cv c g) {b : List Stmt} {h : ExceptHandler} {hds : List ExceptHandler} {b' : List St} {hs : List (Nat × E)} {pos : Pos} (hb : mapO (g X.env.scope) b = some b') (hh : mapO (trHand nm X.env.scope) (h :: hds) = some hs) :
    PS X (.Try b (h :: hds) [] [] pos) (tS X.K cv W c (.tr b' hs)) := by
  obtain ⟨r1, r2⟩ := g_hands o hh
  refine PS.imp (ps_try_many o.st o.fr o.ok.tk (tb := fun W' => tSs X.K cv W' c b') (fun W' pn xe tk po => g_list (X := X.tr pn xe) (o.tr tk po) G hb) r1) ?_
  rintro D σ H ⟨Z, env, ρ, s, w, re, p⟩
  simp only [evS] at p
  refine ⟨Z, env, ρ, s, w, re, ?_⟩
  cases q : evSs c b' env s with
  | next env' s' => rw [q] at p; exact p
  | ret d s' => rw [q] at p; exact p
  | brk env' s' => rw [q] at p; exact p
  | cont env' s' => rw [q] at p; exact p
  | stuck => rw [q] at p; exact p
  | exc n env' s' =>
    rw [q] at p
    intro σ' H' ρ' e' w' re'
    exact hand_read o w' re' r2 (PostS.shift e' p)
/-! except x as n -/
def tPE (P : L2.St → Prop) (t : TE) : TE := fun σ H Q => P σ ∧ t σ H Q
def tPA (P : L2.St → Prop) (t : TA) : TA := fun σ H Q => P σ ∧ t σ H Q
theorem s_consP {Y : Cx} {W' : WX} {P : L2.St → Prop} {a : Expr} {es : List Expr} {d : D} {ees : List E} (ha : PE Y a (tPE P (tE Y.K cv W' c false (.cst d)))) (hb : PA Y es (tPA P (tEs Y.K cv W' c ees))) (hs : starEach (a :: es) Y.env = (false, eval a Y.env) :: starEach es Y.env) : PA Y (a :: es) (tPA P (tEs Y.K cv W' c (.cst d :: ees))) := by
  refine PA.imp (pa_cons ha hb hs) ?_
  rintro σ H Q ⟨hP, Z, env, ρ, s, w, re, p⟩
  simp only [evEs] at p
  refine ⟨hP, Z, env, ρ, s, w, re, PostG.mono (PostG.bind (rep := Rep Y.K Z) p) fun x H1 ⟨dx, s1, ρ1, e1, w1, r1, p1⟩ => ⟨hP, ?_⟩⟩
  refine ⟨Z, env, ρ1, s1, w1, re.ext w e1, PostG.mono (PostG.bind (rep := Reps Y.K Z) p1) fun xs H2 ⟨dxs, s2, ρ2, e2, w2, r2, p2⟩ => ?_⟩
  exact p2 _ H2 ρ2 Ext.refl w2 (.cons (r1.ext w1 e2) r2)
theorem s_tupP {Y : Cx} {W' : WX} {P : L2.St → Prop} {es : List Expr} {ees : List E} {k : Nat} {pos : Pos} (h : PA Y es (tPA P (tEs Y.K cv W' c ees))) : PE Y (.Tuple es k pos) (tPE P (tE Y.K cv W' c false (.tup ees))) := by
  refine PE.imp (pe_tup h) ?_
  rintro σ H Q ⟨hP, Z, env, ρ, s, w, re, p⟩
  simp only [evE] at p
  refine ⟨hP, Z, env, ρ, s, w, re, PostG.mono (PostD.bind (rep := Reps Y.K Z) p) fun xs H1 ⟨dxs, s1, ρ1, e1, w1, r1, p1⟩ => ?_⟩
  split at p1
  · rename_i hl
    exact ⟨by rw [r1.length]; exact lim_line hl, fun q hq => Out.tup w1 p1 r1 hq⟩
  · exact p1.elim
theorem kit_of {K : PySem.W.Frag} {cls c : Value} (h : PySem.W.exmOne K cls c = some true) : PySem.W.kitOne K cls c = some true := by
  unfold PySem.W.exmOne at h
  split at h
  · unfold PySem.W.kitOne
    split
    · rfl
    · exact h
  · cases h
section
variable {a : Addr} {oe : Obj} {pn : List (Addr × Obj)} {Dd : Addr} {n : Str} {i : Nat} {W' : WX}
/-- what is known of the exception that is noted in slot i -/
structure NotedE (nm : Nm) (cv : Nat → Value) (X : Cx) (a : Addr) (oe : Obj) (Dd : Addr) (i : Nat) (n : Str) : Prop where
  ec : ExcC X.K Dd
  hz : Zc (.ref Dd) none oe
  hf : ∃ vs, oe.data = .fields vs
  hN : X.N[i]? = some n
  hl : X.env.scope.names.lookup n = some .local
  hn : okN n = true
theorem p_h1 (o : Ok2 nm N cv c X W) (ne : NotedE nm cv X a oe Dd i n) {e : Expr} {e' : E} {ms : List Nat} (h : trH1 nm X.env.scope n e = some (e', ms)) (hm : ∀ m ∈ ms, PySem.W.kitOne X.K (.ref Dd) (cv m) = some true) :
    (∃ d, e' = .cst d) ∧ PE (X.suite a ((a, oe) :: pn)) e (tPE (fun σ => σ[i]? = some (some (.ref a))) (tE X.K cv W' c false e')) ∧ okE e = true := by
  unfold trH1 at h
  split at h
  · rename_i k j p
    cases q : trConst k with
    | none => rw [q] at h; cases h
    | some z =>
      rw [q] at h
      cases h
      refine ⟨?_, PE.imp (t_const (X := X.suite a ((a, oe) :: pn)) (cv := cv) (W := W') (c := c) q).1 fun σ H Q z => z.2, rfl⟩
      cases k <;> first | (cases q; exact ⟨_, rfl⟩) | cases q
  · rename_i z pz n' p1 y p2 p3
    split at h
    · rename_i hc
      obtain ⟨rfl, rfl, h1, h2, h3, h4⟩ := hc
      cases q : nm.cs.lookup y with
      | none => rw [q] at h; cases h
      | some m =>
        rw [q] at h
        cases h
        obtain ⟨C, e1, e2, _⟩ := o.cs y m q
        have hk := hm m (by simp)
        rw [e1] at hk
        refine ⟨⟨_, rfl⟩, ?_, rfl⟩
        have hv : Vis (X.suite a ((a, oe) :: pn)).env.scope n' := .inl ne.hl
        have pv : PE (X.suite a ((a, oe) :: pn)) (.Name n' p1) (tVar i) := pe_var (X := X.suite a ((a, oe) :: pn)) ne.hN hv (okN_d ne.hn).1 (okN_d ne.hn).2.1
        have pc : PE (X.suite a ((a, oe) :: pn)) (.Name y p2) (tC (.ref C)) := pe_glob (X := X.suite a ((a, oe) :: pn)) (glB_of h2) e2 rfl (okN_d h1).1
        refine PE.imp (pe_callB (call_isE (X := X) (pn := pn) ne.ec ne.hz ne.hf) (glB_of h3) (o.ok.bl _ h4) (by decide +kernel) (pa_cons pv (pa_cons pc pa_nil))) ?_
        rintro σ H Q ⟨hP, Z, env, ρ, s, w, re, p⟩
        simp only [evE] at p
        refine ⟨.ref a, hP, .ref C, .ref C, true, rfl, fun u r => r, hk, ?_⟩
        exact OutE.here w p (.bl true)
    · cases h
  · cases h
theorem p_hs (o : Ok2 nm N cv c X W) (ne : NotedE nm cv X a oe Dd i n) : ∀ {es : List Expr} {l : List (E × List Nat)}, mapO (trH1 nm X.env.scope n) es = some l → (∀ m ∈ l.flatMap (·.2), PySem.W.kitOne X.K (.ref Dd) (cv m) = some true) →
    PA (X.suite a ((a, oe) :: pn)) es (tPA (fun σ => σ[i]? = some (some (.ref a))) (tEs X.K cv W' c (l.map (·.1))))
  | [], l, h, _ => by
    simp only [mapO] at h
    cases h
    exact PA.imp (s_nil (X := X.suite a ((a, oe) :: pn)) (cv := cv) (W := W') (c := c)) fun σ H Q z => z.2
  | e :: es, l, h, hm => by
    obtain ⟨⟨e', ms⟩, zs, h1, h2, rfl⟩ := mapO_cons h
    rw [List.flatMap_cons] at hm
    obtain ⟨⟨d, rfl⟩, p1, p2⟩ := p_h1 (W' := W') (pn := pn) o ne h1 fun m h => hm m (List.mem_append_left _ h)
    exact s_consP p1 (p_hs o ne h2 fun m h => hm m (List.mem_append_right _ h)) (okE_star p2)
theorem p_ht (o : Ok2 nm N cv c X W) (ne : NotedE nm cv X a oe Dd i n) {e : Expr} {e' : E} {ms : List Nat} (h : trHT nm X.env.scope n e = some (e', ms)) (hm : ∀ m ∈ ms, PySem.W.kitOne X.K (.ref Dd) (cv m) = some true) :
    PE (X.suite a ((a, oe) :: pn)) e (tPE (fun σ => σ[i]? = some (some (.ref a))) (tE X.K cv W' c false e')) := by
  unfold trHT at h
  split at h
  · rename_i es k p
    cases q : mapO (trH1 nm X.env.scope n) es with
    | none => rw [q] at h; cases h
    | some l =>
      rw [q] at h
      cases h
      exact s_tupP (p_hs o ne q hm)
  · exact (p_h1 o ne h hm).2.1
end
theorem h1_named {n : Str} {e : Expr} {e' : E} {ms : List Nat} (h : trH1 nm sc n e = some (e', ms)) : ∀ m ∈ ms, ∃ y, nm.cs.lookup y = some m := by
  unfold trH1 at h
  split at h
  · rename_i k j p
    cases q : trConst k with
    | none => rw [q] at h; cases h
    | some z => rw [q] at h; cases h; intro m hm; cases hm
  · rename_i z pz n' p1 y p2 p3
    split at h
    · cases q : nm.cs.lookup y with
      | none => rw [q] at h; cases h
      | some m =>
        rw [q] at h
        cases h
        intro m' hm
        cases List.mem_singleton.mp hm
        exact ⟨y, q⟩
    · cases h
  · cases h
theorem ms_named {n : Str} {e : Expr} {e' : E} {ms : List Nat} (h : trHT nm sc n e = some (e', ms)) : ∀ m ∈ ms, ∃ y, nm.cs.lookup y = some m := by
  unfold trHT at h
  split at h
  · rename_i es k p
    cases q : mapO (trH1 nm sc n) es with
    | none => rw [q] at h; cases h
    | some l =>
      rw [q] at h
      cases h
      intro m hm
      obtain ⟨z, hz, hm⟩ := List.mem_flatMap.mp hm
      have go : ∀ {es : List Expr} {l : List (E × List Nat)}, mapO (trH1 nm sc n) es = some l → ∀ z ∈ l, ∀ m ∈ z.2, ∃ y, nm.cs.lookup y = some m := by
        intro es
        induction es with
        | nil => intro l h z hz; simp only [mapO] at h; cases h; cases hz
        | cons e es ih =>
          intro l h z hz m hm
          obtain ⟨y, zs, a1, a2, rfl⟩ := mapO_cons h
          rcases List.mem_cons.mp hz with rfl | hz
          · exact h1_named a1 m hm
          · exact ih a2 z hz m hm
      exact go q z hz m hm
  · exact h1_named h
theorem g_tryA (o : Ok2 nm N cv c X W) {g : Scope → Stmt → Option St} (G : GoodS nm N cv c g) {b : List Stmt} {h : ExceptHandler} {hds : List ExceptHandler} {b' : List St} {j i : Nat} {ms : List Nat} {e' : E} {pos : Pos} (hb : mapO (g X.env.scope) b = some b') (hh : trAs nm N X.env.scope h hds = some (j, i, ms, e')) :
    PS X (.Try b (h :: hds) [] [] pos) (tS X.K cv W c (.trA b' j i ms e')) := by
  unfold trAs at hh
  split at hh
  · rename_i x np n e p1 p2
    split at hh
    · rename_i hc
      obtain ⟨h1, h2, h3, h4⟩ := hc
      split at hh
      · rename_i j2 i2 e2 ms2 q1 q2 q3
        cases hh
        obtain ⟨C, c1, c2, _⟩ := o.cs x j q1
        have hi : X.N[i]? = some n := by rw [o.ok.names]; exact ixOf_get q2
        refine PS.imp (ps_try_as o.st o.fr o.ok.nd hi h4 (c := cv j) ⟨glB_of h2, (okN_d h1).1, .inl (by rw [c1]; exact c2)⟩ o.ok.tk (tb := fun W' => tSs X.K cv W' c b') (fun W' pn xe tk po => g_list (X := X.tr pn xe) (o.tr tk po) G hb)
          (ts := fun a cls d D σ H => ∃ Dd, cls = .ref Dd ∧ d = none ∧ ExcC X.K Dd ∧ (∀ m ∈ ms, PySem.W.kitOne X.K (.ref Dd) (cv m) = some true) ∧ tPE (fun σ => σ[i]? = some (some (.ref a))) (tE X.K cv (fun _ _ _ _ => False) c false e') σ H D.rt) (fun a oe cls d pn hz hf => ?_)) ?_
        · refine ⟨fun pins s σ H D I q => ?_⟩
          obtain ⟨Dd, rfl, rfl, ec, hm, q⟩ := q
          have ne : NotedE nm cv X a oe Dd i n := ⟨ec, hz, hf, hi, h4, h3⟩
          exact (pss_cons (ps_ret (p_ht (W' := fun _ _ _ _ => False) (pn := pn) o ne q3 hm)) pss_nil).run pins s σ H D I q
        · rintro D σ H ⟨Z, env, ρ, s, w, re, p⟩
          simp only [evS] at p
          refine ⟨Z, env, ρ, s, w, re, ?_⟩
          cases q : evSs c b' env s with
          | next env' s' => rw [q] at p; exact p
          | ret d s' => rw [q] at p; exact p
          | brk env' s' => rw [q] at p; exact p
          | cont env' s' => rw [q] at p; exact p
          | stuck => rw [q] at p; exact p
          | exc k env' s' =>
            rw [q] at p
            intro σ' H' ρ' e1 w' re'
            have p := PostS.shift e1 p
            refine ⟨_, o.exm k x j q1, fun hb a ha => ?_, fun hb => ?_⟩
            · dsimp only at p
              rw [if_pos hb] at p
              split at p
              · rename_i hcond
                obtain ⟨hlt, hall⟩ := hcond
                obtain ⟨Dd, d1, d2⟩ := o.exi k x j q1
                refine ⟨Dd, d1, rfl, d2, fun m hm => ?_, ?_, Z, [], ρ', s', w', ⟨Nat.zero_le _, fun j d h => ?_⟩, ?_⟩
                · rw [← d1]
                  refine kit_of ?_
                  obtain ⟨y, hy⟩ := ms_named q3 m hm
                  rw [o.exm k y m hy, List.all_eq_true.mp hall m hm]
                · show (List.set σ' i (some (V.ref a)))[i]? = some (some (V.ref a))
                  exact List.getElem?_set_self (Nat.lt_of_lt_of_le hlt re'.len)
                · simp [getV] at h
                · cases q5 : evE c e' [] s' with
                  | ok d s4 =>
                    rw [q5] at p
                    intro v H5 ρ5 e5 w5 r5
                    exact p v H5 ρ5 e5 w5 r5
                  | exc n s4 => rw [q5] at p; exact p.elim
                  | stuck => rw [q5] at p; exact p.elim
              · exact p.elim
            · dsimp only at p
              rw [if_neg (by rw [hb]; decide)] at p
              exact p σ' H' ρ' Ext.refl w' re'
      · cases hh
    · cases hh
  · cases hh
theorem g_all (Gf : Good nm N cv c f) {g : Scope → Stmt → Option St} (G : GoodS nm N cv c g) : GoodS nm N cv c (fun sc => trSF nm N mu (trF nm N f) (g sc) sc) := by
  have GF : Good nm N cv c (trF nm N f) := trF_good Gf
  intro X W o st st' h
  cases st with
  | Assign ts e pos =>
    cases ts with
    | nil => simp [trSF] at h
    | cons t ts =>
      cases ts with
      | nil => exact g_asg GF o rfl Gf h
      | cons _ _ => simp [trSF] at h
  | AugAssign t op e pos =>
    cases t with
    | Name x p =>
      simp only [trSF] at h
      split at h
      · rename_i hs
        have go : ∀ {i : Nat} {p : Op2} {e' : E}, (p = .add ∨ p = .sub) → ixOf N x = some i → opM op = some p → trF nm N f false X.env.scope e = some e' → PS X (.AugAssign (.Name x ‹_›) op e pos) (tS X.K cv W c (.aug i p e')) := fun {i p e'} hp h1 h2 h3 => by
          rw [opM_of h2]
          exact k_aug hp o.ok.nd (by rw [o.ok.names]; exact ixOf_get h1) (storeB_of hs) (GF.pe X W o.ok e e' h3).1 (.inl (o.fn x))
        split at h
        · rename_i i e' h1 h2 h3
          cases h
          exact go (.inl rfl) h1 h2 h3
        · rename_i i e' h1 h2 h3
          cases h
          exact go (.inr rfl) h1 h2 h3
        · cases h
      · cases h
    | _ => simp [trSF] at h
  | Expr e pos =>
    simp only [trSF] at h
    split at h
    · rename_i hn
      cases q : trF nm N f false X.env.scope e with
      | none => rw [q] at h; cases h
      | some e' =>
        rw [q] at h
        cases h
        exact k_ex (GF.pe X W o.ok e e' q).1 (noSw_of hn _ _ _)
    · cases h
  | Return e pos =>
    cases e with
    | none => simp only [trSF] at h; cases h; exact k_retN
    | some e =>
      simp only [trSF] at h
      cases q : trF nm N f false X.env.scope e with
      | none => rw [q] at h; cases h
      | some e' =>
        rw [q] at h
        cases h
        dsimp only
        split
        · rename_i hm
          rw [Bool.and_eq_true] at hm
          exact k_retC ((GF.pe X W o.ok e e' q).2 hm.2)
        · exact k_ret (GF.pe X W o.ok e e' q).1
  | If d a b pos =>
    simp only [trSF] at h
    split at h
    · rename_i d' a' b' h1 h2 h3
      cases h
      exact k_if (GF.pt X W o.ok d d' h1) (g_list o G h2) (g_list o G h3)
    · cases h
  | While d a el pos =>
    cases el with
    | cons _ _ => simp [trSF] at h
    | nil =>
      simp only [trSF] at h
      split at h
      · rename_i d' a' h1 h2
        cases h
        exact k_wh o.po (GF.pt X W o.ok d d' h1) (g_list o G h2)
      · cases h
  | For tg it a el pos =>
    cases el with
    | cons _ _ => simp [trSF] at h
    | nil =>
      simp only [trSF] at h
      split at h
      · rename_i hk
        split at h
        · rename_i t own ht
          split at h
          · rename_i hn
            split at h
            · rename_i it' a' h1 h2
              cases h
              exact k_fo o.po o.ok.calm (t_it GF o.ok hk h1) (t_pg o.ok.names o.ok.nd o.ok.calm ht (by rw [show X.fn = fun _ => true from funext o.fn]; exact hn)) (g_list o G h2) (okE_fold hk)
            · cases h
          · cases h
        · cases h
      · cases h
  | Pass pos => simp only [trSF] at h; cases h; exact k_pass
  | Break pos => simp only [trSF] at h; cases h; exact k_brk
  | Continue pos => simp only [trSF] at h; cases h; exact k_cont
  | Raise e cause pos =>
    cases e with
    | none => simp [trSF] at h
    | some e =>
      cases cause with
      | some _ => simp [trSF] at h
      | none => exact g_raise o h
  | Try b hds el fin pos =>
    cases hds with
    | nil => simp [trSF] at h
    | cons hd hds =>
      cases el with
      | cons _ _ => simp [trSF] at h
      | nil =>
        cases fin with
        | cons _ _ => simp [trSF] at h
        | nil =>
          simp only [trSF] at h
          cases q : mapO (g X.env.scope) b with
          | none => rw [q] at h; cases h
          | some b' =>
            rw [q] at h
            have h : trTry nm N X.env.scope b' hd hds = some st' := h
            unfold trTry at h
            split at h
            · rename_i j i ms e' h2
              cases h
              exact g_tryA o G q h2
            · cases r : mapO (trHand nm X.env.scope) (hd :: hds) with
              | none => rw [r] at h; cases h
              | some hs => rw [r] at h; cases h; exact g_try o G q r
  | _ => simp [trSF] at h
theorem trS_good : ∀ n, GoodS nm N cv c (fun sc => trS nm N mu sc n)
  | 0 => fun _ _ _ _ _ h => nomatch h
  | n + 1 => g_all (tr_good 59) (trS_good n)
end
end Ev

set_option Elab.async false
set_option linter.all false
set_option maxRecDepth 100000
/-! Ev10: a def keeps the evaluator's promise. -/
namespace Ev
open PySem PySem.Spec L2 PyProof.Rows
section
variable {K : PySem.W.Frag} {Z Z' : Zs} {H H1 H2 H' : Hp} {ρ ρ1 ρ2 ρ' : Rho} {s s1 s2 s' : S} {o : List (List Cel)} {c cur : List Cel}
theorem live_pop {a : Addr} (n : ¬ Live ρ ⟨c :: o, cur⟩ a) : ¬ Live ρ ⟨o, c⟩ a := fun ⟨d, k, x, e, z⟩ => n ⟨d, k, x, popS_get e, z⟩
theorem nz_pop (hz : ∀ a, Z' a → Z a ∨ Live ρ ⟨c :: o, cur⟩ a) {a : Addr} (n : ¬ Live ρ ⟨c :: o, cur⟩ a) (nz : ¬ Z a) : ¬ Z' a := fun h => (hz a h).elim nz n
mutual
theorem Rep.popz (hz : ∀ a, Z' a → Z a ∨ Live ρ ⟨c :: o, cur⟩ a) : ∀ {v : V} {d : D}, Rep K Z H ρ ⟨c :: o, cur⟩ v d → (d.shal (o.length + 1) = true ∨ cur = []) → Rep K Z' H ρ ⟨o, c⟩ v d
  | _, _, .non, _ => .non
  | _, _, .bl b, _ => .bl b
  | _, _, .int i, _ => .int i
  | _, _, .str y, _ => .str y
  | _, _, .tup h r, q => .tup h (Reps.popz hz r (by simp only [D.shal] at q; exact q))
  | _, _, .lst h n nz r, q => .lst h (live_pop n) (nz_pop hz n nz) (Reps.popz hz r (by simp only [D.shal] at q; exact q))
  | _, _, .fz h n nz, _ => .fz h (live_pop n) (nz_pop hz n nz)
  | _, _, .fzK h, _ => .fzK h
  | _, _, .dct h n nz r, q => .dct h (live_pop n) (nz_pop hz n nz) (Repk.popz hz r (by simp only [D.shal] at q; exact q))
  | _, _, .ref (d := d) (k := k) (c := x) h, q => .ref (c := x) (by
      have hd : d ≤ o.length := by
        rcases q with q | q
        · simp only [D.shal] at q
          have q := of_decide_eq_true q
          omega
        · have hd := S.get_dep h
          have hd : d ≤ o.length + 1 := hd
          by_cases e : d = o.length + 1
          · subst e
            subst q
            have g := S.get_top (c :: o) [] k
            rw [show (c :: o).length = o.length + 1 from rfl] at g
            rw [g] at h
            simp at h
          · omega
      rw [S.get_low hd] at h
      exact h)
theorem Reps.popz (hz : ∀ a, Z' a → Z a ∨ Live ρ ⟨c :: o, cur⟩ a) : ∀ {vs : List V} {ds : List D}, Reps K Z H ρ ⟨c :: o, cur⟩ vs ds → (shals (o.length + 1) ds = true ∨ cur = []) → Reps K Z' H ρ ⟨o, c⟩ vs ds
  | _, _, .nil, _ => .nil
  | _, _, .cons r t, q => .cons (Rep.popz hz r (q.imp (fun q => by simp only [shals, Bool.and_eq_true] at q; exact q.1) id)) (Reps.popz hz t (q.imp (fun q => by simp only [shals, Bool.and_eq_true] at q; exact q.2) id))
theorem Repk.popz (hz : ∀ a, Z' a → Z a ∨ Live ρ ⟨c :: o, cur⟩ a) : ∀ {ks : List (Key × V)} {es : List (Str × D)}, Repk K Z H ρ ⟨c :: o, cur⟩ ks es → (shalk (o.length + 1) es = true ∨ cur = []) → Repk K Z' H ρ ⟨o, c⟩ ks es
  | _, _, .nil, _ => .nil
  | _, _, .cons r t, q => .cons (Rep.popz hz r (q.imp (fun q => by simp only [shalk, Bool.and_eq_true] at q; exact q.1) id)) (Repk.popz hz t (q.imp (fun q => by simp only [shalk, Bool.and_eq_true] at q; exact q.2) id))
end
theorem StOk.popz (hz : ∀ a, Z' a → Z a ∨ Live ρ ⟨c :: o, cur⟩ a) (hn : ∀ a, Z' a → H a ≠ none ∧ ¬ Live ρ ⟨o, c⟩ a) (w : StOk K Z H ρ ⟨c :: o, cur⟩) : StOk K Z' H ρ ⟨o, c⟩ where
  cel := fun d k x h => by
    have q := w.cel d k x (popS_get h)
    have z := w.shal d k x (popS_get h)
    have hd := S.get_dep h
    have hd' : d ≤ o.length := hd
    cases x with
    | lst ds =>
      obtain ⟨vs, e, r⟩ := q
      exact ⟨vs, e, r.popz hz (.inl (shals_mono (by omega) z))⟩
    | dct es =>
      obtain ⟨vs, e, r⟩ := q
      exact ⟨vs, e, r.popz hz (.inl (shalk_mono (by omega) z))⟩
  inj := fun d1 k1 c1 d2 k2 c2 e1 e2 z => w.inj _ _ _ _ _ _ (popS_get e1) (popS_get e2) z
  shal := fun d k x h => w.shal d k x (popS_get h)
  zt := hn
/-- frozen -/
theorem mapO_some {α β : Type} {f : α → Option β} {x : α} {xs : List α} {ys : List β} (h : mapO f (x :: xs) = some ys) : ∃ y zs, f x = some y ∧ mapO f xs = some zs ∧ ys = y :: zs := mapO_cons h
theorem frz_rep (w : StOk K Z H ρ ⟨c :: o, cur⟩) : ∀ (n : Nat) {v : V} {d d' : D}, Rep K Z H ρ ⟨c :: o, cur⟩ v d → frzD cur (o.length + 1) n d = some d' → Rep K Z H ρ ⟨o, c⟩ v d'
  | 0, v, d, d', r, h => by
    cases r with
    | non => simp only [frzD] at h; cases h; exact .non
    | bl b => simp only [frzD] at h; cases h; exact .bl b
    | int i => simp only [frzD] at h; cases h; exact .int i
    | str x => simp only [frzD] at h; cases h; exact .str x
    | fz h1 h2 h3 => simp only [frzD] at h; cases h; exact .fz h1 (live_pop h2) h3
    | fzK h1 => simp only [frzD] at h; cases h; exact .fzK h1
    | _ => simp [frzD] at h
  | n + 1, v, d, d', r, h => by
    have list : ∀ {vs : List V} {ds ds' : List D}, Reps K Z H ρ ⟨c :: o, cur⟩ vs ds → mapO (frzD cur (o.length + 1) n) ds = some ds' → Reps K Z H ρ ⟨o, c⟩ vs ds' := by
      intro vs ds
      induction ds generalizing vs with
      | nil => intro ds' r h; cases r; simp only [mapO] at h; cases h; exact .nil
      | cons x xs ih =>
        intro ds' r h
        cases r with | cons r t =>
        obtain ⟨y, zs, h1, h2, rfl⟩ := mapO_cons h
        exact .cons (frz_rep w n r h1) (ih t h2)
    cases r with
    | non => simp only [frzD] at h; cases h; exact .non
    | bl b => simp only [frzD] at h; cases h; exact .bl b
    | int i => simp only [frzD] at h; cases h; exact .int i
    | str x => simp only [frzD] at h; cases h; exact .str x
    | fz h1 h2 h3 => simp only [frzD] at h; cases h; exact .fz h1 (live_pop h2) h3
    | fzK h1 => simp only [frzD] at h; cases h; exact .fzK h1
    | tup h1 r =>
      rename_i a vs ds
      simp only [frzD] at h
      cases q : mapO (frzD cur (o.length + 1) n) ds with
      | none => rw [q] at h; cases h
      | some ds' => rw [q] at h; cases h; exact .tup h1 (list r q)
    | lst h1 h2 h3 r =>
      rename_i a vs ds
      simp only [frzD] at h
      cases q : mapO (frzD cur (o.length + 1) n) ds with
      | none => rw [q] at h; cases h
      | some ds' => rw [q] at h; cases h; exact .lst h1 (live_pop h2) h3 (list r q)
    | dct h1 h2 h3 r => simp [frzD] at h
    | ref hg =>
      rename_i e k x
      simp only [frzD] at h
      split at h
      · rename_i hlt
        cases h
        exact .ref (c := x) (by rw [← S.get_low (cur := cur) (by omega)]; exact hg)
      · rename_i hge
        split at h
        · rename_i xs hx
          split at h
          · rename_i he
            subst he
            have g := S.get_top (c :: o) cur k
            rw [show (c :: o).length = o.length + 1 from rfl] at g
            obtain ⟨vs, hv, rs⟩ := w.cel _ _ _ (g.trans hx)
            cases q : mapO (frzD cur (o.length + 1) n) xs with
            | none => rw [q] at h; cases h
            | some ds' =>
              rw [q] at h
              cases h
              refine .lst hv (fun ⟨d1, k1, x1, e1, z1⟩ => ?_) (fun hz => (w.zt _ hz).2 ⟨_, _, _, g.trans hx, rfl⟩) (list rs q)
              have i1 := w.inj _ _ _ _ _ _ (popS_get e1) (g.trans hx) z1
              have i2 := S.get_dep e1
              have i2 : d1 ≤ o.length := i2
              omega
          · cases h
        · cases h
end

/-! ### a def is left -/
section
variable {K : PySem.W.Frag} {Z : Zs} {H : Hp} {ρ : Rho} {s : S} {cv : Nat → Value} {E : XK} {Q : VK}
theorem leave_post (keep : Bool) {r : RS} (p : PostG K cv (fun cls d _ H => E cls d H) Z H ρ s [] (Rep K Z) (leaveS s.out.length keep r) Q) :
    PostS K cv (fun cls d _ H => E cls d H) Z H ρ s.push r { nx := fun _ H' => Q .non H', rt := Q } := by
  have plain : ∀ {d : D} {o : List (List Cel)} {c cur : List Cel}, o.length = s.out.length → PostG K cv (fun cls d _ H => E cls d H) Z H ρ s [] (Rep K Z) (if cur = [] ∨ d.shal (o.length + 1) = true then R.ok d ⟨o, c⟩ else R.opt (frzD cur (o.length + 1) 20 d) ⟨o, c⟩) Q →
      ∀ v H' ρ', Ext H ρ s.push H' ρ' ⟨c :: o, cur⟩ → StOk K Z H' ρ' ⟨c :: o, cur⟩ → Rep K Z H' ρ' ⟨c :: o, cur⟩ v d → Q v H' := fun {d o c cur} hl p v H' ρ' e w r => by
    have e1 : Ext H ρ s H' ρ' ⟨o, c⟩ := e.pop hl.symm
    have w1 : StOk K Z H' ρ' ⟨o, c⟩ := w.pop
    split at p
    · rename_i hc
      exact p v H' ρ' e1 w1 (r.popz (fun a h => .inl h) hc.symm)
    · cases q : frzD cur (o.length + 1) 20 d with
      | none => rw [q] at p; exact p.elim
      | some d' => rw [q] at p; exact p v H' ρ' e1 w1 (frz_rep w 20 r q)
  cases r with
  | stuck => exact p
  | brk env s2 => simp only [leaveS] at p; exact p.elim
  | cont env s2 => simp only [leaveS] at p; exact p.elim
  | exc n env s2 =>
    simp only [leaveS] at p
    split at p
    · rename_i hl
      obtain ⟨o2, cur⟩ := s2
      cases o2 with
      | nil => cases hl
      | cons c o =>
        intro σ' H' ρ' e w re
        exact p H' ρ' (e.pop (by have hl : o.length + 1 = s.out.length + 1 := hl; show s.out.length = _; omega)) w.pop
    · exact p.elim
  | next env s2 =>
    simp only [leaveS] at p
    split at p
    · rename_i hl
      obtain ⟨o2, cur⟩ := s2
      cases o2 with
      | nil => cases hl
      | cons c o =>
        intro σ' H' ρ' e w re
        refine plain (by have hl : o.length + 1 = s.out.length + 1 := hl; omega) (d := .non) (cur := cur) ?_ .non H' ρ' e w .non
        simp only [leave] at p
        rw [if_neg (by decide)] at p
        exact p
    · exact p.elim
  | ret d s2 =>
    simp only [leaveS] at p
    split at p
    · rename_i hl
      obtain ⟨o2, cur⟩ := s2
      cases o2 with
      | nil => cases hl
      | cons c o =>
        have hlen : o.length = s.out.length := by have hl : o.length + 1 = s.out.length + 1 := hl; omega
        simp only [leave] at p
        cases keep with
        | false =>
          rw [if_neg (by decide)] at p
          exact plain hlen p
        | true =>
          rw [if_pos rfl] at p
          split at p
          · rename_i e' xs
            split at p
            · rename_i hc
              obtain ⟨he, hsh⟩ := hc
              have he : e' = o.length + 1 := he
              subst he
              intro v H' ρ' e w r
              cases r with
              | ref hg =>
                have g0 : (S.mk (c :: o) [.lst xs]).get (o.length + 1) 0 = some (.lst xs) := by
                  have g := S.get_top (c :: o) [.lst xs] 0
                  rw [show (c :: o).length = o.length + 1 from rfl] at g
                  rw [g]
                  rfl
                obtain ⟨vs, hv, rs⟩ := w.cel _ _ _ g0
                have hlow : ∀ d k x, (S.mk o c).get d k = some x → ρ' d k ≠ ρ' (o.length + 1) 0 := fun d k x h z => by
                  have i1 := w.inj _ _ _ _ _ _ (popS_get h) g0 z
                  have i2 := S.get_dep h
                  have i2 : d ≤ o.length := i2
                  omega
                have hzz : ∀ a, (Z.add (ρ' (o.length + 1) 0)) a → Z a ∨ Live ρ' ⟨c :: o, [.lst xs]⟩ a := fun a h => h.imp id fun q => ⟨_, _, _, g0, q.symm⟩
                have w1 : StOk K (Z.add (ρ' (o.length + 1) 0)) H' ρ' ⟨o, c⟩ := w.popz hzz fun a h => by
                  rcases h with h | h
                  · exact ⟨(w.zt a h).1, live_pop (w.zt a h).2⟩
                  · subst h
                    exact ⟨by rw [hv]; simp, fun ⟨d, k, x, e1, z1⟩ => hlow d k x e1 z1⟩
                have rs1 : Reps K (Z.add (ρ' (o.length + 1) 0)) H' ρ' ⟨o, c⟩ vs xs := rs.popz hzz (.inl hsh)
                have hn : H (ρ' (o.length + 1) 0) = none := by
                  cases q : H (ρ' (o.length + 1) 0) with
                  | none => rfl
                  | some u =>
                    by_cases l : Live ρ s.push (ρ' (o.length + 1) 0)
                    · obtain ⟨d, k, x, e1, z1⟩ := l
                      obtain ⟨⟨y, h1⟩, h2⟩ := e.refs d k x e1
                      have i1 := w.inj _ _ _ _ _ _ h1 g0 (h2.trans z1)
                      rw [S.get_push] at e1
                      have i2 := S.get_dep e1
                      have i2 : d ≤ s.out.length := i2
                      omega
                    · exact absurd ⟨_, _, _, g0, rfl⟩ (e.keep _ _ q l).2
                have e1 : Ext H ρ s H' ρ' ⟨o, c⟩ := e.pop hlen.symm
                have e2 := Ext.snoc' (c := .lst xs) e1 hn
                have w2 := w1.snocL (Z' := Z) (.inr rfl) hv rs1 (fun a h => ⟨.inl h, fun q => (w.zt a h).2 (by rw [q]; exact ⟨_, _, _, g0, rfl⟩)⟩)
                have p2 := p (.ref (ρ' (o.length + 1) 0)) H' _ e2 w2
                refine p2 ?_
                have e0 : ρ' (o.length + 1) 0 = (Rho.put ρ' (S.mk o c).dep (S.mk o c).cur.length (ρ' (o.length + 1) 0)) o.length c.length := by unfold Rho.put; rw [if_pos ⟨rfl, rfl⟩]
                have r2 : Rep K Z H' (Rho.put ρ' (S.mk o c).dep (S.mk o c).cur.length (ρ' (o.length + 1) 0)) ((S.mk o c).snoc (.lst xs)) (.ref ((Rho.put ρ' (S.mk o c).dep (S.mk o c).cur.length (ρ' (o.length + 1) 0)) o.length c.length)) (.ref o.length c.length) := .ref (c := .lst xs) (by rw [S.get_snoc, if_pos ⟨rfl, rfl⟩])
                rw [← e0] at r2
                exact r2
            · exact p.elim
          · exact p.elim
    · exact p.elim
end
end Ev

set_option Elab.async false
set_option linter.all false
set_option maxRecDepth 100000
/-! Ev11: all defs of a text keep the evaluator's promise. -/
namespace Ev
open PySem PySem.Spec L2 PyProof.Rows
/-- a def of the text, and what stands for it -/
structure DefI where
  name : Str
  params : Arguments
  body : List Stmt
  scope : Scope
  N : List Str
  ps : List Str
  mu : List Str
  keep : Bool
  sts : List St
def DefI.df (d : DefI) : Def := ⟨d.ps.length, d.N.length, d.keep, d.sts⟩
structure DefI.Good (nm : Nm) (d : DefI) : Prop where
  tr : mapO (trS nm d.N d.mu d.scope 40) d.body = some d.sts
  sc : FnScope d.N d.ps d.scope
  binds : ∀ (kV doc pm : Value) (an : Option Addr) (cdv ct : Value) (us : List Value), us.length = d.ps.length → bindArgs (PySem.W.fnOf d.name d.name d.params d.body d.scope .none kV doc pm an cdv ct) ⟨us, []⟩ = pure (d.ps.zip us)
structure TabOk (T : Text) (nm : Nm) (ds : List (Nat × DefI)) (cv : Nat → Value) (K : PySem.W.Frag) (mg : Str → Option Value) : Prop where
  sorted : SortedOk
  bl : ∀ x, x ∈ nm.bs → mg x = none
  gcs : ∀ x g d, nm.gs.lookup x = some g → T.gc g = some d → ∃ v u, mg x = some u ∧ RelV v u ∧ ∀ Z H ρ s, Rep K Z H ρ s v d
  gcN : ∀ x g, nm.gs.lookup x = some g → ∃ d, T.gc g = some d
  cs : ∀ x k, nm.cs.lookup x = some k → ∃ C, cv k = .ref C ∧ mg x = some (.ref C) ∧ PySem.W.excIn K C veB "ValueError.__new__" = true ∧ PySem.W.keepIn K (.ref C) = true ∧ PySem.W.subIn K (.ref C) (.type "BaseException") = some true ∧ PySem.W.typeIn K (.ref C) = some (.type "type")
  exm : ∀ j x k, nm.cs.lookup x = some k → PySem.W.exmOne K (cv j) (cv k) = some (T.sub j k)
  exi : ∀ j x k, nm.cs.lookup x = some k → ∃ D, cv j = .ref D ∧ ExcC K D
  tdef : ∀ k, T.defs k = (ds.lookup k).map DefI.df
  fs : ∀ x k, nm.fs.lookup x = some k → ∃ d : DefI, ds.lookup k = some d ∧ d.name = x
  fun_ : ∀ (k : Nat) (d : DefI), ds.lookup k = some d → ∃ f fd, FunD K d.name d.name d.params d.body d.scope [] [] f fd ∧ mg d.name = some (.ref f)
  good : ∀ (k : Nat) (d : DefI), ds.lookup k = some d → d.Good nm
section
variable {T : Text} {nm : Nm} {ds : List (Nat × DefI)} {cv : Nat → Value} {P : Program} {w : World} {K : PySem.W.Frag} {mg : Str → Option Value} {base : Heap}
theorem getV_start {n : Nat} {xs : List D} {i : Nat} {d : D} (h : getV (startE n xs) i = some d) : xs[i]? = some d := by
  unfold getV startE at h
  by_cases hi : i < xs.length
  · rw [List.getElem?_append_left (by rw [List.length_map]; exact hi), List.getElem?_map] at h
    rw [List.getElem?_eq_getElem hi] at h ⊢
    exact h
  · rw [List.getElem?_append_right (by rw [List.length_map]; omega), List.getElem?_replicate] at h
    split at h <;> cases h
theorem Reps.getD {Z : Zs} {H : Hp} {ρ : Rho} {s : S} : ∀ {vs : List V} {ds : List D} {i : Nat} {d : D}, Reps K Z H ρ s vs ds → ds[i]? = some d → ∃ v, vs[i]? = some v ∧ Rep K Z H ρ s v d
  | _, _, 0, _, .cons (v := v) r t, h => by
    simp at h
    subst h
    exact ⟨v, rfl, r⟩
  | _, _, i + 1, _, .cons r t, h => by
    simp at h
    obtain ⟨v, h1, h2⟩ := Reps.getD t h
    exact ⟨v, by simpa using h1, h2⟩
  | _, _, _, _, .nil, h => by simp at h
theorem rel_start {Z : Zs} {H : Hp} {ρ : Rho} {s : S} {N : List Str} {vs : List V} {xs : List D} (r : Reps K Z H ρ s vs xs) : RelE K Z H ρ s (start N vs) (startE N.length xs) := by
  have hl := r.length
  refine ⟨?_, fun i d h => ?_⟩
  · unfold L2.start startE
    rw [List.length_append, List.length_append, List.length_map, List.length_map, List.length_replicate, List.length_replicate, hl]
    exact Nat.le_refl _
  · obtain ⟨v, h1, h2⟩ := r.getD (getV_start h)
    refine ⟨v, ?_, h2⟩
    unfold L2.start
    have hi : i < vs.length := by
      rcases Nat.lt_or_ge i vs.length with q | q
      · exact q
      · rw [List.getElem?_eq_none q] at h1; cases h1
    rw [List.getElem?_append_left (by rw [List.length_map]; exact hi), List.getElem?_map, h1]
    rfl
theorem StOk.push1 {Z : Zs} {H : Hp} {ρ : Rho} {s : S} (w : StOk K Z H ρ s) : StOk K Z H ρ ⟨s.cur :: s.out, []⟩ := w.push
theorem run_len {n f : Nat} {d : DefI} (t : TabOk T nm ds cv K mg) (hd : ds.lookup f = some d) {xs : List D} {s : S} (h : xs.length ≠ d.ps.length) : run T n f xs s = .stuck := by
  cases n with
  | zero => rfl
  | succ n =>
    simp only [run]
    rw [t.tdef, hd]
    show (if xs.length = d.ps.length then _ else _) = _
    rw [if_neg h]
theorem all_ok (t : TabOk T nm ds cv K mg) : ∀ (n : Nat) (k : Nat) (d : DefI) (f : Addr) (fd : FuncData), ds.lookup k = some d → FunD K d.name d.name d.params d.body d.scope [] [] f fd →
    FnOk P w K mg base (L2.CX P w) n f fd d.ps (spOf K cv d.ps.length (run T n k))
  | 0, k, d, f, fd, hd, F => by
    refine ⟨fun vs H Q E h => h.1, fun A outer s H args us vs Q E hr he hb hv hs => ?_⟩
    obtain ⟨_, Z, ρ, s0, ds0, _, _, p⟩ := hs
    exact p.elim
  | n + 1, k, d, f, fd, hd, F => by
    have G := t.good k d hd
    refine FunD.ok F G.sc (fun vs H Q E h => h.1) (fun cdv A outer s H vs Q E hr h => ?_)
    obtain ⟨hl, Z, ρ, s0, xs, ws, rs, p⟩ := h
    have hxs : xs.length = d.ps.length := by rw [← rs.length]; exact hl
    simp only [run] at p
    rw [t.tdef, hd] at p
    simp only [Option.map_some, DefI.df] at p
    rw [if_pos hxs] at p
    have tk : Takes (cxOf (L2.CX P w) P w K mg base d.N d.name d.scope f cdv A outer s H E) (fun cls d _ H => E cls d H) := takes_of rfl rfl rfl rfl
    have o : Ok2 nm d.N cv ⟨T.gc, run T n, T.sub⟩ (cxOf (L2.CX P w) P w K mg base d.N d.name d.scope f cdv A outer s H E) (fun cls d _ H => E cls d H) :=
      { ok := { names := rfl, nd := G.sc.nd, calm := rfl, tk := tk, room := (by have := hr.un; show (A.deeper _).units + 100 < _; omega), sorted := t.sorted, bl := t.bl, gcs := t.gcs, gcN := t.gcN,
                fn := fun x j hj => by
                  obtain ⟨d2, hd2, e2⟩ := t.fs x j hj
                  obtain ⟨f2, fd2, F2, m2⟩ := t.fun_ j d2 hd2
                  refine ⟨f2, fd2, d2.ps, n, ?_, F2.kp, F2.bindsN (t.good j d2 hd2).binds, all_ok t n j d2 f2 fd2 hd2 F2, hr, fun xs s h => run_len t hd2 h⟩
                  rw [← e2]
                  exact m2 }
        kind := G.sc.kind, st := rfl, fr := rfl, po := passes_of rfl, fn := fun _ => rfl,
        cs := fun x j hj => by
          obtain ⟨C, a1, a2, a3, a4, a5, a6⟩ := t.cs x j hj
          exact ⟨C, a1, a2, a3, a4, raises_own a5 a6⟩
        exm := t.exm, exi := t.exi }
    refine ⟨_, g_list o (trS_good (mu := d.mu) 40) G.tr, Z, startE d.N.length xs, ρ, s0.push, ws.push, rel_start ?_, leave_post d.keep p⟩
    exact rs.mono ws Ext.push zsame
end
end Ev

set_option Elab.async false
set_option linter.all false
set_option maxRecDepth 100000
/-! Ev12: sorted. -/
namespace Ev
open PySem PySem.Spec L2 PyProof.Rows
/-! ### the order of trees -/
mutual
def enc : D → List Int
  | .int i => [0, i]
  | .tup xs => 1 :: encs xs
  | _ => []
def encs : List D → List Int
  | [] => [-1]
  | x :: xs => enc x ++ encs xs
end
def lx : List Int → List Int → Bool
  | [], [] => false
  | [], _ :: _ => true
  | _ :: _, [] => false
  | x :: xs, y :: ys => if x = y then lx xs ys else decide (x < y)
theorem lx_asym : ∀ xs ys : List Int, lx xs ys = true → lx ys xs = false
  | [], [], h => rfl
  | [], _ :: _, h => rfl
  | _ :: _, [], h => by simp [lx] at h
  | x :: xs, y :: ys, h => by
    simp only [lx] at h ⊢
    by_cases e : x = y
    · rw [if_pos e] at h
      rw [if_pos e.symm]
      exact lx_asym xs ys h
    · rw [if_neg e] at h
      rw [if_neg (fun q => e q.symm)]
      have h := of_decide_eq_true h
      exact decide_eq_false (by omega)
theorem lx_tr : ∀ xs ys zs : List Int, lx ys xs = false → lx zs ys = false → lx zs xs = false
  | xs, ys, [], h1, h2 => by
    cases xs with
    | nil => rfl
    | cons x xs =>
      cases ys with
      | nil => simp [lx] at h1
      | cons y ys => simp [lx] at h2
  | [], ys, z :: zs, h1, h2 => rfl
  | x :: xs, [], z :: zs, h1, h2 => by simp [lx] at h1
  | x :: xs, y :: ys, z :: zs, h1, h2 => by
    simp only [lx] at h1 h2 ⊢
    by_cases e1 : y = x
    · subst e1
      rw [if_pos rfl] at h1
      by_cases e2 : z = y
      · subst e2
        rw [if_pos rfl] at h2 ⊢
        exact lx_tr xs ys zs h1 h2
      · rw [if_neg e2] at h2 ⊢
        exact h2
    · rw [if_neg e1] at h1
      have h1 := of_decide_eq_false h1
      by_cases e2 : z = y
      · subst e2
        rw [if_neg e1]
        exact decide_eq_false h1
      · rw [if_neg e2] at h2
        have h2 := of_decide_eq_false h2
        rw [if_neg (by omega)]
        exact decide_eq_false (by omega)
theorem lx_app : ∀ (p a b : List Int), lx (p ++ a) (p ++ b) = lx a b
  | [], _, _ => rfl
  | x :: p, a, b => by
    show (if x = x then lx (p ++ a) (p ++ b) else _) = _
    rw [if_pos rfl, lx_app p a b]
mutual
theorem eqv_eq : ∀ {x y : D}, x.itree = true → y.itree = true → x.eqv y = true → x = y
  | .int i, .int j, _, _, h => by simp only [D.eqv] at h; rw [eq_of_beq h]
  | .int i, .tup ys, _, _, h => by simp [D.eqv] at h
  | .tup xs, .int j, _, _, h => by simp [D.eqv] at h
  | .tup xs, .tup ys, h1, h2, h => by
    simp only [D.eqv] at h
    simp only [D.itree] at h1 h2
    rw [eqvs_eq h1 h2 h]
  | .non, _, h, _, _ => by simp [D.itree] at h
  | .bl _, _, h, _, _ => by simp [D.itree] at h
  | .str _, _, h, _, _ => by simp [D.itree] at h
  | .lst _, _, h, _, _ => by simp [D.itree] at h
  | .fz _, _, h, _, _ => by simp [D.itree] at h
  | .dct _, _, h, _, _ => by simp [D.itree] at h
  | .ref _ _, _, h, _, _ => by simp [D.itree] at h
  | _, .non, _, h, _ => by simp [D.itree] at h
  | _, .bl _, _, h, _ => by simp [D.itree] at h
  | _, .str _, _, h, _ => by simp [D.itree] at h
  | _, .lst _, _, h, _ => by simp [D.itree] at h
  | _, .fz _, _, h, _ => by simp [D.itree] at h
  | _, .dct _, _, h, _ => by simp [D.itree] at h
  | _, .ref _ _, _, h, _ => by simp [D.itree] at h
theorem eqvs_eq : ∀ {xs ys : List D}, itrees xs = true → itrees ys = true → eqvs xs ys = true → xs = ys
  | [], [], _, _, _ => rfl
  | [], _ :: _, _, _, h => by simp [eqvs] at h
  | _ :: _, [], _, _, h => by simp [eqvs] at h
  | x :: xs, y :: ys, h1, h2, h => by
    simp only [eqvs, Bool.and_eq_true] at h
    simp only [itrees, Bool.and_eq_true] at h1 h2
    rw [eqv_eq h1.1 h2.1 h.1, eqvs_eq h1.2 h2.2 h.2]
end
theorem itree_cases {x : D} (h : x.itree = true) : (∃ i, x = .int i) ∨ ∃ xs, x = .tup xs ∧ itrees xs = true := by
  cases x with
  | int i => exact .inl ⟨i, rfl⟩
  | tup xs => exact .inr ⟨xs, rfl, by simpa [D.itree] using h⟩
  | _ => simp [D.itree] at h
theorem enc_head {x : D} (h : x.itree = true) : ∃ a r, enc x = a :: r ∧ -1 < a := by
  rcases itree_cases h with ⟨i, rfl⟩ | ⟨xs, rfl, _⟩
  · exact ⟨0, _, rfl, by decide⟩
  · exact ⟨1, _, rfl, by decide⟩
mutual
theorem lt_enc : ∀ {x y : D} {b : Bool} (r r' : List Int), x.itree = true → y.itree = true → x.lt y = some b → x.eqv y = false → lx (enc x ++ r) (enc y ++ r') = b
  | .int i, .int j, b, r, r', _, _, h, e => by
    simp only [D.lt] at h
    cases h
    simp only [D.eqv] at e
    have e : i ≠ j := fun q => by rw [q] at e; simp at e
    show (if (0 : Int) = 0 then (if i = j then lx r r' else decide (i < j)) else decide ((0 : Int) < 0)) = _
    rw [if_pos rfl, if_neg e]
  | .tup xs, .tup ys, b, r, r', h1, h2, h, e => by
    simp only [D.lt] at h
    simp only [D.eqv] at e
    simp only [D.itree] at h1 h2
    simp only [enc, List.cons_append, lx, if_pos rfl]
    exact lts_enc r r' h1 h2 h e
  | .int i, .tup ys, b, r, r', _, _, h, _ => by simp [D.lt] at h
  | .tup ys, .int i, b, r, r', _, _, h, _ => by simp [D.lt] at h
  | .non, _, _, _, _, h, _, _, _ => by simp [D.itree] at h
  | .bl _, _, _, _, _, h, _, _, _ => by simp [D.itree] at h
  | .str _, _, _, _, _, h, _, _, _ => by simp [D.itree] at h
  | .lst _, _, _, _, _, h, _, _, _ => by simp [D.itree] at h
  | .fz _, _, _, _, _, h, _, _, _ => by simp [D.itree] at h
  | .dct _, _, _, _, _, h, _, _, _ => by simp [D.itree] at h
  | .ref _ _, _, _, _, _, h, _, _, _ => by simp [D.itree] at h
  | _, .non, _, _, _, _, h, _, _ => by simp [D.itree] at h
  | _, .bl _, _, _, _, _, h, _, _ => by simp [D.itree] at h
  | _, .str _, _, _, _, _, h, _, _ => by simp [D.itree] at h
  | _, .lst _, _, _, _, _, h, _, _ => by simp [D.itree] at h
  | _, .fz _, _, _, _, _, h, _, _ => by simp [D.itree] at h
  | _, .dct _, _, _, _, _, h, _, _ => by simp [D.itree] at h
  | _, .ref _ _, _, _, _, _, h, _, _ => by simp [D.itree] at h
theorem lts_enc : ∀ {xs ys : List D} {b : Bool} (r r' : List Int), itrees xs = true → itrees ys = true → lts xs ys = some b → eqvs xs ys = false → lx (encs xs ++ r) (encs ys ++ r') = b
  | [], [], _, _, _, _, _, _, e => by simp [eqvs] at e
  | [], y :: ys, b, r, r', _, h2, h, _ => by
    simp only [lts] at h
    cases h
    simp only [itrees, Bool.and_eq_true] at h2
    obtain ⟨a, q, e1, e2⟩ := enc_head h2.1
    simp only [encs, e1, List.cons_append, lx]
    rw [if_neg (by omega)]
    exact decide_eq_true e2
  | x :: xs, [], b, r, r', h1, _, h, _ => by
    simp only [lts] at h
    cases h
    simp only [itrees, Bool.and_eq_true] at h1
    obtain ⟨a, q, e1, e2⟩ := enc_head h1.1
    simp only [encs, e1, List.cons_append, lx]
    rw [if_neg (by omega)]
    exact decide_eq_false (by omega)
  | x :: xs, y :: ys, b, r, r', h1, h2, h, e => by
    simp only [itrees, Bool.and_eq_true] at h1 h2
    simp only [lts] at h
    simp only [encs, List.append_assoc]
    split at h
    · cases h
    · rename_i b' hb
      split at h
      · rename_i q
        cases h
        have e0 := eqv_eq h1.1 h2.1 q
        subst e0
        rw [lx_app]
        simp only [eqvs, q, Bool.true_and] at e
        exact lts_enc r r' h1.2 h2.2 hb e
      · rename_i q
        exact lt_enc _ _ h1.1 h2.1 h (by simpa using q)
end
theorem lts_self : ∀ {xs : List D} {b : Bool}, itrees xs = true → lts xs xs = some b → eqvs xs xs = true → b = false
  | [], b, _, h, _ => by simp only [lts] at h; cases h; rfl
  | x :: xs, b, h1, h, e => by
    simp only [itrees, Bool.and_eq_true] at h1
    simp only [eqvs, Bool.and_eq_true] at e
    simp only [lts] at h
    split at h
    · cases h
    · rename_i b' hb
      rw [if_pos e.1] at h
      cases h
      exact lts_self h1.2 hb e.2
theorem lt_lx {x y : D} {b : Bool} (h1 : x.itree = true) (h2 : y.itree = true) (h : x.lt y = some b) : lx (enc x) (enc y) = b := by
  cases e : x.eqv y with
  | false =>
    have q := lt_enc [] [] h1 h2 h e
    rw [List.append_nil, List.append_nil] at q
    exact q
  | true =>
    have e0 := eqv_eq h1 h2 e
    subst e0
    have z := lx_app (enc x) [] []
    rw [List.append_nil] at z
    rw [z]
    rcases itree_cases h1 with ⟨i, rfl⟩ | ⟨xs, rfl, hx⟩
    · simp only [D.lt] at h
      cases h
      exact (decide_eq_false (Int.lt_irrefl i)).symm
    · simp only [D.lt] at h
      simp only [D.eqv] at e
      exact (lts_self hx h e).symm
/-! ### the sorted list -/
def lxe (x y : D) : Bool := lx (enc x) (enc y)
theorem lxe_swo : SrtO.Swo lxe := ⟨fun x y h => lx_asym _ _ h, fun x y z h1 h2 => lx_tr _ _ _ h1 h2⟩
def insE (x : D) : List D → List D
  | [] => [x]
  | y :: ys => if lxe y x = true then y :: insE x ys else x :: y :: ys
def isortE : List D → List D
  | [] => []
  | x :: xs => insE x (isortE xs)
theorem ins_perm (x : D) : ∀ l : List D, (insE x l).Perm (x :: l)
  | [] => List.Perm.refl _
  | y :: ys => by
    unfold insE
    split
    · exact ((ins_perm x ys).cons y).trans (List.Perm.swap x y ys)
    · exact List.Perm.refl _
theorem isort_perm : ∀ l : List D, (isortE l).Perm l
  | [] => List.Perm.refl _
  | x :: xs => (ins_perm x _).trans ((isort_perm xs).cons x)
theorem ins_srt (x : D) : ∀ {l : List D}, SrtO.Srtd lxe l → SrtO.Srtd lxe (insE x l)
  | [], _ => SrtO.srtd_one x
  | y :: ys, h => by
    obtain ⟨h1, h2⟩ := List.pairwise_cons.mp h
    unfold insE
    split
    · rename_i q
      refine List.pairwise_cons.mpr ⟨fun z hz => ?_, ins_srt x h2⟩
      rcases List.mem_cons.mp ((ins_perm x ys).mem_iff.mp hz) with e | hz
      · rw [e]; exact lxe_swo.asym _ _ q
      · exact h1 z hz
    · rename_i q
      have q : lxe y x = false := by simpa using q
      refine List.pairwise_cons.mpr ⟨fun z hz => ?_, h⟩
      rcases List.mem_cons.mp hz with e | hz
      · rw [e]; exact q
      · exact lxe_swo.tr _ _ _ q (h1 z hz)
theorem ins_stab (x : D) : ∀ l : List D, SrtO.Stb lxe (insE x l) (x :: l)
  | [] => SrtO.Stb.refl _
  | y :: ys => by
    unfold insE
    split
    · rename_i q
      have a := SrtO.Stb.app (SrtO.Stb.refl (lt := lxe) [y]) (ins_stab x ys)
      have b := SrtO.Stb.app (SrtO.Stb.swap lxe_swo (A := [y]) (B := [x]) (fun a ha b hb => by
        cases List.mem_singleton.mp ha
        cases List.mem_singleton.mp hb
        exact q)) (SrtO.Stb.refl ys)
      exact a.trans b
    · exact SrtO.Stb.refl _
theorem isort_srt : ∀ l : List D, SrtO.Srtd lxe (isortE l)
  | [] => List.Pairwise.nil
  | x :: xs => ins_srt x (isort_srt xs)
theorem isort_stb : ∀ l : List D, SrtO.Stb lxe (isortE l) l
  | [] => SrtO.Stb.refl _
  | x :: xs => (ins_stab x _).trans (SrtO.Stb.app (SrtO.Stb.refl (lt := lxe) [x]) (isort_stb xs))
theorem insD_eq {x : D} (hx : x.itree = true) : ∀ {l : List D}, (∀ y ∈ l, y.itree = true ∧ (y.lt x).isSome = true) → insD x l = insE x l
  | [], _ => rfl
  | y :: ys, h => by
    obtain ⟨h1, h2⟩ := h y List.mem_cons_self
    obtain ⟨b, hb⟩ := Option.isSome_iff_exists.mp h2
    have e : (y.lt x).getD false = lxe y x := by rw [hb]; exact (lt_lx h1 hx hb).symm
    unfold insD insE
    rw [e, insD_eq hx fun z hz => h z (List.mem_cons_of_mem _ hz)]
theorem isortD_eq : ∀ {l : List D}, (∀ x ∈ l, x.itree = true) → (∀ x ∈ l, ∀ y ∈ l, (x.lt y).isSome = true) → isortD l = isortE l
  | [], _, _ => rfl
  | x :: xs, h1, h2 => by
    unfold isortD isortE
    rw [isortD_eq (fun y hy => h1 y (List.mem_cons_of_mem _ hy)) fun y hy z hz => h2 y (List.mem_cons_of_mem _ hy) z (List.mem_cons_of_mem _ hz)]
    exact insD_eq (h1 x List.mem_cons_self) fun y hy => by
      have hy := (isort_perm xs).mem_iff.mp hy
      exact ⟨h1 y (List.mem_cons_of_mem _ hy), h2 y (List.mem_cons_of_mem _ hy) x List.mem_cons_self⟩
theorem itrees_mem : ∀ {xs : List D}, itrees xs = true → ∀ x ∈ xs, x.itree = true
  | x :: xs, h, y, hy => by
    simp only [itrees, Bool.and_eq_true] at h
    rcases List.mem_cons.mp hy with e | hy
    · rw [e]; exact h.1
    · exact itrees_mem h.2 y hy
/-! ### values and data -/
def vBack : Value → V
  | .none => .non
  | .bool b => .bl b
  | .int i _ => .int i
  | .str x _ => .str x
  | .bytes x _ => .byt x
  | .float x _ => .flt x
  | .ref a => .ref a
  | .type n => .ty n
  | _ => .non
theorem vBack_of {v : V} {u : Value} (h : L2.RelV v u) : v = vBack u := by
  cases v with
  | non => have h : u = _ := h; rw [h]; rfl
  | bl b => have h : u = _ := h; rw [h]; rfl
  | int i => obtain ⟨t, h⟩ := h; rw [h]; rfl
  | str i => obtain ⟨t, h⟩ := h; rw [h]; rfl
  | byt i => obtain ⟨t, h⟩ := h; rw [h]; rfl
  | flt i => obtain ⟨t, h⟩ := h; rw [h]; rfl
  | ref a => have h : u = _ := h; rw [h]; rfl
  | ty n => have h : u = _ := h; rw [h]; rfl
theorem relV_inj {v v' : V} {u : Value} (h : L2.RelV v u) (h' : L2.RelV v' u) : v = v' := (vBack_of h).trans (vBack_of h').symm
section
variable {X : Cx} {pins : List (Addr × Obj)} {σ : L2.St} {H : Hp} {sh : Shared} {Z : Zs} {ρ : Rho} {s : S}
mutual
theorem rep_inj (I : Inv X pins σ H sh) : ∀ {v : V} {d d' : D}, Rep X.K Z H ρ s v d → Rep X.K Z H ρ s v d' → d.itree = true → d'.itree = true → d = d'
  | _, .int _, d', .int i, r', _, h' => by
    cases r' with
    | int _ => rfl
  | _, .tup ds, d', .tup q r, r', h, h' => by
    rcases itree_cases h' with ⟨i, rfl⟩ | ⟨xs, rfl, hx⟩
    · cases r'
    · cases r' with | tup q' r' =>
      have e := I.tuple_inj q q'
      subst e
      rw [reps_inj I r r' (by simpa [D.itree] using h) hx]
  | _, .non, _, _, _, h, _ => by simp [D.itree] at h
  | _, .bl _, _, _, _, h, _ => by simp [D.itree] at h
  | _, .str _, _, _, _, h, _ => by simp [D.itree] at h
  | _, .lst _, _, _, _, h, _ => by simp [D.itree] at h
  | _, .fz _, _, _, _, h, _ => by simp [D.itree] at h
  | _, .dct _, _, _, _, h, _ => by simp [D.itree] at h
  | _, .ref _ _, _, _, _, h, _ => by simp [D.itree] at h
theorem reps_inj (I : Inv X pins σ H sh) : ∀ {vs : List V} {ds ds' : List D}, Reps X.K Z H ρ s vs ds → Reps X.K Z H ρ s vs ds' → itrees ds = true → itrees ds' = true → ds = ds'
  | _, _, _, .nil, r', _, _ => by cases r'; rfl
  | _, _, _, .cons r t, r', h, h' => by
    cases r' with | cons r' t' =>
    simp only [itrees, Bool.and_eq_true] at h h'
    rw [rep_inj I r r' h.1 h'.1, reps_inj I t t' h.2 h'.2]
end
/-- what an item stands for -/
def Is (K : PySem.W.Frag) (Z : Zs) (H : Hp) (ρ : Rho) (s : S) (u : Value) (p : V × D) : Prop := L2.RelV p.1 u ∧ Rep K Z H ρ s p.1 p.2 ∧ p.2.itree = true
open Classical in
noncomputable def pick (K : PySem.W.Frag) (Z : Zs) (H : Hp) (ρ : Rho) (s : S) (u : Value) : V × D := if h : ∃ p, Is K Z H ρ s u p then h.choose else (.non, .non)
theorem pick_eq (I : Inv X pins σ H sh) {u : Value} {v : V} {d : D} (h1 : L2.RelV v u) (h2 : Rep X.K Z H ρ s v d) (h3 : d.itree = true) : pick X.K Z H ρ s u = (v, d) := by
  unfold pick
  have h : ∃ p, Is X.K Z H ρ s u p := ⟨(v, d), h1, h2, h3⟩
  rw [dif_pos h]
  obtain ⟨c1, c2, c3⟩ := h.choose_spec
  generalize h.choose = q at c1 c2 c3
  obtain ⟨v', d'⟩ := q
  have e := relV_inj h1 c1
  have e : v = v' := e
  subst e
  rw [rep_inj I h2 c2 h3 c3]
theorem pick_all (I : Inv X pins σ H sh) : ∀ {vs : List V} {us : List Value} {ds : List D}, Vals vs us → Reps X.K Z H ρ s vs ds → itrees ds = true → us.map (fun u => (pick X.K Z H ρ s u).1) = vs ∧ us.map (fun u => (pick X.K Z H ρ s u).2) = ds ∧ ∀ u ∈ us, Is X.K Z H ρ s u (pick X.K Z H ρ s u)
  | _, _, _, .nil, .nil, _ => ⟨rfl, rfl, fun u hu => absurd hu (by simp)⟩
  | v :: vs, u :: us, d :: ds, .cons r rs, .cons q qs, h => by
    simp only [itrees, Bool.and_eq_true] at h
    obtain ⟨e1, e2, e3⟩ := pick_all I rs qs h.2
    have e := pick_eq I r q h.1
    refine ⟨by rw [List.map_cons, e, e1], by rw [List.map_cons, e, e2], fun x hx => ?_⟩
    rcases List.mem_cons.mp hx with q0 | hx
    · subst q0
      rw [e]
      exact ⟨r, q, h.1⟩
    · exact e3 x hx
theorem vals_pick : ∀ {us : List Value}, (∀ u ∈ us, Is X.K Z H ρ s u (pick X.K Z H ρ s u)) → Vals (us.map fun u => (pick X.K Z H ρ s u).1) us ∧ Reps X.K Z H ρ s (us.map fun u => (pick X.K Z H ρ s u).1) (us.map fun u => (pick X.K Z H ρ s u).2)
  | [], _ => ⟨.nil, .nil⟩
  | u :: us, h => by
    obtain ⟨a, b⟩ := vals_pick fun x hx => h x (List.mem_cons_of_mem _ hx)
    obtain ⟨c, d, _⟩ := h u List.mem_cons_self
    exact ⟨.cons c a, .cons d b⟩
/-! ### the comparisons -/
theorem kat_lexD (I : Inv X pins σ H sh) {A : Around} {b fin : Bool} {Qb : Bool → Shared → Prop} {n m : Nat} (hu : A.units + n < cLine) : ∀ (xs ys : List D) {vs us : List V} {its jts : List Value} (c : Bool) (i : Nat), Reps X.K Z H ρ s vs xs → Reps X.K Z H ρ s us ys → Vals vs its → Vals us jts →
    plains n xs = true → plains m ys = true → lts xs ys = some c → (b = true → i = 0 → fstInt (.tup xs) = true ∧ fstInt (.tup ys) = true) → fin = decide (xs.length < ys.length) → Qb c sh → PySem.W.KatLex X.prog X.w A b fin Qb (its.zip jts) i sh
  | [], [], _, _, _, _, c, i, .nil, .nil, .nil, .nil, _, _, h, _, hf, q => by
    simp only [lts] at h
    cases h
    exact PySem.W.kat_nil (by rw [hf]; exact q)
  | [], y :: ys, _, _, _, _, c, i, .nil, .cons _ _, .nil, .cons _ _, _, _, h, _, hf, q => by
    simp only [lts] at h
    cases h
    refine PySem.W.kat_nil ?_
    rw [hf, show decide (([] : List D).length < (y :: ys).length) = true from decide_eq_true (Nat.zero_lt_succ _)]
    exact q
  | x :: xs, [], _, _, _, _, c, i, .cons _ _, .nil, .cons _ _, .nil, _, _, h, _, hf, q => by
    simp only [lts] at h
    cases h
    refine PySem.W.kat_nil ?_
    rw [hf, show decide ((x :: xs).length < ([] : List D).length) = false from decide_eq_false (Nat.not_lt_zero _)]
    exact q
  | x :: xs, y :: ys, _, _, _, _, c, i, .cons r1 t1, .cons r2 t2, .cons w1 z1, .cons w2 z2, h1, h2, h, hb, hf, q => by
    simp only [plains, Bool.and_eq_true] at h1 h2
    simp only [lts] at h
    refine PySem.W.kat_cons (eqAt_rep I r1 r2 h1.1 h2.1 w1 w2 hu X.prog X.w _ _ ?_)
    split at h
    · cases h
    · rename_i b' hb'
      cases e : x.eqv y with
      | true =>
        rw [if_pos e] at h
        cases h
        exact PySem.W.kat_yes (kat_lexD I hu xs ys _ (i + 1) t1 t2 z1 z2 h1.2 h2.2 hb' (fun _ z => absurd z (Nat.succ_ne_zero i)) (by rw [hf]; simp) q)
      | false =>
        rw [if_neg (by rw [e]; decide)] at h
        refine PySem.W.kat_no ?_
        cases hbi : (b && i == 0) with
        | true =>
          rw [Bool.and_eq_true] at hbi
          obtain ⟨f1, f2⟩ := hb hbi.1 (eq_of_beq hbi.2)
          cases x with
          | int a =>
            cases y with
            | int a' =>
              cases r1
              cases r2
              obtain ⟨t, rfl⟩ := w1
              obtain ⟨t', rfl⟩ := w2
              simp only [D.lt] at h
              cases h
              exact oneLt_int q
            | _ => simp [fstInt] at f2
          | _ => simp [fstInt] at f1
        | false => exact PySem.W.kat_one _ _ (lt_rep I n A m _ _ x y _ _ c r1 r2 h1.1 h2.1 w1 w2 hu h X.prog X.w _ _ q)
/-- a tuple's items -/
theorem is_tup (I : Inv X pins σ H sh) {u : Value} {ds : List D} {p : V × D} (h : Is X.K Z H ρ s u p) (e : p.2 = .tup ds) : ∃ a o vs its n, u = .ref a ∧ sh.heap.get? a = some o ∧ o.cls = .type "tuple" ∧ o.data = .seq (List.toArray its) n ∧ Vals vs its ∧ Reps X.K Z H ρ s vs ds := by
  obtain ⟨v, d⟩ := p
  have e : d = .tup ds := e
  subst e
  obtain ⟨h1, h2, _⟩ := h
  have h2 : Rep X.K Z H ρ s v (.tup ds) := h2
  cases h2 with | @tup a vs _ hq r =>
  have h1 : u = .ref a := h1
  subst h1
  obtain ⟨its, rv, ⟨o, e, hc, n, hd⟩, _⟩ := I.tuple hq
  exact ⟨a, o, vs, its, n, rfl, e, hc, hd, rv, r⟩
theorem kat_firstsD (I : Inv X pins σ H sh) (b : Bool) : ∀ {us : List Value}, (∀ u ∈ us, Is X.K Z H ρ s u (pick X.K Z H ρ s u) ∧ (if b = true then fstInt (pick X.K Z H ρ s u).2 else fstTup (pick X.K Z H ρ s u).2) = true) →
    ∃ fs, PySem.W.KatTups sh.heap us fs ∧ fs.length = us.length ∧ ∀ f ∈ fs, PySem.W.Looks (model X.prog X.w) sh.heap (typeOf f) (.type (if b = true then "int" else "tuple"))
  | [], _ => ⟨[], PySem.W.KatTups.nil, rfl, fun f hf => absurd hf (by simp)⟩
  | u :: us, h => by
    obtain ⟨fs, f1, f2, f3⟩ := kat_firstsD I b fun x hx => h x (List.mem_cons_of_mem _ hx)
    obtain ⟨hi, hf⟩ := h u List.mem_cons_self
    generalize hp : pick X.K Z H ρ s u = p at hi hf
    have key : ∃ a o x ds its n f, u = .ref a ∧ sh.heap.get? a = some o ∧ o.cls = .type "tuple" ∧ o.data = .seq (List.toArray (f :: its)) n ∧ PySem.W.Looks (model X.prog X.w) sh.heap (typeOf f) (.type (if b = true then "int" else "tuple")) ∧ p.2 = .tup (x :: ds) := by
      cases b with
      | true =>
        rw [if_pos rfl] at hf
        unfold fstInt at hf
        split at hf
        · rename_i i ds e
          obtain ⟨a, o, vs, its, n, g1, g2, g3, g4, g5, g6⟩ := is_tup I hi e
          cases g6 with | cons r t =>
          cases r
          cases g5 with | cons w z =>
          obtain ⟨tk, rfl⟩ := w
          exact ⟨a, o, _, _, _, n, _, g1, g2, g3, g4, PySem.W.Looks.now, e⟩
        · cases hf
      | false =>
        rw [if_neg (by decide)] at hf
        unfold fstTup at hf
        split at hf
        · rename_i xs ds e
          obtain ⟨a, o, vs, its, n, g1, g2, g3, g4, g5, g6⟩ := is_tup I hi e
          cases g6 with | cons r t =>
          cases r with | tup hq r =>
          cases g5 with | cons w z =>
          cases w
          obtain ⟨its2, rv, ⟨o2, e2, hc, n2, hd⟩, _⟩ := I.tuple hq
          refine ⟨a, o, _, _, _, n, _, g1, g2, g3, g4, ?_, e⟩
          rw [if_neg (by decide)]
          have L : PySem.W.Looks (model X.prog X.w) sh.heap (typeOf (.ref _)) o2.cls := (PySem.W.Looks.ld e2).andThen .now
          rw [hc] at L
          exact L
        · cases hf
    obtain ⟨a, o, x, ds, its, n, f, g1, g2, g3, g4, g5, _⟩ := key
    subst g1
    refine ⟨f :: fs, PySem.W.KatTups.cons g2 g3 g4 rfl f1, by rw [List.length_cons, List.length_cons, f2], fun y hy => ?_⟩
    rcases List.mem_cons.mp hy with e | hy
    · rw [e]; exact g5
    · exact f3 y hy
end
theorem sortedOk : SortedOk := by
  intro X hc hun pins sh σ H vs us Q I rv h
  obtain ⟨Z, ρ, s, d, xs, ys, w, r, hv, hpl, hs, out⟩ := h
  obtain ⟨v, rfl, r1⟩ := reps1 r
  obtain ⟨a, ws, rfl, hl, rs⟩ := view_lst w r1 hv
  obtain ⟨its, ri, hpL, hz⟩ := I.list (SqL.of hl)
  obtain ⟨u, rfl, ru⟩ := vals1 rv
  obtain rfl : u = Value.ref a := ru
  unfold sortD at hs
  split at hs
  · rename_i hcnd
    obtain ⟨ht, hcmp, hk⟩ := hcnd
    cases hs
    obtain ⟨e1, e2, e3⟩ := pick_all (Z := Z) (ρ := ρ) (s := s) I ri rs ht
    have hmem : ∀ u ∈ its, (pick X.K Z H ρ s u).2 ∈ xs := fun u hu => by rw [← e2]; exact List.mem_map.mpr ⟨u, hu, rfl⟩
    have hcmp' : ∀ x ∈ xs, ∀ y ∈ xs, (x.lt y).isSome = true := fun x hx y hy => List.all_eq_true.mp (List.all_eq_true.mp hcmp x hx) y hy
    have O : SrtO.Swo (fun v u : Value => lxe (pick X.K Z H ρ s v).2 (pick X.K Z H ρ s u).2) := ⟨fun x y h => lxe_swo.asym _ _ h, fun x y z h1 h2 => lxe_swo.tr _ _ _ h1 h2⟩
    have hzz : its.length ≤ sizeLine := by rw [← ri.length]; exact hz
    refine SrtO.sorted_ord O hpL.isList hzz (fun h2 h₁ a₁ ha kk h' keep => ?_) fun outv hsr hst => ?_
    · have hkeep : ∀ b o, sh.heap.get? b = some o → h'.get? b = some o := fun b o e => keep b o (kk b o e).1 (kk b o e).2
      have I' : Inv X pins σ H { sh with heap := h' } := I.kept (t' := sh.toks) hkeep
      have hlen : ¬ xs.length < 2 := by rw [← rs.length, ri.length]; omega
      obtain ⟨b, hb⟩ : ∃ b : Bool, ∀ x ∈ xs, (if b = true then fstInt x else fstTup x) = true := by
        rcases hk with q | q | q
        · exact absurd q hlen
        · exact ⟨true, fun x hx => List.all_eq_true.mp q x hx⟩
        · exact ⟨false, fun x hx => List.all_eq_true.mp q x hx⟩
      refine ⟨tuples' b, fun Q' E' hq => ?_, fun p q hp hq => ?_⟩
      · obtain ⟨fs, f1, f2, f3⟩ := kat_firstsD (Z := Z) (ρ := ρ) (s := s) I' b (us := its) fun u hu => ⟨e3 u hu, hb _ (hmem u hu)⟩
        refine PySem.W.kat_kind (T := .type (if b = true then "int" else "tuple")) f1 (by omega) f3 (by cases b <;> rfl) ?_
        have e : (Value.type (if b = true then "int" else "tuple") != Value.type "tuple") = b := by cases b <;> decide +kernel
        rw [e]
        exact hq
      · have key : ∀ u ∈ its, ∃ ds, (pick X.K Z H ρ s u).2 = .tup ds := fun u hu => by
          have z := hb _ (hmem u hu)
          cases b with
          | true =>
            rw [if_pos rfl] at z
            unfold fstInt at z
            split at z
            · rename_i e; exact ⟨_, e⟩
            · cases z
          | false =>
            rw [if_neg (by decide)] at z
            unfold fstTup at z
            split at z
            · rename_i e; exact ⟨_, e⟩
            · cases z
        obtain ⟨ds, hd⟩ := key _ hp
        obtain ⟨ds', hd'⟩ := key _ hq
        obtain ⟨x, o, vs1, is1, n1, g1, g2, g3, g4, g5, g6⟩ := is_tup I' (e3 _ hp) hd
        obtain ⟨x', o', vs2, is2, n2, k1, k2, k3, k4, k5, k6⟩ := is_tup I' (e3 _ hq) hd'
        have m1 := hmem _ hp
        have m2 := hmem _ hq
        have b1 := hb _ m1
        have b2 := hb _ m2
        have t1 := itrees_mem ht _ m1
        have t2 := itrees_mem ht _ m2
        obtain ⟨c, hc'⟩ := Option.isSome_iff_exists.mp (hcmp' _ m1 _ m2)
        have p1 : ((pick X.K Z H ρ s p.1).2).plain 60 = true := by
          obtain ⟨j, hj⟩ := List.getElem?_of_mem m1
          exact plains_get hpl hj
        have p2 : ((pick X.K Z H ρ s q.1).2).plain 60 = true := by
          obtain ⟨j, hj⟩ := List.getElem?_of_mem m2
          exact plains_get hpl hj
        show wpAny (model X.prog X.w) _ (keyLt' (tuples' b) p.1 q.1) (fun r s' => s' = _ ∧ r = lxe (pick X.K Z H ρ s p.1).2 (pick X.K Z H ρ s q.1).2) (fun _ _ => False) _
        have hlx := lt_lx t1 t2 hc'
        unfold lxe
        rw [hlx]
        rw [hd] at b1 t1 hc' p1
        rw [hd'] at b2 t2 hc' p2
        simp only [D.lt] at hc'
        rw [g1, k1]
        refine PySem.W.kat_lt g2 g4 k2 k4 ?_
        refine kat_lexD I' (n := 59) (m := 59) (by show X.A.units + 1 + 1 + 59 < cLine; omega) ds ds' c 0 g6 k6 g5 k5 (by simpa [D.plain] using p1) (by simpa [D.plain] using p2) hc' (fun hbt _ => ?_) (by rw [List.size_toArray, List.size_toArray, ← g5.length, ← k5.length, g6.length, k6.length]) ⟨rfl, rfl⟩
        rw [if_pos hbt] at b1 b2
        exact ⟨b1, b2⟩
    · have hpm : ∀ u ∈ outv, u ∈ its := fun u hu => hst.perm.mem_iff.mp hu
      obtain ⟨v1, v2⟩ := vals_pick (X := X) (Z := Z) (H := H) (ρ := ρ) (s := s) (us := outv) fun u hu => e3 u (hpm u hu)
      have hb : SrtO.Stb lxe (outv.map fun u => (pick X.K Z H ρ s u).2) xs := by
        have z := SrtO.Stb.map lxe_swo (fun u : Value => (pick X.K Z H ρ s u).2) hst
        rw [e2] at z
        exact z
      have hs2 : SrtO.Srtd lxe (outv.map fun u => (pick X.K Z H ρ s u).2) := SrtO.srtd_map hsr
      have heq : outv.map (fun u => (pick X.K Z H ρ s u).2) = isortD xs := by
        rw [isortD_eq (itrees_mem ht) hcmp']
        exact SrtO.stb_uniq lxe_swo hs2 (isort_srt xs) (hb.trans ⟨(isort_stb xs).perm.symm, fun x => ((isort_stb xs).cls x).symm⟩)
      rw [heq] at v2
      obtain ⟨n, hn⟩ := sortedAll_at sh.heap its outv.toArray
      have hfr : H (sh.heap.objs.size + 1) = none := I.hok.fresh (Nat.le_succ _)
      refine ⟨.ref (sh.heap.objs.size + 1), upd H (sh.heap.objs.size + 1) (.lst (outv.map fun u => (pick X.K Z H ρ s u).1)), I.laid (t' := sh.toks) (fun b o e => sortedAll_old e) (Nat.le_succ _) ⟨?_, outv, n, v1, hn⟩, rfl, out.lst w v2 hfr⟩
      rw [List.length_map, hst.perm.length_eq]
      exact hzz
  · cases hs
end Ev

set_option Elab.async false
set_option linter.all false
set_option maxRecDepth 100000
/-! Ev13: a law's end: the book of its defs. -/
namespace Ev
open PySem PySem.Spec L2 PyProof.Rows
structure Book where
  defs : List (Nat × DefI)
  cis : List (Nat × (Str × Int))
  cls : List (Nat × Str)
  sub : Str → Str → Bool
  bs : List Str
  /-- constants that are no ints -/
  cos : List (Nat × (Str × D)) := []
def Book.nm (B : Book) : Nm := ⟨B.defs.map fun p => (p.2.name, p.1), (B.cis.map fun p => (p.2.1, p.1)) ++ B.cos.map fun p => (p.2.1, p.1), B.cls.map fun p => (p.2, p.1), B.bs⟩
def Book.cl (B : Book) (j : Nat) : Str := (B.cls.lookup j).getD ((B.cls.map (·.2)).headD Str.empty)
def Book.gcD (B : Book) (g : Nat) : Option D := match B.cis.lookup g with
  | some p => some (.int p.2)
  | none => (B.cos.lookup g).map (·.2)
def Book.T (B : Book) : Text := ⟨B.gcD, fun k => (B.defs.lookup k).map DefI.df, fun j k => B.sub (B.cl j) (B.cl k)⟩
def Book.cv (B : Book) (K : PySem.W.Frag) (j : Nat) : Value := .ref (He.ga K (B.cl j))
def Book.cn (B : Book) : List Str := B.cls.map (·.2)
def Book.fa (B : Book) : List He.Fa := (B.defs.map fun p => .glo p.2.name) ++ (B.bs.map .free ++ ((B.cis.map fun p => .int p.2.1 p.2.2) ++ ((B.cn.map .exc) ++ ((B.cn.map .glo) ++ B.cn.flatMap fun y => B.cn.map fun x => .exm y x (B.sub y x)))))
structure Book.Nd (B : Book) : Prop where
  defs : (B.defs.map (·.1)).Nodup
  cis : ((B.cis.map (·.1)) ++ B.cos.map (·.1)).Nodup
  cls : (B.cls.map (·.1)).Nodup
/-! ### more facts: classes of errors, constants -/
def excCB (K : PySem.W.Frag) (D : Addr) : Bool := He.eqO (PySem.W.findIn K (.ref D) "__getattribute__") (some (some (.builtin "BaseException.__getattribute__"))) && (He.eqO (PySem.W.findIn K (.ref D) "__getattr__") (some none) && (decide (PySem.W.subIn K (.ref D) (.type "BaseException") = some true) && (PySem.W.hasDictIn K D && (He.eqO (PySem.W.findIn K (.ref D) "__class__") (some (some (.builtin "object.__class__"))) && (He.eqO (PySem.W.specialIn K (.builtin "object.__class__") "__get__") (some (some (.builtin "getset_descriptor.__get__"))) && (decide (PySem.W.takesIn K (.builtin "object.__class__") = some true) && decide (PySem.W.mroIn K D (.type "object") = some true)))))))
theorem excCB_ok {K : PySem.W.Frag} {D : Addr} (h : excCB K D = true) : ExcC K D := by
  obtain ⟨h1, h⟩ := He.ba h
  obtain ⟨h2, h⟩ := He.ba h
  obtain ⟨h3, h⟩ := He.ba h
  obtain ⟨h4, h⟩ := He.ba h
  obtain ⟨h5, h⟩ := He.ba h
  obtain ⟨h6, h⟩ := He.ba h
  obtain ⟨h7, h8⟩ := He.ba h
  exact ⟨He.eqO_ok h1, He.eqO_ok h2, of_decide_eq_true h3, h4, He.eqO_ok h5, He.eqO_ok h6, of_decide_eq_true h7, of_decide_eq_true h8⟩
mutual
/-- a constant of the module: what stands for it -/
def cstV (K : PySem.W.Frag) : Value → D → Option V
  | .none, .non => some .non
  | .bool a, .bl b => if a = b then some (.bl b) else none
  | .int i _, .int j => if i = j then some (.int j) else none
  | .str x _, .str y => if x = y then some (.str y) else none
  | .ref a, .tup ds => (match K.lookup a with
    | some ⟨.type c, _, .seq its _, _⟩ => if c = "tuple" ∧ its.size ≤ sizeLine ∧ cstVs K its.toList ds = true then some (.ref a) else none
    | _ => none)
  | _, _ => none
def cstVs (K : PySem.W.Frag) : List Value → List D → Bool
  | [], [] => true
  | u :: us, d :: ds => (cstV K u d).isSome && cstVs K us ds
  | _, _ => false
end
mutual
theorem cstV_ok {K : PySem.W.Frag} : ∀ {d : D} {u : Value} {v : V}, cstV K u d = some v → RelV v u ∧ ∀ Z H ρ s, Rep K Z H ρ s v d
  | .non, u, v, h => by
    cases u <;> simp [cstV] at h
    subst h
    exact ⟨rfl, fun _ _ _ _ => .non⟩
  | .bl b, u, v, h => by
    cases u <;> simp [cstV] at h
    obtain ⟨rfl, rfl⟩ := h
    exact ⟨rfl, fun _ _ _ _ => .bl _⟩
  | .int j, u, v, h => by
    cases u <;> simp [cstV] at h
    obtain ⟨rfl, rfl⟩ := h
    exact ⟨⟨_, rfl⟩, fun _ _ _ _ => .int _⟩
  | .str j, u, v, h => by
    cases u <;> simp [cstV] at h
    obtain ⟨rfl, rfl⟩ := h
    exact ⟨⟨_, rfl⟩, fun _ _ _ _ => .str _⟩
  | .tup ds, u, v, h => by
    cases u with
    | ref a =>
      simp only [cstV] at h
      split at h
      · rename_i c od its n sl q
        split at h
        · rename_i hc
          obtain ⟨h1, h2, h3⟩ := hc
          cases h
          obtain ⟨vs, e1, e2⟩ := cstVs_ok h3
          exact ⟨rfl, fun Z H ρ s => .tup (.inr ⟨_, its, n, q, by rw [h1], rfl, h2, e1⟩) (e2 Z H ρ s)⟩
        · cases h
      · cases h
    | _ => simp [cstV] at h
  | .lst _, u, v, h => by cases u <;> simp [cstV] at h
  | .fz _, u, v, h => by cases u <;> simp [cstV] at h
  | .dct _, u, v, h => by cases u <;> simp [cstV] at h
  | .ref _ _, u, v, h => by cases u <;> simp [cstV] at h
theorem cstVs_ok {K : PySem.W.Frag} : ∀ {ds : List D} {us : List Value}, cstVs K us ds = true → ∃ vs, Vals vs us ∧ ∀ Z H ρ s, Reps K Z H ρ s vs ds
  | [], [], _ => ⟨[], .nil, fun _ _ _ _ => .nil⟩
  | [], _ :: _, h => by simp [cstVs] at h
  | _ :: _, [], h => by simp [cstVs] at h
  | d :: ds, u :: us, h => by
    simp only [cstVs, Bool.and_eq_true] at h
    obtain ⟨v, hv⟩ := Option.isSome_iff_exists.mp h.1
    obtain ⟨r1, r2⟩ := cstV_ok hv
    obtain ⟨vs, e1, e2⟩ := cstVs_ok h.2
    exact ⟨v :: vs, .cons r1 e1, fun Z H ρ s => .cons (r2 Z H ρ s) (e2 Z H ρ s)⟩
end
def coB (K : PySem.W.Frag) (x : Str) (d : D) : Bool := match PySem.W.nsIn K mainGlobals x with
  | some (some u) => (cstV K u d).isSome
  | _ => false
def Book.ex (B : Book) (K : PySem.W.Frag) : Bool := (B.cn.all fun x => excCB K (He.ga K x)) && B.cos.all fun p => coB K p.2.1 p.2.2
def DefI.hd (d : DefI) : He.DefD := ⟨(d.name, none), d.name, d.name, d.params, d.body, d.scope, [], []⟩
def Book.fn (B : Book) : List He.DefD := B.defs.map fun p => p.2.hd
theorem lookup_mem' {α β : Type} [BEq α] [LawfulBEq α] : ∀ {l : List (α × β)} {a : α} {b : β}, l.lookup a = some b → (a, b) ∈ l
  | (x, y) :: l, a, b, h => by
    rw [List.lookup_cons] at h
    split at h
    · rename_i q
      cases h
      rw [eq_of_beq q]
      exact List.mem_cons_self
    · exact List.mem_cons_of_mem _ (lookup_mem' h)
theorem lookup_some' {α β : Type} [BEq α] [LawfulBEq α] {l : List (α × β)} {a : α} {b : β} (h : (a, b) ∈ l) (nd : (l.map (·.1)).Nodup) : l.lookup a = some b := by
  induction l with
  | nil => cases h
  | cons y l ih =>
    rw [List.map_cons, List.nodup_cons] at nd
    rw [List.lookup_cons]
    rcases List.mem_cons.mp h with e | h
    · rw [← e]; simp
    · have ne : a ≠ y.1 := fun e => nd.1 (by rw [← e]; exact List.mem_map.mpr ⟨(a, b), h, rfl⟩)
      rw [show (a == y.1) = false from by simpa using ne]
      exact ih h nd.2
theorem Book.cl_mem {B : Book} {x : Str} (hx : x ∈ B.cn) (j : Nat) : B.cl j ∈ B.cn := by
  unfold Book.cl
  cases q : B.cls.lookup j with
  | some y => exact List.mem_map.mpr ⟨(j, y), lookup_mem' q, rfl⟩
  | none =>
    show (B.cls.map (·.2)).headD _ ∈ _
    unfold Book.cn at hx ⊢
    cases r : B.cls.map (·.2) with
    | nil => rw [r] at hx; cases hx
    | cons y l => exact List.mem_cons_self
theorem Book.cl_of {B : Book} (nd : B.Nd) {x : Str} {k : Nat} (h : B.nm.cs.lookup x = some k) : x ∈ B.cn ∧ B.cl k = x := by
  obtain ⟨p, h1, h2⟩ := List.mem_map.mp (lookup_mem' h)
  cases h2
  refine ⟨List.mem_map.mpr ⟨p, h1, rfl⟩, ?_⟩
  unfold Book.cl
  rw [lookup_some' (b := p.2) h1 nd.cls]
  rfl
theorem Book.ci_of {B : Book} (nd : B.Nd) {x : Str} {g : Nat} (h : B.nm.gs.lookup x = some g) : (∃ i, (x, i) ∈ B.cis.map (·.2) ∧ B.T.gc g = some (.int i)) ∨ ∃ d, (g, (x, d)) ∈ B.cos ∧ B.T.gc g = some d := by
  have hn := List.nodup_append.mp nd.cis
  rcases List.mem_append.mp (lookup_mem' h) with h0 | h0
  · left
    obtain ⟨p, h1, h2⟩ := List.mem_map.mp h0
    cases h2
    refine ⟨p.2.2, List.mem_map.mpr ⟨p, h1, rfl⟩, ?_⟩
    show B.gcD p.1 = _
    unfold Book.gcD
    rw [lookup_some' (b := p.2) h1 hn.1]
  · right
    obtain ⟨p, h1, h2⟩ := List.mem_map.mp h0
    cases h2
    refine ⟨p.2.2, h1, ?_⟩
    show B.gcD p.1 = _
    unfold Book.gcD
    have e : B.cis.lookup p.1 = none := by
      cases q : B.cis.lookup p.1 with
      | none => rfl
      | some z => exact absurd rfl (hn.2.2 p.1 (List.mem_map.mpr ⟨(p.1, z), lookup_mem' q, rfl⟩) p.1 (List.mem_map.mpr ⟨p, h1, rfl⟩))
    rw [e]
    dsimp only
    rw [lookup_some' (b := p.2) h1 hn.2.1]
    rfl
theorem says_all {fa : List He.Fa} {fn : List He.DefD} {K : PySem.W.Frag} (c : He.SaysD fa fn K) {f : He.Fa} (h : f ∈ fa) : f.ok K = true := by
  have c1 := (He.ba (show ((fa.all fun f => f.ok K) && fn.all fun d => d.ok K) = true from congrArg (fun z : He.AlD => z.1) c)).1
  exact List.all_eq_true.mp c1 f h
theorem says_def {fa : List He.Fa} {fn : List He.DefD} {K : PySem.W.Frag} (c : He.SaysD fa fn K) {d : He.DefD} (h : d ∈ fn) : ∃ fd, FunD K d.name d.qual d.params d.body d.scope (d.dvs K) (d.kws K) (He.fAd K d.at_) fd := by
  obtain ⟨i, hi⟩ := List.getElem?_of_mem h
  exact c.def_ i hi
section
variable {B : Book} {P : Program} {w : World} {K : PySem.W.Frag} {h : Heap} {mg : Str → Option Value}
theorem Book.tab (X : K.In h) (G : h.Ns mainGlobals mg) (c : He.SaysD B.fa B.fn K) (cx : B.ex K = true) (nd : B.Nd) (good : ∀ p ∈ B.defs, p.2.Good B.nm) : TabOk B.T B.nm B.defs (B.cv K) K mg where
  sorted := sortedOk
  bl := fun x hx => He.free_ok X G (says_all c (List.mem_append_right _ (List.mem_append_left _ (List.mem_map.mpr ⟨x, hx, rfl⟩))))
  gcs := fun x g d hl hd => by
    rcases B.ci_of nd hl with ⟨i, h1, h2⟩ | ⟨d', h1, h2⟩
    rotate_left
    · rw [h2] at hd
      cases hd
      have z := List.all_eq_true.mp (He.ba cx).2 _ h1
      unfold coB at z
      split at z
      · rename_i u hu
        obtain ⟨v, hv⟩ := Option.isSome_iff_exists.mp z
        obtain ⟨r1, r2⟩ := cstV_ok hv
        exact ⟨v, u, PySem.W.mg_of X G hu, r1, r2⟩
      · cases z
    rw [h2] at hd
    cases hd
    obtain ⟨p, q, e⟩ := List.mem_map.mp h1
    obtain ⟨t, ht⟩ := He.int_ok X G (x := p.2.1) (i := p.2.2) (says_all c (List.mem_append_right _ (List.mem_append_right _ (List.mem_append_left _ (List.mem_map.mpr ⟨p, q, rfl⟩)))))
    rw [e] at ht
    exact ⟨.int i, _, ht, ⟨t, rfl⟩, fun _ _ _ _ => .int _⟩
  gcN := fun x g hl => by
    rcases B.ci_of nd hl with ⟨i, h1, h2⟩ | ⟨d', h1, h2⟩
    · exact ⟨_, h2⟩
    · exact ⟨_, h2⟩
  exi := fun j x k hl => by
    obtain ⟨hm, e⟩ := B.cl_of nd hl
    exact ⟨_, rfl, excCB_ok (List.all_eq_true.mp (He.ba cx).1 _ (B.cl_mem hm j))⟩
  cs := fun x k hl => by
    obtain ⟨hm, e⟩ := B.cl_of nd hl
    obtain ⟨a1, a2, a3, a4⟩ := He.exc_ok (x := x) (says_all c (List.mem_append_right _ (List.mem_append_right _ (List.mem_append_right _ (List.mem_append_left _ (List.mem_map.mpr ⟨x, hm, rfl⟩))))))
    have a5 := He.glo_ok X G (x := x) (says_all c (List.mem_append_right _ (List.mem_append_right _ (List.mem_append_right _ (List.mem_append_right _ (List.mem_append_left _ (List.mem_map.mpr ⟨x, hm, rfl⟩)))))))
    exact ⟨He.ga K x, by unfold Book.cv; rw [e], a5, a1, a2, a3, a4⟩
  exm := fun j x k hl => by
    obtain ⟨hm, e⟩ := B.cl_of nd hl
    have hj := B.cl_mem hm j
    have a := He.exm_ok (x := B.cl j) (y := x) (b := B.sub (B.cl j) x) (says_all c (List.mem_append_right _ (List.mem_append_right _ (List.mem_append_right _ (List.mem_append_right _ (List.mem_append_right _ (List.mem_flatMap.mpr ⟨B.cl j, hj, List.mem_map.mpr ⟨x, hm, rfl⟩⟩)))))))
    unfold Book.cv
    rw [e, a]
    show some (B.sub (B.cl j) x) = some (B.sub (B.cl j) (B.cl k))
    rw [e]
  tdef := fun k => rfl
  fs := fun x k hl => by
    obtain ⟨p, h1, h2⟩ := List.mem_map.mp (lookup_mem' hl)
    cases h2
    exact ⟨p.2, lookup_some' (b := p.2) h1 nd.defs, rfl⟩
  fun_ := fun k d hl => by
    have q := lookup_mem' hl
    obtain ⟨fd, F⟩ := says_def c (d := d.hd) (List.mem_map.mpr ⟨(k, d), q, rfl⟩)
    exact ⟨_, fd, F, He.glo_ok X G (says_all c (List.mem_append_left _ (List.mem_map.mpr ⟨(k, d), q, rfl⟩)))⟩
  good := fun k d hl => good (k, d) (lookup_mem' hl)
def s0 : S := ⟨[], []⟩
theorem get_s0 (d k : Nat) : s0.get d k = none := by
  show (if d = 0 then ([] : List Cel)[k]? else none) = none
  split
  · rfl
  · rfl
/-- the law, asked at a script -/
theorem law_sp (k n : Nat) (hrun : ∀ ns : List Int, ns.length ≤ 63 → run B.T n k [.fz ns] s0 = .ok (.bl true) s0) (H : Hp) (a : Addr) (ns : List Int) (hl : ns.length ≤ 63) (hS : SqL K H a (ns.map V.int)) :
    spOf K (B.cv K) 1 (run B.T n k) [.ref a] H (fun v _ => v = .bl true) fun _ _ _ => False := by
  have nl : ∀ b, ¬ Live (fun _ _ => 0) s0 b := fun b ⟨d, j, c, e, _⟩ => by rw [get_s0] at e; cases e
  refine ⟨rfl, fun _ => False, fun _ _ => 0, s0, [.fz ns], ⟨fun d j c e => ?_, fun d j c d' j' c' e => ?_, fun d j c e => ?_, fun b z => z.elim⟩, .cons ?_ .nil, ?_⟩
  · rw [get_s0] at e; cases e
  · rw [get_s0] at e; cases e
  · rw [get_s0] at e; cases e
  · rcases hS with h | h
    · exact .fz h (nl a) (fun z => z)
    · exact .fzK h
  · rw [hrun ns hl]
    intro b H' ρ' e w r
    cases r
    rfl
theorem Book.law {d : DefI} {k n : Nat} {f : Addr} (X : K.In h) (G : h.Ns mainGlobals mg) (c : He.SaysD B.fa B.fn K) (cx : B.ex K = true) (nd : B.Nd) (good : ∀ p ∈ B.defs, p.2.Good B.nm) (hd : B.defs.lookup k = some d) (hf : mg d.name = some (.ref f)) (hp : d.ps = [("script" : Str)]) :
    ∃ fd : FuncData, (∀ (s : Shared) (v : Value), BindsTo s fd ⟨[v], []⟩ [("script", v)]) ∧ ∀ base : Heap, K.In base → base.Ns mainGlobals mg → FnOk P w K mg base (L2.CX P w) n f fd [("script" : Str)] (spOf K (B.cv K) 1 (run B.T n k)) := by
  have t := B.tab X G c cx nd good
  obtain ⟨f', fd, F, m⟩ := t.fun_ k d hd
  have e := hf.symm.trans m
  cases e
  have gd := good _ (lookup_mem' hd)
  have b := F.bindsA (ps := [("script" : Str)]) (by rw [← hp]; exact gd.binds)
  refine ⟨fd, fun s v => b s [v] rfl, fun base _ _ => ?_⟩
  have z := all_ok (P := P) (w := w) (base := base) t n k d f fd hd F
  rw [hp] at z
  exact z
end
/-- a law, by a promise that may depend on the world -/
theorem walk_w {l : PySem.W.OpenLaw} {m k : Nat} {q : Program} {lo : List Str} {XQ : (Str → Option Value) → Heap → Prop} {YQ : World → Heap → Prop} {d : DefRec} {CX : World → CXT} {x : Str} (hn : l.most = some m) (hm : m ≤ sizeLine) (hdf : d.params.defaults = []) (hr : Room k callerA)
    (F : ∀ (w : World) (mg : Str → Option Value) (f : Addr) (h : Heap), YQ w h → h.Ns mainGlobals mg → mg d.name = some (.ref f) → ∃ (K : PySem.W.Frag) (fd : FuncData) (sp : Sp), K.In h ∧ (∀ (s : Shared) (u : Value), BindsTo s fd ⟨[u], []⟩ [(x, u)]) ∧
        (∀ (H : Hp) (a : Addr) (ns : List Int), ns.length ≤ m → Only H → SqL K H a (ns.map V.int) → sp [.ref a] H (fun v _ => v = .bl true) fun _ _ _ => False) ∧ ∀ base : Heap, K.In base → base.Ns mainGlobals mg → FnOk l.prog w K mg base (CX w) k f fd [x] sp)
    (hC : ∀ (w : World) (H : Hp) (s : Shared) (e : Value) (s' : Shared), CX w [] H s (fun _ _ _ => False) e s' → False) : PySem.W.WalkO q lo XQ YQ l.row.toRowW d [] (fun f vs => PySem.call f vs) := by
  refine Att.attach_call hn hdf fun w t0 t1 mg mb f o pm cd doc a vs ns G y ho hd hcd hmg hobj hi hlen hg => ?_
  obtain ⟨K, fd, sp, kx, hb, hsp, hF⟩ := F w mg f _ y G.T.g hmg
  exact law_call kx G.T.g G.T.b G.T.builtins G.T.nolimit hg hobj hi (Nat.le_trans hlen hm) hr hF hb (fun H h1 h2 => hsp H a ns hlen h1 h2) fun H e s' => hC w H t1 e s'
theorem cx_none {P : Program} {w : World} (H : Hp) (s : Shared) (e : Value) (s' : Shared) (h : L2.CX P w [] H s (fun _ _ _ => False) e s') : False := by
  obtain ⟨_, _, _, _, _, _, _, _, _, _, _, _, z⟩ := h
  exact z
end Ev

set_option Elab.async false
set_option linter.all false
set_option maxRecDepth 100000
/-! P1: the evaluator's steps, for proofs in plain Lean. -/
namespace Ev
open PySem
noncomputable abbrev cf (T : Text) (n : Nat) : Cfg := ⟨T.gc, run T n, T.sub⟩
/-- a new frame over s, with these cells -/
abbrev fr (s : S) (cs : List Cel) : S := ⟨s.cur :: s.out, cs⟩
section
variable {T : Text} {n f : Nat} {df : Def} {xs : List D} {s : S} {c : Cfg} {env : Env} {e a b : E} {d : D}
theorem run_def (h : T.defs f = some df) (hl : xs.length = df.np) : run T (n + 1) f xs s = leaveS s.out.length df.keep (evSs (cf T n) df.body (startE df.ns xs) (fr s [])) := by
  simp only [run, h]
  rw [if_pos hl]
theorem leave0 : leaveS s.out.length false (.ret d (fr s [])) = .ok d s := by
  simp only [leaveS, leave]
  rw [if_pos (by simp), if_neg (by decide), if_pos (.inl trivial)]
theorem leaveC {cs : List Cel} (h : d.shal (s.out.length + 1) = true) : leaveS s.out.length false (.ret d (fr s cs)) = .ok d s := by
  simp only [leaveS, leave]
  rw [if_pos (by simp), if_neg (by decide), if_pos (.inr h)]
theorem leaveN {cs : List Cel} : leaveS s.out.length false (.next env (fr s cs)) = .ok .non s := by
  simp only [leaveS, leave]
  rw [if_pos (by simp), if_neg (by decide), if_pos (.inr rfl)]
theorem evT_cmp {o : Cm} : evT c (.cmp o a b) env s = (evE c (.cmp o a b) env s).bind fun x s => R.opt (truth s x) s := by simp only [evT]
theorem evT_chain {o p : Cm} : evT c (.chain o p a b e) env s = (evE c (.chain o p a b e) env s).bind fun x s => R.opt (truth s x) s := by simp only [evT]
theorem evT_call {k : Nat} {es : List E} : evT c (.call k es) env s = (evE c (.call k es) env s).bind fun x s => R.opt (truth s x) s := by simp only [evT]
theorem evT_bi {k : Bi} {es : List E} : evT c (.bi k es) env s = (evE c (.bi k es) env s).bind fun x s => R.opt (truth s x) s := by simp only [evT]
theorem evT_isi {ts : List Ty} : evT c (.isi a ts) env s = (evE c (.isi a ts) env s).bind fun x s => R.opt (truth s x) s := by simp only [evT]
theorem evT_loc {k : Nat} : evT c (.loc k) env s = (evE c (.loc k) env s).bind fun x s => R.opt (truth s x) s := by simp only [evT]
theorem evT_nt : evT c (.nt a) env s = (evT c a env s).bind fun k s => .ok (!k) s := by simp only [evT]
theorem evT_and : evT c (.and a b) env s = (evT c a env s).bind fun k s => if k = true then evT c b env s else .ok false s := by simp only [evT]
theorem evT_or : evT c (.or a b) env s = (evT c a env s).bind fun k s => if k = true then .ok true s else evT c b env s := by simp only [evT]
theorem evE_comp1 {elt : E} {i : Nat} {it : It} : evE c (.comp elt (.one i) it none) env s = (evI c it env s).bind fun w s =>
      (compL w.g (fun x s => noExc ((evE c elt (env.set i (some x)) s).bind fun y s => .ok (some y) s)) w.xs s).bind fun ys s => .ok (.lst ys) s := by simp only [evE, putT]
theorem evE_compC {elt cd : E} {i : Nat} {it : It} : evE c (.comp elt (.one i) it (some cd)) env s = (evI c it env s).bind fun w s =>
      (compL w.g (fun x s => noExc ((evT c cd (env.set i (some x)) s).bind fun k s => if k = true then (evE c elt (env.set i (some x)) s).bind fun y s => .ok (some y) s else .ok none s)) w.xs s).bind fun ys s => .ok (.lst ys) s := by simp only [evE, putT]
theorem bi_len_tup {xs : List D} : biD s .len [.tup xs] = some (.int xs.length) := rfl
theorem bi_len_lst {xs : List D} : biD s .len [.lst xs] = some (.int xs.length) := rfl
theorem bi_len_fz {xs : List Int} : biD s .len [.fz xs] = some (.int xs.length) := by
  simp [biD, S.view, items]
theorem bi_all {xs : List D} : biD s .all [.lst xs] = (allD xs).map .bl := rfl
theorem bi_tup_lst {xs : List D} : biD s .tuple [.lst xs] = some (.tup xs) := rfl
theorem bi_int {i : Int} : biD s .int [.int i] = some (.int i) := rfl
theorem bi_list_tup {xs : List D} : biD s .list [.tup xs] = some (.lst xs) := rfl
theorem bi_abs {i : Int} : biD s .abs [.int i] = some (.int (if i < 0 then -i else i)) := rfl
theorem bi_sorted {xs : List D} : biD s .sorted [.lst xs] = if plains 60 xs then (sortD xs).map .lst else none := rfl
theorem bn_add {i j : Int} : binD s .add (.int i) (.int j) = some (.int (i + j)) := rfl
theorem bn_sub {i j : Int} : binD s .sub (.int i) (.int j) = some (.int (i - j)) := rfl
theorem bn_mul {i j : Int} : binD s .mul (.int i) (.int j) = if mulOk i j then some (.int (i * j)) else none := rfl
theorem bn_div {i j : Int} : binD s .fdiv (.int i) (.int j) = if divOk j then some (.int (i.fdiv j)) else none := rfl
theorem bn_mod {i j : Int} : binD s .mod (.int i) (.int j) = if j = 0 then none else some (.int (i.fmod j)) := rfl
theorem bn_pow {i j : Int} : binD s .pow (.int i) (.int j) = if 0 ≤ j ∧ j ≤ 1000000 ∧ i.natAbs < 2 ^ 64 then some (.int (i ^ j.toNat)) else none := rfl
theorem bn_tup {xs ys : List D} : binD s .add (.tup xs) (.tup ys) = if xs.length + ys.length ≤ LIM then some (.tup (xs ++ ys)) else none := rfl
theorem sl_tup {xs : List D} {l h : Option Int} : slD s (.tup xs) l h = some (.tup (cutD xs l h)) := rfl
theorem evI_rng1 {s1 : S} {j : Int} (h : evE c e env s = .ok (.int j) s1) (hs : smallD j) : evI c (.rng1 e) env s = .ok ⟨numsD 0 j.toNat, none⟩ s1 := by
  simp only [evI, h, R.bind_ok]
  rw [if_pos hs]
theorem evI_rng2 {s1 s2 : S} {i j : Int} (h : evE c a env s = .ok (.int i) s1) (h2 : evE c b env s1 = .ok (.int j) s2) (hi : smallD i) (hs : smallD j) : evI c (.rng2 a b) env s = .ok ⟨numsD i (j - i).toNat, none⟩ s2 := by
  simp only [evI, h, h2, R.bind_ok]
  rw [if_pos ⟨hi, hs⟩]
/-- the turns of a comprehension, one by one -/
theorem comp_map {step : D → S → R (Option D)} {g : D → D} (s : S) : ∀ {xs : List D}, (∀ x ∈ xs, step x s = .ok (some (g x)) s) → xs.length ≤ LIM → compL none step xs s = .ok (xs.map g) s
  | [], _, _ => by simp only [compL, List.map_nil]
  | x :: xs, h, hl => by
    have hl' : xs.length + 1 ≤ LIM := hl
    simp only [compL]
    rw [h x List.mem_cons_self]
    simp only [R.bind_ok, keptG, if_true]
    rw [comp_map s (fun y hy => h y (List.mem_cons_of_mem _ hy)) (by omega)]
    simp only [R.bind_ok]
    rw [if_pos (by rw [List.length_map]; omega)]
    rfl
theorem comp_filter {step : D → S → R (Option D)} {g : D → Option D} (s : S) : ∀ {xs : List D}, (∀ x ∈ xs, step x s = .ok (g x) s) → xs.length ≤ LIM → compL none step xs s = .ok (xs.filterMap g) s
  | [], _, _ => by simp only [compL, List.filterMap_nil]
  | x :: xs, h, hl => by
    have hl' : xs.length + 1 ≤ LIM := hl
    simp only [compL]
    rw [h x List.mem_cons_self]
    simp only [R.bind_ok, keptG, if_true]
    rw [comp_filter s (fun y hy => h y (List.mem_cons_of_mem _ hy)) (by omega)]
    simp only [R.bind_ok, List.filterMap_cons]
    have := List.length_filterMap_le g xs
    cases g x with
    | none => rfl
    | some y =>
      dsimp only
      rw [if_pos (by omega)]
end
/-! ### data -/
def dR (r : List Int) : D := .tup (r.map .int)
def dT (t : List (List Int)) : D := .tup (t.map dR)
theorem dR_inj {a b : List Int} (h : dR a = dR b) : a = b := by
  have h := D.tup.inj h
  exact List.map_inj_right (fun x y e => D.int.inj e) |>.mp h
theorem dT_inj {a b : List (List Int)} (h : dT a = dT b) : a = b := by
  have h := D.tup.inj h
  exact List.map_inj_right (fun x y e => dR_inj e) |>.mp h
theorem itrees_map {α : Type} {g : α → D} : ∀ {l : List α}, (∀ x ∈ l, (g x).itree = true) → itrees (l.map g) = true
  | [], _ => rfl
  | x :: l, h => by
    rw [List.map_cons]
    simp only [itrees, Bool.and_eq_true]
    exact ⟨h x List.mem_cons_self, itrees_map fun y hy => h y (List.mem_cons_of_mem _ hy)⟩
theorem dR_itree (r : List Int) : (dR r).itree = true := by
  unfold dR
  simp only [D.itree]
  exact itrees_map fun x _ => rfl
theorem dT_itree (t : List (List Int)) : (dT t).itree = true := by
  unfold dT
  simp only [D.itree]
  exact itrees_map fun x _ => dR_itree x
mutual
theorem itree_shal (m : Nat) : ∀ {x : D}, x.itree = true → x.shal m = true
  | .int _, _ => by simp [D.shal]
  | .tup xs, h => by simp only [D.itree] at h; simp only [D.shal]; exact itrees_shal m h
  | .non, h => by simp [D.itree] at h
  | .bl _, h => by simp [D.itree] at h
  | .str _, h => by simp [D.itree] at h
  | .lst _, h => by simp [D.itree] at h
  | .fz _, h => by simp [D.itree] at h
  | .dct _, h => by simp [D.itree] at h
  | .ref _ _, h => by simp [D.itree] at h
theorem itrees_shal (m : Nat) : ∀ {xs : List D}, itrees xs = true → shals m xs = true
  | [], _ => by simp [shals]
  | x :: xs, h => by
    simp only [itrees, Bool.and_eq_true] at h
    simp only [shals, Bool.and_eq_true]
    exact ⟨itree_shal m h.1, itrees_shal m h.2⟩
end
mutual
theorem eqv_refl : ∀ {x : D}, x.itree = true → x.eqv x = true
  | .int i, _ => by simp [D.eqv]
  | .tup xs, h => by simp only [D.itree] at h; simp only [D.eqv]; exact eqvs_refl h
  | .non, h => by simp [D.itree] at h
  | .bl _, h => by simp [D.itree] at h
  | .str _, h => by simp [D.itree] at h
  | .lst _, h => by simp [D.itree] at h
  | .fz _, h => by simp [D.itree] at h
  | .dct _, h => by simp [D.itree] at h
  | .ref _ _, h => by simp [D.itree] at h
theorem eqvs_refl : ∀ {xs : List D}, itrees xs = true → eqvs xs xs = true
  | [], _ => by simp [eqvs]
  | x :: xs, h => by
    simp only [itrees, Bool.and_eq_true] at h
    simp only [eqvs, Bool.and_eq_true]
    exact ⟨eqv_refl h.1, eqvs_refl h.2⟩
end
theorem eqv_iff {x y : D} (h1 : x.itree = true) (h2 : y.itree = true) : x.eqv y = true ↔ x = y := ⟨fun h => eqv_eq h1 h2 h, fun h => by rw [h]; exact eqv_refl h2⟩
theorem plains_map {α : Type} {g : α → D} {m : Nat} : ∀ {l : List α}, (∀ x ∈ l, (g x).plain m = true) → plains m (l.map g) = true
  | [], _ => by simp [plains]
  | x :: l, h => by
    rw [List.map_cons]
    simp only [plains, Bool.and_eq_true]
    exact ⟨h x List.mem_cons_self, plains_map fun y hy => h y (List.mem_cons_of_mem _ hy)⟩
theorem dR_plain (r : List Int) {m : Nat} : (dR r).plain (m + 1) = true := by
  unfold dR
  simp only [D.plain]
  exact plains_map fun x _ => by cases m <;> simp [D.plain]
theorem dT_plain (t : List (List Int)) {m : Nat} : (dT t).plain (m + 2) = true := by
  unfold dT
  simp only [D.plain]
  exact plains_map fun x _ => dR_plain x
/-! ### slices -/
theorem clip_pos {n d : Nat} {i : Int} (h : 0 ≤ i) : clipD n d (some i) = min i.toNat n := by
  show (if i < 0 then _ else _) = _
  rw [if_neg (by omega)]
theorem clip_none {n d : Nat} : clipD n d none = d := rfl
theorem cut_to (xs : List D) {i : Int} (h : 0 ≤ i) : cutD xs none (some i) = xs.take i.toNat := by
  unfold cutD
  rw [clip_pos h, clip_none, List.drop_zero, Nat.sub_zero]
  rcases Nat.le_total i.toNat xs.length with q | q
  · rw [Nat.min_eq_left q]
  · rw [Nat.min_eq_right q, List.take_of_length_le (Nat.le_refl _), List.take_of_length_le q]
theorem cut_from (xs : List D) {i : Int} (h : 0 ≤ i) : cutD xs (some i) none = xs.drop i.toNat := by
  unfold cutD
  rw [clip_pos h, clip_none]
  rcases Nat.le_total i.toNat xs.length with q | q
  · rw [Nat.min_eq_left q, List.take_of_length_le (by rw [List.length_drop]; omega)]
  · rw [Nat.min_eq_right q, Nat.sub_self, List.take_zero, List.drop_eq_nil_of_le q]
theorem cut_mid (xs : List D) {i j : Int} (h : 0 ≤ i) (h2 : 0 ≤ j) : cutD xs (some i) (some j) = (xs.drop i.toNat).take (j.toNat - i.toNat) := by
  unfold cutD
  rw [clip_pos h, clip_pos h2]
  rcases Nat.le_total i.toNat xs.length with q | q
  · rw [Nat.min_eq_left q]
    rcases Nat.le_total j.toNat xs.length with r | r
    · rw [Nat.min_eq_left r]
    · rw [Nat.min_eq_right r, List.take_of_length_le (by rw [List.length_drop]; omega), List.take_of_length_le (by rw [List.length_drop]; omega)]
  · rw [Nat.min_eq_right q, List.drop_eq_nil_of_le (Nat.le_refl _), List.drop_eq_nil_of_le q, List.take_nil, List.take_nil]
theorem numsD_map (m : Nat) : numsD 0 m = (List.range m).map fun i => D.int (i : Nat) := by
  unfold numsD
  simp only [Int.zero_add]
/-! ### the first defs -/
section
variable {T : Text}
def dfI : Def := ⟨1, 1, false, [.ret (some (.and (.isi (.loc 0) [.int]) (.nt (.isi (.loc 0) [.bool]))))]⟩
theorem r_isint (h : T.defs 0 = some dfI) (n : Nat) (i : Int) (s : S) : run T (n + 1) 0 [.int i] s = .ok (.bl true) s := by
  rw [run_def h rfl]
  simp [dfI, evSs, evS, evE, startE, getV, tyD, S.view, truth, leave0]
def dfW : Def := ⟨3, 3, false, [.ret (some (.and (.call 0 [.loc 0]) (.chain .le .le (.loc 1) (.loc 0) (.loc 2))))]⟩
theorem r_within (h : T.defs 0 = some dfI) (h2 : T.defs 2 = some dfW) (n : Nat) (i lo hi : Int) (s : S) : run T (n + 2) 2 [.int i, .int lo, .int hi] s = .ok (.bl (decide (lo ≤ i) && decide (i ≤ hi))) s := by
  rw [run_def h2 rfl]
  simp [dfW, evSs, evS, evE, evEs, startE, getV, r_isint h, S.view, truth, cmpD]
  by_cases e : lo ≤ i
  · simp [e, leave0]
  · simp [e, leave0]
end
end Ev

set_option Elab.async false
set_option linter.all false
set_option maxRecDepth 100000
/-! P2: the defs of the tables. -/
namespace Ev
open PySem
def dfCW : Def := ⟨1, 1, false, [.ite (.nt (.call 2 [.loc 0, .cst (.int 1), .gc 1])) [.raise 3] []]⟩
def dfRow : Def := ⟨2, 3, false, [.ite (.or (.nt (.isi (.loc 1) [.tuple])) (.cmp .ne (.bi .len [.loc 1]) (.loc 0))) [.ret (some (.cst (.bl false)))] [], .ret (some (.bi .all [.comp (.call 2 [.loc 2, .neg (.gc 4), .gc 4]) (.one 2) (.ex (.loc 1)) none]))]⟩
def dfTab : Def := ⟨2, 3, false, [.ret (some (.and (.isi (.loc 1) [.tuple]) (.and (.cmp .le (.bi .len [.loc 1]) (.gc 6)) (.bi .all [.comp (.call 5 [.loc 0, .loc 2]) (.one 2) (.ex (.loc 1)) none]))))]⟩
def dfIsT : Def := ⟨2, 2, false, [.ex (.call 7 [.loc 0]), .ret (some (.call 8 [.loc 0, .loc 1]))]⟩
def dfCT : Def := ⟨3, 3, false, [.ex (.call 7 [.loc 0]), .ite (.or (.nt (.call 8 [.loc 0, .loc 1])) (.nt (.call 8 [.loc 0, .loc 2]))) [.raise 9] []]⟩
def dfLess : Def := ⟨1, 2, false, [.ret (some (.comp (.bin .add (.sl (.loc 0) none (some (.loc 1))) (.sl (.loc 0) (some (.bin .add (.loc 1) (.cst (.int 1)))) none)) (.one 1) (.rng1 (.bi .len [.loc 0])) none))]⟩
def dfNb : Def := ⟨3, 3, false, [.ex (.call 10 [.loc 0, .loc 1, .loc 2]), .ret (some (.or (.cmp .isIn (.loc 2) (.call 11 [.loc 1])) (.cmp .isIn (.loc 1) (.call 11 [.loc 2]))))]⟩
def dfNL : Def := ⟨2, 4, false, [.ex (.call 10 [.loc 0, .loc 1, .loc 1]), .set 2 (.cell (.lst [])), .fo (.one 3) (.ex (.bi .sorted [.call 11 [.loc 1]])) [.ite (.cmp .notIn (.loc 3) (.loc 2)) [.ex (.me .append (.loc 2) [.loc 3])] []], .ret (some (.bi .tuple [.loc 2]))]⟩
structure Tb (T : Text) : Prop where
  d0 : T.defs 0 = some dfI
  d2 : T.defs 2 = some dfW
  d7 : T.defs 7 = some dfCW
  d5 : T.defs 5 = some dfRow
  d8 : T.defs 8 = some dfTab
  d19 : T.defs 19 = some dfIsT
  d10 : T.defs 10 = some dfCT
  d11 : T.defs 11 = some dfLess
  d18 : T.defs 18 = some dfNb
  d14 : T.defs 14 = some dfNL
  g1 : T.gc 1 = some (.int 6)
  g4 : T.gc 4 = some (.int 1000)
  g6 : T.gc 6 = some (.int 12)
def okR (w : Nat) (r : List Int) : Prop := r.length = w ∧ ∀ x ∈ r, -1000 ≤ x ∧ x ≤ 1000
def okT (w : Nat) (t : List (List Int)) : Prop := t.length ≤ 12 ∧ ∀ r ∈ t, okR w r
def okW (w : Nat) : Prop := 1 ≤ w ∧ w ≤ 6
theorem small_of {i : Int} (h : 0 ≤ i) (h2 : i < 1000000000) : smallD i := by
  unfold smallD
  constructor <;> omega
theorem all_true {α : Type} : ∀ l : List α, allD (l.map fun _ => D.bl true) = some true
  | [] => rfl
  | x :: l => by rw [List.map_cons]; simp only [allD, all_true l]; rfl
theorem map_const {α β : Type} (b : β) (l : List α) (g : α → β) (h : ∀ x ∈ l, g x = b) : l.map g = l.map fun _ => b := List.map_congr_left h
section
variable {T : Text} (B : Tb T) {w : Nat} {n : Nat} {s : S}
include B
theorem r_cw (hw : okW w) : run T (n + 3) 7 [.int w] s = .ok .non s := by
  obtain ⟨h1, h2⟩ := hw
  rw [run_def B.d7 rfl]
  simp [dfCW, evSs, evS, evE, evEs, evT_nt, evT_call, startE, getV, B.g1, r_within B.d0 B.d2, S.view, truth, leaveN]
  rw [if_neg (by omega)]
  exact leaveN
theorem r_row {r : List Int} (h : okR w r) (hw : okW w) : run T (n + 3) 5 [.int w, dR r] s = .ok (.bl true) s := by
  obtain ⟨h1, h2⟩ := h
  obtain ⟨w1, w2⟩ := hw
  rw [run_def B.d5 rfl]
  have hr : (dR r).itree = true := dR_itree r
  simp [dfRow, evSs, evS, evE, evEs, evT_nt, evT_or, evT_isi, evT_cmp, evT_bi, startE, getV, S.view, truth, tyD, biD, items, cmpD, eqD, dR, D.plain, D.eqv, h1, walkD, evI, evE_comp1]
  rw [comp_map (g := fun _ => D.bl true)]
  · simp [biD, S.view, map_const (D.bl true), all_true, leave0]
  · intro x hx
    obtain ⟨i, hi, rfl⟩ := List.mem_map.mp hx
    obtain ⟨a, b⟩ := h2 i hi
    simp [evE, evEs, getV, B.g4, r_within B.d0 B.d2, noExc, a, b]
  · rw [List.length_map]
    have : LIM = 1000000 := rfl
    omega
theorem r_tab {t : List (List Int)} (h : okT w t) (hw : okW w) : run T (n + 4) 8 [.int w, dT t] s = .ok (.bl true) s := by
  obtain ⟨h1, h2⟩ := h
  rw [run_def B.d8 rfl]
  have h12 : (t.length : Int) ≤ 12 := by omega
  simp [dfTab, evSs, evS, evE, evEs, startE, getV, S.view, truth, tyD, bi_len_tup, cmpD, dT, walkD, evI, evE_comp1, B.g6, h12]
  rw [comp_map (g := fun _ => D.bl true)]
  · simp [bi_all, map_const (D.bl true), all_true, leave0]
  · intro x hx
    obtain ⟨r, hr, rfl⟩ := List.mem_map.mp hx
    simp [r_row B (h2 r hr) hw, noExc]
  · rw [List.length_map]
    have : LIM = 1000000 := rfl
    omega
theorem r_isT {t : List (List Int)} (h : okT w t) (hw : okW w) : run T (n + 5) 19 [.int w, dT t] s = .ok (.bl true) s := by
  rw [run_def B.d19 rfl]
  simp [dfIsT, evSs, evS, evE, evEs, startE, getV, r_cw B hw, r_tab B h hw, leave0]
theorem r_ct {t u : List (List Int)} (h : okT w t) (h2 : okT w u) (hw : okW w) : run T (n + 5) 10 [.int w, dT t, dT u] s = .ok .non s := by
  rw [run_def B.d10 rfl]
  simp [dfCT, evSs, evS, evE, evEs, evT_nt, evT_or, evT_call, startE, getV, r_cw B hw, r_tab B h hw, r_tab B h2 hw, truth, S.view, leaveN]
end
def er {α : Type} (t : List α) (i : Nat) : List α := t.take i ++ t.drop (i + 1)
def less (t : List (List Int)) : List (List (List Int)) := (List.range t.length).map fun i => er t i
theorem er_map {α β : Type} (g : α → β) (t : List α) (i : Nat) : (er t i).map g = er (t.map g) i := by
  unfold er
  rw [List.map_append, List.map_take, List.map_drop]
theorem er_len {α : Type} (t : List α) {i : Nat} (h : i < t.length) : (er t i).length = t.length - 1 := by
  unfold er
  rw [List.length_append, List.length_take, List.length_drop]
  omega
theorem er_mem {α : Type} {t : List α} {i : Nat} {x : α} (h : x ∈ er t i) : x ∈ t := by
  unfold er at h
  rcases List.mem_append.mp h with h | h
  · exact List.mem_of_mem_take h
  · exact List.mem_of_mem_drop h
theorem er_perm {α : Type} : ∀ {t : List α} {i : Nat} (h : i < t.length), t.Perm (t[i] :: er t i)
  | [], i, h => absurd h (Nat.not_lt_zero _)
  | x :: t, 0, h => List.Perm.refl _
  | x :: t, i + 1, h => by
    have h' : i < t.length := by simpa using h
    have z := (er_perm h').cons x
    exact z.trans (List.Perm.swap _ _ _)
theorem okT_er {w : Nat} {t : List (List Int)} (h : okT w t) {i : Nat} (hi : i < t.length) : okT w (er t i) := by
  refine ⟨?_, fun r hr => h.2 r (er_mem hr)⟩
  rw [er_len t hi]
  have := h.1
  omega
theorem mem_less {t x : List (List Int)} : x ∈ less t ↔ ∃ i, i < t.length ∧ er t i = x := by
  unfold less
  rw [List.mem_map]
  exact ⟨fun ⟨i, h, e⟩ => ⟨i, List.mem_range.mp h, e⟩, fun ⟨i, h, e⟩ => ⟨i, List.mem_range.mpr h, e⟩⟩
theorem any_in (x : List (List Int)) (l : List (List (List Int))) : ((l.map dT).any fun z => z.eqv (dT x)) = decide (x ∈ l) := by
  rw [Bool.eq_iff_iff, List.any_eq_true, decide_eq_true_iff]
  constructor
  · rintro ⟨z, hz, e⟩
    obtain ⟨y, hy, rfl⟩ := List.mem_map.mp hz
    rw [eqv_iff (dT_itree _) (dT_itree _)] at e
    rw [← dT_inj e]
    exact hy
  · intro h
    exact ⟨dT x, List.mem_map.mpr ⟨x, h, rfl⟩, eqv_refl (dT_itree x)⟩
theorem in_lst (s : S) (x : List (List Int)) (l : List (List (List Int))) : inD s (dT x) (.lst (l.map dT)) = some (decide (x ∈ l)) := by
  unfold inD
  simp only [S.view]
  rw [dT_plain, plains_map fun y _ => dT_plain y, Bool.and_self, if_pos rfl, any_in]
theorem less_step {t : List (List Int)} (h : t.length ≤ 12) {c : Cfg} {i : Nat} (hi : i < t.length) {s : S} : evE c (.bin .add (.sl (.loc 0) none (some (.loc 1))) (.sl (.loc 0) (some (.bin .add (.loc 1) (.cst (.int 1)))) none)) [some (dT t), some (.int i)] s = .ok (dT (er t i)) s := by
  have e1 : cutD (t.map dR) none (some (i : Int)) = (t.map dR).take i := cut_to _ (by omega)
  have e2 : cutD (t.map dR) (some ((i : Int) + 1)) none = (t.map dR).drop (i + 1) := cut_from _ (by omega)
  have hl : ((t.map dR).take i).length + ((t.map dR).drop (i + 1)).length ≤ LIM := by
    have e : LIM = 1000000 := rfl
    rw [List.length_take, List.length_drop, List.length_map, e]
    omega
  simp only [evE, evO, getV, List.getElem?_cons_zero, List.getElem?_cons_succ, Option.bind_some, id_eq, R.opt_some, R.bind_ok, intP, dT, sl_tup, bn_add, e1, e2, bn_tup, if_pos hl]
  rw [er_map]
  rfl
theorem r_lessG {T : Text} {f n : Nat} {s : S} (hd : T.defs f = some dfLess) {t : List (List Int)} (h : t.length ≤ 12) : run T (n + 1) f [dT t] s = .ok (.lst ((less t).map dT)) s := by
  rw [run_def hd rfl]
  have hs : smallD (t.length : Int) := small_of (by omega) (by omega)
  have e1 : biD (fr s []) .len [dT t] = some (.int t.length) := by
    unfold dT
    rw [bi_len_tup, List.length_map]
  have hI : evI (cf T n) (.rng1 (.bi .len [.loc 0])) [some (dT t), none] (fr s []) = .ok ⟨numsD 0 t.length, none⟩ (fr s []) := by
    refine evI_rng1 (j := (t.length : Nat)) ?_ hs
    simp only [evE, evEs, getV, List.getElem?_cons_zero, Option.bind_some, id_eq, R.opt_some, R.bind_ok, e1]
  have key : evE (cf T n) (.comp (.bin .add (.sl (.loc 0) none (some (.loc 1))) (.sl (.loc 0) (some (.bin .add (.loc 1) (.cst (.int 1)))) none)) (.one 1) (.rng1 (.bi .len [.loc 0])) none) [some (dT t), none] (fr s []) = .ok (.lst ((less t).map dT)) (fr s []) := by
    rw [evE_comp1, hI, R.bind_ok, numsD_map, comp_map (g := fun d => match d with | .int i => dT (er t i.toNat) | _ => .non), List.map_map, R.bind_ok]
    · unfold less
      rw [List.map_map]
      rfl
    · intro x hx
      obtain ⟨i, hi, rfl⟩ := List.mem_map.mp hx
      have hi := List.mem_range.mp hi
      simp only [List.set_cons_succ, List.set_cons_zero, less_step h hi, R.bind_ok, noExc]
      rfl
    · rw [List.length_map, List.length_range]
      have e : LIM = 1000000 := rfl
      rw [e]
      omega
  have e0 : startE dfLess.ns [dT t] = [some (dT t), none] := rfl
  rw [e0]
  simp only [dfLess, evSs, evS, key, R.st_ok, RS.bind_ret]
  rw [leaveC]
  simp only [D.shal]
  exact itrees_shal _ (itrees_map fun i _ => dT_itree _)
section
variable {T : Text} (B : Tb T) {w : Nat} {n : Nat} {s : S}
include B
theorem r_less {t : List (List Int)} (h : t.length ≤ 12) : run T (n + 1) 11 [dT t] s = .ok (.lst ((less t).map dT)) s := r_lessG B.d11 h
theorem r_nb {t u : List (List Int)} (h : okT w t) (h2 : okT w u) (hw : okW w) : run T (n + 6) 18 [.int w, dT t, dT u] s = .ok (.bl (decide (u ∈ less t) || decide (t ∈ less u))) s := by
  rw [run_def B.d18 rfl]
  simp [dfNb, evSs, evS, evE, evEs, startE, getV, r_ct B h h2 hw, r_less B h.1, r_less B h2.1, cmpD, in_lst, truth, S.view]
  by_cases e : u ∈ less t
  · simp [e, leave0]
  · simp [e, leave0]
end
/-! ### found lists -/
def dd (acc : List D) : List D → List D
  | [] => acc
  | x :: xs => if (acc.any fun z => z.eqv x) = true then dd acc xs else dd (acc ++ [x]) xs
theorem get_fr {s : S} {cs : List Cel} {k : Nat} : (fr s cs).get (s.out.length + 1) k = cs[k]? := by
  show (if s.out.length + 1 = s.out.length + 1 then cs[k]? else _) = _
  rw [if_pos rfl]
theorem set_fr {s : S} {cs : List Cel} {k : Nat} {x : Cel} : (fr s cs).set (s.out.length + 1) k x = fr s (cs.set k x) := by
  simp [S.set, setA]
theorem dep_fr {s : S} {cs : List Cel} : (fr s cs).dep = s.out.length + 1 := rfl
/-- the turns of a list that takes what it has not -/
theorem for_dd {c : Cfg} {i j : Nat} {s : S} : ∀ {xs acc : List D} {env : Env}, i < env.length → getV env j = some (.ref (s.out.length + 1) 0) → i ≠ j → (∀ x ∈ xs, x.itree = true ∧ x.plain 60 = true) → plains 60 acc = true → acc.length + xs.length ≤ LIM →
    ∃ o, forL none (.one i) (evSs c [.ite (.cmp .notIn (.loc i) (.loc j)) [.ex (.me .append (.loc j) [.loc i])] []]) xs env (fr s [.lst acc]) = .next (env.set i o) (fr s [.lst (dd acc xs)])
  | [], acc, env, hi, hj, hij, hx, ha, hl => by
    refine ⟨env[i], ?_⟩
    rw [List.set_getElem_self]
    simp only [forL, dd]
  | x :: xs, acc, env, hi, hj, hij, hx, ha, hl => by
    obtain ⟨x1, x2⟩ := hx x List.mem_cons_self
    have hl' : acc.length + (xs.length + 1) ≤ LIM := hl
    have v1 : getV (env.set i (some x)) i = some x := by
      unfold getV
      rw [List.getElem?_set_self hi]
      rfl
    have v2 : getV (env.set i (some x)) j = some (.ref (s.out.length + 1) 0) := by
      unfold getV at hj ⊢
      rw [List.getElem?_set_ne hij]
      exact hj
    have hin : inD (fr s [.lst acc]) x (.ref (s.out.length + 1) 0) = some (acc.any fun z => z.eqv x) := by
      unfold inD
      simp only [S.view, get_fr, List.getElem?_cons_zero]
      rw [x2, ha, Bool.and_self, if_pos rfl]
    cases q : (acc.any fun z => z.eqv x) with
    | true =>
      have hb : evSs c [.ite (.cmp .notIn (.loc i) (.loc j)) [.ex (.me .append (.loc j) [.loc i])] []] (env.set i (some x)) (fr s [.lst acc]) = .next (env.set i (some x)) (fr s [.lst acc]) := by
        simp only [evSs, evS, evT_cmp, evE, v1, v2, cmpD, hin, q, R.opt_some, R.bind_ok, R.st_ok, Option.map_some, truth, S.view, Bool.not_true, Bool.false_eq_true, if_false, RS.bind_next]
      obtain ⟨o, ho⟩ := for_dd (c := c) (xs := xs) (acc := acc) (env := env.set i (some x)) (by rw [List.length_set]; exact hi) v2 hij (fun y hy => hx y (List.mem_cons_of_mem _ hy)) ha (by omega)
      refine ⟨o, ?_⟩
      simp only [forL, putT, RS.opt_some]
      rw [hb]
      simp only [keptG, if_true]
      rw [ho, List.set_set]
      simp only [dd, q, if_true]
    | false =>
      have hp : plains 60 (acc ++ [x]) = true := by
        clear hl hl' hin q
        induction acc with
        | nil => simp only [List.nil_append, plains, x2, Bool.and_self]
        | cons y ys ih =>
          simp only [plains, Bool.and_eq_true] at ha
          simp only [List.cons_append, plains, Bool.and_eq_true]
          exact ⟨ha.1, ih ha.2⟩
      have hlt : acc.length < LIM := by omega
      have hb : evSs c [.ite (.cmp .notIn (.loc i) (.loc j)) [.ex (.me .append (.loc j) [.loc i])] []] (env.set i (some x)) (fr s [.lst acc]) = .next (env.set i (some x)) (fr s [.lst (acc ++ [x])]) := by
        simp only [evSs, evS, evT_cmp, evE, evEs, v1, v2, cmpD, hin, q, R.opt_some, R.bind_ok, R.st_ok, Option.map_some, truth, S.view, Bool.not_false, if_true, RS.bind_next, isL, get_fr, List.getElem?_cons_zero, meD, hlt, itree_shal _ x1, and_self, set_fr, List.set_cons_zero]
      obtain ⟨o, ho⟩ := for_dd (c := c) (xs := xs) (acc := acc ++ [x]) (env := env.set i (some x)) (by rw [List.length_set]; exact hi) v2 hij (fun y hy => hx y (List.mem_cons_of_mem _ hy)) hp (by rw [List.length_append]; show acc.length + 1 + xs.length ≤ LIM; omega)
      refine ⟨o, ?_⟩
      simp only [forL, putT, RS.opt_some]
      rw [hb]
      simp only [keptG, if_true]
      rw [ho, List.set_set]
      simp only [dd, q, Bool.false_eq_true, if_false]
end Ev

set_option Elab.async false
set_option linter.all false
set_option maxRecDepth 100000
/-! P3: found lists in order. -/
namespace Ev
open PySem
theorem lx_eq : ∀ {a b : List Int}, lx a b = false → lx b a = false → a = b
  | [], [], _, _ => rfl
  | [], _ :: _, h, _ => by simp [lx] at h
  | _ :: _, [], _, h => by simp [lx] at h
  | x :: a, y :: b, h1, h2 => by
    simp only [lx] at h1 h2
    by_cases e : x = y
    · subst e
      rw [if_pos rfl] at h1 h2
      rw [lx_eq h1 h2]
    · rw [if_neg e] at h1
      rw [if_neg (fun q => e q.symm)] at h2
      have h1 := of_decide_eq_false h1
      have h2 := of_decide_eq_false h2
      omega
theorem encs_head {xs : List D} (h : itrees xs = true) : ∃ a r, encs xs = a :: r ∧ (xs = [] ↔ a = -1) := by
  cases xs with
  | nil => exact ⟨-1, [], rfl, by simp⟩
  | cons x xs =>
    simp only [itrees, Bool.and_eq_true] at h
    obtain ⟨a, r, e1, e2⟩ := enc_head h.1
    refine ⟨a, r ++ encs xs, by simp only [encs, e1, List.cons_append], ?_⟩
    constructor
    · intro q; cases q
    · intro q; omega
mutual
theorem enc_inj : ∀ {x y : D} {r r' : List Int}, x.itree = true → y.itree = true → enc x ++ r = enc y ++ r' → x = y ∧ r = r'
  | .int i, .int j, r, r', _, _, h => by
    simp only [enc, List.cons_append, List.nil_append, List.cons.injEq, true_and] at h
    exact ⟨by rw [h.1], h.2⟩
  | .int i, .tup ys, r, r', _, _, h => by simp [enc] at h
  | .tup xs, .int j, r, r', _, _, h => by simp [enc] at h
  | .tup xs, .tup ys, r, r', h1, h2, h => by
    simp only [D.itree] at h1 h2
    simp only [enc, List.cons_append, List.cons.injEq, true_and] at h
    obtain ⟨e1, e2⟩ := encs_inj h1 h2 h
    exact ⟨by rw [e1], e2⟩
  | .non, _, _, _, h, _, _ => by simp [D.itree] at h
  | .bl _, _, _, _, h, _, _ => by simp [D.itree] at h
  | .str _, _, _, _, h, _, _ => by simp [D.itree] at h
  | .lst _, _, _, _, h, _, _ => by simp [D.itree] at h
  | .fz _, _, _, _, h, _, _ => by simp [D.itree] at h
  | .dct _, _, _, _, h, _, _ => by simp [D.itree] at h
  | .ref _ _, _, _, _, h, _, _ => by simp [D.itree] at h
  | _, .non, _, _, _, h, _ => by simp [D.itree] at h
  | _, .bl _, _, _, _, h, _ => by simp [D.itree] at h
  | _, .str _, _, _, _, h, _ => by simp [D.itree] at h
  | _, .lst _, _, _, _, h, _ => by simp [D.itree] at h
  | _, .fz _, _, _, _, h, _ => by simp [D.itree] at h
  | _, .dct _, _, _, _, h, _ => by simp [D.itree] at h
  | _, .ref _ _, _, _, _, h, _ => by simp [D.itree] at h
theorem encs_inj : ∀ {xs ys : List D} {r r' : List Int}, itrees xs = true → itrees ys = true → encs xs ++ r = encs ys ++ r' → xs = ys ∧ r = r'
  | [], [], r, r', _, _, h => by
    simp only [encs, List.cons_append, List.nil_append, List.cons.injEq, true_and] at h
    exact ⟨rfl, h⟩
  | [], y :: ys, r, r', _, h2, h => by
    obtain ⟨a, q, e1, e2⟩ := encs_head h2
    rw [e1] at h
    simp only [encs, List.cons_append, List.cons.injEq] at h
    exact absurd (e2.mpr h.1.symm) (by simp)
  | x :: xs, [], r, r', h1, _, h => by
    obtain ⟨a, q, e1, e2⟩ := encs_head h1
    rw [e1] at h
    simp only [encs, List.cons_append, List.cons.injEq] at h
    exact absurd (e2.mpr h.1) (by simp)
  | x :: xs, y :: ys, r, r', h1, h2, h => by
    simp only [itrees, Bool.and_eq_true] at h1 h2
    simp only [encs, List.append_assoc] at h
    obtain ⟨e1, h⟩ := enc_inj h1.1 h2.1 h
    obtain ⟨e2, h⟩ := encs_inj h1.2 h2.2 h
    exact ⟨by rw [e1, e2], h⟩
end
theorem lxe_tot {x y : D} (hx : x.itree = true) (hy : y.itree = true) (h1 : lxe x y = false) (h2 : lxe y x = false) : x = y := by
  have e : enc x ++ [] = enc y ++ [] := by rw [List.append_nil, List.append_nil]; exact lx_eq h1 h2
  exact (enc_inj hx hy e).1
abbrev Asc (l : List D) : Prop := l.Pairwise fun x y => lxe x y = true
theorem asc_ext : ∀ {l m : List D}, Asc l → Asc m → (∀ x, x ∈ l ↔ x ∈ m) → l = m
  | [], [], _, _, _ => rfl
  | [], y :: m, _, _, h => absurd ((h y).mpr List.mem_cons_self) (by simp)
  | x :: l, [], _, _, h => absurd ((h x).mp List.mem_cons_self) (by simp)
  | x :: l, y :: m, h1, h2, h => by
    obtain ⟨a1, a2⟩ := List.pairwise_cons.mp h1
    obtain ⟨b1, b2⟩ := List.pairwise_cons.mp h2
    have e : x = y := by
      rcases List.mem_cons.mp ((h x).mp List.mem_cons_self) with e | hx
      · exact e
      · rcases List.mem_cons.mp ((h y).mpr List.mem_cons_self) with e | hy
        · exact e.symm
        · have z := lxe_swo.asym _ _ (b1 x hx)
          rw [a1 y hy] at z
          cases z
    subst e
    have irr : lxe x x = false := lxe_swo.refl x
    congr 1
    refine asc_ext a2 b2 fun z => ⟨fun hz => ?_, fun hz => ?_⟩
    · rcases List.mem_cons.mp ((h z).mp (List.mem_cons_of_mem _ hz)) with e | q
      · subst e
        rw [a1 z hz] at irr
        cases irr
      · exact q
    · rcases List.mem_cons.mp ((h z).mpr (List.mem_cons_of_mem _ hz)) with e | q
      · subst e
        rw [b1 z hz] at irr
        cases irr
      · exact q
/-! ### what is found -/
abbrev Its (l : List D) : Prop := ∀ x ∈ l, x.itree = true
theorem any_mem {acc : List D} {x : D} (ha : Its acc) (hx : x.itree = true) : (acc.any fun z => z.eqv x) = true ↔ x ∈ acc := by
  rw [List.any_eq_true]
  constructor
  · rintro ⟨z, hz, e⟩
    rw [← eqv_eq (ha z hz) hx e]
    exact hz
  · intro h
    exact ⟨x, h, eqv_refl hx⟩
theorem its_snoc {acc : List D} {x : D} (ha : Its acc) (hx : x.itree = true) : Its (acc ++ [x]) := fun y hy => by
  rcases List.mem_append.mp hy with h | h
  · exact ha y h
  · rw [List.mem_singleton.mp h]; exact hx
theorem dd_mem : ∀ {xs acc : List D}, Its acc → Its xs → ∀ x, x ∈ dd acc xs ↔ x ∈ acc ∨ x ∈ xs
  | [], acc, _, _, x => by simp [dd]
  | y :: xs, acc, ha, hx, x => by
    have hy := hx y List.mem_cons_self
    have hx' : Its xs := fun z hz => hx z (List.mem_cons_of_mem _ hz)
    unfold dd
    split
    · rename_i q
      rw [any_mem ha hy] at q
      rw [dd_mem ha hx']
      constructor
      · rintro (h | h)
        · exact .inl h
        · exact .inr (List.mem_cons_of_mem _ h)
      · rintro (h | h)
        · exact .inl h
        · rcases List.mem_cons.mp h with e | h
          · exact .inl (by rw [e]; exact q)
          · exact .inr h
    · rw [dd_mem (its_snoc ha hy) hx', List.mem_append, List.mem_singleton, List.mem_cons, or_assoc]
theorem dd_nodup : ∀ {xs acc : List D}, Its acc → Its xs → acc.Nodup → (dd acc xs).Nodup
  | [], acc, _, _, h => by simpa [dd] using h
  | y :: xs, acc, ha, hx, h => by
    have hy := hx y List.mem_cons_self
    have hx' : Its xs := fun z hz => hx z (List.mem_cons_of_mem _ hz)
    unfold dd
    split
    · exact dd_nodup ha hx' h
    · rename_i q
      rw [any_mem ha hy] at q
      refine dd_nodup (its_snoc ha hy) hx' ?_
      rw [List.nodup_append]
      refine ⟨h, by simp, fun a h1 b h2 => ?_⟩
      rw [List.mem_singleton.mp h2]
      exact fun e => q (by rw [← e]; exact h1)
theorem dd_sub : ∀ (xs acc : List D), ∃ ys, dd acc xs = acc ++ ys ∧ ys.Sublist xs
  | [], acc => ⟨[], by simp [dd], List.Sublist.refl _⟩
  | y :: xs, acc => by
    unfold dd
    split
    · obtain ⟨ys, e, h⟩ := dd_sub xs acc
      exact ⟨ys, e, h.cons y⟩
    · obtain ⟨ys, e, h⟩ := dd_sub xs (acc ++ [y])
      exact ⟨y :: ys, by rw [e, List.append_assoc]; rfl, h.cons₂ y⟩
/-- sorted, each once -/
theorem asc_of {l : List D} (hi : Its l) (h : SrtO.Srtd lxe l) (nd : l.Nodup) : Asc l := by
  induction l with
  | nil => exact List.Pairwise.nil
  | cons x l ih =>
    obtain ⟨h1, h2⟩ := List.pairwise_cons.mp h
    obtain ⟨n1, n2⟩ := List.nodup_cons.mp nd
    refine List.pairwise_cons.mpr ⟨fun y hy => ?_, ih (fun z hz => hi z (List.mem_cons_of_mem _ hz)) h2 n2⟩
    cases q : lxe x y with
    | true => rfl
    | false => exact absurd (lxe_tot (hi x List.mem_cons_self) (hi y (List.mem_cons_of_mem _ hy)) q (h1 y hy)) fun e => n1 (by rw [e]; exact hy)
theorem its_sort {l : List D} (hi : Its l) : Its (isortE l) := fun x hx => hi x ((isort_perm l).mem_iff.mp hx)
/-- the ones of l, each once, ascending: by sorting first -/
theorem asc_dd {l : List D} (hi : Its l) : Asc (dd [] (isortE l)) ∧ ∀ x, x ∈ dd [] (isortE l) ↔ x ∈ l := by
  have h0 : Its [] := fun x hx => absurd hx (by simp)
  have hm : ∀ x, x ∈ dd [] (isortE l) ↔ x ∈ l := fun x => by
    rw [dd_mem h0 (its_sort hi)]
    simp only [List.not_mem_nil, false_or]
    exact (isort_perm l).mem_iff
  refine ⟨asc_of (fun x hx => hi x ((hm x).mp hx)) ?_ (dd_nodup h0 (its_sort hi) List.nodup_nil), hm⟩
  obtain ⟨ys, e, hs⟩ := dd_sub (isortE l) []
  rw [e, List.nil_append]
  exact (isort_srt l).sublist hs
/-- .. by sorting last -/
theorem asc_sort {l : List D} (hi : Its l) : Asc (isortE (dd [] l)) ∧ ∀ x, x ∈ isortE (dd [] l) ↔ x ∈ l := by
  have h0 : Its [] := fun x hx => absurd hx (by simp)
  have hm : ∀ x, x ∈ dd [] l ↔ x ∈ l := fun x => by
    rw [dd_mem h0 hi]
    simp
  have hi' : Its (dd [] l) := fun x hx => hi x ((hm x).mp hx)
  refine ⟨asc_of (its_sort hi') (isort_srt _) ((isort_perm _).nodup_iff.mpr (dd_nodup h0 hi List.nodup_nil)), fun x => ?_⟩
  rw [(isort_perm (dd [] l)).mem_iff]
  exact hm x
/-! ### sorted tables -/
theorem lts_map {α : Type} {g : α → D} (h : ∀ x y, ((g x).lt (g y)).isSome = true) : ∀ xs ys : List α, (lts (xs.map g) (ys.map g)).isSome = true
  | [], [] => by simp [lts]
  | [], _ :: _ => by simp [lts]
  | _ :: _, [] => by simp [lts]
  | x :: xs, y :: ys => by
    simp only [List.map_cons, lts]
    have ih := lts_map h xs ys
    cases q : lts (xs.map g) (ys.map g) with
    | none => rw [q] at ih; cases ih
    | some b =>
      dsimp only
      split
      · rfl
      · exact h x y
theorem dR_lt (a b : List Int) : ((dR a).lt (dR b)).isSome = true := by
  unfold dR
  simp only [D.lt]
  exact lts_map (fun x y => by simp [D.lt]) a b
theorem dT_lt (a b : List (List Int)) : ((dT a).lt (dT b)).isSome = true := by
  unfold dT
  simp only [D.lt]
  exact lts_map dR_lt a b
theorem itrees_all {l : List D} (h : Its l) : itrees l = true := by
  have e : l = l.map id := by simp
  rw [e]
  exact itrees_map h
theorem sort_T {xs : List D} (hx : ∀ x ∈ xs, ∃ t, x = dT t ∧ (xs.length < 2 ∨ t ≠ [])) : sortD xs = some (isortE xs) := by
  have hi : Its xs := fun x h => by
    obtain ⟨t, rfl, _⟩ := hx x h
    exact dT_itree t
  have hc : ∀ x ∈ xs, ∀ y ∈ xs, (x.lt y).isSome = true := fun x h y k => by
    obtain ⟨t, rfl, _⟩ := hx x h
    obtain ⟨u, rfl, _⟩ := hx y k
    exact dT_lt t u
  unfold sortD
  rw [if_pos, isortD_eq hi hc]
  refine ⟨itrees_all hi, List.all_eq_true.mpr fun x h => List.all_eq_true.mpr fun y k => hc x h y k, ?_⟩
  by_cases q : xs.length < 2
  · exact .inl q
  · right
    right
    refine List.all_eq_true.mpr fun x h => ?_
    obtain ⟨t, rfl, ht⟩ := hx x h
    have ht := ht.resolve_left q
    cases t with
    | nil => exact absurd rfl ht
    | cons r t => rfl
theorem plains_all {l : List D} (h : ∀ x ∈ l, ∃ t, x = dT t) : plains 60 l = true := by
  have e : l = l.map id := by simp
  rw [e]
  exact plains_map fun x hx => by
    obtain ⟨t, rfl⟩ := h x hx
    exact dT_plain t
/-! ### cells -/
section
variable {s : S} {xs : List D}
theorem bi_tup_ref : biD (fr s [.lst xs]) .tuple [.ref (s.out.length + 1) 0] = some (.tup xs) := by
  simp only [biD, S.view, get_fr, List.getElem?_cons_zero]
theorem bi_len_ref : biD (fr s [.lst xs]) .len [.ref (s.out.length + 1) 0] = some (.int xs.length) := by
  simp only [biD, S.view, items, get_fr, List.getElem?_cons_zero, Option.map_some]
theorem bi_sort_ref : biD (fr s [.lst xs]) .sorted [.ref (s.out.length + 1) 0] = if plains 60 xs then (sortD xs).map .lst else none := by
  simp only [biD, S.view, get_fr, List.getElem?_cons_zero]
theorem less_T (t : List (List Int)) : ∀ x ∈ (less t).map dT, ∃ u, x = dT u ∧ (((less t).map dT).length < 2 ∨ u ≠ []) := fun x hx => by
  obtain ⟨u, hu, rfl⟩ := List.mem_map.mp hx
  refine ⟨u, rfl, ?_⟩
  obtain ⟨i, hi, rfl⟩ := mem_less.mp hu
  by_cases q : ((less t).map dT).length < 2
  · exact .inl q
  · right
    intro e
    have z := er_len t hi
    rw [e] at z
    have l : ((less t).map dT).length = t.length := by unfold less; rw [List.length_map, List.length_map, List.length_range]
    have z : 0 = t.length - 1 := z
    omega
end
/-- the tables with one row less, each once, ascending -/
def NL (t : List (List Int)) : List D := dd [] (isortE ((less t).map dT))
theorem less_its (t : List (List Int)) : Its ((less t).map dT) := fun x hx => by
  obtain ⟨u, rfl, _⟩ := less_T t x hx
  exact dT_itree u
theorem NL_mem {t : List (List Int)} {x : D} : x ∈ NL t ↔ ∃ i, i < t.length ∧ x = dT (er t i) := by
  unfold NL
  rw [(asc_dd (less_its t)).2, List.mem_map]
  constructor
  · rintro ⟨u, hu, rfl⟩
    obtain ⟨i, hi, rfl⟩ := mem_less.mp hu
    exact ⟨i, hi, rfl⟩
  · rintro ⟨i, hi, rfl⟩
    exact ⟨_, mem_less.mpr ⟨i, hi, rfl⟩, rfl⟩
section
variable {T : Text} (B : Tb T) {w : Nat} {n : Nat} {s : S}
include B
theorem r_nl {t : List (List Int)} (h : okT w t) (hw : okW w) : run T (n + 6) 14 [.int w, dT t] s = .ok (.tup (NL t)) s := by
  rw [run_def B.d14 rfl]
  have hT := less_T t
  have hl : (isortE ((less t).map dT)).length ≤ LIM := by
    rw [(isort_perm _).length_eq]
    unfold less
    rw [List.length_map, List.length_map, List.length_range]
    have e : LIM = 1000000 := rfl
    have := h.1
    rw [e]
    omega
  have e0 : startE dfNL.ns [.int w, dT t] = [some (.int w), some (dT t), none, none] := rfl
  rw [e0]
  have hs : biD (fr s [.lst []]) .sorted [.lst ((less t).map dT)] = some (.lst (isortE ((less t).map dT))) := by
    rw [bi_sorted, if_pos (plains_all fun x hx => let ⟨u, e, _⟩ := hT x hx; ⟨u, e⟩), sort_T hT]
    rfl
  obtain ⟨o, ho⟩ := for_dd (c := cf T (n + 5)) (i := 3) (j := 2) (s := s) (xs := isortE ((less t).map dT)) (acc := []) (env := [some (.int w), some (dT t), some (.ref (s.out.length + 1) 0), none]) (by show 3 < 4; omega) rfl (by decide) (fun x hx => by
    obtain ⟨u, rfl, _⟩ := hT x ((isort_perm _).mem_iff.mp hx)
    exact ⟨dT_itree u, dT_plain u⟩) rfl (by rw [List.length_nil, Nat.zero_add]; exact hl)
  have h1 : evS (cf T (n + 5)) (.fo (.one 3) (.ex (.bi .sorted [.call 11 [.loc 1]])) [.ite (.cmp .notIn (.loc 3) (.loc 2)) [.ex (.me .append (.loc 2) [.loc 3])] []]) [some (.int w), some (dT t), some (.ref (s.out.length + 1) 0), none] (fr s [.lst []]) = .next [some (.int w), some (dT t), some (.ref (s.out.length + 1) 0), o] (fr s [.lst (NL t)]) := by
    simp only [evS, evI, evE, evEs, getV, List.getElem?_cons_zero, List.getElem?_cons_succ, Option.bind_some, id_eq, R.opt_some, R.bind_ok, R.st_ok, r_less B h.1, hs, walkD]
    exact ho
  have h2 : evS (cf T (n + 5)) (.ex (.call 10 [.loc 0, .loc 1, .loc 1])) [some (.int w), some (dT t), none, none] (fr s []) = .next [some (.int w), some (dT t), none, none] (fr s []) := by
    simp only [evS, evE, evEs, getV, List.getElem?_cons_zero, List.getElem?_cons_succ, Option.bind_some, id_eq, R.opt_some, R.bind_ok, R.st_ok, r_ct B h h hw]
  have h3 : evS (cf T (n + 5)) (.set 2 (.cell (.lst []))) [some (.int w), some (dT t), none, none] (fr s []) = .next [some (.int w), some (dT t), some (.ref (s.out.length + 1) 0), none] (fr s [.lst []]) := by
    simp only [evS, evE, evEs, R.bind_ok, R.st_ok, List.length_nil, if_pos (Nat.zero_le LIM), newD, List.nil_append]
    rfl
  have h4 : evS (cf T (n + 5)) (.ret (some (.bi .tuple [.loc 2]))) [some (.int w), some (dT t), some (.ref (s.out.length + 1) 0), o] (fr s [.lst (NL t)]) = .ret (.tup (NL t)) (fr s [.lst (NL t)]) := by
    simp only [evS, evE, evEs, getV, List.getElem?_cons_zero, List.getElem?_cons_succ, Option.bind_some, id_eq, R.opt_some, R.bind_ok, R.st_ok, bi_tup_ref]
  simp only [dfNL, evSs, h2, h3, RS.bind_next, h1, h4, RS.bind_ret]
  rw [leaveC]
  simp only [D.shal]
  exact itrees_shal _ (itrees_all fun x hx => by
    obtain ⟨i, _, rfl⟩ := NL_mem.mp hx
    exact dT_itree _)
end
end Ev

set_option Elab.async false
set_option linter.all false
set_option maxRecDepth 100000
/-! P4: what the laws draw. -/
namespace Ev
open PySem
def dfDraw : Def := ⟨3, 7, false, [.set 3 (.cst (.int 5)), .ite (.cmp .gt (.bi .len [.loc 0]) (.cst (.int 0))) [.set 3 (.idx (.loc 0) (.bin .mod (.bi .int [.loc 1]) (.bi .len [.loc 0])))] [], .ite (.cmp .lt (.loc 3) (.cst (.int 0))) [.set 3 (.bin .sub (.cst (.int 1)) (.bin .mul (.cst (.int 2)) (.loc 3)))] [], .ite (.cmp .ge (.loc 3) (.bin .pow (.cst (.int 10)) (.cst (.int 18)))) [.set 5 (.loc 3), .fo (.one 6) (.rng1 (.bin .fdiv (.loc 1) (.bi .len [.loc 0]))) [.set 5 (.bin .fdiv (.loc 5) (.cst (.int 1000003)))], .ite (.cmp .ge (.loc 5) (.cst (.int 1000003))) [.ret (some (.bin .mod (.bi .int [.bin .mod (.bi .int [.loc 5]) (.cst (.int 1000003))]) (.loc 2)))] []] [], .set 4 (.bin .mod (.bi .int [.bin .mul (.bin .add (.bin .add (.bin .add (.bin .fdiv (.loc 3) (.cst (.int 2147483629))) (.loc 3)) (.bin .mul (.cst (.int 7919)) (.loc 1))) (.cst (.int 1))) (.cst (.int 48271))]) (.cst (.int 2147483647))), .set 4 (.bin .mod (.bi .int [.bin .mul (.loc 4) (.bin .add (.bin .fdiv (.loc 4) (.cst (.int 1009))) (.cst (.int 69621)))]) (.cst (.int 2147483647))), .set 4 (.bin .mod (.bi .int [.bin .mul (.loc 4) (.bin .add (.bin .fdiv (.loc 4) (.cst (.int 2003))) (.cst (.int 40692)))]) (.cst (.int 2147483399))), .ret (some (.bin .mod (.bi .int [.bin .fdiv (.loc 4) (.cst (.int 11))]) (.loc 2)))]⟩
def dfRowD : Def := ⟨3, 6, false, [.set 3 (.lst [.cst (.int 3), .cst (.int 41), .cst (.int 2001)]), .set 4 (.idx (.loc 3) (.call 13 [.loc 0, .loc 1, .cst (.int 3)])), .ret (some (.bi .tuple [.comp (.bin .sub (.call 13 [.loc 0, .bin .add (.bin .add (.loc 1) (.cst (.int 1))) (.loc 5), .loc 4]) (.bin .fdiv (.bin .sub (.loc 4) (.cst (.int 1))) (.cst (.int 2)))) (.one 5) (.rng1 (.loc 2)) none]))]⟩
theorem div_small {j : Int} (h : j ≠ 0) (h2 : j.natAbs < 2 ^ 64) : divOk j := ⟨h, Nat.lt_of_lt_of_le h2 (Nat.pow_le_pow_right (by decide) (by decide))⟩
theorem mul_right {i j : Int} (h : j.natAbs < 2 ^ 64) : mulOk i j := .inr (.inl h)
theorem mul_left {i j : Int} (h : i.natAbs < 2 ^ 64) : mulOk i j := .inl h
section
variable {s : S} {i j : Int}
theorem b_div (h : divOk j) : binD s .fdiv (.int i) (.int j) = some (.int (i.fdiv j)) := by rw [bn_div, if_pos h]
theorem b_mul (h : mulOk i j) : binD s .mul (.int i) (.int j) = some (.int (i * j)) := by rw [bn_mul, if_pos h]
theorem b_mod (h : j ≠ 0) : binD s .mod (.int i) (.int j) = some (.int (i.fmod j)) := by rw [bn_mod, if_neg h]
theorem c_gt : cmpD s .gt (.int i) (.int j) = some (decide (j < i)) := rfl
theorem c_ge : cmpD s .ge (.int i) (.int j) = some (decide (j ≤ i)) := rfl
theorem c_le : cmpD s .le (.int i) (.int j) = some (decide (i ≤ j)) := rfl
theorem c_lt : cmpD s .lt (.int i) (.int j) = some (decide (i < j)) := by
  simp only [cmpD, ltD, D.plain, Bool.and_self, if_true, D.lt]
theorem c_eq : cmpD s .eq (.int i) (.int j) = some (i == j) := by
  simp only [cmpD, eqD, S.view, D.plain, Bool.and_self, if_true, D.eqv]
theorem c_ne : cmpD s .ne (.int i) (.int j) = some (!(i == j)) := by
  simp only [cmpD, eqD, S.view, D.plain, Bool.and_self, if_true, D.eqv, Option.map_some]
theorem t_bl {b : Bool} : truth s (.bl b) = some b := rfl
theorem ten18 : binD s .pow (.int 10) (.int 18) = some (.int 1000000000000000000) := by
  rw [bn_pow, if_pos (by decide)]
  rfl
end
section
variable {c : Cfg} {env : Env} {s : S}
theorem evS_ite {t : E} {a b : List St} : evS c (.ite t a b) env s = (evT c t env s).st env fun k s => if k = true then evSs c a env s else evSs c b env s := by simp only [evS]
theorem evS_set {i : Nat} {e : E} : evS c (.set i e) env s = (evE c e env s).st env fun x s => .next (env.set i (some x)) s := by simp only [evS]
theorem evS_fo {t : Tg} {it : It} {b : List St} : evS c (.fo t it b) env s = (evI c it env s).st env fun w s => forL w.g t (evSs c b) w.xs env s := by simp only [evS]
theorem evS_ret {e : E} : evS c (.ret (some e)) env s = (evE c e env s).st env fun x s => .ret x s := by simp only [evS]
end
theorem for_left (c : Cfg) {a0 a1 a2 a3 a4 : Option D} : ∀ (xs : List D) (l : Int) (o : Option D), ∃ (l' : Int) (o' : Option D), ∀ s, forL none (.one 6) (evSs c [.set 5 (.bin .fdiv (.loc 5) (.cst (.int 1000003)))]) xs [a0, a1, a2, a3, a4, some (.int l), o] s = .next [a0, a1, a2, a3, a4, some (.int l'), o'] s
  | [], l, o => ⟨l, o, fun s => by simp only [forL]⟩
  | x :: xs, l, o => by
    obtain ⟨l', o', h⟩ := for_left c xs (l.fdiv 1000003) (some x)
    refine ⟨l', o', fun s => ?_⟩
    have hb : evSs c [.set 5 (.bin .fdiv (.loc 5) (.cst (.int 1000003)))] [a0, a1, a2, a3, a4, some (.int l), some x] s = .next [a0, a1, a2, a3, a4, some (.int (l.fdiv 1000003)), some x] s := by
      simp only [evSs, evS, evE, getV, List.getElem?_cons_zero, List.getElem?_cons_succ, Option.bind_some, id_eq, R.opt_some, R.bind_ok, R.st_ok, b_div (div_small (show (1000003 : Int) ≠ 0 by decide) (by decide)), RS.bind_next, List.set_cons_succ, List.set_cons_zero]
    simp only [forL, putT, RS.opt_some, List.set_cons_succ, List.set_cons_zero]
    rw [hb]
    simp only [keptG, if_true]
    exact h s
theorem fmod_pos {a b : Int} (h : 0 < b) : 0 ≤ a.fmod b ∧ a.fmod b < b := ⟨Int.fmod_nonneg_of_pos a h, Int.fmod_lt_of_pos a h⟩
theorem draw_tail (c : Cfg) {ns : List Int} {k : Nat} {size : Int} (hs : 0 < size) (cell : Int) (a5 a6 : Option D) : ∃ v : Int, (0 ≤ v ∧ v < size) ∧ ∀ s, ∃ e, evSs c [.set 4 (.bin .mod (.bi .int [.bin .mul (.bin .add (.bin .add (.bin .add (.bin .fdiv (.loc 3) (.cst (.int 2147483629))) (.loc 3)) (.bin .mul (.cst (.int 7919)) (.loc 1))) (.cst (.int 1))) (.cst (.int 48271))]) (.cst (.int 2147483647))), .set 4 (.bin .mod (.bi .int [.bin .mul (.loc 4) (.bin .add (.bin .fdiv (.loc 4) (.cst (.int 1009))) (.cst (.int 69621)))]) (.cst (.int 2147483647))), .set 4 (.bin .mod (.bi .int [.bin .mul (.loc 4) (.bin .add (.bin .fdiv (.loc 4) (.cst (.int 2003))) (.cst (.int 40692)))]) (.cst (.int 2147483399))), .ret (some (.bin .mod (.bi .int [.bin .fdiv (.loc 4) (.cst (.int 11))]) (.loc 2)))] [some (.fz ns), some (.int k), some (.int size), some (.int cell), none, a5, a6] s = .ret e s ∧ e = .int v := by
  obtain ⟨n1, h1⟩ : ∃ n1 : Int, n1 = ((((cell.fdiv 2147483629) + cell) + 7919 * (k : Int) + 1) * 48271).fmod 2147483647 := ⟨_, rfl⟩
  obtain ⟨p1, p2⟩ : 0 ≤ n1 ∧ n1 < 2147483647 := by rw [h1]; exact fmod_pos (by decide)
  obtain ⟨n2, h2⟩ : ∃ n2 : Int, n2 = (n1 * (n1.fdiv 1009 + 69621)).fmod 2147483647 := ⟨_, rfl⟩
  obtain ⟨q1, q2⟩ : 0 ≤ n2 ∧ n2 < 2147483647 := by rw [h2]; exact fmod_pos (by decide)
  refine ⟨((n2 * (n2.fdiv 2003 + 40692)).fmod 2147483399 |>.fdiv 11).fmod size, fmod_pos hs, fun s => ⟨_, ?_, rfl⟩⟩
  have hz : size ≠ 0 := by omega
  have m1 : ∀ i : Int, mulOk i 48271 := fun i => mul_right (by decide)
  have m0 : ∀ i : Int, mulOk 7919 i := fun i => mul_left (by decide)
  have m2 : ∀ i : Int, mulOk n1 i := fun i => mul_left (by omega)
  have m3 : ∀ i : Int, mulOk n2 i := fun i => mul_left (by omega)
  have d1 : divOk 2147483629 := div_small (by decide) (by decide)
  have d2 : divOk 1009 := div_small (by decide) (by decide)
  have d3 : divOk 2003 := div_small (by decide) (by decide)
  have d4 : divOk 11 := div_small (by decide) (by decide)
  simp only [evSs, evS, evE, evEs, getV, List.getElem?_cons_zero, List.getElem?_cons_succ, Option.bind_some, id_eq, R.opt_some, R.bind_ok, R.st_ok, RS.bind_next, RS.bind_ret, List.set_cons_succ, List.set_cons_zero, bi_int, bn_add, b_div d1, b_div d2, b_div d3, b_div d4, b_mul (m1 _), b_mul (m0 _), b_mod (show (2147483647 : Int) ≠ 0 by decide), b_mod (show (2147483399 : Int) ≠ 0 by decide), b_mod hz, ← h1, b_mul (m2 _), ← h2, b_mul (m3 _)]
theorem draw_body (c : Cfg) (ns : List Int) (hn : ns.length ≤ 63) {k : Nat} (hk : k ≤ 1000000) {size : Int} (hs : 0 < size) : ∃ v : Int, (0 ≤ v ∧ v < size) ∧ ∀ s, evSs c dfDraw.body [some (.fz ns), some (.int k), some (.int size), none, none, none, none] s = .ret (.int v) s := by
  -- the cell
  obtain ⟨c0, hc0, h0⟩ : ∃ c0 : Int, (0 < ns.length ∨ c0 = 5) ∧ ∀ s, evSs c [.set 3 (.cst (.int 5)), .ite (.cmp .gt (.bi .len [.loc 0]) (.cst (.int 0))) [.set 3 (.idx (.loc 0) (.bin .mod (.bi .int [.loc 1]) (.bi .len [.loc 0])))] []] [some (.fz ns), some (.int k), some (.int size), none, none, none, none] s = .next [some (.fz ns), some (.int k), some (.int size), some (.int c0), none, none, none] s := by
    by_cases q : 0 < ns.length
    · have hl : (ns.length : Int) ≠ 0 := by omega
      have hm : (k : Int).fmod (ns.length : Int) = ((k % ns.length : Nat) : Int) := by rw [Int.fmod_eq_emod_of_nonneg _ (by omega)]; rfl
      have hlt : k % ns.length < ns.length := Nat.mod_lt _ q
      refine ⟨ns[k % ns.length], .inl q, fun s => ?_⟩
      have hi : idxD s (.fz ns) (.int ((k % ns.length : Nat) : Int)) = some (.int ns[k % ns.length]) := by
        simp only [idxD, S.view, items, Option.bind_some, ixD, List.length_map]
        rw [if_pos (by omega), if_pos (by omega)]
        simp only [Option.bind_some, Int.toNat_natCast]
        rw [List.getElem?_map, List.getElem?_eq_getElem hlt]
        rfl
      have hd : decide ((0 : Int) < (ns.length : Int)) = true := decide_eq_true (by omega)
      simp only [evSs, evS, evT_cmp, evE, evEs, getV, List.getElem?_cons_zero, List.getElem?_cons_succ, Option.bind_some, id_eq, R.opt_some, R.bind_ok, R.st_ok, RS.bind_next, List.set_cons_succ, List.set_cons_zero, bi_len_fz, c_gt, hd, Option.map_some, t_bl, if_true, bi_int, b_mod hl, hm, hi]
    · refine ⟨5, .inr rfl, fun s => ?_⟩
      have hd : decide ((0 : Int) < (ns.length : Int)) = false := decide_eq_false (by omega)
      simp only [evSs, evS, evT_cmp, evE, evEs, getV, List.getElem?_cons_zero, List.getElem?_cons_succ, Option.bind_some, id_eq, R.opt_some, R.bind_ok, R.st_ok, RS.bind_next, List.set_cons_succ, List.set_cons_zero, bi_len_fz, c_gt, hd, Option.map_some, t_bl, Bool.false_eq_true, if_false]
  obtain ⟨c1, hc1, h1⟩ : ∃ c1 : Int, (c1 = c0 ∨ c0 < 0) ∧ ∀ s, evS c (.ite (.cmp .lt (.loc 3) (.cst (.int 0))) [.set 3 (.bin .sub (.cst (.int 1)) (.bin .mul (.cst (.int 2)) (.loc 3)))] []) [some (.fz ns), some (.int k), some (.int size), some (.int c0), none, none, none] s = .next [some (.fz ns), some (.int k), some (.int size), some (.int c1), none, none, none] s := by
    have m0 : ∀ i : Int, mulOk 2 i := fun i => mul_left (by decide)
    by_cases q : c0 < 0
    · refine ⟨1 - 2 * c0, .inr q, fun s => ?_⟩
      simp only [evSs, evS, evT_cmp, evE, evEs, getV, List.getElem?_cons_zero, List.getElem?_cons_succ, Option.bind_some, id_eq, R.opt_some, R.bind_ok, R.st_ok, RS.bind_next, List.set_cons_succ, List.set_cons_zero, c_lt, decide_eq_true q, Option.map_some, t_bl, if_true, bn_sub, b_mul (m0 _)]
    · refine ⟨c0, .inl rfl, fun s => ?_⟩
      simp only [evSs, evS, evT_cmp, evE, evEs, getV, List.getElem?_cons_zero, List.getElem?_cons_succ, Option.bind_some, id_eq, R.opt_some, R.bind_ok, R.st_ok, RS.bind_next, List.set_cons_succ, List.set_cons_zero, c_lt, decide_eq_false q, Option.map_some, t_bl, Bool.false_eq_true, if_false]
  have hz : size ≠ 0 := by omega
  have hm : (1000003 : Int) ≠ 0 := by decide
  have split : ∀ s, evSs c dfDraw.body [some (.fz ns), some (.int k), some (.int size), none, none, none, none] s = (evSs c [.ite (.cmp .ge (.loc 3) (.bin .pow (.cst (.int 10)) (.cst (.int 18)))) [.set 5 (.loc 3), .fo (.one 6) (.rng1 (.bin .fdiv (.loc 1) (.bi .len [.loc 0]))) [.set 5 (.bin .fdiv (.loc 5) (.cst (.int 1000003)))], .ite (.cmp .ge (.loc 5) (.cst (.int 1000003))) [.ret (some (.bin .mod (.bi .int [.bin .mod (.bi .int [.loc 5]) (.cst (.int 1000003))]) (.loc 2)))] []] []] [some (.fz ns), some (.int k), some (.int size), some (.int c1), none, none, none] s).bind (fun env s => evSs c (dfDraw.body.drop 4) env s) := fun s => by
    have a := h0 s
    simp only [evSs] at a
    simp only [dfDraw, evSs, List.drop_succ_cons, List.drop_zero]
    cases q1 : evS c (.set 3 (.cst (.int 5))) [some (.fz ns), some (.int k), some (.int size), none, none, none, none] s with
    | next e1 s1 =>
      rw [q1] at a
      simp only [RS.bind_next] at a ⊢
      cases q2 : evS c (.ite (.cmp .gt (.bi .len [.loc 0]) (.cst (.int 0))) [.set 3 (.idx (.loc 0) (.bin .mod (.bi .int [.loc 1]) (.bi .len [.loc 0])))] []) e1 s1 with
      | next e2 s2 =>
        rw [q2] at a
        simp only [RS.bind_next] at a ⊢
        cases a
        rw [h1, RS.bind_next]
        cases evS c (.ite (.cmp .ge (.loc 3) (.bin .pow (.cst (.int 10)) (.cst (.int 18)))) [.set 5 (.loc 3), .fo (.one 6) (.rng1 (.bin .fdiv (.loc 1) (.bi .len [.loc 0]))) [.set 5 (.bin .fdiv (.loc 5) (.cst (.int 1000003)))], .ite (.cmp .ge (.loc 5) (.cst (.int 1000003))) [.ret (some (.bin .mod (.bi .int [.bin .mod (.bi .int [.loc 5]) (.cst (.int 1000003))]) (.loc 2)))] []] []) [some (.fz ns), some (.int k), some (.int size), some (.int c1), none, none, none] s <;> rfl
      | _ => rw [q2] at a; cases a
    | _ => rw [q1] at a; cases a
  -- the great cell
  by_cases q : (1000000000000000000 : Int) ≤ c1
  · have hq : 0 < ns.length := by
      rcases hc0 with e | e
      · exact e
      · rcases hc1 with e2 | e2
        · omega
        · omega
    have hdl : divOk (ns.length : Int) := div_small (by omega) (by omega)
    have hdv : (k : Int).fdiv (ns.length : Int) = ((k / ns.length : Nat) : Int) := by rw [Int.fdiv_eq_ediv_of_nonneg _ (by omega)]; rfl
    have hk2 : k / ns.length ≤ k := Nat.div_le_self _ _
    obtain ⟨l, o, hl⟩ := for_left c (a0 := some (.fz ns)) (a1 := some (.int k)) (a2 := some (.int size)) (a3 := some (.int c1)) (a4 := none) (numsD 0 (k / ns.length)) c1 none
    have hfo : ∀ s, evS c (.fo (.one 6) (.rng1 (.bin .fdiv (.loc 1) (.bi .len [.loc 0]))) [.set 5 (.bin .fdiv (.loc 5) (.cst (.int 1000003)))]) [some (.fz ns), some (.int k), some (.int size), some (.int c1), none, some (.int c1), none] s = .next [some (.fz ns), some (.int k), some (.int size), some (.int c1), none, some (.int l), o] s := fun s => by
      have hI : evI c (.rng1 (.bin .fdiv (.loc 1) (.bi .len [.loc 0]))) [some (.fz ns), some (.int k), some (.int size), some (.int c1), none, some (.int c1), none] s = .ok ⟨numsD 0 (k / ns.length), none⟩ s := by
        refine evI_rng1 (j := ((k / ns.length : Nat) : Int)) ?_ (small_of (Int.natCast_nonneg _) (Int.lt_of_le_of_lt (Int.ofNat_le.mpr (Nat.le_trans hk2 hk)) (by decide)))
        simp only [evE, evEs, getV, List.getElem?_cons_zero, List.getElem?_cons_succ, Option.bind_some, id_eq, R.opt_some, R.bind_ok, bi_len_fz, b_div hdl, hdv]
      simp only [evS, hI, R.st_ok]
      exact hl s
    by_cases q2 : (1000003 : Int) ≤ l
    · refine ⟨(l.fmod 1000003).fmod size, fmod_pos hs, fun s => ?_⟩
      rw [split]
      simp only [evSs, evS_ite, evT_cmp, evE, evEs, getV, List.getElem?_cons_zero, List.getElem?_cons_succ, Option.bind_some, id_eq, R.opt_some, R.bind_ok, R.st_ok, RS.bind_next, RS.bind_ret, c_ge, ten18, decide_eq_true q, Option.map_some, t_bl, if_true, evS_set, List.set_cons_succ, List.set_cons_zero, hfo, decide_eq_true q2, evS_ret, bi_int, b_mod hm, b_mod hz]
    · obtain ⟨v, hv, h2⟩ := draw_tail c (ns := ns) (k := k) hs c1 (some (.int l)) o
      refine ⟨v, hv, fun s => ?_⟩
      rw [split]
      simp only [evSs, evS_ite, evT_cmp, evE, evEs, getV, List.getElem?_cons_zero, List.getElem?_cons_succ, Option.bind_some, id_eq, R.opt_some, R.bind_ok, R.st_ok, RS.bind_next, c_ge, ten18, decide_eq_true q, Option.map_some, t_bl, if_true, evS_set, List.set_cons_succ, List.set_cons_zero, hfo, decide_eq_false q2, Bool.false_eq_true, if_false]
      obtain ⟨e, h4, h5⟩ := h2 s
      rw [← h5]
      exact h4
  · obtain ⟨v, hv, h2⟩ := draw_tail c (ns := ns) (k := k) hs c1 none none
    refine ⟨v, hv, fun s => ?_⟩
    rw [split]
    have h3 : evSs c [.ite (.cmp .ge (.loc 3) (.bin .pow (.cst (.int 10)) (.cst (.int 18)))) [.set 5 (.loc 3), .fo (.one 6) (.rng1 (.bin .fdiv (.loc 1) (.bi .len [.loc 0]))) [.set 5 (.bin .fdiv (.loc 5) (.cst (.int 1000003)))], .ite (.cmp .ge (.loc 5) (.cst (.int 1000003))) [.ret (some (.bin .mod (.bi .int [.bin .mod (.bi .int [.loc 5]) (.cst (.int 1000003))]) (.loc 2)))] []] []] [some (.fz ns), some (.int k), some (.int size), some (.int c1), none, none, none] s = .next [some (.fz ns), some (.int k), some (.int size), some (.int c1), none, none, none] s := by
      simp only [evSs, evS, evT_cmp, evE, evEs, getV, List.getElem?_cons_zero, List.getElem?_cons_succ, Option.bind_some, id_eq, R.opt_some, R.bind_ok, R.st_ok, RS.bind_next, c_ge, ten18, decide_eq_false q, Option.map_some, t_bl, Bool.false_eq_true, if_false]
    rw [h3, RS.bind_next]
    obtain ⟨e, h4, h5⟩ := h2 s
    rw [← h5]
    exact h4
structure Td (T : Text) : Prop where
  d13 : T.defs 13 = some dfDraw
  d15 : T.defs 15 = some dfRowD
section
variable {T : Text} (B : Td T) {n : Nat} {s : S}
include B
theorem r_draw (ns : List Int) (hn : ns.length ≤ 63) (k : Nat) (hk : k ≤ 1000000) (size : Int) (hs : 0 < size) (n : Nat) : ∃ v : Int, (0 ≤ v ∧ v < size) ∧ ∀ s, run T (n + 1) 13 [.fz ns, .int k, .int size] s = .ok (.int v) s := by
  obtain ⟨v, hv, h⟩ := draw_body (cf T n) ns hn hk hs
  refine ⟨v, hv, fun s => ?_⟩
  rw [run_def B.d13 rfl]
  have e : startE dfDraw.ns [.fz ns, .int k, .int size] = [some (.fz ns), some (.int k), some (.int size), none, none, none, none] := rfl
  rw [e, h, show dfDraw.keep = false from rfl, leave0]
theorem tup_ints (c : Cfg) {env : Env} {st : S} (elt : E) (i : Nat) (it : It) (m : Nat) (P : Int → Prop) (hI : evI c it env st = .ok ⟨numsD 0 m, none⟩ st) (hm : m ≤ 1000000)
    (h : ∀ j : Nat, j < m → ∃ v : Int, P v ∧ evE c elt (env.set i (some (.int j))) st = .ok (.int v) st) :
    ∃ r : List Int, r.length = m ∧ (∀ x ∈ r, P x) ∧ evE c (.bi .tuple [.comp elt (.one i) it none]) env st = .ok (dR r) st := by
  have h' : ∀ j : Nat, ∃ v : Int, j < m → P v ∧ evE c elt (env.set i (some (.int j))) st = .ok (.int v) st := fun j => by
    by_cases q : j < m
    · obtain ⟨v, hv⟩ := h j q
      exact ⟨v, fun _ => hv⟩
    · exact ⟨0, fun z => absurd z q⟩
  obtain ⟨f, hf⟩ := Classical.skolem.mp h'
  refine ⟨(List.range m).map f, by rw [List.length_map, List.length_range], fun x hx => ?_, ?_⟩
  · obtain ⟨j, hj, rfl⟩ := List.mem_map.mp hx
    exact (hf j (List.mem_range.mp hj)).1
  · have key : evE c (.comp elt (.one i) it none) env st = .ok (.lst (((List.range m).map f).map .int)) st := by
      rw [evE_comp1, hI, R.bind_ok, numsD_map, comp_map (g := fun d => match d with | .int i => .int (f i.toNat) | _ => .non), List.map_map, R.bind_ok, List.map_map]
      · rfl
      · intro x hx
        obtain ⟨j, hj, rfl⟩ := List.mem_map.mp hx
        simp only [(hf j (List.mem_range.mp hj)).2, R.bind_ok, noExc]
        rfl
      · rw [List.length_map, List.length_range]
        exact hm
    simp only [evE, evEs] at key ⊢
    rw [key]
    simp only [R.bind_ok, bi_tup_lst, R.opt_some]
    rfl
theorem r_rowD (ns : List Int) (hn : ns.length ≤ 63) (k : Nat) (hk : k ≤ 900000) {w : Nat} (hw : okW w) (n : Nat) (s : S) : ∃ r, okR w r ∧ run T (n + 2) 15 [.fz ns, .int k, .int w] s = .ok (dR r) s := by
  obtain ⟨w1, w2⟩ := hw
  obtain ⟨v, ⟨v1, v2⟩, hv⟩ := r_draw B ns hn k (by omega) 3 (by decide) n
  have hsz : ∃ size : Int, (1 ≤ size ∧ size ≤ 2001) ∧ ∀ s, idxD s (.lst [.int 3, .int 41, .int 2001]) (.int v) = some (.int size) := by
    have hv3 : v = 0 ∨ v = 1 ∨ v = 2 := by omega
    rcases hv3 with rfl | rfl | rfl
    · exact ⟨3, by decide, fun s => rfl⟩
    · exact ⟨41, by decide, fun s => rfl⟩
    · exact ⟨2001, by decide, fun s => rfl⟩
  obtain ⟨size, ⟨z1, z2⟩, hsz⟩ := hsz
  have h1 : evSs (cf T (n + 1)) [.set 3 (.lst [.cst (.int 3), .cst (.int 41), .cst (.int 2001)]), .set 4 (.idx (.loc 3) (.call 13 [.loc 0, .loc 1, .cst (.int 3)]))] [some (.fz ns), some (.int k), some (.int w), none, none, none] (fr s []) = .next [some (.fz ns), some (.int k), some (.int w), some (.lst [.int 3, .int 41, .int 2001]), some (.int size), none] (fr s []) := by
    simp only [evSs, evS, evE, evEs, getV, List.getElem?_cons_zero, List.getElem?_cons_succ, Option.bind_some, id_eq, R.opt_some, R.bind_ok, R.st_ok, RS.bind_next, List.set_cons_succ, List.set_cons_zero, hv, hsz, List.length_cons, List.length_nil, Nat.zero_add, Nat.reduceAdd, if_pos (show 3 ≤ LIM by decide)]
  have hd2 : divOk 2 := div_small (by decide) (by decide)
  obtain ⟨q, hq⟩ : ∃ q : Int, q = (size - 1).fdiv 2 := ⟨_, rfl⟩
  have hq2 : 0 ≤ q ∧ q ≤ 1000 ∧ size - 1 - q ≤ 1000 := by
    rw [Int.fdiv_eq_ediv_of_nonneg _ (by decide)] at hq
    omega
  obtain ⟨r, r1, r2, hr⟩ := tup_ints (T := T) B (cf T (n + 1)) (env := [some (.fz ns), some (.int k), some (.int w), some (.lst [.int 3, .int 41, .int 2001]), some (.int size), none]) (st := fr s []) (.bin .sub (.call 13 [.loc 0, .bin .add (.bin .add (.loc 1) (.cst (.int 1))) (.loc 5), .loc 4]) (.bin .fdiv (.bin .sub (.loc 4) (.cst (.int 1))) (.cst (.int 2)))) 5 (.rng1 (.loc 2)) w (fun x => -1000 ≤ x ∧ x ≤ 1000)
    (evI_rng1 (j := (w : Nat)) (by simp only [evE, getV, List.getElem?_cons_zero, List.getElem?_cons_succ, Option.bind_some, id_eq, R.opt_some]) (small_of (by omega) (by omega))) (by omega) (fun j hj => by
      obtain ⟨v, ⟨v1, v2⟩, hv⟩ := r_draw B ns hn (k + 1 + j) (by omega) size (by omega) n
      have e : (k : Int) + 1 + (j : Int) = ((k + 1 + j : Nat) : Int) := by omega
      refine ⟨v - q, ⟨by omega, by omega⟩, ?_⟩
      simp only [evE, evEs, getV, List.getElem?_cons_zero, List.getElem?_cons_succ, Option.bind_some, id_eq, R.opt_some, R.bind_ok, List.set_cons_succ, List.set_cons_zero, bn_add, e, hv, bn_sub, b_div hd2, ← hq])
  refine ⟨r, ⟨r1, r2⟩, ?_⟩
  rw [run_def B.d15 rfl]
  have e0 : startE dfRowD.ns [.fz ns, .int k, .int w] = [some (.fz ns), some (.int k), some (.int w), none, none, none] := rfl
  rw [e0]
  have h2 : evSs (cf T (n + 1)) dfRowD.body [some (.fz ns), some (.int k), some (.int w), none, none, none] (fr s []) = .ret (dR r) (fr s []) := by
    have a := h1
    simp only [evSs] at a
    simp only [dfRowD, evSs]
    cases q1 : evS (cf T (n + 1)) (.set 3 (.lst [.cst (.int 3), .cst (.int 41), .cst (.int 2001)])) [some (.fz ns), some (.int k), some (.int w), none, none, none] (fr s []) with
    | next e1 s1 =>
      rw [q1] at a
      simp only [RS.bind_next] at a ⊢
      cases q2 : evS (cf T (n + 1)) (.set 4 (.idx (.loc 3) (.call 13 [.loc 0, .loc 1, .cst (.int 3)]))) e1 s1 with
      | next e2 s2 =>
        rw [q2] at a
        simp only [RS.bind_next] at a ⊢
        cases a
        rw [evS_ret, hr]
        rfl
      | _ => rw [q2] at a; cases a
    | _ => rw [q1] at a; cases a
  rw [h2, show dfRowD.keep = false from rfl, leave0]
end
end Ev

set_option Elab.async false
set_option linter.all false
set_option maxRecDepth 100000
/-! P5: how far tables are apart; loops that find. -/
namespace Ev
open PySem
def dfAp : Def := ⟨2, 5, false, [.set 2 (.cell (.bi .list [.loc 1])), .set 3 (.cst (.int 0)), .fo (.one 4) (.ex (.loc 0)) [.ite (.cmp .isIn (.loc 4) (.loc 2)) [.ex (.me .remove (.loc 2) [.loc 4])] [.aug 3 .add (.cst (.int 1))]], .ret (some (.bin .add (.loc 3) (.bi .len [.loc 2])))]⟩
def dfApart : Def := ⟨3, 3, false, [.ex (.call 10 [.loc 0, .loc 1, .loc 2]), .ret (some (.call 12 [.loc 1, .loc 2]))]⟩
structure Ta (T : Text) : Prop where
  d12 : T.defs 12 = some dfAp
  d20 : T.defs 20 = some dfApart
abbrev Rw := List Int
def apL : List Rw → List Rw → Nat → List Rw × Nat
  | [], left, m => (left, m)
  | r :: rs, left, m => if r ∈ left then apL rs (left.erase r) m else apL rs left (m + 1)
def apN (t u : List Rw) : Nat := (apL t u 0).2 + (apL t u 0).1.length
theorem ap_sub : ∀ {one left rest : List Rw} {m : Nat}, (one ++ rest).Perm left → (apL one left m).2 + (apL one left m).1.length = m + rest.length
  | [], left, rest, m, h => by
    simp only [apL]
    rw [← h.length_eq]
    rfl
  | r :: rs, left, rest, m, h => by
    have hm : r ∈ left := h.mem_iff.mp List.mem_cons_self
    simp only [apL, if_pos hm]
    refine ap_sub (rest := rest) ?_
    have z := h.erase r
    simpa using z
theorem ap_sup : ∀ {one left rest : List Rw} {m : Nat}, one.Perm (left ++ rest) → (apL one left m).2 + (apL one left m).1.length = m + rest.length
  | [], left, rest, m, h => by
    have e := List.Perm.eq_nil h.symm
    obtain ⟨e1, e2⟩ := List.append_eq_nil_iff.mp e
    subst e1
    subst e2
    rfl
  | r :: rs, left, rest, m, h => by
    simp only [apL]
    have z := h.erase r
    rw [List.erase_cons_head] at z
    by_cases hm : r ∈ left
    · rw [if_pos hm]
      refine ap_sup (rest := rest) ?_
      rw [List.erase_append_left _ hm] at z
      exact z
    · rw [if_neg hm]
      have hr : r ∈ rest := by
        rcases List.mem_append.mp (h.mem_iff.mp List.mem_cons_self) with q | q
        · exact absurd q hm
        · exact q
      rw [List.erase_append_right _ hm] at z
      rw [ap_sup z, List.length_erase_of_mem hr]
      have := List.length_pos_of_mem hr
      omega
theorem any_R (x : Rw) (l : List Rw) : ((l.map dR).any fun z => z.eqv (dR x)) = decide (x ∈ l) := by
  rw [Bool.eq_iff_iff, List.any_eq_true, decide_eq_true_iff]
  constructor
  · rintro ⟨z, hz, e⟩
    obtain ⟨y, hy, rfl⟩ := List.mem_map.mp hz
    rw [eqv_iff (dR_itree _) (dR_itree _)] at e
    rw [← dR_inj e]
    exact hy
  · intro h
    exact ⟨dR x, List.mem_map.mpr ⟨x, h, rfl⟩, eqv_refl (dR_itree x)⟩
theorem rem_R {x : Rw} : ∀ {l : List Rw}, x ∈ l → remD (dR x) (l.map dR) = some ((l.erase x).map dR)
  | y :: l, h => by
    simp only [List.map_cons, remD]
    by_cases e : y = x
    · subst e
      rw [if_pos (eqv_refl (dR_itree y)), List.erase_cons_head]
    · have hn : ¬ ((dR y).eqv (dR x) = true) := fun q => e (dR_inj ((eqv_iff (dR_itree _) (dR_itree _)).mp q))
      rw [if_neg hn]
      have hx : x ∈ l := by
        rcases List.mem_cons.mp h with q | q
        · exact absurd q.symm e
        · exact q
      rw [rem_R hx, List.erase_cons_tail (by simpa using e)]
      rfl
theorem plains_R (l : List Rw) : plains 60 (l.map dR) = true := plains_map fun x _ => dR_plain x
theorem for_ap {c : Cfg} {s : S} {a0 a1 : Option D} : ∀ {rs left : List Rw} {m : Nat} {o : Option D}, ∃ o', forL none (.one 4) (evSs c [.ite (.cmp .isIn (.loc 4) (.loc 2)) [.ex (.me .remove (.loc 2) [.loc 4])] [.aug 3 .add (.cst (.int 1))]]) (rs.map dR) [a0, a1, some (.ref (s.out.length + 1) 0), some (.int m), o] (fr s [.lst (left.map dR)]) =
    .next [a0, a1, some (.ref (s.out.length + 1) 0), some (.int (apL rs left m).2), o'] (fr s [.lst ((apL rs left m).1.map dR)])
  | [], left, m, o => ⟨o, by simp only [List.map_nil, forL, apL]⟩
  | r :: rs, left, m, o => by
    have hin : inD (fr s [.lst (left.map dR)]) (dR r) (.ref (s.out.length + 1) 0) = some (decide (r ∈ left)) := by
      unfold inD
      simp only [S.view, get_fr, List.getElem?_cons_zero]
      rw [dR_plain, plains_R, Bool.and_self, if_pos rfl, any_R]
    by_cases hm : r ∈ left
    · obtain ⟨o', ho⟩ := for_ap (c := c) (s := s) (a0 := a0) (a1 := a1) (rs := rs) (left := left.erase r) (m := m) (o := some (dR r))
      refine ⟨o', ?_⟩
      have hb : evSs c [.ite (.cmp .isIn (.loc 4) (.loc 2)) [.ex (.me .remove (.loc 2) [.loc 4])] [.aug 3 .add (.cst (.int 1))]] [a0, a1, some (.ref (s.out.length + 1) 0), some (.int m), some (dR r)] (fr s [.lst (left.map dR)]) = .next [a0, a1, some (.ref (s.out.length + 1) 0), some (.int m), some (dR r)] (fr s [.lst ((left.erase r).map dR)]) := by
        have hme : meD (fr s [.lst (left.map dR)]) .remove (.ref (s.out.length + 1) 0) [dR r] = .ok .non (fr s [.lst ((left.erase r).map dR)]) := by
          simp only [meD, get_fr, List.getElem?_cons_zero, dR_plain, plains_R, Bool.and_self, if_true, rem_R hm, set_fr, List.set_cons_zero]
        have hil : isL (fr s [.lst (left.map dR)]) (.ref (s.out.length + 1) 0) = true := by
          simp only [isL, S.view, get_fr, List.getElem?_cons_zero]
        simp only [evSs, evS, evT_cmp, evE, evEs, getV, List.getElem?_cons_zero, List.getElem?_cons_succ, Option.bind_some, id_eq, R.opt_some, R.bind_ok, R.st_ok, RS.bind_next, cmpD, hin, decide_eq_true hm, Option.map_some, t_bl, if_true, hil, hme]
      simp only [List.map_cons, forL, putT, RS.opt_some, List.set_cons_succ, List.set_cons_zero]
      rw [hb]
      simp only [keptG, if_true, apL, if_pos hm]
      exact ho
    · obtain ⟨o', ho⟩ := for_ap (c := c) (s := s) (a0 := a0) (a1 := a1) (rs := rs) (left := left) (m := m + 1) (o := some (dR r))
      refine ⟨o', ?_⟩
      have hb : evSs c [.ite (.cmp .isIn (.loc 4) (.loc 2)) [.ex (.me .remove (.loc 2) [.loc 4])] [.aug 3 .add (.cst (.int 1))]] [a0, a1, some (.ref (s.out.length + 1) 0), some (.int m), some (dR r)] (fr s [.lst (left.map dR)]) = .next [a0, a1, some (.ref (s.out.length + 1) 0), some (.int ((m + 1 : Nat) : Int)), some (dR r)] (fr s [.lst (left.map dR)]) := by
        simp only [evSs, evS, evT_cmp, evE, evEs, getV, List.getElem?_cons_zero, List.getElem?_cons_succ, Option.bind_some, id_eq, R.opt_some, R.bind_ok, R.st_ok, RS.bind_next, RS.opt_some, cmpD, hin, decide_eq_false hm, Option.map_some, t_bl, Bool.false_eq_true, if_false, List.set_cons_succ, List.set_cons_zero]
        rfl
      simp only [List.map_cons, forL, putT, RS.opt_some, List.set_cons_succ, List.set_cons_zero]
      rw [hb]
      simp only [keptG, if_true, apL, if_neg hm]
      exact ho
section
variable {T : Text} (B : Tb T) (A : Ta T) {w : Nat} {n : Nat} {s : S}
include A
theorem r_ap (t u : List Rw) : run T (n + 1) 12 [dT t, dT u] s = .ok (.int (apN t u)) s := by
  rw [run_def A.d12 rfl]
  have e0 : startE dfAp.ns [dT t, dT u] = [some (dT t), some (dT u), none, none, none] := rfl
  rw [e0]
  obtain ⟨o, ho⟩ := for_ap (c := cf T n) (s := s) (a0 := some (dT t)) (a1 := some (dT u)) (rs := t) (left := u) (m := 0) (o := none)
  have hli : biD (fr s []) .list [dT u] = some (.lst (u.map dR)) := rfl
  have h1 : evS (cf T n) (.set 2 (.cell (.bi .list [.loc 1]))) [some (dT t), some (dT u), none, none, none] (fr s []) = .next [some (dT t), some (dT u), some (.ref (s.out.length + 1) 0), none, none] (fr s [.lst (u.map dR)]) := by
    simp only [evS, evE, evEs, getV, List.getElem?_cons_zero, List.getElem?_cons_succ, Option.bind_some, id_eq, R.opt_some, R.bind_ok, R.st_ok, hli, newD, List.nil_append]
    rfl
  have h2 : evS (cf T n) (.set 3 (.cst (.int 0))) [some (dT t), some (dT u), some (.ref (s.out.length + 1) 0), none, none] (fr s [.lst (u.map dR)]) = .next [some (dT t), some (dT u), some (.ref (s.out.length + 1) 0), some (.int ((0 : Nat) : Int)), none] (fr s [.lst (u.map dR)]) := by
    simp only [evS, evE, R.st_ok, List.set_cons_succ, List.set_cons_zero]
    rfl
  have h3 : evS (cf T n) (.fo (.one 4) (.ex (.loc 0)) [.ite (.cmp .isIn (.loc 4) (.loc 2)) [.ex (.me .remove (.loc 2) [.loc 4])] [.aug 3 .add (.cst (.int 1))]]) [some (dT t), some (dT u), some (.ref (s.out.length + 1) 0), some (.int ((0 : Nat) : Int)), none] (fr s [.lst (u.map dR)]) = .next [some (dT t), some (dT u), some (.ref (s.out.length + 1) 0), some (.int (apL t u 0).2), o] (fr s [.lst ((apL t u 0).1.map dR)]) := by
    have hw : walkD (fr s [.lst (u.map dR)]) (dT t) = some ⟨t.map dR, none⟩ := rfl
    simp only [evS, evI, evE, getV, List.getElem?_cons_zero, List.getElem?_cons_succ, Option.bind_some, id_eq, R.opt_some, R.bind_ok, R.st_ok, hw]
    exact ho
  have h4 : evS (cf T n) (.ret (some (.bin .add (.loc 3) (.bi .len [.loc 2])))) [some (dT t), some (dT u), some (.ref (s.out.length + 1) 0), some (.int (apL t u 0).2), o] (fr s [.lst ((apL t u 0).1.map dR)]) = .ret (.int (apN t u)) (fr s [.lst ((apL t u 0).1.map dR)]) := by
    simp only [evS, evE, evEs, getV, List.getElem?_cons_zero, List.getElem?_cons_succ, Option.bind_some, id_eq, R.opt_some, R.bind_ok, R.st_ok, bi_len_ref, bn_add, List.length_map]
    rfl
  simp only [dfAp, evSs, h1, h2, h3, h4, RS.bind_next, RS.bind_ret]
  rw [leaveC]
  rfl
include B
theorem r_apart {t u : List Rw} (h : okT w t) (h2 : okT w u) (hw : okW w) : run T (n + 6) 20 [.int w, dT t, dT u] s = .ok (.int (apN t u)) s := by
  rw [run_def A.d20 rfl]
  simp [dfApart, evSs, evS, evE, evEs, startE, getV, r_ct B h h2 hw, r_ap A, leave0]
end
/-! ### loops that find -/
theorem dd_app : ∀ (xs ys acc : List D), dd acc (xs ++ ys) = dd (dd acc xs) ys
  | [], ys, acc => by simp [dd]
  | x :: xs, ys, acc => by
    simp only [List.cons_append, dd]
    split
    · exact dd_app xs ys acc
    · exact dd_app xs ys (acc ++ [x])
abbrev IsT (x : D) : Prop := ∃ t, x = dT t
theorem dd_isT {acc xs : List D} (ha : ∀ x ∈ acc, IsT x) (hx : ∀ x ∈ xs, IsT x) : ∀ x ∈ dd acc xs, IsT x := fun x h => by
  rcases (dd_mem (fun y hy => let ⟨t, e⟩ := ha y hy; by rw [e]; exact dT_itree t) (fun y hy => let ⟨t, e⟩ := hx y hy; by rw [e]; exact dT_itree t) x).mp h with q | q
  · exact ha x q
  · exact hx x q
theorem dd_len (xs acc : List D) : (dd acc xs).length ≤ acc.length + xs.length := by
  obtain ⟨ys, e, h⟩ := dd_sub xs acc
  rw [e, List.length_append]
  have := h.length_le
  omega
theorem dd_step {c : Cfg} {i j : Nat} {s : S} {acc : List D} {env : Env} {t : List Rw} (hi : getV env i = some (dT t)) (hj : getV env j = some (.ref (s.out.length + 1) 0)) (ha : ∀ x ∈ acc, IsT x) (hl : acc.length < LIM) :
    evSs c [.ite (.cmp .notIn (.loc i) (.loc j)) [.ex (.me .append (.loc j) [.loc i])] []] env (fr s [.lst acc]) = .next env (fr s [.lst (dd acc [dT t])]) := by
  have hin : inD (fr s [.lst acc]) (dT t) (.ref (s.out.length + 1) 0) = some (acc.any fun z => z.eqv (dT t)) := by
    unfold inD
    simp only [S.view, get_fr, List.getElem?_cons_zero]
    rw [dT_plain, plains_all ha, Bool.and_self, if_pos rfl]
  cases q : (acc.any fun z => z.eqv (dT t)) with
  | true => simp only [evSs, evS, evT_cmp, evE, hi, hj, cmpD, hin, q, R.opt_some, R.bind_ok, R.st_ok, Option.map_some, truth, S.view, Bool.not_true, Bool.false_eq_true, if_false, RS.bind_next, dd, if_true]
  | false => simp only [evSs, evS, evT_cmp, evE, evEs, hi, hj, cmpD, hin, q, R.opt_some, R.bind_ok, R.st_ok, Option.map_some, truth, S.view, Bool.not_false, if_true, RS.bind_next, isL, get_fr, List.getElem?_cons_zero, meD, hl, itree_shal _ (dT_itree t), and_self, set_fr, List.set_cons_zero, dd, Bool.false_eq_true, if_false]
theorem for_gen {c : Cfg} {s : S} {i : Nat} {bd : List St} (I : Env → Prop) (g : D → List D) : ∀ {xs acc : List D} {env : Env}, I env → (∀ x ∈ acc, IsT x) → acc.length + (xs.flatMap g).length ≤ LIM → (∀ x ∈ xs, ∀ y ∈ g x, IsT y) →
    (∀ x ∈ xs, ∀ acc env, I env → (∀ y ∈ acc, IsT y) → acc.length + (g x).length ≤ LIM → ∃ env', I env' ∧ evSs c bd (env.set i (some x)) (fr s [.lst acc]) = .next env' (fr s [.lst (dd acc (g x))])) →
    ∃ env', I env' ∧ forL none (.one i) (evSs c bd) xs env (fr s [.lst acc]) = .next env' (fr s [.lst (dd acc (xs.flatMap g))])
  | [], acc, env, hI, ha, hl, hg, hb => ⟨env, hI, by simp only [forL, List.flatMap_nil, dd]⟩
  | x :: xs, acc, env, hI, ha, hl, hg, hb => by
    rw [List.flatMap_cons, List.length_append] at hl
    obtain ⟨e1, i1, h1⟩ := hb x List.mem_cons_self acc env hI ha (by omega)
    have hl2 := dd_len (g x) acc
    obtain ⟨e2, i2, h2⟩ := for_gen (c := c) (s := s) (i := i) (bd := bd) I g (xs := xs) (acc := dd acc (g x)) (env := e1) i1 (dd_isT ha (hg x List.mem_cons_self)) (by omega) (fun y hy => hg y (List.mem_cons_of_mem _ hy)) (fun y hy => hb y (List.mem_cons_of_mem _ hy))
    refine ⟨e2, i2, ?_⟩
    simp only [forL, putT, RS.opt_some]
    rw [h1]
    simp only [keptG, if_true]
    rw [h2, List.flatMap_cons, dd_app]
theorem its_T {l : List D} (h : ∀ x ∈ l, IsT x) : Its l := fun x hx => let ⟨t, e⟩ := h x hx; by rw [e]; exact dT_itree t
/-- a list made turn by turn -/
theorem lst_gen {α : Type} [Inhabited α] (g : α → D) (P : α → Prop) (c : Cfg) {env : Env} {st : S} (elt : E) (i : Nat) (it : It) (m : Nat) (hI : evI c it env st = .ok ⟨numsD 0 m, none⟩ st) (hm : m ≤ 1000000)
    (h : ∀ j : Nat, j < m → ∃ v : α, P v ∧ evE c elt (env.set i (some (.int j))) st = .ok (g v) st) :
    ∃ r : List α, r.length = m ∧ (∀ x ∈ r, P x) ∧ evE c (.comp elt (.one i) it none) env st = .ok (.lst (r.map g)) st := by
  have h' : ∀ j : Nat, ∃ v : α, j < m → P v ∧ evE c elt (env.set i (some (.int j))) st = .ok (g v) st := fun j => by
    by_cases q : j < m
    · obtain ⟨v, hv⟩ := h j q
      exact ⟨v, fun _ => hv⟩
    · exact ⟨default, fun z => absurd z q⟩
  obtain ⟨f, hf⟩ := Classical.skolem.mp h'
  refine ⟨(List.range m).map f, by rw [List.length_map, List.length_range], fun x hx => ?_, ?_⟩
  · obtain ⟨j, hj, rfl⟩ := List.mem_map.mp hx
    exact (hf j (List.mem_range.mp hj)).1
  · rw [evE_comp1, hI, R.bind_ok, numsD_map, comp_map (g := fun d => match d with | .int i => g (f i.toNat) | _ => .non), List.map_map, R.bind_ok, List.map_map]
    · rfl
    · intro x hx
      obtain ⟨j, hj, rfl⟩ := List.mem_map.mp hx
      simp only [(hf j (List.mem_range.mp hj)).2, R.bind_ok, noExc]
      rfl
    · rw [List.length_map, List.length_range]
      exact hm
theorem bi1 {c : Cfg} {b : Bi} {e : E} {env : Env} {s s1 : S} {x : D} (h : evE c e env s = .ok x s1) : evE c (.bi b [e]) env s = R.opt (biD s1 b [x]) s1 := by
  simp only [evE, evEs]
  rw [h]
  rfl
/-- a loop whose turns change nothing else -/
theorem for_all {c : Cfg} {s : S} {i : Nat} {bd : List St} : ∀ {xs : List D} {env : Env}, i < env.length → (∀ x ∈ xs, ∀ o, evSs c bd ((env.set i o).set i (some x)) s = .next ((env.set i o).set i (some x)) s) → ∃ o, forL none (.one i) (evSs c bd) xs env s = .next (env.set i o) s
  | [], env, hi, _ => ⟨env[i], by rw [List.set_getElem_self]; simp only [forL]⟩
  | x :: xs, env, hi, h => by
    have hx := h x List.mem_cons_self env[i]
    rw [List.set_getElem_self] at hx
    obtain ⟨o, ho⟩ := for_all (c := c) (s := s) (i := i) (bd := bd) (xs := xs) (env := env.set i (some x)) (by rw [List.length_set]; exact hi) (fun y hy o => by
      have z := h y (List.mem_cons_of_mem _ hy) o
      simp only [List.set_set] at z ⊢
      exact z)
    refine ⟨o, ?_⟩
    simp only [forL, putT, RS.opt_some]
    rw [hx]
    simp only [keptG, if_true]
    rw [ho, List.set_set]
theorem plains_T59 {l : List D} (h : ∀ x ∈ l, IsT x) {m : Nat} : plains (m + 2) l = true := by
  have e : l = l.map id := by simp
  rw [e]
  exact plains_map fun x hx => by
    obtain ⟨t, rfl⟩ := h x hx
    exact dT_plain t
theorem eqD_tup {l : List D} (h : ∀ x ∈ l, IsT x) (s : S) : eqD s (.tup l) (.tup l) = some true := by
  unfold eqD
  have v : s.view (.tup l) = .tup l := rfl
  have p : (D.tup l).plain 60 = true := by
    simp only [D.plain]
    exact plains_T59 h
  rw [v, p, Bool.and_self, if_pos rfl]
  congr 1
  exact eqv_refl (by simp only [D.itree]; exact itrees_all (its_T h))
theorem eqD_lst {l : List D} (h : ∀ x ∈ l, IsT x) (s : S) : eqD s (.lst l) (.lst l) = some true := by
  unfold eqD
  have v : s.view (.lst l) = .lst l := rfl
  have p : (D.lst l).plain 60 = true := by
    simp only [D.plain]
    exact plains_T59 h
  rw [v, p, Bool.and_self, if_pos rfl]
  congr 1
  simp only [D.eqv]
  exact eqvs_refl (itrees_all (its_T h))
theorem tup_rows {n : Nat} (c : Cfg) {env : Env} {st : S} (elt : E) (i : Nat) (it : It) (m : Nat) (P : Rw → Prop) (hI : evI c it env st = .ok ⟨numsD 0 m, none⟩ st) (hm : m ≤ 1000000)
    (h : ∀ j : Nat, j < m → ∃ v : Rw, P v ∧ evE c elt (env.set i (some (.int j))) st = .ok (dR v) st) :
    ∃ r : List Rw, r.length = m ∧ (∀ x ∈ r, P x) ∧ evE c (.bi .tuple [.comp elt (.one i) it none]) env st = .ok (dT r) st := by
  obtain ⟨r, r1, r2, r3⟩ := lst_gen dR P c elt i it m hI hm h
  refine ⟨r, r1, r2, ?_⟩
  rw [bi1 r3, bi_tup_lst]
  rfl
end Ev

set_option Elab.async false
set_option linter.all false
set_option maxRecDepth 100000
/-! P6: rows and tables, asked of any thing. -/
namespace Ev
open PySem
/-- no reference at the top -/
def nref : D → Bool
  | .ref _ _ => false
  | _ => true
def partB : D → Bool
  | .int i => decide (-1000 ≤ i) && decide (i ≤ 1000)
  | _ => false
def rowB (w : Nat) : D → Bool
  | .tup ps => decide (ps.length = w) && ps.all partB
  | _ => false
def tabB (w : Nat) : D → Bool
  | .tup rs => decide (rs.length ≤ 12) && rs.all (rowB w)
  | _ => false
def inB (lo hi : Int) : D → Bool
  | .int i => decide (lo ≤ i) && decide (i ≤ hi)
  | _ => false
def wideB : D → Bool
  | .int i => decide (1 ≤ i) && decide (i ≤ 6)
  | _ => false
def intB : D → Bool
  | .int _ => true
  | _ => false
/-- the items of a row may be asked; the rows of a table may be asked -/
def askR : D → Bool
  | .tup ps => ps.all nref && decide (ps.length ≤ 1000)
  | .ref _ _ => false
  | _ => true
def askT : D → Bool
  | .tup rs => rs.all askR && decide (rs.length ≤ 1000)
  | .ref _ _ => false
  | _ => true
section
variable {T : Text} (B : Tb T) {w : Nat} {n : Nat} {s : S}
include B
theorem g_isint {d : D} (h : nref d = true) : run T (n + 1) 0 [d] s = .ok (.bl (intB d)) s := by
  rw [run_def B.d0 rfl]
  cases d with
  | ref e k => cases h
  | int i => simp [dfI, evSs, evS, evE, startE, getV, tyD, S.view, truth, leave0, intB]
  | bl b => simp [dfI, evSs, evS, evE, startE, getV, tyD, S.view, truth, leave0, intB]
  | _ => simp [dfI, evSs, evS, evE, startE, getV, tyD, S.view, truth, leave0, intB]
theorem g_within {d : D} (h : nref d = true) (lo hi : Int) : run T (n + 2) 2 [d, .int lo, .int hi] s = .ok (.bl (inB lo hi d)) s := by
  cases hd : intB d with
  | true =>
    cases d with
    | int i => exact r_within B.d0 B.d2 n i lo hi s
    | _ => cases hd
  | false =>
    have e : inB lo hi d = false := by
      cases d with
      | int i => cases hd
      | _ => rfl
    rw [e, run_def B.d2 rfl]
    simp [dfW, evSs, evS, evE, evEs, startE, getV, g_isint B h, hd, S.view, truth, leave0]
theorem g_cw {d : D} (h : nref d = true) : run T (n + 3) 7 [d] s = if wideB d = true then .ok .non s else .exc 3 s := by
  rw [run_def B.d7 rfl]
  have e : run T (n + 2) 2 [d, .int 1, .int 6] (fr s []) = .ok (.bl (wideB d)) (fr s []) := by
    rw [g_within B h]
    cases d <;> rfl
  have e0 : startE dfCW.ns [d] = [some d] := rfl
  rw [e0]
  cases hw : wideB d with
  | true =>
    rw [hw] at e
    simp only [dfCW, evSs, evS, evT_nt, evT_call, evE, evEs, getV, List.getElem?_cons_zero, Option.bind_some, id_eq, R.opt_some, R.bind_ok, R.st_ok, B.g1, e, t_bl, Bool.not_true, Bool.false_eq_true, if_false, RS.bind_next, if_true]
    exact leaveN
  | false =>
    rw [hw] at e
    simp only [dfCW, evSs, evS, evT_nt, evT_call, evE, evEs, getV, List.getElem?_cons_zero, Option.bind_some, id_eq, R.opt_some, R.bind_ok, R.st_ok, B.g1, e, t_bl, Bool.not_false, if_true, RS.bind_exc, Bool.false_eq_true, if_false]
    simp only [leaveS]
    rw [if_pos (by simp)]
    rfl
theorem all_bl {α : Type} (f : α → Bool) : ∀ l : List α, allD (l.map fun x => D.bl (f x)) = some (l.all f)
  | [] => rfl
  | x :: l => by rw [List.map_cons]; simp only [allD, all_bl f l]; rfl
theorem g_row {d : D} (h : askR d = true) (w : Nat) : run T (n + 3) 5 [.int w, d] s = .ok (.bl (rowB w d)) s := by
  rw [run_def B.d5 rfl]
  have e0 : startE dfRow.ns [.int w, d] = [some (.int w), some d, none] := rfl
  rw [e0]
  cases d with
  | ref e k => cases h
  | tup ps =>
    simp only [askR, Bool.and_eq_true, decide_eq_true_eq] at h
    obtain ⟨h1, h2⟩ := h
    by_cases hl : ps.length = w
    · have y : (((ps.length : Nat) : Int) == (w : Int)) = true := by rw [hl]; exact beq_self_eq_true _
      have key : evE (cf T (n + 2)) (.comp (.call 2 [.loc 2, .neg (.gc 4), .gc 4]) (.one 2) (.ex (.loc 1)) none) [some (.int w), some (.tup ps), none] (fr s []) = .ok (.lst (ps.map fun p => .bl (partB p))) (fr s []) := by
        have hI : evI (cf T (n + 2)) (.ex (.loc 1)) [some (.int w), some (.tup ps), none] (fr s []) = .ok ⟨ps, none⟩ (fr s []) := by
          simp only [evI, evE, getV, List.getElem?_cons_zero, List.getElem?_cons_succ, Option.bind_some, id_eq, R.opt_some, R.bind_ok, walkD]
        rw [evE_comp1, hI, R.bind_ok, comp_map (g := fun p => .bl (partB p)), R.bind_ok]
        · intro x hx
          have hn := List.all_eq_true.mp h1 x hx
          simp only [evE, evEs, getV, List.getElem?_cons_zero, List.getElem?_cons_succ, Option.bind_some, id_eq, R.opt_some, R.bind_ok, List.set_cons_succ, List.set_cons_zero, B.g4, g_within B hn, noExc]
          cases x <;> rfl
        · exact Nat.le_trans h2 (by decide)
      have er : rowB w (.tup ps) = ps.all partB := by
        show (decide (ps.length = w) && ps.all partB) = _
        rw [decide_eq_true hl, Bool.true_and]
      rw [er]
      simp only [dfRow, evSs, evS_ite, evT_or, evT_nt, evT_isi, evT_cmp, evE, evEs, getV, List.getElem?_cons_zero, List.getElem?_cons_succ, Option.bind_some, id_eq, R.opt_some, R.bind_ok, R.st_ok, tyD, S.view, List.any_cons, List.any_nil, Bool.or_false, t_bl, Bool.not_true, Bool.false_eq_true, if_false, bi_len_tup, c_ne, y, Option.map_some, RS.bind_next]
      rw [evS_ret, bi1 key, bi_all, all_bl B]
      simp only [Option.map_some, R.opt_some, R.st_ok, RS.bind_ret]
      exact leave0
    · have y : (((ps.length : Nat) : Int) == (w : Int)) = false := by simpa using (show ((ps.length : Nat) : Int) ≠ (w : Int) by omega)
      have er : rowB w (.tup ps) = false := by
        show (decide (ps.length = w) && ps.all partB) = _
        rw [decide_eq_false hl, Bool.false_and]
      rw [er]
      simp only [dfRow, evSs, evS_ite, evT_or, evT_nt, evT_isi, evT_cmp, evE, evEs, getV, List.getElem?_cons_zero, List.getElem?_cons_succ, Option.bind_some, id_eq, R.opt_some, R.bind_ok, R.st_ok, tyD, S.view, List.any_cons, List.any_nil, Bool.or_false, t_bl, Bool.not_true, Bool.false_eq_true, if_false, bi_len_tup, c_ne, y, Option.map_some, Bool.not_false, if_true, evS_ret, RS.bind_ret]
      exact leave0
  | _ =>
    simp only [dfRow, evSs, evS_ite, evT_or, evT_nt, evT_isi, evT_cmp, evE, evEs, getV, List.getElem?_cons_zero, List.getElem?_cons_succ, Option.bind_some, id_eq, R.opt_some, R.bind_ok, R.st_ok, tyD, S.view, List.any_cons, List.any_nil, Bool.or_false, t_bl, Bool.not_false, if_true, evS_ret, RS.bind_ret]
    exact leave0
theorem g_tab {d : D} (h : askT d = true) (w : Nat) : run T (n + 4) 8 [.int w, d] s = .ok (.bl (tabB w d)) s := by
  rw [run_def B.d8 rfl]
  have e0 : startE dfTab.ns [.int w, d] = [some (.int w), some d, none] := rfl
  rw [e0]
  cases d with
  | ref e k => cases h
  | tup rs =>
    simp only [askT, Bool.and_eq_true, decide_eq_true_eq] at h
    obtain ⟨h1, h2⟩ := h
    have ec : cmpD (fr s []) .le (.int (rs.length : Nat)) (.int 12) = some (decide (rs.length ≤ 12)) := by
      rw [c_le]
      congr 1
      by_cases q : rs.length ≤ 12
      · rw [decide_eq_true q]
        exact decide_eq_true (by omega)
      · rw [decide_eq_false q]
        exact decide_eq_false (by omega)
    have key : evE (cf T (n + 3)) (.comp (.call 5 [.loc 0, .loc 2]) (.one 2) (.ex (.loc 1)) none) [some (.int w), some (.tup rs), none] (fr s []) = .ok (.lst (rs.map fun p => .bl (rowB w p))) (fr s []) := by
      have hI : evI (cf T (n + 3)) (.ex (.loc 1)) [some (.int w), some (.tup rs), none] (fr s []) = .ok ⟨rs, none⟩ (fr s []) := by
        simp only [evI, evE, getV, List.getElem?_cons_zero, List.getElem?_cons_succ, Option.bind_some, id_eq, R.opt_some, R.bind_ok, walkD]
      rw [evE_comp1, hI, R.bind_ok, comp_map (g := fun p => .bl (rowB w p)), R.bind_ok]
      · intro x hx
        have hn := List.all_eq_true.mp h1 x hx
        simp only [evE, evEs, getV, List.getElem?_cons_zero, List.getElem?_cons_succ, Option.bind_some, id_eq, R.opt_some, R.bind_ok, List.set_cons_succ, List.set_cons_zero, g_row B hn, noExc]
      · exact Nat.le_trans h2 (by decide)
    have k2 : evE (cf T (n + 3)) (.bi .all [.comp (.call 5 [.loc 0, .loc 2]) (.one 2) (.ex (.loc 1)) none]) [some (.int w), some (.tup rs), none] (fr s []) = .ok (.bl (rs.all (rowB w))) (fr s []) := by
      rw [bi1 key, bi_all, all_bl B]
      rfl
    have k3 : ∀ (a b : E) (env : Env) (st : S), evE (cf T (n + 3)) (.and a b) env st = (evE (cf T (n + 3)) a env st).bind fun x s => match truth s x with | some true => evE (cf T (n + 3)) b env s | some false => .ok x s | none => .stuck := fun a b env st => by first | (simp only [evE]; done) | (simp only [evE]; rfl)
    have k4 : evE (cf T (n + 3)) (.cmp .le (.bi .len [.loc 1]) (.gc 6)) [some (.int w), some (.tup rs), none] (fr s []) = .ok (.bl (decide (rs.length ≤ 12))) (fr s []) := by
      simp only [evE, evEs, getV, List.getElem?_cons_zero, List.getElem?_cons_succ, Option.bind_some, id_eq, R.opt_some, R.bind_ok, bi_len_tup, B.g6, ec, Option.map_some]
    have k5 : evE (cf T (n + 3)) (.isi (.loc 1) [.tuple]) [some (.int w), some (.tup rs), none] (fr s []) = .ok (.bl true) (fr s []) := by
      simp only [evE, getV, List.getElem?_cons_zero, List.getElem?_cons_succ, Option.bind_some, id_eq, R.opt_some, R.bind_ok, tyD, S.view, List.any_cons, List.any_nil, Bool.or_false]
    simp only [dfTab, evSs, evS_ret]
    rw [k3, k5]
    simp only [R.bind_ok, t_bl]
    rw [k3, k4]
    simp only [R.bind_ok, t_bl]
    have et : tabB w (.tup rs) = (decide (rs.length ≤ 12) && rs.all (rowB w)) := rfl
    rw [et]
    cases decide (rs.length ≤ 12) with
    | true =>
      simp only [k2, R.st_ok, RS.bind_ret, Bool.true_and]
      exact leave0
    | false =>
      simp only [R.st_ok, RS.bind_ret, Bool.false_and]
      exact leave0
  | _ =>
    simp only [dfTab, evSs, evS_ret, evE, getV, List.getElem?_cons_zero, List.getElem?_cons_succ, Option.bind_some, id_eq, R.opt_some, R.bind_ok, R.st_ok, tyD, S.view, List.any_cons, List.any_nil, Bool.or_false, t_bl, RS.bind_ret]
    exact leave0
theorem exc_first {f k : Nat} {df : Def} {e : E} {rest : List St} {xs : List D} (hd : T.defs f = some df) (hb : df.body = .ex e :: rest) (hl : xs.length = df.np) (he : evE (cf T n) e (startE df.ns xs) (fr s []) = .exc k (fr s [])) : run T (n + 1) f xs s = .exc k s := by
  rw [run_def hd hl, hb]
  simp only [evSs, evS]
  rw [he]
  simp only [R.st_exc, RS.bind_exc, leaveS]
  rw [if_pos (by simp)]
  rfl
theorem g_ct {w : Nat} {x y : D} (hx : askT x = true) (hy : askT y = true) (hw : okW w) : run T (n + 5) 10 [.int w, x, y] s = if (tabB w x && tabB w y) = true then .ok .non s else .exc 9 s := by
  rw [run_def B.d10 rfl]
  have e0 : startE dfCT.ns [.int w, x, y] = [some (.int w), some x, some y] := rfl
  rw [e0]
  have h1 : ∀ st, run T (n + 4) 8 [.int w, x] st = .ok (.bl (tabB w x)) st := fun st => g_tab B hx w
  have h2 : ∀ st, run T (n + 4) 8 [.int w, y] st = .ok (.bl (tabB w y)) st := fun st => g_tab B hy w
  simp only [dfCT, evSs, evS, evT_or, evT_nt, evT_call, evE, evEs, getV, List.getElem?_cons_zero, List.getElem?_cons_succ, Option.bind_some, id_eq, R.opt_some, R.bind_ok, R.st_ok, RS.bind_next, r_cw B hw, h1, h2, t_bl]
  cases tabB w x with
  | false =>
    simp only [Bool.not_false, if_true, R.st_ok, RS.bind_exc, Bool.false_and, Bool.false_eq_true, if_false, leaveS]
    rw [if_pos (by simp)]
    rfl
  | true =>
    cases tabB w y with
    | false =>
      simp only [Bool.not_true, Bool.false_eq_true, if_false, Bool.not_false, if_true, R.bind_ok, R.st_ok, RS.bind_exc, Bool.and_false, leaveS]
      rw [if_pos (by simp)]
      rfl
    | true =>
      simp only [Bool.not_true, Bool.false_eq_true, if_false, R.bind_ok, R.st_ok, RS.bind_next, Bool.and_self, if_true]
      exact leaveN
theorem g_ctW {d x y : D} (hd : nref d = true) (hw : wideB d = false) : run T (n + 5) 10 [d, x, y] s = .exc 3 s := by
  refine exc_first B (rest := [.ite (.or (.nt (.call 8 [.loc 0, .loc 1])) (.nt (.call 8 [.loc 0, .loc 2]))) [.raise 9] []]) (e := .call 7 [.loc 0]) B.d10 rfl rfl ?_
  have e0 : startE dfCT.ns [d, x, y] = [some d, some x, some y] := rfl
  rw [e0]
  simp only [evE, evEs, getV, List.getElem?_cons_zero, Option.bind_some, id_eq, R.opt_some, R.bind_ok, g_cw B hd, hw, Bool.false_eq_true, if_false]
end
end Ev

set_option Elab.async false
set_option linter.all false
set_option maxRecDepth 100000
/-! P7: steps of statements; equality of plain things; draws by one def alone. -/
namespace Ev
open PySem
theorem evS_ex {c : Cfg} {env : Env} {s : S} {e : E} : evS c (.ex e) env s = (evE c e env s).st env fun _ s => .next env s := by simp only [evS]
theorem evS_raise {c : Cfg} {env : Env} {s : S} {k : Nat} : evS c (.raise k) env s = .exc k env s := by simp only [evS]
theorem evS_brk {c : Cfg} {env : Env} {s : S} : evS c .brk env s = .brk env s := by simp only [evS]
theorem evS_cont {c : Cfg} {env : Env} {s : S} : evS c .cont env s = .cont env s := by simp only [evS]
theorem evS_pass {c : Cfg} {env : Env} {s : S} : evS c .pass env s = .next env s := by simp only [evS]
theorem all_cps {x : Str} (h : (x.cps.all fun c => decide (c < 0x110000)) = true) (m : Nat) : (D.str x).plain m = true := by
  cases m <;> simpa [D.plain] using h
mutual
theorem refl_plain : ∀ (m : Nat) {x : D}, x.plain m = true → x.eqv x = true
  | m, .int i, _ => by simp [D.eqv]
  | m, .non, _ => by simp [D.eqv]
  | m, .bl b, _ => by simp [D.eqv]
  | m, .str x, _ => by simp [D.eqv]
  | 0, .tup xs, h => by simp [D.plain] at h
  | 0, .lst xs, h => by simp [D.plain] at h
  | m + 1, .tup xs, h => by simp only [D.plain] at h; simp only [D.eqv]; exact refl_plains m h
  | m + 1, .lst xs, h => by simp only [D.plain] at h; simp only [D.eqv]; exact refl_plains m h
  | m, .fz _, h => by cases m <;> simp [D.plain] at h
  | m, .dct _, h => by cases m <;> simp [D.plain] at h
  | m, .ref _ _, h => by cases m <;> simp [D.plain] at h
theorem refl_plains : ∀ (m : Nat) {xs : List D}, plains m xs = true → eqvs xs xs = true
  | m, [], _ => by simp [eqvs]
  | m, x :: xs, h => by
    simp only [plains, Bool.and_eq_true] at h
    simp only [eqvs, Bool.and_eq_true]
    exact ⟨refl_plain m h.1, refl_plains m h.2⟩
end
/-- a thing is as itself -/
theorem eqD_same {s : S} {x : D} (h : x.plain 60 = true) : eqD s x x = some true := by
  have v : s.view x = x := by cases x <;> first | rfl | (simp [D.plain] at h)
  unfold eqD
  rw [v, h, Bool.and_self, if_pos rfl, refl_plain 60 h]
theorem eq_same {s : S} {x : D} (h : x.plain 60 = true) : cmpD s .eq x x = some true := eqD_same h
theorem ne_same {s : S} {x : D} (h : x.plain 60 = true) : cmpD s .ne x x = some false := by
  show (eqD s x x).map _ = _
  rw [eqD_same h]
  rfl
theorem eq_bl {s : S} {a b : Bool} : cmpD s .eq (.bl a) (.bl b) = some (a == b) := by
  simp only [cmpD, eqD, S.view, D.plain, Bool.and_self, if_true, D.eqv]
theorem ne_bl {s : S} {a b : Bool} : cmpD s .ne (.bl a) (.bl b) = some (!(a == b)) := by
  simp only [cmpD, eqD, S.view, D.plain, Bool.and_self, if_true, D.eqv, Option.map_some]
theorem is_bl {s : S} {a b : Bool} : cmpD s .is (.bl a) (.bl b) = some (a == b) := rfl
theorem isn_bl {s : S} {a b : Bool} : cmpD s .isNot (.bl a) (.bl b) = some (a != b) := rfl
def strOk (x : Str) : Bool := x.cps.all fun c => decide (c < 0x110000)
theorem eq_str {s : S} {x y : Str} (hx : strOk x = true) (hy : strOk y = true) : cmpD s .eq (.str x) (.str y) = some (x == y) := by
  have h1 : (D.str x).plain 60 = true := all_cps hx 60
  have h2 : (D.str y).plain 60 = true := all_cps hy 60
  simp only [cmpD, eqD, S.view, h1, h2, Bool.and_self, if_true, D.eqv]
theorem exc_ex {T : Text} {n : Nat} {s : S} {f k : Nat} {df : Def} {e : E} {rest : List St} {xs : List D} (hd : T.defs f = some df) (hb : df.body = .ex e :: rest) (hl : xs.length = df.np) (he : evE (cf T n) e (startE df.ns xs) (fr s []) = .exc k (fr s [])) : run T (n + 1) f xs s = .exc k s := by
  rw [run_def hd hl, hb]
  simp only [evSs, evS]
  rw [he]
  simp only [R.st_exc, RS.bind_exc, leaveS]
  rw [if_pos (by simp)]
  rfl
theorem leaveX {s : S} {k : Nat} {kp : Bool} {env : Env} {cs : List Cel} : leaveS s.out.length kp (.exc k env (fr s cs)) = .exc k s := by
  simp only [leaveS]
  rw [if_pos (by simp)]
  rfl
section
variable {T : Text} {n : Nat} {s : S}
theorem f_draw (h13 : T.defs 13 = some dfDraw) (ns : List Int) (hn : ns.length ≤ 63) (k : Nat) (hk : k ≤ 1000000) (size : Int) (hs : 0 < size) (n : Nat) : ∃ v : Int, (0 ≤ v ∧ v < size) ∧ ∀ s, run T (n + 1) 13 [.fz ns, .int k, .int size] s = .ok (.int v) s := by
  obtain ⟨v, hv, h⟩ := draw_body (cf T n) ns hn hk hs
  refine ⟨v, hv, fun s => ?_⟩
  rw [run_def h13 rfl]
  have e : startE dfDraw.ns [.fz ns, .int k, .int size] = [some (.fz ns), some (.int k), some (.int size), none, none, none, none] := rfl
  rw [e, h, show dfDraw.keep = false from rfl, leave0]
theorem f_isint (h0 : T.defs 0 = some dfI) {d : D} (h : nref d = true) : run T (n + 1) 0 [d] s = .ok (.bl (intB d)) s := by
  rw [run_def h0 rfl]
  cases d with
  | ref e k => cases h
  | int i => simp [dfI, evSs, evS, evE, startE, getV, tyD, S.view, truth, leave0, intB]
  | bl b => simp [dfI, evSs, evS, evE, startE, getV, tyD, S.view, truth, leave0, intB]
  | _ => simp [dfI, evSs, evS, evE, startE, getV, tyD, S.view, truth, leave0, intB]
end
/-- turns that keep something, each led on or broken to the next -/
theorem for_turns {c : Cfg} {s : S} {i : Nat} {bd : List St} (I : Nat → Env → Prop) : ∀ {xs : List D} {k : Nat} {env : Env}, I k env → (∀ j (h : j < xs.length) env, I (k + j) env → ∃ env', I (k + j + 1) env' ∧ (evSs c bd (env.set i (some xs[j])) s = .next env' s ∨ evSs c bd (env.set i (some xs[j])) s = .cont env' s)) → ∃ env', I (k + xs.length) env' ∧ forL none (.one i) (evSs c bd) xs env s = .next env' s
  | [], k, env, hI, _ => ⟨env, hI, by simp only [forL]⟩
  | x :: xs, k, env, hI, h => by
    obtain ⟨e1, i1, h1⟩ := h 0 (Nat.zero_lt_succ _) env hI
    obtain ⟨e2, i2, h2⟩ := for_turns I (xs := xs) (k := k + 1) (env := e1) i1 fun j hj env hE => by
      have z := h (j + 1) (Nat.succ_lt_succ hj) env (by rw [← Nat.add_assoc, Nat.add_right_comm]; exact hE)
      rw [← Nat.add_assoc, Nat.add_right_comm k j 1] at z
      exact z
    refine ⟨e2, by rw [List.length_cons, ← Nat.add_assoc, Nat.add_right_comm]; exact i2, ?_⟩
    simp only [forL, putT, RS.opt_some]
    rcases h1 with h1 | h1
    · simp only [List.getElem_cons_zero] at h1
      rw [h1]
      simp only [keptG, if_true]
      exact h2
    · simp only [List.getElem_cons_zero] at h1
      rw [h1]
      simp only [keptG, if_true]
      exact h2
end Ev

set_option Elab.async false
set_option linter.all false
set_option maxRecDepth 100000
/-! P8: hands: a list of the law that draws change. -/
namespace Ev
open PySem
/-! ### frames -/
theorem getA_setA8 : ∀ (o : List (List Cel)) (cur : List Cel) (d k : Nat) (c x : Cel), getA o cur d k = some c → getA (setA o cur d k x).1 (setA o cur d k x).2 d k = some x ∧ (setA o cur d k x).1.length = o.length
  | [], cur, d, k, c, x, h => by
    simp only [getA] at h
    simp only [setA, getA]
    split at h
    · rename_i e
      rw [if_pos e, if_pos e]
      have hk : k < cur.length := by
        rcases Nat.lt_or_ge k cur.length with q | q
        · exact q
        · rw [List.getElem?_eq_none q] at h; cases h
      exact ⟨List.getElem?_set_self hk, by trivial⟩
    · cases h
  | c0 :: o, cur, d, k, c, x, h => by
    simp only [getA] at h
    simp only [setA]
    split at h
    · rename_i e
      rw [if_pos e]
      have hk : k < cur.length := by
        rcases Nat.lt_or_ge k cur.length with q | q
        · exact q
        · rw [List.getElem?_eq_none q] at h; cases h
      refine ⟨?_, rfl⟩
      simp only [getA]
      rw [if_pos e]
      exact List.getElem?_set_self hk
    · rename_i e
      rw [if_neg e]
      obtain ⟨h1, h2⟩ := getA_setA8 o c0 d k c x h
      refine ⟨?_, by simp only [List.length_cons, h2]⟩
      simp only [getA]
      rw [if_neg (by rw [h2]; exact e)]
      exact h1
theorem setA_len8 : ∀ (o : List (List Cel)) (cur : List Cel) (d k : Nat) (x : Cel), (setA o cur d k x).1.length = o.length
  | [], cur, d, k, x => rfl
  | c0 :: o, cur, d, k, x => by
    simp only [setA]
    split
    · rfl
    · simp only [List.length_cons, setA_len8 o c0 d k x]
theorem setA_setA8 : ∀ (o : List (List Cel)) (cur : List Cel) (d k : Nat) (x y : Cel), setA (setA o cur d k x).1 (setA o cur d k x).2 d k y = setA o cur d k y
  | [], cur, d, k, x, y => by
    simp only [setA]
    split
    · rw [List.set_set]
    · rfl
  | c0 :: o, cur, d, k, x, y => by
    by_cases e : d = o.length + 1
    · simp only [setA]
      rw [if_pos e]
      dsimp only
      simp only [setA]
      rw [if_pos e, if_pos e, List.set_set]
    · have ih := setA_setA8 o c0 d k x y
      have hl := setA_len8 o c0 d k x
      simp only [setA]
      rw [if_neg e, if_neg e]
      dsimp only
      simp only [setA]
      rw [if_neg (by rw [hl]; exact e), ih]
theorem setA_get : ∀ (o : List (List Cel)) (cur : List Cel) (d k : Nat) (c : Cel), getA o cur d k = some c → setA o cur d k c = (o, cur)
  | [], cur, d, k, c, h => by
    simp only [getA] at h
    simp only [setA]
    split at h
    · rename_i e
      rw [if_pos e]
      have z : cur.set k c = cur := by
        refine List.ext_getElem? fun i => ?_
        rw [List.getElem?_set]
        split
        · rename_i q
          subst q
          split
          · exact h.symm
          · rename_i q
            rw [List.getElem?_eq_none (by omega)]
        · rfl
      rw [z]
    · rename_i e
      rw [if_neg e]
  | c0 :: o, cur, d, k, c, h => by
    simp only [getA] at h
    simp only [setA]
    split at h
    · rename_i e
      rw [if_pos e]
      have z : cur.set k c = cur := by
        refine List.ext_getElem? fun i => ?_
        rw [List.getElem?_set]
        split
        · rename_i q
          subst q
          split
          · exact h.symm
          · rename_i q
            rw [List.getElem?_eq_none (by omega)]
        · rfl
      rw [z]
    · rename_i e
      rw [if_neg e, setA_get o c0 d k c h]
section
variable {s : S} {cs : List Cel} {d k : Nat} {c x y : Cel}
theorem S.get_set8 (h : s.get d k = some c) : (s.set d k x).get d k = some x := (getA_setA8 s.out s.cur d k c x h).1
theorem S.set_len8 : (s.set d k x).out.length = s.out.length := setA_len8 _ _ _ _ _
theorem S.set_set : (s.set d k x).set d k y = s.set d k y := by
  have z := setA_setA8 s.out s.cur d k x y
  simp only [S.set] at z ⊢
  rw [z]
theorem S.set_get (h : s.get d k = some c) : s.set d k c = s := by
  have z := setA_get s.out s.cur d k c h
  simp only [S.set]
  rw [z]
theorem get_push (h : d ≤ s.out.length) : (fr s cs).get d k = s.get d k := by
  show (if d = s.out.length + 1 then _ else getA s.out s.cur d k) = _
  rw [if_neg (by omega)]
  rfl
theorem set_push (h : d ≤ s.out.length) : (fr s cs).set d k x = fr (s.set d k x) cs := by
  simp only [S.set, setA]
  rw [if_neg (by omega)]
theorem leave_set {d' : D} : leaveS s.out.length false (.ret d' (fr (s.set d k x) [])) = .ok d' (s.set d k x) := by
  rw [← S.set_len8 (s := s) (d := d) (k := k) (x := x)]
  exact leave0
end
/-! ### a hand -/
abbrev hdL (cells : List Int) (p l m q : Int) : List D := [.lst (cells.map .int), .int p, .int l, .int m, .int q]
section
variable {st : S} {d k : Nat} {cells : List Int} {p l m q : Int}
theorem h_ix {xs : List D} {i : Int} {j : Nat} (h : st.get d k = some (.lst xs)) (hi : i = (j : Int)) (hj : j < xs.length) : idxD st (.ref d k) (.int i) = some xs[j] := by
  subst hi
  simp only [idxD, S.view, h, items, Option.bind_some, ixD]
  rw [if_pos (by omega), if_pos (by omega)]
  simp only [Option.bind_some, Int.toNat_natCast]
  rw [List.getElem?_eq_getElem]
theorem h_ix0 (h : st.get d k = some (.lst (hdL cells p l m q))) : idxD st (.ref d k) (.int 0) = some (.lst (cells.map .int)) := h_ix (j := 0) h rfl (by show 0 < 5; decide)
theorem h_ix1 (h : st.get d k = some (.lst (hdL cells p l m q))) : idxD st (.ref d k) (.int 1) = some (.int p) := h_ix (j := 1) h rfl (by show 1 < 5; decide)
theorem h_ix2 (h : st.get d k = some (.lst (hdL cells p l m q))) : idxD st (.ref d k) (.int 2) = some (.int l) := h_ix (j := 2) h rfl (by show 2 < 5; decide)
theorem h_ix3 (h : st.get d k = some (.lst (hdL cells p l m q))) : idxD st (.ref d k) (.int 3) = some (.int m) := h_ix (j := 3) h rfl (by show 3 < 5; decide)
theorem h_ix4 (h : st.get d k = some (.lst (hdL cells p l m q))) : idxD st (.ref d k) (.int 4) = some (.int q) := h_ix (j := 4) h rfl (by show 4 < 5; decide)
theorem h_sto {xs : List D} {i : Int} {j : Nat} {v : Int} (h : st.get d k = some (.lst xs)) (hi : i = (j : Int)) (hj : j < xs.length) : stoD st (.ref d k) (.int i) (.int v) = some (st.set d k (.lst (xs.set j (.int v)))) := by
  subst hi
  simp only [stoD, h, ixD]
  rw [if_pos (by omega), if_pos (by omega)]
  simp only [Int.toNat_natCast, D.shal, if_true]
theorem h_sto1 {v : Int} (h : st.get d k = some (.lst (hdL cells p l m q))) : stoD st (.ref d k) (.int 1) (.int v) = some (st.set d k (.lst (hdL cells v l m q))) := h_sto (j := 1) h rfl (by show 1 < 5; decide)
theorem h_sto2 {v : Int} (h : st.get d k = some (.lst (hdL cells p l m q))) : stoD st (.ref d k) (.int 2) (.int v) = some (st.set d k (.lst (hdL cells p v m q))) := h_sto (j := 2) h rfl (by show 2 < 5; decide)
theorem h_sto3 {v : Int} (h : st.get d k = some (.lst (hdL cells p l m q))) : stoD st (.ref d k) (.int 3) (.int v) = some (st.set d k (.lst (hdL cells p l v q))) := h_sto (j := 3) h rfl (by show 3 < 5; decide)
theorem h_sto4 {v : Int} (h : st.get d k = some (.lst (hdL cells p l m q))) : stoD st (.ref d k) (.int 4) (.int v) = some (st.set d k (.lst (hdL cells p l m v))) := h_sto (j := 4) h rfl (by show 4 < 5; decide)
end
theorem evS_sto {c : Cfg} {env : Env} {s : S} {o i e : E} : evS c (.sto o i e) env s = (evE c e env s).st env fun v s => (evE c o env s).st env fun x s => (evE c i env s).st env fun y s => RS.opt (stoD s x y v) fun s => .next env s := by simp only [evS]
def hd1 : St := .ite (.and (.cmp .eq (.idx (.loc 0) (.cst (.int 2))) (.cst (.int 0))) (.cmp .lt (.idx (.loc 0) (.cst (.int 1))) (.bi .len [.idx (.loc 0) (.cst (.int 0))]))) [.set 3 (.idx (.idx (.loc 0) (.cst (.int 0))) (.idx (.loc 0) (.cst (.int 1)))), .sto (.loc 0) (.cst (.int 1)) (.bin .add (.idx (.loc 0) (.cst (.int 1))) (.cst (.int 1))), .sto (.loc 0) (.cst (.int 3)) (.bin .mod (.bi .int [.bin .add (.bin .add (.bin .mul (.idx (.loc 0) (.cst (.int 3))) (.cst (.int 69621))) (.loc 3)) (.cst (.int 491))]) (.cst (.int 2147483629))), .ite (.cmp .ge (.loc 3) (.bin .pow (.cst (.int 10)) (.cst (.int 18)))) [.sto (.loc 0) (.cst (.int 2)) (.loc 3)] []] []
def hd2 : St := .ite (.cmp .gt (.idx (.loc 0) (.cst (.int 2))) (.cst (.int 0))) [.set 4 (.bin .mod (.bi .int [.idx (.loc 0) (.cst (.int 2))]) (.loc 1)), .sto (.loc 0) (.cst (.int 2)) (.bin .fdiv (.idx (.loc 0) (.cst (.int 2))) (.loc 1)), .ret (some (.loc 4))] []
def hd3 : St := .sto (.loc 0) (.cst (.int 4)) (.bin .add (.idx (.loc 0) (.cst (.int 4))) (.cst (.int 1)))
def hd4 : St := .set 2 (.bin .mod (.bi .int [.bin .mul (.bi .int [.bin .add (.idx (.loc 0) (.cst (.int 3))) (.bin .mul (.cst (.int 7919)) (.idx (.loc 0) (.cst (.int 4))))]) (.cst (.int 48271))]) (.cst (.int 2147483647)))
def hd5 : St := .set 2 (.bin .mod (.bi .int [.bin .mul (.loc 2) (.bin .add (.bin .fdiv (.loc 2) (.cst (.int 1009))) (.cst (.int 69621)))]) (.cst (.int 2147483647)))
def hd6 : St := .set 2 (.bin .mod (.bi .int [.bin .mul (.loc 2) (.bin .add (.bin .fdiv (.loc 2) (.cst (.int 2003))) (.cst (.int 40692)))]) (.cst (.int 2147483399)))
def hd7 : St := .ret (some (.bin .mod (.bi .int [.bin .fdiv (.loc 2) (.cst (.int 16))]) (.loc 1)))
def dfHDraw : Def := ⟨2, 5, false, [hd1, hd2, hd3, hd4, hd5, hd6, hd7]⟩
theorem evSs_next {c : Cfg} {st : St} {r : List St} {env env' : Env} {s s' : S} (h : evS c st env s = .next env' s') : evSs c (st :: r) env s = evSs c r env' s' := by simp only [evSs, h, RS.bind_next]
theorem evSs_ret {c : Cfg} {st : St} {r : List St} {env : Env} {d : D} {s s' : S} (h : evS c st env s = .ret d s') : evSs c (st :: r) env s = .ret d s' := by simp only [evSs, h, RS.bind_ret]
/-- where a hand stands -/
structure HandAt (s : S) (d k : Nat) : Prop where
  dep : d ≤ s.out.length
  ex : ∃ cells p l m q, s.get d k = some (.lst (hdL cells p l m q)) ∧ 0 ≤ p ∧ 0 ≤ l
/-- only the hand has changed -/
structure Mv (d k : Nat) (s s' : S) : Prop where
  ex : ∃ c, s' = s.set d k c
  at_ : HandAt s' d k
theorem HandAt.mv {s : S} {d k : Nat} (h : HandAt s d k) : Mv d k s s := by
  obtain ⟨cells, p, l, m, q, h1, _⟩ := h.ex
  exact ⟨⟨_, (S.set_get h1).symm⟩, h⟩
theorem Mv.trans {s s1 s2 : S} {d k : Nat} (a : Mv d k s s1) (b : Mv d k s1 s2) : Mv d k s s2 := by
  obtain ⟨c, rfl⟩ := a.ex
  obtain ⟨c2, rfl⟩ := b.ex
  exact ⟨⟨c2, S.set_set⟩, b.at_⟩
theorem HandAt.push {s : S} {d k : Nat} (h : HandAt s d k) (cs : List Cel) : HandAt (fr s cs) d k := by
  obtain ⟨cells, p, l, m, q, h1, h2⟩ := h.ex
  have hd := h.dep
  exact ⟨by show d ≤ s.out.length + 1; omega, cells, p, l, m, q, by rw [get_push hd]; exact h1, h2⟩
theorem Mv.pop {s s' : S} {d k : Nat} {cs : List Cel} (h : HandAt s d k) (a : Mv d k (fr s cs) s') : ∃ s2, s' = fr s2 cs ∧ Mv d k s s2 := by
  obtain ⟨c, rfl⟩ := a.ex
  refine ⟨s.set d k c, set_push h.dep, ⟨c, rfl⟩, ?_⟩
  have z := a.at_
  rw [set_push h.dep] at z
  obtain ⟨cells, p, l, m, q, h1, h2⟩ := z.ex
  refine ⟨by rw [S.set_len8]; exact h.dep, cells, p, l, m, q, ?_, h2⟩
  rw [get_push (by rw [S.set_len8]; exact h.dep)] at h1
  exact h1
theorem Mv.len {s s' : S} {d k : Nat} (a : Mv d k s s') : s'.out.length = s.out.length := by
  obtain ⟨c, rfl⟩ := a.ex
  exact S.set_len8
theorem Mv.leave {s s' : S} {d k : Nat} (a : Mv d k s s') {x : D} : leaveS s.out.length false (.ret x (fr s' [])) = .ok x s' := by
  rw [← a.len]
  exact leave0
theorem hand_draw {T : Text} (h13 : T.defs 13 = some dfHDraw) {s : S} {d k : Nat} (h : HandAt s d k) {many : Int} (hm : 0 < many) (hm2 : many.natAbs < 2 ^ 64) (n : Nat) : ∃ (v : Int) (s' : S), (0 ≤ v ∧ v < many) ∧ Mv d k s s' ∧ run T (n + 1) 13 [.ref d k, .int many] s = .ok (.int v) s' := by
  obtain ⟨cells, p, l, m, q, hg, hp, hl⟩ := h.ex
  have hd := h.dep
  have e0 : startE dfHDraw.ns [.ref d k, .int many] = [some (.ref d k), some (.int many), none, none, none] := rfl
  have hz : many ≠ 0 := by omega
  -- a state with another hand
  have mk : ∀ cells p l m q, 0 ≤ p → 0 ≤ l → Mv d k s (s.set d k (.lst (hdL cells p l m q))) := fun cells p l m q h1 h2 => ⟨⟨_, rfl⟩, ⟨by rw [S.set_len8]; exact hd, cells, p, l, m, q, S.get_set8 hg, h1, h2⟩⟩
  have gt : ∀ c, (fr (s.set d k c) []).get d k = some c := fun c => by rw [get_push (by rw [S.set_len8]; exact hd)]; exact S.get_set8 hg
  have st : ∀ c c', (fr (s.set d k c) []).set d k c' = fr (s.set d k c') [] := fun c c' => by rw [set_push (by rw [S.set_len8]; exact hd), S.set_set]
  have m1 : ∀ i : Int, mulOk i 69621 := fun i => mul_right (by decide)
  have m2 : ∀ i : Int, mulOk 7919 i := fun i => mul_left (by decide)
  have m3 : ∀ i : Int, mulOk i 48271 := fun i => mul_right (by decide)
  have b1 : (2147483629 : Int) ≠ 0 := by decide
  have b2 : (2147483647 : Int) ≠ 0 := by decide
  have b3 : (2147483399 : Int) ≠ 0 := by decide
  have w1 : divOk 1009 := div_small (by decide) (by decide)
  have w2 : divOk 2003 := div_small (by decide) (by decide)
  have w3 : divOk 16 := div_small (by decide) (by decide)
  have wm : divOk many := div_small hz hm2
  obtain ⟨p', l', m', a3, hp', hl', h1⟩ : ∃ (p' l' m' : Int) (a3 : Option D), 0 ≤ p' ∧ 0 ≤ l' ∧ evS (cf T n) hd1 [some (.ref d k), some (.int many), none, none, none] (fr (s.set d k (.lst (hdL cells p l m q))) []) = .next [some (.ref d k), some (.int many), none, a3, none] (fr (s.set d k (.lst (hdL cells p' l' m' q))) []) := by
    have g0 := gt (.lst (hdL cells p l m q))
    by_cases c1 : l = 0
    · have e1 : (l == 0) = true := by rw [beq_iff_eq]; exact c1
      by_cases c2 : p < (cells.length : Int)
      · have hl2 : ((cells.map D.int).length : Int) = cells.length := by rw [List.length_map]
        obtain ⟨j, hj⟩ : ∃ j : Nat, p = (j : Int) := ⟨p.toNat, by omega⟩
        have hj2 : j < cells.length := by omega
        have hc : idxD (fr (s.set d k (.lst (hdL cells p l m q))) []) (.lst (cells.map .int)) (.int p) = some (.int cells[j]) := by
          rw [hj]
          simp only [idxD, S.view, items, Option.bind_some, ixD, List.length_map]
          rw [if_pos (by omega), if_pos (by omega)]
          simp only [Option.bind_some, Int.toNat_natCast]
          rw [List.getElem?_map, List.getElem?_eq_getElem hj2]
          rfl
        have g1 := gt (.lst (hdL cells (p + 1) l m q))
        obtain ⟨m'', hm''⟩ : ∃ m'', m'' = (m * 69621 + cells[j] + 491).fmod 2147483629 := ⟨_, rfl⟩
        have g2 := gt (.lst (hdL cells (p + 1) l m'' q))
        by_cases c3 : (1000000000000000000 : Int) ≤ cells[j]
        · refine ⟨p + 1, cells[j], m'', some (.int cells[j]), by omega, by omega, ?_⟩
          unfold hd1
          simp only [evSs, evS_ite, evS_set, evS_ret, evS_ex, evS_raise, evS_brk, evS_cont, evS_pass, evT_cmp, evT_chain, evT_call, evT_bi, evT_isi, evT_loc, evT_nt, evT_and, evT_or, evE, evEs, getV, List.getElem?_cons_zero, List.getElem?_cons_succ, Option.bind_some, id_eq, R.opt_some, R.bind_ok, R.bind_exc, R.st_ok, R.st_exc, RS.bind_next, RS.bind_ret, RS.bind_exc, RS.bind_cont, RS.bind_brk, List.set_cons_succ, List.set_cons_zero, Option.map_some, t_bl, Bool.not_true, Bool.not_false, Bool.false_eq_true, if_true, if_false, bi_len_tup, bi_len_lst, bi_int, bn_add, bn_sub, c_eq, c_ne, c_le, c_lt, c_ge, c_gt, h_ix0 g0, h_ix1 g0, h_ix2 g0, e1, List.length_map, decide_eq_true c2, hc, evS_sto, h_sto1 g0, st, RS.opt_some, h_ix3 g1, b_mul (m1 _), b_mod b1, ← hm'', h_sto3 g1, ten18, decide_eq_true c3, h_sto2 g2]
        · refine ⟨p + 1, l, m'', some (.int cells[j]), by omega, by omega, ?_⟩
          unfold hd1
          simp only [evSs, evS_ite, evS_set, evS_ret, evS_ex, evS_raise, evS_brk, evS_cont, evS_pass, evT_cmp, evT_chain, evT_call, evT_bi, evT_isi, evT_loc, evT_nt, evT_and, evT_or, evE, evEs, getV, List.getElem?_cons_zero, List.getElem?_cons_succ, Option.bind_some, id_eq, R.opt_some, R.bind_ok, R.bind_exc, R.st_ok, R.st_exc, RS.bind_next, RS.bind_ret, RS.bind_exc, RS.bind_cont, RS.bind_brk, List.set_cons_succ, List.set_cons_zero, Option.map_some, t_bl, Bool.not_true, Bool.not_false, Bool.false_eq_true, if_true, if_false, bi_len_tup, bi_len_lst, bi_int, bn_add, bn_sub, c_eq, c_ne, c_le, c_lt, c_ge, c_gt, h_ix0 g0, h_ix1 g0, h_ix2 g0, e1, List.length_map, decide_eq_true c2, hc, evS_sto, h_sto1 g0, st, RS.opt_some, h_ix3 g1, b_mul (m1 _), b_mod b1, ← hm'', h_sto3 g1, ten18, decide_eq_false c3]
      · refine ⟨p, l, m, none, hp, hl, ?_⟩
        unfold hd1
        simp only [evSs, evS_ite, evS_set, evS_ret, evS_ex, evS_raise, evS_brk, evS_cont, evS_pass, evT_cmp, evT_chain, evT_call, evT_bi, evT_isi, evT_loc, evT_nt, evT_and, evT_or, evE, evEs, getV, List.getElem?_cons_zero, List.getElem?_cons_succ, Option.bind_some, id_eq, R.opt_some, R.bind_ok, R.bind_exc, R.st_ok, R.st_exc, RS.bind_next, RS.bind_ret, RS.bind_exc, RS.bind_cont, RS.bind_brk, List.set_cons_succ, List.set_cons_zero, Option.map_some, t_bl, Bool.not_true, Bool.not_false, Bool.false_eq_true, if_true, if_false, bi_len_tup, bi_len_lst, bi_int, bn_add, bn_sub, c_eq, c_ne, c_le, c_lt, c_ge, c_gt, h_ix0 g0, h_ix1 g0, h_ix2 g0, e1, List.length_map, decide_eq_false c2]
    · have e1 : (l == 0) = false := by rw [beq_eq_false_iff_ne]; exact c1
      refine ⟨p, l, m, none, hp, hl, ?_⟩
      unfold hd1
      simp only [evSs, evS_ite, evS_set, evS_ret, evS_ex, evS_raise, evS_brk, evS_cont, evS_pass, evT_cmp, evT_chain, evT_call, evT_bi, evT_isi, evT_loc, evT_nt, evT_and, evT_or, evE, evEs, getV, List.getElem?_cons_zero, List.getElem?_cons_succ, Option.bind_some, id_eq, R.opt_some, R.bind_ok, R.bind_exc, R.st_ok, R.st_exc, RS.bind_next, RS.bind_ret, RS.bind_exc, RS.bind_cont, RS.bind_brk, List.set_cons_succ, List.set_cons_zero, Option.map_some, t_bl, Bool.not_true, Bool.not_false, Bool.false_eq_true, if_true, if_false, bi_len_tup, bi_len_lst, bi_int, bn_add, bn_sub, c_eq, c_ne, c_le, c_lt, c_ge, c_gt, h_ix2 g0, e1]
  have hst0 : (fr s [] : S) = fr (s.set d k (.lst (hdL cells p l m q))) [] := by rw [S.set_get hg]
  have g0 := gt (.lst (hdL cells p' l' m' q))
  have hb : dfHDraw.body = [hd1, hd2, hd3, hd4, hd5, hd6, hd7] := rfl
  by_cases c1 : 0 < l'
  · have f1 := fmod_pos (a := l') hm
    have f2 : 0 ≤ l'.fdiv many := by rw [Int.fdiv_eq_ediv_of_nonneg _ (by omega)]; exact Int.ediv_nonneg hl' (by omega)
    refine ⟨l'.fmod many, _, f1, mk cells p' (l'.fdiv many) m' q hp' f2, ?_⟩
    have h2 : evS (cf T n) hd2 [some (.ref d k), some (.int many), none, a3, none] (fr (s.set d k (.lst (hdL cells p' l' m' q))) []) = .ret (.int (l'.fmod many)) (fr (s.set d k (.lst (hdL cells p' (l'.fdiv many) m' q))) []) := by
      unfold hd2
      simp only [evSs, evS_ite, evS_set, evS_ret, evS_ex, evS_raise, evS_brk, evS_cont, evS_pass, evT_cmp, evT_chain, evT_call, evT_bi, evT_isi, evT_loc, evT_nt, evT_and, evT_or, evE, evEs, getV, List.getElem?_cons_zero, List.getElem?_cons_succ, Option.bind_some, id_eq, R.opt_some, R.bind_ok, R.bind_exc, R.st_ok, R.st_exc, RS.bind_next, RS.bind_ret, RS.bind_exc, RS.bind_cont, RS.bind_brk, List.set_cons_succ, List.set_cons_zero, Option.map_some, t_bl, Bool.not_true, Bool.not_false, Bool.false_eq_true, if_true, if_false, bi_len_tup, bi_len_lst, bi_int, bn_add, bn_sub, c_eq, c_ne, c_le, c_lt, c_ge, c_gt, h_ix2 g0, decide_eq_true c1, b_mod hz, evS_sto, b_div wm, h_sto2 g0, st, RS.opt_some]
    rw [run_def h13 rfl, e0, hb, hst0, evSs_next h1, evSs_ret h2]
    exact leave_set
  · have h2 : evS (cf T n) hd2 [some (.ref d k), some (.int many), none, a3, none] (fr (s.set d k (.lst (hdL cells p' l' m' q))) []) = .next [some (.ref d k), some (.int many), none, a3, none] (fr (s.set d k (.lst (hdL cells p' l' m' q))) []) := by
      unfold hd2
      simp only [evSs, evS_ite, evS_set, evS_ret, evS_ex, evS_raise, evS_brk, evS_cont, evS_pass, evT_cmp, evT_chain, evT_call, evT_bi, evT_isi, evT_loc, evT_nt, evT_and, evT_or, evE, evEs, getV, List.getElem?_cons_zero, List.getElem?_cons_succ, Option.bind_some, id_eq, R.opt_some, R.bind_ok, R.bind_exc, R.st_ok, R.st_exc, RS.bind_next, RS.bind_ret, RS.bind_exc, RS.bind_cont, RS.bind_brk, List.set_cons_succ, List.set_cons_zero, Option.map_some, t_bl, Bool.not_true, Bool.not_false, Bool.false_eq_true, if_true, if_false, bi_len_tup, bi_len_lst, bi_int, bn_add, bn_sub, c_eq, c_ne, c_le, c_lt, c_ge, c_gt, h_ix2 g0, decide_eq_false c1]
    have g1 := gt (.lst (hdL cells p' l' m' (q + 1)))
    have h3 : evS (cf T n) hd3 [some (.ref d k), some (.int many), none, a3, none] (fr (s.set d k (.lst (hdL cells p' l' m' q))) []) = .next [some (.ref d k), some (.int many), none, a3, none] (fr (s.set d k (.lst (hdL cells p' l' m' (q + 1)))) []) := by
      unfold hd3
      simp only [evSs, evS_ite, evS_set, evS_ret, evS_ex, evS_raise, evS_brk, evS_cont, evS_pass, evT_cmp, evT_chain, evT_call, evT_bi, evT_isi, evT_loc, evT_nt, evT_and, evT_or, evE, evEs, getV, List.getElem?_cons_zero, List.getElem?_cons_succ, Option.bind_some, id_eq, R.opt_some, R.bind_ok, R.bind_exc, R.st_ok, R.st_exc, RS.bind_next, RS.bind_ret, RS.bind_exc, RS.bind_cont, RS.bind_brk, List.set_cons_succ, List.set_cons_zero, Option.map_some, t_bl, Bool.not_true, Bool.not_false, Bool.false_eq_true, if_true, if_false, bi_len_tup, bi_len_lst, bi_int, bn_add, bn_sub, c_eq, c_ne, c_le, c_lt, c_ge, c_gt, h_ix4 g0, evS_sto, h_sto4 g0, st, RS.opt_some]
    obtain ⟨n1, hn1⟩ : ∃ n1, n1 = ((m' + 7919 * (q + 1)) * 48271).fmod 2147483647 := ⟨_, rfl⟩
    obtain ⟨x1, x2⟩ : 0 ≤ n1 ∧ n1 < 2147483647 := by rw [hn1]; exact fmod_pos (by decide)
    have h4 : evS (cf T n) hd4 [some (.ref d k), some (.int many), none, a3, none] (fr (s.set d k (.lst (hdL cells p' l' m' (q + 1)))) []) = .next [some (.ref d k), some (.int many), some (.int n1), a3, none] (fr (s.set d k (.lst (hdL cells p' l' m' (q + 1)))) []) := by
      unfold hd4
      simp only [evSs, evS_ite, evS_set, evS_ret, evS_ex, evS_raise, evS_brk, evS_cont, evS_pass, evT_cmp, evT_chain, evT_call, evT_bi, evT_isi, evT_loc, evT_nt, evT_and, evT_or, evE, evEs, getV, List.getElem?_cons_zero, List.getElem?_cons_succ, Option.bind_some, id_eq, R.opt_some, R.bind_ok, R.bind_exc, R.st_ok, R.st_exc, RS.bind_next, RS.bind_ret, RS.bind_exc, RS.bind_cont, RS.bind_brk, List.set_cons_succ, List.set_cons_zero, Option.map_some, t_bl, Bool.not_true, Bool.not_false, Bool.false_eq_true, if_true, if_false, bi_len_tup, bi_len_lst, bi_int, bn_add, bn_sub, c_eq, c_ne, c_le, c_lt, c_ge, c_gt, h_ix3 g1, h_ix4 g1, b_mul (m2 _), b_mul (m3 _), b_mod b2, ← hn1]
    obtain ⟨n2, hn2⟩ : ∃ n2, n2 = (n1 * (n1.fdiv 1009 + 69621)).fmod 2147483647 := ⟨_, rfl⟩
    obtain ⟨y1, y2⟩ : 0 ≤ n2 ∧ n2 < 2147483647 := by rw [hn2]; exact fmod_pos (by decide)
    have h5 : evS (cf T n) hd5 [some (.ref d k), some (.int many), some (.int n1), a3, none] (fr (s.set d k (.lst (hdL cells p' l' m' (q + 1)))) []) = .next [some (.ref d k), some (.int many), some (.int n2), a3, none] (fr (s.set d k (.lst (hdL cells p' l' m' (q + 1)))) []) := by
      have mm : ∀ i, mulOk n1 i := fun i => mul_left (by omega)
      unfold hd5
      simp only [evSs, evS_ite, evS_set, evS_ret, evS_ex, evS_raise, evS_brk, evS_cont, evS_pass, evT_cmp, evT_chain, evT_call, evT_bi, evT_isi, evT_loc, evT_nt, evT_and, evT_or, evE, evEs, getV, List.getElem?_cons_zero, List.getElem?_cons_succ, Option.bind_some, id_eq, R.opt_some, R.bind_ok, R.bind_exc, R.st_ok, R.st_exc, RS.bind_next, RS.bind_ret, RS.bind_exc, RS.bind_cont, RS.bind_brk, List.set_cons_succ, List.set_cons_zero, Option.map_some, t_bl, Bool.not_true, Bool.not_false, Bool.false_eq_true, if_true, if_false, bi_len_tup, bi_len_lst, bi_int, bn_add, bn_sub, c_eq, c_ne, c_le, c_lt, c_ge, c_gt, b_div w1, b_mul (mm _), b_mod b2, ← hn2]
    obtain ⟨n3, hn3⟩ : ∃ n3, n3 = (n2 * (n2.fdiv 2003 + 40692)).fmod 2147483399 := ⟨_, rfl⟩
    have h6 : evS (cf T n) hd6 [some (.ref d k), some (.int many), some (.int n2), a3, none] (fr (s.set d k (.lst (hdL cells p' l' m' (q + 1)))) []) = .next [some (.ref d k), some (.int many), some (.int n3), a3, none] (fr (s.set d k (.lst (hdL cells p' l' m' (q + 1)))) []) := by
      have mm : ∀ i, mulOk n2 i := fun i => mul_left (by omega)
      unfold hd6
      simp only [evSs, evS_ite, evS_set, evS_ret, evS_ex, evS_raise, evS_brk, evS_cont, evS_pass, evT_cmp, evT_chain, evT_call, evT_bi, evT_isi, evT_loc, evT_nt, evT_and, evT_or, evE, evEs, getV, List.getElem?_cons_zero, List.getElem?_cons_succ, Option.bind_some, id_eq, R.opt_some, R.bind_ok, R.bind_exc, R.st_ok, R.st_exc, RS.bind_next, RS.bind_ret, RS.bind_exc, RS.bind_cont, RS.bind_brk, List.set_cons_succ, List.set_cons_zero, Option.map_some, t_bl, Bool.not_true, Bool.not_false, Bool.false_eq_true, if_true, if_false, bi_len_tup, bi_len_lst, bi_int, bn_add, bn_sub, c_eq, c_ne, c_le, c_lt, c_ge, c_gt, b_div w2, b_mul (mm _), b_mod b3, ← hn3]
    have h7 : evS (cf T n) hd7 [some (.ref d k), some (.int many), some (.int n3), a3, none] (fr (s.set d k (.lst (hdL cells p' l' m' (q + 1)))) []) = .ret (.int ((n3.fdiv 16).fmod many)) (fr (s.set d k (.lst (hdL cells p' l' m' (q + 1)))) []) := by
      unfold hd7
      simp only [evSs, evS_ite, evS_set, evS_ret, evS_ex, evS_raise, evS_brk, evS_cont, evS_pass, evT_cmp, evT_chain, evT_call, evT_bi, evT_isi, evT_loc, evT_nt, evT_and, evT_or, evE, evEs, getV, List.getElem?_cons_zero, List.getElem?_cons_succ, Option.bind_some, id_eq, R.opt_some, R.bind_ok, R.bind_exc, R.st_ok, R.st_exc, RS.bind_next, RS.bind_ret, RS.bind_exc, RS.bind_cont, RS.bind_brk, List.set_cons_succ, List.set_cons_zero, Option.map_some, t_bl, Bool.not_true, Bool.not_false, Bool.false_eq_true, if_true, if_false, bi_len_tup, bi_len_lst, bi_int, bn_add, bn_sub, c_eq, c_ne, c_le, c_lt, c_ge, c_gt, b_div w3, b_mod hz]
    refine ⟨(n3.fdiv 16).fmod many, _, fmod_pos hm, mk cells p' l' m' (q + 1) hp' hl', ?_⟩
    rw [run_def h13 rfl, e0, hb, hst0, evSs_next h1, evSs_next h2, evSs_next h3, evSs_next h4, evSs_next h5, evSs_next h6, evSs_ret h7]
    exact leave_set
end Ev

set_option Elab.async false
set_option linter.all false
set_option maxRecDepth 100000
/-! P9: loops and lists that change the hand; how a hand is made; sameness kind by kind. -/
namespace Ev
open PySem
theorem nums_len' (m : Nat) : (numsD 0 m).length = m := by rw [numsD_map, List.length_map, List.length_range]
theorem nums_get' {m j : Nat} (h : j < (numsD 0 m).length) : (numsD 0 m)[j] = .int (j : Nat) := by
  simp only [numsD_map, List.getElem_map, List.getElem_range]
theorem comp_fm {α : Type} {step : D → S → R (Option D)} {f : α → D} {g : α → Option D} (s : S) : ∀ {l : List α}, (∀ a ∈ l, step (f a) s = .ok (g a) s) → l.length ≤ LIM → compL none step (l.map f) s = .ok (l.filterMap g) s
  | [], _, _ => by simp only [List.map_nil, compL, List.filterMap_nil]
  | x :: l, h, hl => by
    have hl' : l.length + 1 ≤ LIM := hl
    simp only [List.map_cons, compL]
    rw [h x List.mem_cons_self]
    simp only [R.bind_ok, keptG, if_true]
    rw [comp_fm s (fun y hy => h y (List.mem_cons_of_mem _ hy)) (by omega)]
    simp only [R.bind_ok, List.filterMap_cons]
    have := List.length_filterMap_le g l
    cases g x with
    | none => rfl
    | some y =>
      dsimp only
      rw [if_pos (by omega)]
theorem for_stN {c : Cfg} {i : Nat} {bd : List St} (I : Nat → Env → S → Prop) : ∀ {xs : List D} {k : Nat} {env : Env} {s : S}, I k env s → (∀ j (h : j < xs.length) env s, I (k + j) env s → ∃ env' s', I (k + j + 1) env' s' ∧ (evSs c bd (env.set i (some xs[j])) s = .next env' s' ∨ evSs c bd (env.set i (some xs[j])) s = .cont env' s')) → ∃ env' s', I (k + xs.length) env' s' ∧ forL none (.one i) (evSs c bd) xs env s = .next env' s'
  | [], k, env, s, hI, _ => ⟨env, s, hI, by simp only [forL]⟩
  | x :: xs, k, env, s, hI, h => by
    obtain ⟨e1, s1, i1, h1⟩ := h 0 (Nat.zero_lt_succ _) env s hI
    obtain ⟨e2, s2, i2, h2⟩ := for_stN I (xs := xs) (k := k + 1) (env := e1) (s := s1) i1 fun j hj env s hE => by
      have z := h (j + 1) (Nat.succ_lt_succ hj) env s (by rw [← Nat.add_assoc, Nat.add_right_comm]; exact hE)
      rw [← Nat.add_assoc, Nat.add_right_comm k j 1] at z
      exact z
    refine ⟨e2, s2, by rw [List.length_cons, ← Nat.add_assoc, Nat.add_right_comm]; exact i2, ?_⟩
    simp only [forL, putT, RS.opt_some]
    rcases h1 with h1 | h1
    · simp only [List.getElem_cons_zero] at h1
      rw [h1]
      simp only [keptG, if_true]
      exact h2
    · simp only [List.getElem_cons_zero] at h1
      rw [h1]
      simp only [keptG, if_true]
      exact h2
/-- a loop that changes the hand -/
theorem for_mv {c : Cfg} {i d k : Nat} {bd : List St} (I : Env → Prop) : ∀ {xs : List D} {env : Env} {s : S}, I env → HandAt s d k → (∀ x ∈ xs, ∀ env s, I env → HandAt s d k → ∃ env' s', I env' ∧ Mv d k s s' ∧ evSs c bd (env.set i (some x)) s = .next env' s') → ∃ env' s', I env' ∧ Mv d k s s' ∧ forL none (.one i) (evSs c bd) xs env s = .next env' s'
  | [], env, s, hI, hh, _ => ⟨env, s, hI, hh.mv, by simp only [forL]⟩
  | x :: xs, env, s, hI, hh, h => by
    obtain ⟨e1, s1, i1, m1, h1⟩ := h x List.mem_cons_self env s hI hh
    obtain ⟨e2, s2, i2, m2, h2⟩ := for_mv I (xs := xs) (env := e1) (s := s1) i1 m1.at_ fun y hy => h y (List.mem_cons_of_mem _ hy)
    refine ⟨e2, s2, i2, m1.trans m2, ?_⟩
    simp only [forL, putT, RS.opt_some]
    rw [h1]
    simp only [keptG, if_true]
    exact h2
/-- a list made by the hand -/
theorem comp_mv {step : D → S → R (Option D)} {d k : Nat} {P : D → Prop} : ∀ {xs : List D} {s : S}, HandAt s d k → (∀ x ∈ xs, ∀ s, HandAt s d k → ∃ y s', P y ∧ Mv d k s s' ∧ step x s = .ok (some y) s') → xs.length ≤ LIM → ∃ ys s', ys.length = xs.length ∧ (∀ y ∈ ys, P y) ∧ Mv d k s s' ∧ compL none step xs s = .ok ys s'
  | [], s, hh, _, _ => ⟨[], s, rfl, fun y h => absurd h (by simp), hh.mv, by simp only [compL]⟩
  | x :: xs, s, hh, h, hl => by
    have hl' : xs.length + 1 ≤ LIM := hl
    obtain ⟨y, s1, p1, m1, h1⟩ := h x List.mem_cons_self s hh
    obtain ⟨ys, s2, l2, p2, m2, h2⟩ := comp_mv (xs := xs) (s := s1) m1.at_ (fun y hy => h y (List.mem_cons_of_mem _ hy)) (by omega)
    refine ⟨y :: ys, s2, by simp [l2], fun z hz => ?_, m1.trans m2, ?_⟩
    · rcases List.mem_cons.mp hz with rfl | hz
      · exact p1
      · exact p2 z hz
    · simp only [compL]
      rw [h1]
      simp only [R.bind_ok, keptG, if_true]
      rw [h2]
      simp only [R.bind_ok]
      rw [if_pos (by rw [l2]; omega)]
theorem evE_compT {c : Cfg} {env : Env} {s : S} {elt : E} {t : Tg} {it : It} : evE c (.comp elt t it none) env s = (evI c it env s).bind fun w s =>
      (compL w.g (fun x s => match putT t x env with
        | none => .stuck
        | some env1 => noExc ((evE c elt env1 s).bind fun y s => .ok (some y) s)) w.xs s).bind fun ys s => .ok (.lst ys) s := by
  first
    | (simp only [evE]; done)
    | (simp only [evE]; rfl)
/-! ### a hand is made -/
def mh1 : St := .set 1 (.comp (.bi .abs [.bi .int [.loc 2]]) (.one 2) (.ex (.sl (.loc 0) none (some (.cst (.int 63))))) none)
def mh2 : St := .ret (some (.cell (.lst [.loc 1, .cst (.int 0), .cst (.int 0), .bin .add (.cst (.int 523)) (.bin .mul (.cst (.int 457)) (.bi .len [.loc 1])), .cst (.int 0)])))
def dfHand : Def := ⟨1, 3, true, [mh1, mh2]⟩
theorem abs_n (i : Int) : (if i < 0 then -i else i) = ((i.natAbs : Nat) : Int) := by
  split <;> omega
theorem hand_made {T : Text} (h74 : T.defs 74 = some dfHand) {s : S} (ns : List Int) (hn : ns.length ≤ 63) (n : Nat) : ∃ s', s'.out.length = s.out.length ∧ (∃ x, s' = ⟨s.out, s.cur ++ [x]⟩) ∧ HandAt s' s.out.length s.cur.length ∧ run T (n + 1) 74 [.fz ns] s = .ok (.ref s.out.length s.cur.length) s' := by
  obtain ⟨cells, hc⟩ : ∃ cells : List Int, cells = ns.map fun i => ((i.natAbs : Nat) : Int) := ⟨_, rfl⟩
  obtain ⟨mx, hmx⟩ : ∃ mx : Int, mx = 523 + 457 * ((cells.map D.int).length : Int) := ⟨_, rfl⟩
  refine ⟨⟨s.out, s.cur ++ [.lst (hdL cells 0 0 mx 0)]⟩, rfl, ⟨_, rfl⟩, ⟨Nat.le_refl _, cells, 0, 0, mx, 0, ?_, by decide, by decide⟩, ?_⟩
  · rw [S.get_top, List.getElem?_append_right (Nat.le_refl _), Nat.sub_self]
    rfl
  · rw [run_def h74 rfl]
    have e0 : startE dfHand.ns [.fz ns] = [some (.fz ns), none, none] := rfl
    rw [e0]
    have hs : ∀ st, slD st (.fz ns) none (some 63) = some (.lst (ns.map .int)) := fun st => by
      show some (D.lst (cutD (ns.map .int) none (some 63))) = _
      rw [cut_to _ (by decide), List.take_of_length_le (by rw [List.length_map]; exact hn)]
    have h1 : evS (cf T n) mh1 [some (.fz ns), none, none] (fr s []) = .next [some (.fz ns), some (.lst (cells.map .int)), none] (fr s []) := by
      have hI : evI (cf T n) (.ex (.sl (.loc 0) none (some (.cst (.int 63))))) [some (.fz ns), none, none] (fr s []) = .ok ⟨ns.map .int, none⟩ (fr s []) := by
        simp only [evI, evE, evO, getV, List.getElem?_cons_zero, Option.bind_some, id_eq, R.opt_some, R.bind_ok, intP, hs, walkD]
      unfold mh1
      rw [evS_set, evE_comp1, hI, R.bind_ok, comp_fm (f := D.int) (g := fun i => some (.int ((i.natAbs : Nat) : Int)))]
      · have e : ns.filterMap (fun i => some (D.int ((i.natAbs : Nat) : Int))) = cells.map .int := by
          rw [hc, List.map_map]
          induction ns with
          | nil => rfl
          | cons a l ih => simp
        rw [e]
        rfl
      · intro i _
        simp only [evSs, evS_ite, evS_set, evS_ret, evS_ex, evS_raise, evS_brk, evS_cont, evS_pass, evT_cmp, evT_chain, evT_call, evT_bi, evT_isi, evT_loc, evT_nt, evT_and, evT_or, evE, evEs, getV, List.getElem?_cons_zero, List.getElem?_cons_succ, Option.bind_some, id_eq, R.opt_some, R.bind_ok, R.bind_exc, R.st_ok, R.st_exc, RS.bind_next, RS.bind_ret, RS.bind_exc, RS.bind_cont, RS.bind_brk, List.set_cons_succ, List.set_cons_zero, Option.map_some, t_bl, Bool.not_true, Bool.not_false, Bool.false_eq_true, if_true, if_false, bi_len_tup, bi_len_lst, bi_int, bn_add, bn_sub, c_eq, c_ne, c_le, c_lt, c_ge, c_gt, abs_n, noExc, bi_abs]
      · have : LIM = 1000000 := rfl
        omega
    have m1 : mulOk 457 ((cells.map D.int).length : Int) := mul_left (by decide)
    have h2 : evS (cf T n) mh2 [some (.fz ns), some (.lst (cells.map .int)), none] (fr s []) = .ret (.ref (s.out.length + 1) 0) (fr s [.lst (hdL cells 0 0 mx 0)]) := by
      unfold mh2
      simp only [evSs, evS_ite, evS_set, evS_ret, evS_ex, evS_raise, evS_brk, evS_cont, evS_pass, evT_cmp, evT_chain, evT_call, evT_bi, evT_isi, evT_loc, evT_nt, evT_and, evT_or, evE, evEs, getV, List.getElem?_cons_zero, List.getElem?_cons_succ, Option.bind_some, id_eq, R.opt_some, R.bind_ok, R.bind_exc, R.st_ok, R.st_exc, RS.bind_next, RS.bind_ret, RS.bind_exc, RS.bind_cont, RS.bind_brk, List.set_cons_succ, List.set_cons_zero, Option.map_some, t_bl, Bool.not_true, Bool.not_false, Bool.false_eq_true, if_true, if_false, bi_len_tup, bi_len_lst, bi_int, bn_add, bn_sub, c_eq, c_ne, c_le, c_lt, c_ge, c_gt, b_mul m1, ← hmx, newD, List.length_cons, List.length_nil, Nat.zero_add, Nat.reduceAdd, if_pos (show 5 ≤ LIM by decide), List.nil_append]
      rfl
    have hb : dfHand.body = [mh1, mh2] := rfl
    rw [hb, evSs_next h1, evSs_ret h2]
    have hsh : shals (s.out.length + 1) (hdL cells 0 0 mx 0) = true := by
      have z : ∀ (m : Nat) (l : List Int), shals m (l.map D.int) = true := fun m l => by
        induction l with
        | nil => simp [shals]
        | cons a l ih => simp [shals, D.shal, ih]
      simp only [hdL, shals, D.shal, z, Bool.and_self]
    simp only [leaveS, leave, dfHand]
    rw [if_pos (by simp), if_pos trivial, if_pos ⟨rfl, hsh⟩]
/-! ### of some things, any -/
def dfAny : Def := ⟨2, 2, false, [.ret (some (.idx (.loc 1) (.call 13 [.loc 0, .bi .len [.loc 1]])))]⟩
theorem any_ok {T : Text} (h13 : T.defs 13 = some dfHDraw) (h70 : T.defs 70 = some dfAny) {s : S} {d k : Nat} (h : HandAt s d k) {xs : List D} (hx : 0 < xs.length) (hl : xs.length ≤ LIM) (n : Nat) : ∃ (y : D) (s' : S), y ∈ xs ∧ Mv d k s s' ∧ (y.itree = true → run T (n + 2) 70 [.ref d k, .lst xs] s = .ok y s') := by
  have hl2 : xs.length ≤ 1000000 := hl
  obtain ⟨v, s1, ⟨v0, v1⟩, m1, hv⟩ := hand_draw h13 (h.push []) (many := (xs.length : Int)) (by omega) (by omega) n
  obtain ⟨s', rfl, m2⟩ := Mv.pop h m1
  obtain ⟨j, hj⟩ : ∃ j : Nat, v = (j : Int) := ⟨v.toNat, by omega⟩
  have hj2 : j < xs.length := by omega
  refine ⟨xs[j], s', List.getElem_mem hj2, m2, fun hi => ?_⟩
  rw [run_def h70 rfl]
  have e0 : startE dfAny.ns [.ref d k, .lst xs] = [some (.ref d k), some (.lst xs)] := rfl
  rw [e0]
  have hix : ∀ st, idxD st (.lst xs) (.int v) = some xs[j] := fun st => by
    subst hj
    simp only [idxD, S.view, items, Option.bind_some, ixD]
    rw [if_pos (by omega), if_pos (by omega)]
    simp only [Option.bind_some, Int.toNat_natCast]
    rw [List.getElem?_eq_getElem]
  simp only [evSs, evS_ite, evS_set, evS_ret, evS_ex, evS_raise, evS_brk, evS_cont, evS_pass, evT_cmp, evT_chain, evT_call, evT_bi, evT_isi, evT_loc, evT_nt, evT_and, evT_or, evE, evEs, getV, List.getElem?_cons_zero, List.getElem?_cons_succ, Option.bind_some, id_eq, R.opt_some, R.bind_ok, R.bind_exc, R.st_ok, R.st_exc, RS.bind_next, RS.bind_ret, RS.bind_exc, RS.bind_cont, RS.bind_brk, List.set_cons_succ, List.set_cons_zero, Option.map_some, t_bl, Bool.not_true, Bool.not_false, Bool.false_eq_true, if_true, if_false, bi_len_tup, bi_len_lst, bi_int, bn_add, bn_sub, c_eq, c_ne, c_le, c_lt, c_ge, c_gt, dfAny, hv, hix]
  rw [← m2.len]
  exact leave0
/-! ### whether two things are the same, kind by kind -/
def is1 : St := .ite (.isi (.loc 1) [.tuple, .list]) [.ite (.or (.cmp .ne (.isi (.loc 0) [.tuple]) (.isi (.loc 1) [.tuple])) (.nt (.isi (.loc 0) [.tuple, .list]))) [.ret (some (.cst (.bl false)))] [], .ret (some (.and (.cmp .eq (.bi .len [.loc 0]) (.bi .len [.loc 1])) (.bi .all [.comp (.call 69 [.loc 2, .loc 3]) (.two 2 3) (.zip (.loc 0) (.loc 1)) none])))] []
def is2 : St := .ite (.or (.cmp .is (.loc 1) (.cst .non)) (.isi (.loc 1) [.bool])) [.ret (some (.ite (.cmp .is (.loc 1) (.cst .non)) (.cmp .is (.loc 0) (.cst .non)) (.and (.isi (.loc 0) [.bool]) (.cmp .eq (.bi .repr [.loc 0]) (.bi .repr [.loc 1])))))] []
def is3 : St := .ite (.isi (.loc 1) [.str]) [.ret (some (.and (.isi (.loc 0) [.str]) (.cmp .eq (.bi .repr [.loc 0]) (.bi .repr [.loc 1]))))] []
def is4 : St := .ret (some (.and (.isi (.loc 0) [.int]) (.and (.nt (.isi (.loc 0) [.bool])) (.cmp .eq (.bi .repr [.loc 0]) (.bi .repr [.loc 1])))))
def dfIs : Def := ⟨2, 4, false, [is1, is2, is3, is4]⟩
theorem str_ok_of (x : String) : strOk (Str.ofString x) = true := by
  unfold strOk
  rw [Str.ofString_eq_toList]
  rw [← Array.all_toList]
  simp only [List.all_eq_true, List.mem_map]
  rintro c ⟨a, _, rfl⟩
  have h := a.valid
  rw [decide_eq_true_iff]
  rcases h with h | h
  · have h : a.toNat < 0xd800 := h
    omega
  · exact h.2
/-- trees of the same depth everywhere, of ints that can be written -/
def Ev3 : Nat → D → Prop
  | 0, x => ∃ i : Int, x = .int i ∧ i.natAbs.log2 < 1920
  | m + 1, x => ∃ xs : List D, x = .tup xs ∧ xs.length ≤ LIM ∧ ∀ y ∈ xs, Ev3 m y
theorem zip_same : ∀ (xs : List D), zipD xs xs = xs.map fun x => .tup [x, x]
  | [] => rfl
  | x :: xs => by simp only [zipD, List.map_cons, zip_same xs]
theorem is_ok {T : Text} (h69 : T.defs 69 = some dfIs) : ∀ (m : Nat) (x : D), Ev3 m x → ∀ n s, run T (n + m + 1) 69 [x, x] s = .ok (.bl true) s
  | 0, x, ⟨i, e, hi⟩, n, s => by
    subst e
    rw [run_def h69 rfl]
    have e0 : startE dfIs.ns [.int i, .int i] = [some (.int i), some (.int i), none, none] := rfl
    rw [e0]
    have hr : ∀ st, biD st .repr [.int i] = some (.str (toString i)) := fun st => by
      show (if i.natAbs.log2 < 1920 then _ else _) = _
      rw [if_pos hi]
    have e1 : ∀ st, cmpD st .eq (.str (toString i)) (.str (toString i)) = some true := fun st => eq_same (all_cps (str_ok_of _) 60)
    have e2 : ∀ st, cmpD st .is (.int i) .non = some false := fun st => rfl
    have hb : dfIs.body = [is1, is2, is3, is4] := rfl
    have s1 : evS (cf T n) is1 [some (.int i), some (.int i), none, none] (fr s []) = .next [some (.int i), some (.int i), none, none] (fr s []) := by
      unfold is1
      simp only [evSs, evS_ite, evS_set, evS_ret, evS_ex, evS_raise, evS_brk, evS_cont, evS_pass, evT_cmp, evT_chain, evT_call, evT_bi, evT_isi, evT_loc, evT_nt, evT_and, evT_or, evE, evEs, getV, List.getElem?_cons_zero, List.getElem?_cons_succ, Option.bind_some, id_eq, R.opt_some, R.bind_ok, R.bind_exc, R.st_ok, R.st_exc, RS.bind_next, RS.bind_ret, RS.bind_exc, RS.bind_cont, RS.bind_brk, List.set_cons_succ, List.set_cons_zero, Option.map_some, t_bl, Bool.not_true, Bool.not_false, Bool.false_eq_true, if_true, if_false, bi_len_tup, bi_len_lst, bi_int, bn_add, bn_sub, c_eq, c_ne, c_le, c_lt, c_ge, c_gt, tyD, S.view, List.any_cons, List.any_nil, Bool.or_false]
    have s2 : evS (cf T n) is2 [some (.int i), some (.int i), none, none] (fr s []) = .next [some (.int i), some (.int i), none, none] (fr s []) := by
      unfold is2
      simp only [evSs, evS_ite, evS_set, evS_ret, evS_ex, evS_raise, evS_brk, evS_cont, evS_pass, evT_cmp, evT_chain, evT_call, evT_bi, evT_isi, evT_loc, evT_nt, evT_and, evT_or, evE, evEs, getV, List.getElem?_cons_zero, List.getElem?_cons_succ, Option.bind_some, id_eq, R.opt_some, R.bind_ok, R.bind_exc, R.st_ok, R.st_exc, RS.bind_next, RS.bind_ret, RS.bind_exc, RS.bind_cont, RS.bind_brk, List.set_cons_succ, List.set_cons_zero, Option.map_some, t_bl, Bool.not_true, Bool.not_false, Bool.false_eq_true, if_true, if_false, bi_len_tup, bi_len_lst, bi_int, bn_add, bn_sub, c_eq, c_ne, c_le, c_lt, c_ge, c_gt, e2, tyD, S.view, List.any_cons, List.any_nil, Bool.or_false]
    have s3 : evS (cf T n) is3 [some (.int i), some (.int i), none, none] (fr s []) = .next [some (.int i), some (.int i), none, none] (fr s []) := by
      unfold is3
      simp only [evSs, evS_ite, evS_set, evS_ret, evS_ex, evS_raise, evS_brk, evS_cont, evS_pass, evT_cmp, evT_chain, evT_call, evT_bi, evT_isi, evT_loc, evT_nt, evT_and, evT_or, evE, evEs, getV, List.getElem?_cons_zero, List.getElem?_cons_succ, Option.bind_some, id_eq, R.opt_some, R.bind_ok, R.bind_exc, R.st_ok, R.st_exc, RS.bind_next, RS.bind_ret, RS.bind_exc, RS.bind_cont, RS.bind_brk, List.set_cons_succ, List.set_cons_zero, Option.map_some, t_bl, Bool.not_true, Bool.not_false, Bool.false_eq_true, if_true, if_false, bi_len_tup, bi_len_lst, bi_int, bn_add, bn_sub, c_eq, c_ne, c_le, c_lt, c_ge, c_gt, tyD, S.view, List.any_cons, List.any_nil, Bool.or_false]
    have s4 : evS (cf T n) is4 [some (.int i), some (.int i), none, none] (fr s []) = .ret (.bl true) (fr s []) := by
      unfold is4
      simp only [evSs, evS_ite, evS_set, evS_ret, evS_ex, evS_raise, evS_brk, evS_cont, evS_pass, evT_cmp, evT_chain, evT_call, evT_bi, evT_isi, evT_loc, evT_nt, evT_and, evT_or, evE, evEs, getV, List.getElem?_cons_zero, List.getElem?_cons_succ, Option.bind_some, id_eq, R.opt_some, R.bind_ok, R.bind_exc, R.st_ok, R.st_exc, RS.bind_next, RS.bind_ret, RS.bind_exc, RS.bind_cont, RS.bind_brk, List.set_cons_succ, List.set_cons_zero, Option.map_some, t_bl, Bool.not_true, Bool.not_false, Bool.false_eq_true, if_true, if_false, bi_len_tup, bi_len_lst, bi_int, bn_add, bn_sub, c_eq, c_ne, c_le, c_lt, c_ge, c_gt, tyD, S.view, List.any_cons, List.any_nil, Bool.or_false, hr, e1]
    rw [hb, evSs_next s1, evSs_next s2, evSs_next s3, evSs_ret s4]
    exact leave0
  | m + 1, x, ⟨xs, e, hl, hx⟩, n, s => by
    subst e
    rw [run_def h69 rfl]
    have e0 : startE dfIs.ns [.tup xs, .tup xs] = [some (.tup xs), some (.tup xs), none, none] := rfl
    rw [e0]
    have hb : dfIs.body = [is1, is2, is3, is4] := rfl
    have key : evE (cf T (n + (m + 1))) (.comp (.call 69 [.loc 2, .loc 3]) (.two 2 3) (.zip (.loc 0) (.loc 1)) none) [some (.tup xs), some (.tup xs), none, none] (fr s []) = .ok (.lst (xs.map fun _ => .bl true)) (fr s []) := by
      have hI : evI (cf T (n + (m + 1))) (.zip (.loc 0) (.loc 1)) [some (.tup xs), some (.tup xs), none, none] (fr s []) = .ok ⟨xs.map fun x => .tup [x, x], none⟩ (fr s []) := by
        simp only [evI, evE, getV, List.getElem?_cons_zero, List.getElem?_cons_succ, Option.bind_some, id_eq, R.opt_some, R.bind_ok, zip_same]
      rw [evE_compT, hI, R.bind_ok]
      dsimp only
      rw [comp_fm (f := fun x => .tup [x, x]) (g := fun _ => some (.bl true))]
      · rw [R.bind_ok]
        congr 2
        induction xs with
        | nil => rfl
        | cons a l ih => simp
      · intro y hy
        have z := is_ok h69 m y (hx y hy) n (fr s [])
        simp only [putT, List.set_cons_succ, List.set_cons_zero, evE, evEs, getV, List.getElem?_cons_zero, List.getElem?_cons_succ, Option.bind_some, id_eq, R.opt_some, R.bind_ok]
        have z' : run T (n + (m + 1)) 69 [y, y] (fr s []) = .ok (.bl true) (fr s []) := z
        rw [z']
        rfl
      · exact hl
    have ha : allD (xs.map fun _ => D.bl true) = some true := all_true xs
    have s1 : evS (cf T (n + (m + 1))) is1 [some (.tup xs), some (.tup xs), none, none] (fr s []) = .ret (.bl true) (fr s []) := by
      have e1 : ∀ st, cmpD st .ne (.bl true) (.bl true) = some false := fun st => by rw [ne_bl]; rfl
      have e2 : (((xs.length : Nat) : Int) == ((xs.length : Nat) : Int)) = true := beq_self_eq_true _
      have k2 : evE (cf T (n + (m + 1))) (.bi .all [.comp (.call 69 [.loc 2, .loc 3]) (.two 2 3) (.zip (.loc 0) (.loc 1)) none]) [some (.tup xs), some (.tup xs), none, none] (fr s []) = .ok (.bl true) (fr s []) := by
        rw [bi1 key, bi_all, ha]
        rfl
      have k3 : ∀ (a b : E) (env : Env) (st : S), evE (cf T (n + (m + 1))) (.and a b) env st = (evE (cf T (n + (m + 1))) a env st).bind fun x s => match truth s x with | some true => evE (cf T (n + (m + 1))) b env s | some false => .ok x s | none => .stuck := fun a b env st => by first | (simp only [evE]; done) | (simp only [evE]; rfl)
      have k4 : evE (cf T (n + (m + 1))) (.cmp .eq (.bi .len [.loc 0]) (.bi .len [.loc 1])) [some (.tup xs), some (.tup xs), none, none] (fr s []) = .ok (.bl true) (fr s []) := by
        simp only [evSs, evS_ite, evS_set, evS_ret, evS_ex, evS_raise, evS_brk, evS_cont, evS_pass, evT_cmp, evT_chain, evT_call, evT_bi, evT_isi, evT_loc, evT_nt, evT_and, evT_or, evE, evEs, getV, List.getElem?_cons_zero, List.getElem?_cons_succ, Option.bind_some, id_eq, R.opt_some, R.bind_ok, R.bind_exc, R.st_ok, R.st_exc, RS.bind_next, RS.bind_ret, RS.bind_exc, RS.bind_cont, RS.bind_brk, List.set_cons_succ, List.set_cons_zero, Option.map_some, t_bl, Bool.not_true, Bool.not_false, Bool.false_eq_true, if_true, if_false, bi_len_tup, bi_len_lst, bi_int, bn_add, bn_sub, c_eq, c_ne, c_le, c_lt, c_ge, c_gt, e2]
      have k5 : evE (cf T (n + (m + 1))) (.and (.cmp .eq (.bi .len [.loc 0]) (.bi .len [.loc 1])) (.bi .all [.comp (.call 69 [.loc 2, .loc 3]) (.two 2 3) (.zip (.loc 0) (.loc 1)) none])) [some (.tup xs), some (.tup xs), none, none] (fr s []) = .ok (.bl true) (fr s []) := by
        rw [k3, k4]
        simp only [R.bind_ok, t_bl]
        exact k2
      have k6 : evSs (cf T (n + (m + 1))) [.ret (some (.and (.cmp .eq (.bi .len [.loc 0]) (.bi .len [.loc 1])) (.bi .all [.comp (.call 69 [.loc 2, .loc 3]) (.two 2 3) (.zip (.loc 0) (.loc 1)) none])))] [some (.tup xs), some (.tup xs), none, none] (fr s []) = .ret (.bl true) (fr s []) := evSs_ret (by rw [evS_ret, k5]; rfl)
      have k7 : evS (cf T (n + (m + 1))) (.ite (.or (.cmp .ne (.isi (.loc 0) [.tuple]) (.isi (.loc 1) [.tuple])) (.nt (.isi (.loc 0) [.tuple, .list]))) [.ret (some (.cst (.bl false)))] []) [some (.tup xs), some (.tup xs), none, none] (fr s []) = .next [some (.tup xs), some (.tup xs), none, none] (fr s []) := by
        simp only [evSs, evS_ite, evS_set, evS_ret, evS_ex, evS_raise, evS_brk, evS_cont, evS_pass, evT_cmp, evT_chain, evT_call, evT_bi, evT_isi, evT_loc, evT_nt, evT_and, evT_or, evE, evEs, getV, List.getElem?_cons_zero, List.getElem?_cons_succ, Option.bind_some, id_eq, R.opt_some, R.bind_ok, R.bind_exc, R.st_ok, R.st_exc, RS.bind_next, RS.bind_ret, RS.bind_exc, RS.bind_cont, RS.bind_brk, List.set_cons_succ, List.set_cons_zero, Option.map_some, t_bl, Bool.not_true, Bool.not_false, Bool.false_eq_true, if_true, if_false, bi_len_tup, bi_len_lst, bi_int, bn_add, bn_sub, c_eq, c_ne, c_le, c_lt, c_ge, c_gt, tyD, S.view, List.any_cons, List.any_nil, Bool.or_false, Bool.or_true, Bool.true_or, e1]
      have k8 : evT (cf T (n + (m + 1))) (.isi (.loc 1) [.tuple, .list]) [some (.tup xs), some (.tup xs), none, none] (fr s []) = .ok true (fr s []) := by
        simp only [evSs, evS_ite, evS_set, evS_ret, evS_ex, evS_raise, evS_brk, evS_cont, evS_pass, evT_cmp, evT_chain, evT_call, evT_bi, evT_isi, evT_loc, evT_nt, evT_and, evT_or, evE, evEs, getV, List.getElem?_cons_zero, List.getElem?_cons_succ, Option.bind_some, id_eq, R.opt_some, R.bind_ok, R.bind_exc, R.st_ok, R.st_exc, RS.bind_next, RS.bind_ret, RS.bind_exc, RS.bind_cont, RS.bind_brk, List.set_cons_succ, List.set_cons_zero, Option.map_some, t_bl, Bool.not_true, Bool.not_false, Bool.false_eq_true, if_true, if_false, bi_len_tup, bi_len_lst, bi_int, bn_add, bn_sub, c_eq, c_ne, c_le, c_lt, c_ge, c_gt, tyD, S.view, List.any_cons, List.any_nil, Bool.or_false, Bool.or_true, Bool.true_or]
      unfold is1
      rw [evS_ite, k8, R.st_ok, if_pos rfl, evSs_next k7, k6]
    rw [hb, evSs_ret s1]
    exact leave0
end Ev

set_option Elab.async false
set_option linter.all false
set_option maxRecDepth 100000
/-! K27b: ascending tables of some rows, in plain Lean. -/
namespace Ev
open PySem
/-! ### the order of rows, of tables -/
def lexG {α : Type} [DecidableEq α] (lt : α → α → Bool) : List α → List α → Bool
  | [], [] => false
  | [], _ :: _ => true
  | _ :: _, [] => false
  | x :: xs, y :: ys => if x = y then lexG lt xs ys else lt x y
def ltI (a b : Int) : Bool := decide (a < b)
abbrev ll : Rw → Rw → Bool := lexG ltI
abbrev tl : List Rw → List Rw → Bool := lexG ll
theorem lts_lexG {α : Type} [DecidableEq α] {lt : α → α → Bool} {g : α → D} (h1 : ∀ x y, (g x).lt (g y) = some (lt x y)) (h2 : ∀ x y, (g x).eqv (g y) = true ↔ x = y) : ∀ xs ys : List α, lts (xs.map g) (ys.map g) = some (lexG lt xs ys)
  | [], [] => by simp [lts, lexG]
  | [], _ :: _ => by simp [lts, lexG]
  | _ :: _, [] => by simp [lts, lexG]
  | x :: xs, y :: ys => by
    simp only [List.map_cons, lts, lts_lexG h1 h2 xs ys, lexG]
    by_cases e : x = y
    · rw [if_pos e, if_pos ((h2 x y).mpr e)]
    · rw [if_neg e, if_neg (fun q => e ((h2 x y).mp q)), h1]
theorem lt_R (a b : Rw) : (dR a).lt (dR b) = some (ll a b) := by
  unfold dR
  simp only [D.lt]
  exact lts_lexG (fun x y => by simp only [D.lt, ltI]) (fun x y => by simp [D.eqv]) a b
theorem lt_T (a b : List Rw) : (dT a).lt (dT b) = some (tl a b) := by
  unfold dT
  simp only [D.lt]
  exact lts_lexG lt_R (fun x y => by rw [eqv_iff (dR_itree _) (dR_itree _)]; exact ⟨dR_inj, fun e => by rw [e]⟩) a b
theorem lxe_R (a b : Rw) : lxe (dR a) (dR b) = ll a b := lt_lx (dR_itree a) (dR_itree b) (lt_R a b)
theorem lxe_T (a b : List Rw) : lxe (dT a) (dT b) = tl a b := lt_lx (dT_itree a) (dT_itree b) (lt_T a b)
theorem lexLe_ll : ∀ a b : Rw, lexLe a b = !ll b a
  | [], [] => rfl
  | [], _ :: _ => rfl
  | _ :: _, [] => rfl
  | x :: xs, y :: ys => by
    simp only [lexLe, ll, lexG]
    by_cases e : x = y
    · subst e
      rw [if_pos rfl, if_pos rfl]
      exact lexLe_ll xs ys
    · rw [if_neg e, if_neg (fun q => e q.symm)]
      unfold ltI
      by_cases h : x ≤ y
      · rw [decide_eq_true h, decide_eq_false (by omega)]
        rfl
      · rw [decide_eq_false h, decide_eq_true (by omega)]
        rfl
theorem ll_irr (a : Rw) : ll a a = false := by rw [← lxe_R]; exact lxe_swo.refl _
theorem ll_asym {a b : Rw} (h : ll a b = true) : ll b a = false := by rw [← lxe_R] at h ⊢; exact lxe_swo.asym _ _ h
def leR (a b : Rw) : Prop := ll b a = false
theorem leR_tr {a b c : Rw} (h1 : leR a b) (h2 : leR b c) : leR a c := by
  unfold leR at *
  rw [← lxe_R] at *
  exact lx_tr _ _ _ h1 h2
theorem lexLe_iff {a b : Rw} : lexLe a b = true ↔ leR a b := by
  rw [lexLe_ll]
  unfold leR
  simp
/-! ### levels -/
def okX (t : List Rw) (r : Rw) : Bool := t.isEmpty || lexLe (t.getLast?.getD []) r
def ext1 (rows : List Rw) (t : List Rw) : List (List Rw) := (rows.filter (okX t)).map fun r => t ++ [r]
def Lv (rows : List Rw) : Nat → List (List Rw)
  | 0 => [[]]
  | i + 1 => (Lv rows i).flatMap (ext1 rows)
def Fl (rows : List Rw) (m : Nat) : List (List Rw) := (List.range (m + 1)).flatMap (Lv rows)
theorem mem_ext1 {rows : List Rw} {t u : List Rw} : u ∈ ext1 rows t ↔ ∃ r ∈ rows, okX t r = true ∧ u = t ++ [r] := by
  unfold ext1
  rw [List.mem_map]
  constructor
  · rintro ⟨r, h, rfl⟩
    obtain ⟨h1, h2⟩ := List.mem_filter.mp h
    exact ⟨r, h1, h2, rfl⟩
  · rintro ⟨r, h1, h2, rfl⟩
    exact ⟨r, List.mem_filter.mpr ⟨h1, h2⟩, rfl⟩
theorem okX_iff {t : List Rw} {r : Rw} (ht : t.Pairwise leR) : okX t r = true ↔ ∀ a ∈ t, leR a r := by
  unfold okX
  rcases List.eq_nil_or_concat t with rfl | ⟨t', l, rfl⟩
  · simp
  · rw [List.concat_eq_append] at *
    have e : ((t' ++ [l]).isEmpty || lexLe ((t' ++ [l]).getLast?.getD []) r) = lexLe l r := by
      have g : (t' ++ [l]).getLast? = some l := by simp
      have g2 : (t' ++ [l]).isEmpty = false := by simp
      rw [g, g2]
      rfl
    rw [e, lexLe_iff]
    obtain ⟨_, _, h3⟩ := List.pairwise_append.mp ht
    constructor
    · intro h a ha
      rcases List.mem_append.mp ha with ha | ha
      · exact leR_tr (h3 a ha l (by simp)) h
      · rw [List.mem_singleton.mp ha]; exact h
    · intro h
      exact h l (by simp)
theorem mem_Lv {rows : List Rw} : ∀ {i : Nat} {t : List Rw}, t ∈ Lv rows i ↔ t.length = i ∧ (∀ r ∈ t, r ∈ rows) ∧ t.Pairwise leR
  | 0, t => by
    simp only [Lv, List.mem_singleton]
    constructor
    · rintro rfl; exact ⟨rfl, fun r h => absurd h (by simp), List.Pairwise.nil⟩
    · rintro ⟨h, _⟩; exact List.eq_nil_of_length_eq_zero h
  | i + 1, t => by
    simp only [Lv, List.mem_flatMap]
    constructor
    · rintro ⟨t', ht', hu⟩
      obtain ⟨h1, h2, h3⟩ := mem_Lv.mp ht'
      obtain ⟨r, hr, ho, rfl⟩ := mem_ext1.mp hu
      refine ⟨by rw [List.length_append, h1]; rfl, fun x hx => ?_, ?_⟩
      · rcases List.mem_append.mp hx with h | h
        · exact h2 x h
        · rw [List.mem_singleton.mp h]; exact hr
      · refine List.pairwise_append.mpr ⟨h3, List.pairwise_singleton _ _, fun a ha b hb => ?_⟩
        rw [List.mem_singleton.mp hb]
        exact (okX_iff h3).mp ho a ha
    · rintro ⟨h1, h2, h3⟩
      rcases List.eq_nil_or_concat t with rfl | ⟨t', l, rfl⟩
      · cases h1
      · rw [List.concat_eq_append] at *
        obtain ⟨p1, _, p3⟩ := List.pairwise_append.mp h3
        refine ⟨t', mem_Lv.mpr ⟨by simpa using h1, fun r h => h2 r (List.mem_append_left _ h), p1⟩, mem_ext1.mpr ⟨l, h2 l (by simp), (okX_iff p1).mpr fun a ha => p3 a ha l (by simp), rfl⟩⟩
theorem tl_app {r r' : Rw} : ∀ {t u : List Rw}, t.length = u.length → tl t u = true → tl (t ++ [r]) (u ++ [r']) = true
  | [], [], _, h => by simp [tl, lexG] at h
  | [], _ :: _, h, _ => by cases h
  | _ :: _, [], h, _ => by cases h
  | x :: t, y :: u, hl, h => by
    simp only [tl, lexG, List.cons_append] at h ⊢
    by_cases e : x = y
    · rw [if_pos e] at h ⊢
      exact tl_app (by simpa using hl) h
    · rw [if_neg e] at h ⊢
      exact h
theorem tl_same {r r' : Rw} (h : ll r r' = true) : ∀ t : List Rw, tl (t ++ [r]) (t ++ [r']) = true
  | [] => by
    have e : r ≠ r' := fun e => by rw [e, ll_irr] at h; cases h
    simp only [tl, List.nil_append, lexG]
    rw [if_neg e]
    exact h
  | x :: t => by
    simp only [tl, List.cons_append, lexG]
    rw [if_pos trivial]
    exact tl_same h t
abbrev AscR (rows : List Rw) : Prop := rows.Pairwise fun a b => ll a b = true
theorem asc_Lv {rows : List Rw} (hr : AscR rows) : ∀ i, (Lv rows i).Pairwise fun a b => tl a b = true
  | 0 => List.pairwise_singleton _ _
  | i + 1 => by
    simp only [Lv]
    rw [List.pairwise_flatMap]
    constructor
    · intro t ht
      unfold ext1
      rw [List.pairwise_map]
      exact (hr.filter _).imp fun h => tl_same h t
    · refine (List.Pairwise.imp_of_mem (fun {a b} ha hb h => ?_) (asc_Lv hr i))
      intro x hx y hy
      obtain ⟨r, _, _, rfl⟩ := mem_ext1.mp hx
      obtain ⟨r', _, _, rfl⟩ := mem_ext1.mp hy
      exact tl_app ((mem_Lv.mp ha).1.trans (mem_Lv.mp hb).1.symm) h
/-- sorted, they are as they were -/
theorem sort_Lv {rows : List Rw} (hr : AscR rows) (i : Nat) : isortE ((Lv rows i).map dT) = (Lv rows i).map dT := by
  have hi : Its ((Lv rows i).map dT) := fun x hx => by
    obtain ⟨t, _, rfl⟩ := List.mem_map.mp hx
    exact dT_itree t
  have ha : Asc ((Lv rows i).map dT) := by
    show ((Lv rows i).map dT).Pairwise _
    rw [List.pairwise_map]
    exact (asc_Lv hr i).imp fun h => by rw [lxe_T]; exact h
  have nd : ((Lv rows i).map dT).Nodup := ha.imp fun {a b} h e => by
    subst e
    have z : lxe a a = false := lxe_swo.refl a
    rw [z] at h
    cases h
  refine asc_ext (asc_of (its_sort hi) (isort_srt _) ((isort_perm _).nodup_iff.mpr nd)) ha fun x => (isort_perm _).mem_iff
/-! ### how many -/
def J (k : Nat) : Nat → List (List Nat)
  | 0 => [[]]
  | i + 1 => (J k i).flatMap fun t => ((List.range k).filter fun j => t.isEmpty || decide (t.getLast?.getD 0 ≤ j)).map fun j => t ++ [j]
def manyF (k : Nat) : Nat → Nat
  | 0 => 1
  | j + 1 => manyF k j * (k + j) / (j + 1)
theorem J_len : ∀ k, k ≤ 4 → ∀ i, i ≤ 4 → (J k i).length = manyF k i ∧ manyF k i ≤ 35 := by
  have h : ∀ k, k < 5 → ∀ i, i < 5 → (J k i).length = manyF k i ∧ manyF k i ≤ 35 := by decide +kernel
  exact fun k hk i hi => h k (by omega) i (by omega)
def rwAt (rows : List Rw) (j : Nat) : Rw := rows.getD j []
theorem le_at {rows : List Rw} (hr : AscR rows) {a b : Nat} (ha : a < rows.length) (hb : b < rows.length) : lexLe (rwAt rows a) (rwAt rows b) = decide (a ≤ b) := by
  have p := List.pairwise_iff_getElem.mp hr
  have e : ∀ j (h : j < rows.length), rwAt rows j = rows[j] := fun j h => by
    unfold rwAt
    rw [List.getD_eq_getElem?_getD, List.getElem?_eq_getElem h]
    rfl
  rw [e a ha, e b hb, lexLe_ll]
  rcases Nat.lt_trichotomy a b with h | h | h
  · rw [ll_asym (p a b ha hb h), decide_eq_true (Nat.le_of_lt h)]
    rfl
  · subst h
    rw [ll_irr, decide_eq_true (Nat.le_refl _)]
    rfl
  · rw [p b a hb ha h, decide_eq_false (by omega)]
    rfl
theorem rows_range (rows : List Rw) : rows = (List.range rows.length).map (rwAt rows) := by
  refine List.ext_getElem (by simp) fun i h1 h2 => ?_
  rw [List.getElem_map, List.getElem_range]
  unfold rwAt
  rw [List.getD_eq_getElem?_getD, List.getElem?_eq_getElem h1]
  rfl
theorem flatMap_congr7 {α β : Type} {f g : α → List β} : ∀ {l : List α}, (∀ x ∈ l, f x = g x) → l.flatMap f = l.flatMap g
  | [], _ => rfl
  | x :: l, h => by
    rw [List.flatMap_cons, List.flatMap_cons, h x List.mem_cons_self, flatMap_congr7 fun y hy => h y (List.mem_cons_of_mem _ hy)]
theorem Lv_J {rows : List Rw} (hr : AscR rows) : ∀ i, Lv rows i = (J rows.length i).map (fun t => t.map (rwAt rows)) ∧ ∀ t ∈ J rows.length i, ∀ j ∈ t, j < rows.length
  | 0 => ⟨rfl, fun t ht j hj => by rw [J, List.mem_singleton] at ht; rw [ht] at hj; cases hj⟩
  | i + 1 => by
    obtain ⟨ih1, ih2⟩ := Lv_J hr i
    constructor
    · simp only [Lv, J]
      rw [ih1, List.flatMap_map, List.map_flatMap]
      refine flatMap_congr7 fun t ht => ?_
      have htk := ih2 t ht
      unfold ext1
      conv => lhs; arg 2; arg 2; rw [rows_range rows]
      rw [List.filter_map, List.map_map, List.map_map]
      have e : (List.range rows.length).filter (okX (t.map (rwAt rows)) ∘ rwAt rows) = (List.range rows.length).filter fun j => t.isEmpty || decide (t.getLast?.getD 0 ≤ j) := by
        refine List.filter_congr fun j hj => ?_
        have hj := List.mem_range.mp hj
        show okX (t.map (rwAt rows)) (rwAt rows j) = _
        unfold okX
        rcases List.eq_nil_or_concat t with rfl | ⟨t', l, rfl⟩
        · rfl
        · rw [List.concat_eq_append] at *
          have hl := htk l (by simp)
          have e1 : ((t' ++ [l]).map (rwAt rows)).isEmpty = false := by simp
          have e2 : (((t' ++ [l]).map (rwAt rows)).getLast?.getD []) = rwAt rows l := by simp
          have e3 : (t' ++ [l]).isEmpty = false := by simp
          have e4 : ((t' ++ [l]).getLast?.getD 0) = l := by simp
          rw [e1, e2, e3, e4, le_at hr hl hj]
      rw [e]
      refine List.map_congr_left fun j _ => ?_
      simp
    · intro t ht j hj
      simp only [J, List.mem_flatMap, List.mem_map, List.mem_filter, List.mem_range] at ht
      obtain ⟨t', ht', a, ⟨ha, _⟩, rfl⟩ := ht
      rcases List.mem_append.mp hj with h | h
      · exact ih2 t' ht' j h
      · rw [List.mem_singleton.mp h]; exact ha
theorem Lv_len {rows : List Rw} (hr : AscR rows) (hk : rows.length ≤ 4) {i : Nat} (hi : i ≤ 4) : (Lv rows i).length = manyF rows.length i ∧ (Lv rows i).length ≤ 35 := by
  obtain ⟨h1, h2⟩ := J_len rows.length hk i hi
  have e : (Lv rows i).length = (J rows.length i).length := by rw [(Lv_J hr i).1, List.length_map]
  rw [e, h1]
  exact ⟨rfl, h2⟩
theorem Fl_len (rows : List Rw) (m : Nat) : (Fl rows m).length = ((List.range (m + 1)).map fun i => (Lv rows i).length).sum := by
  unfold Fl
  rw [List.length_flatMap]
theorem Fl_succ (rows : List Rw) (m : Nat) : Fl rows (m + 1) = Fl rows m ++ Lv rows (m + 1) := by
  unfold Fl
  rw [List.range_succ, List.flatMap_append]
  simp
theorem mem_Fl {rows : List Rw} {m : Nat} {t : List Rw} : t ∈ Fl rows m ↔ t.length ≤ m ∧ (∀ r ∈ t, r ∈ rows) ∧ t.Pairwise leR := by
  unfold Fl
  rw [List.mem_flatMap]
  constructor
  · rintro ⟨i, hi, h⟩
    obtain ⟨h1, h2, h3⟩ := mem_Lv.mp h
    have := List.mem_range.mp hi
    exact ⟨by omega, h2, h3⟩
  · rintro ⟨h1, h2, h3⟩
    exact ⟨t.length, List.mem_range.mpr (by omega), mem_Lv.mpr ⟨rfl, h2, h3⟩⟩
theorem er_sub {α : Type} (t : List α) (i : Nat) : (er t i).Sublist t := by
  unfold er
  have h : (t.take i ++ t.drop (i + 1)).Sublist (t.take i ++ t.drop i) := by
    refine List.Sublist.append (List.Sublist.refl _) ?_
    rw [← List.drop_drop]
    exact List.drop_sublist _ _
  rw [List.take_append_drop] at h
  exact h
theorem er_Fl {rows : List Rw} {m : Nat} {t : List Rw} (h : t ∈ Fl rows m) (i : Nat) : er t i ∈ Fl rows m := by
  obtain ⟨h1, h2, h3⟩ := mem_Fl.mp h
  refine mem_Fl.mpr ⟨Nat.le_trans (er_sub t i).length_le h1, fun r hr => h2 r (er_mem hr), h3.sublist (er_sub t i)⟩
end Ev

set_option Elab.async false
set_option linter.all false
set_option maxRecDepth 100000
/-! K27c: the defs that list small tables. -/
namespace Ev
open PySem
theorem intsD_map (l : List Int) : intsD (l.map D.int) = some l := by
  induction l with
  | nil => rfl
  | cons a l ih => simp only [List.map_cons, intsD, ih, Option.map_some]
theorem le_R {s : S} (a b : Rw) : cmpD s .le (dR a) (dR b) = some (lexLe a b) := by
  show ((intsD (a.map D.int)).bind fun ns => (intsD (b.map D.int)).map fun ms => lexLe ns ms) = _
  rw [intsD_map, intsD_map]
  rfl
theorem lt_Rd {s : S} (a b : Rw) : cmpD s .lt (dR a) (dR b) = some (ll a b) := by
  show ltD (dR a) (dR b) = _
  unfold ltD
  rw [dR_plain, dR_plain, Bool.and_self, if_pos rfl, lt_R]
theorem idx_last {s : S} (t : List Rw) (l : Rw) : idxD s (dT (t ++ [l])) (.int (-1)) = some (dR l) := by
  have e : dT (t ++ [l]) = .tup (t.map dR ++ [dR l]) := by unfold dT; rw [List.map_append]; rfl
  rw [e]
  simp only [idxD, S.view, items, Option.bind_some, ixD, List.length_append, List.length_map, List.length_singleton]
  rw [if_neg (by decide), if_pos (by omega)]
  simp only [Option.bind_some]
  have e2 : ((-1 : Int) + ((t.length + 1 : Nat) : Int)).toNat = t.length := by omega
  rw [e2, List.getElem?_append_right (by rw [List.length_map]; exact Nat.le_refl _), List.length_map, Nat.sub_self]
  rfl
def exE : E := .comp (.bin .add (.loc 6) (.tup [.loc 7])) (.one 7) (.ex (.loc 0)) (some (.or (.cmp .eq (.bi .len [.loc 6]) (.cst (.int 0))) (.cmp .le (.idx (.loc 6) (.neg (.cst (.int 1)))) (.loc 7))))
theorem ext1_fm (rows t : List Rw) : rows.filterMap (fun r => if okX t r = true then some (dT (t ++ [r])) else none) = (ext1 rows t).map dT := by
  unfold ext1
  induction rows with
  | nil => rfl
  | cons r rows ih =>
    rw [List.filterMap_cons, List.filter_cons]
    by_cases h : okX t r = true
    · rw [if_pos h, if_pos h]
      simp only [List.map_cons, ih]
    · rw [if_neg h, if_neg h]
      exact ih
theorem comp_ext {c : Cfg} {rows t : List Rw} (hr : rows.length ≤ 4) (ht : t.length ≤ 100) {a1 a2 a3 a4 a5 a7 : Option D} {st : S} : evE c exE [some (dT rows), a1, a2, a3, a4, a5, some (dT t), a7] st = .ok (.lst ((ext1 rows t).map dT)) st := by
  have hI : evI c (.ex (.loc 0)) [some (dT rows), a1, a2, a3, a4, a5, some (dT t), a7] st = .ok ⟨rows.map dR, none⟩ st := by
    simp only [evI, evE, getV, List.getElem?_cons_zero, Option.bind_some, id_eq, R.opt_some, R.bind_ok]
    rfl
  have lim : LIM = 1000000 := rfl
  unfold exE
  rw [evE_compC, hI, R.bind_ok]
  dsimp only
  rw [comp_fm (f := dR) (g := fun r => if okX t r = true then some (dT (t ++ [r])) else none)]
  · rw [R.bind_ok, ext1_fm]
  · intro r _
    have hb : binD st .add (dT t) (.tup [dR r]) = some (dT (t ++ [r])) := by
      show binD st .add (.tup (t.map dR)) (.tup [dR r]) = _
      rw [bn_tup, if_pos (by rw [List.length_map]; show t.length + 1 ≤ LIM; omega)]
      unfold dT
      rw [List.map_append]
      rfl
    have hlen : biD st .len [dT t] = some (.int t.length) := by
      unfold dT
      rw [bi_len_tup, List.length_map]
    rcases List.eq_nil_or_concat t with rfl | ⟨t', l, rfl⟩
    · have e : (((0 : Nat) : Int) == 0) = true := rfl
      have o : okX [] r = true := rfl
      simp only [List.set_cons_succ, List.set_cons_zero]
      simp only [evSs, evS_ite, evS_set, evS_ret, evS_ex, evS_raise, evS_brk, evS_cont, evS_pass, evT_cmp, evT_chain, evT_call, evT_bi, evT_isi, evT_loc, evT_nt, evT_and, evT_or, evE, evEs, getV, List.getElem?_cons_zero, List.getElem?_cons_succ, Option.bind_some, id_eq, R.opt_some, R.bind_ok, R.bind_exc, R.st_ok, R.st_exc, RS.bind_next, RS.bind_ret, RS.bind_exc, RS.bind_cont, RS.bind_brk, List.set_cons_succ, List.set_cons_zero, Option.map_some, t_bl, Bool.not_true, Bool.not_false, Bool.false_eq_true, if_true, if_false, bi_len_tup, bi_len_lst, bi_int, bn_add, bn_sub, c_eq, c_ne, c_le, c_lt, c_ge, c_gt, hlen, e, List.length_cons, List.length_nil, Nat.zero_add, if_pos (show 1 ≤ LIM by decide), hb, noExc, o]
    · rw [List.concat_eq_append] at *
      have e : ((((t' ++ [l]).length : Nat) : Int) == 0) = false := by
        rw [beq_eq_false_iff_ne, List.length_append]
        simp only [List.length_singleton]
        omega
      have o : okX (t' ++ [l]) r = lexLe l r := by
        unfold okX
        have g : (t' ++ [l]).getLast? = some l := by simp
        have g2 : (t' ++ [l]).isEmpty = false := by simp
        rw [g, g2]
        rfl
      have hx : idxD st (dT (t' ++ [l])) (.int (-1)) = some (dR l) := idx_last t' l
      simp only [List.set_cons_succ, List.set_cons_zero]
      cases q : lexLe l r with
      | true => simp only [evSs, evS_ite, evS_set, evS_ret, evS_ex, evS_raise, evS_brk, evS_cont, evS_pass, evT_cmp, evT_chain, evT_call, evT_bi, evT_isi, evT_loc, evT_nt, evT_and, evT_or, evE, evEs, getV, List.getElem?_cons_zero, List.getElem?_cons_succ, Option.bind_some, id_eq, R.opt_some, R.bind_ok, R.bind_exc, R.st_ok, R.st_exc, RS.bind_next, RS.bind_ret, RS.bind_exc, RS.bind_cont, RS.bind_brk, List.set_cons_succ, List.set_cons_zero, Option.map_some, t_bl, Bool.not_true, Bool.not_false, Bool.false_eq_true, if_true, if_false, bi_len_tup, bi_len_lst, bi_int, bn_add, bn_sub, c_eq, c_ne, c_le, c_lt, c_ge, c_gt, hlen, e, List.length_cons, List.length_nil, Nat.zero_add, if_pos (show 1 ≤ LIM by decide), hb, hx, le_R, q, noExc, o]
      | false => simp only [evSs, evS_ite, evS_set, evS_ret, evS_ex, evS_raise, evS_brk, evS_cont, evS_pass, evT_cmp, evT_chain, evT_call, evT_bi, evT_isi, evT_loc, evT_nt, evT_and, evT_or, evE, evEs, getV, List.getElem?_cons_zero, List.getElem?_cons_succ, Option.bind_some, id_eq, R.opt_some, R.bind_ok, R.bind_exc, R.st_ok, R.st_exc, RS.bind_next, RS.bind_ret, RS.bind_exc, RS.bind_cont, RS.bind_brk, List.set_cons_succ, List.set_cons_zero, Option.map_some, t_bl, Bool.not_true, Bool.not_false, Bool.false_eq_true, if_true, if_false, bi_len_tup, bi_len_lst, bi_int, bn_add, bn_sub, c_eq, c_ne, c_le, c_lt, c_ge, c_gt, hlen, e, List.length_cons, List.length_nil, Nat.zero_add, if_pos (show 1 ≤ LIM by decide), hb, hx, le_R, q, noExc, o]
  · omega
theorem dTs_shal (m : Nat) (l : List (List Rw)) : shals m (l.map dT) = true := itrees_shal _ (itrees_map fun t _ => dT_itree t)
theorem dTs_plain (l : List (List Rw)) : plains 60 (l.map dT) = true := plains_map fun t _ => dT_plain t
section
variable {s : S} {pre : List Cel} {acc : List D}
theorem get_app : (fr s (pre ++ [.lst acc])).get (s.out.length + 1) pre.length = some (.lst acc) := by
  rw [get_fr, List.getElem?_append_right (Nat.le_refl _), Nat.sub_self]
  rfl
theorem set_app {x : Cel} : (fr s (pre ++ [.lst acc])).set (s.out.length + 1) pre.length x = fr s (pre ++ [x]) := by
  rw [set_fr, List.set_append_right _ _ (Nat.le_refl _), Nat.sub_self]
  rfl
theorem get_pre {k : Nat} {x : Cel} (h : pre[k]? = some x) : (fr s (pre ++ [.lst acc])).get (s.out.length + 1) k = some x := by
  have hk : k < pre.length := by
    rcases Nat.lt_or_ge k pre.length with q | q
    · exact q
    · rw [List.getElem?_eq_none q] at h; cases h
  rw [get_fr, List.getElem?_append_left hk]
  exact h
end
def exB : St := .ex (.me .extend (.loc 5) [exE])
theorem exB_ok {c : Cfg} {rows t : List Rw} (hr : rows.length ≤ 4) (ht : t.length ≤ 100) {a1 a2 a3 a4 a7 : Option D} {s : S} {pre : List Cel} {acc : List (List Rw)} (hl : acc.length + (ext1 rows t).length ≤ LIM) :
    evSs c [exB] [some (dT rows), a1, a2, a3, a4, some (.ref (s.out.length + 1) pre.length), some (dT t), a7] (fr s (pre ++ [.lst (acc.map dT)])) = .next [some (dT rows), a1, a2, a3, a4, some (.ref (s.out.length + 1) pre.length), some (dT t), a7] (fr s (pre ++ [.lst ((acc ++ ext1 rows t).map dT)])) := by
  have hme : meD (fr s (pre ++ [.lst (acc.map dT)])) .extend (.ref (s.out.length + 1) pre.length) [.lst ((ext1 rows t).map dT)] = .ok .non (fr s (pre ++ [.lst ((acc ++ ext1 rows t).map dT)])) := by
    simp only [meD, get_app, S.view]
    rw [if_pos ⟨by rw [List.length_map, List.length_map]; exact hl, dTs_shal _ _⟩, set_app, List.map_append]
  have hil : isL (fr s (pre ++ [.lst (acc.map dT)])) (.ref (s.out.length + 1) pre.length) = true := by
    simp only [isL, S.view, get_app]
  have hc := comp_ext (c := c) hr ht (a1 := a1) (a2 := a2) (a3 := a3) (a4 := a4) (a5 := some (.ref (s.out.length + 1) pre.length)) (a7 := a7) (st := fr s (pre ++ [.lst (acc.map dT)]))
  unfold exB
  simp only [evSs, evS_ex, evE, evEs, getV, List.getElem?_cons_zero, List.getElem?_cons_succ, Option.bind_some, id_eq, R.opt_some, R.bind_ok, hil, if_true, hc, hme, R.st_ok, RS.bind_next]
theorem ext_loop {c : Cfg} {rows : List Rw} (hr : rows.length ≤ 4) {a1 a2 a3 a4 a7 : Option D} {s : S} {pre : List Cel} {g : Option (Nat × Nat × List D)} (hg : ∀ acc, keptG (fr s (pre ++ [.lst acc])) g = true) : ∀ {xs acc : List (List Rw)} {a6 : Option D}, (∀ t ∈ xs, t.length ≤ 100) → acc.length + (xs.flatMap (ext1 rows)).length ≤ LIM →
    ∃ b6, forL g (.one 6) (evSs c [exB]) (xs.map dT) [some (dT rows), a1, a2, a3, a4, some (.ref (s.out.length + 1) pre.length), a6, a7] (fr s (pre ++ [.lst (acc.map dT)])) = .next [some (dT rows), a1, a2, a3, a4, some (.ref (s.out.length + 1) pre.length), b6, a7] (fr s (pre ++ [.lst ((acc ++ xs.flatMap (ext1 rows)).map dT)]))
  | [], acc, a6, ht, hl => ⟨a6, by simp only [List.map_nil, forL, List.flatMap_nil, List.append_nil]⟩
  | t :: xs, acc, a6, ht, hl => by
    rw [List.flatMap_cons, List.length_append] at hl
    obtain ⟨b6, h⟩ := ext_loop hr hg (xs := xs) (acc := acc ++ ext1 rows t) (a6 := some (dT t)) (fun u hu => ht u (List.mem_cons_of_mem _ hu)) (by rw [List.length_append]; omega)
    refine ⟨b6, ?_⟩
    simp only [List.map_cons, forL, putT, RS.opt_some, List.set_cons_succ, List.set_cons_zero]
    rw [exB_ok hr (ht t List.mem_cons_self) (by omega)]
    simp only [hg, if_true]
    rw [h, List.flatMap_cons, List.append_assoc]
/-! ### raw_small_tables -/
def rs1 : St := .par [2, 3] [.lst [.tup []], .lst [.tup []]]
def rsA : St := .set 5 (.cell (.lst []))
def rsB : St := .fo (.one 6) (.ex (.loc 3)) [exB]
def rsC : St := .par [2, 3] [.bin .add (.loc 2) (.loc 5), .loc 5]
def rs2 : St := .fo (.one 4) (.rng1 (.loc 1)) [rsA, rsB, rsC]
def rs3 : St := .ret (some (.loc 2))
def dfRST : Def := ⟨2, 8, false, [rs1, rs2, rs3]⟩
theorem evS_par {c : Cfg} {env : Env} {s : S} {is : List Nat} {es : List E} : evS c (.par is es) env s = (evEs c es env s).st env fun xs s => RS.opt (putI is xs env) fun env => .next env s := by simp only [evS]
theorem add_ref {st : S} {xs ys : List D} {d k : Nat} (h : st.get d k = some (.lst ys)) (hl : xs.length + ys.length ≤ LIM) : binD st .add (.lst xs) (.ref d k) = some (.lst (xs ++ ys)) := by
  unfold binD
  simp only [S.view, h, if_pos hl]
theorem Fl_le {rows : List Rw} (hr : AscR rows) (hk : rows.length ≤ 4) {m : Nat} (hm : m ≤ 4) : (Fl rows m).length ≤ 200 := by
  induction m with
  | zero =>
    show (Lv rows 0 ++ []).length ≤ 200
    simp [Lv]
  | succ m ih =>
    rw [Fl_succ, List.length_append]
    have := ih (by omega)
    have h2 := (Lv_len hr hk (i := m + 1) hm).2
    have h3 : (Fl rows m).length ≤ 35 * (m + 1) := by
      clear ih this h2
      induction m with
      | zero => show (Lv rows 0 ++ []).length ≤ _; simp [Lv]
      | succ m ih =>
        rw [Fl_succ, List.length_append]
        have h2 := (Lv_len hr hk (i := m + 1) (by omega)).2
        have := ih (by omega)
        omega
    omega
theorem Lv_short {rows : List Rw} {i : Nat} (hi : i ≤ 4) : ∀ t ∈ Lv rows i, t.length ≤ 100 := fun t ht => by
  have := (mem_Lv.mp ht).1
  omega
theorem rst_ok {T : Text} (h68 : T.defs 68 = some dfRST) {rows : List Rw} (hr : AscR rows) (hk : rows.length ≤ 4) {m : Nat} (hm : m ≤ 4) {n : Nat} {s : S} : run T (n + 1) 68 [dT rows, .int m] s = .ok (.lst ((Fl rows m).map dT)) s := by
  have lim : LIM = 1000000 := rfl
  rw [run_def h68 rfl]
  have e0 : startE dfRST.ns [dT rows, .int m] = [some (dT rows), some (.int m), none, none, none, none, none, none] := rfl
  rw [e0]
  have hb : dfRST.body = [rs1, rs2, rs3] := rfl
  have h1 : evS (cf T n) rs1 [some (dT rows), some (.int m), none, none, none, none, none, none] (fr s []) = .next [some (dT rows), some (.int m), some (.lst [.tup []]), some (.lst [.tup []]), none, none, none, none] (fr s []) := by
    unfold rs1
    simp only [evSs, evS_ite, evS_set, evS_ret, evS_ex, evS_raise, evS_brk, evS_cont, evS_pass, evT_cmp, evT_chain, evT_call, evT_bi, evT_isi, evT_loc, evT_nt, evT_and, evT_or, evE, evEs, getV, List.getElem?_cons_zero, List.getElem?_cons_succ, Option.bind_some, id_eq, R.opt_some, R.bind_ok, R.bind_exc, R.st_ok, R.st_exc, RS.bind_next, RS.bind_ret, RS.bind_exc, RS.bind_cont, RS.bind_brk, List.set_cons_succ, List.set_cons_zero, Option.map_some, t_bl, Bool.not_true, Bool.not_false, Bool.false_eq_true, if_true, if_false, bi_len_tup, bi_len_lst, bi_int, bn_add, bn_sub, c_eq, c_ne, c_le, c_lt, c_ge, c_gt, evS_par, List.length_cons, List.length_nil, Nat.zero_add, if_pos (show 0 ≤ LIM by decide), if_pos (show 1 ≤ LIM by decide), putI, RS.opt_some]
  obtain ⟨env', s', ⟨pre, a3, a4, a5, a6, a7, hpre, rfl, rfl, hlast⟩, hf⟩ := for_stN (c := cf T n) (i := 4) (bd := [rsA, rsB, rsC])
    (fun j env st => ∃ (pre : List Cel) (a3 : D) (a4 a5 a6 a7 : Option D), pre.length = j ∧ st = fr s pre ∧ env = [some (dT rows), some (.int m), some (.lst ((Fl rows j).map dT)), some a3, a4, a5, a6, a7] ∧ ((j = 0 ∧ a3 = .lst [.tup []]) ∨ ∃ j', j = j' + 1 ∧ a3 = .ref (s.out.length + 1) j' ∧ pre[j']? = some (.lst ((Lv rows j).map dT))))
    (xs := numsD 0 m) (k := 0) (env := [some (dT rows), some (.int m), some (.lst [.tup []]), some (.lst [.tup []]), none, none, none, none]) (s := fr s [])
    ⟨[], .lst [.tup []], none, none, none, none, rfl, rfl, rfl, .inl ⟨rfl, rfl⟩⟩ (fun j hj env st ⟨pre, a3, a4, a5, a6, a7, hpre, hst, henv, hlast⟩ => by
      rw [nums_len'] at hj
      rw [Nat.zero_add] at *
      subst hst
      subst henv
      have hA : evS (cf T n) rsA [some (dT rows), some (.int m), some (.lst ((Fl rows j).map dT)), some a3, some (.int j), a5, a6, a7] (fr s pre) = .next [some (dT rows), some (.int m), some (.lst ((Fl rows j).map dT)), some a3, some (.int j), some (.ref (s.out.length + 1) pre.length), a6, a7] (fr s (pre ++ [.lst []])) := by
        unfold rsA
        simp only [evSs, evS_ite, evS_set, evS_ret, evS_ex, evS_raise, evS_brk, evS_cont, evS_pass, evT_cmp, evT_chain, evT_call, evT_bi, evT_isi, evT_loc, evT_nt, evT_and, evT_or, evE, evEs, getV, List.getElem?_cons_zero, List.getElem?_cons_succ, Option.bind_some, id_eq, R.opt_some, R.bind_ok, R.bind_exc, R.st_ok, R.st_exc, RS.bind_next, RS.bind_ret, RS.bind_exc, RS.bind_cont, RS.bind_brk, List.set_cons_succ, List.set_cons_zero, Option.map_some, t_bl, Bool.not_true, Bool.not_false, Bool.false_eq_true, if_true, if_false, bi_len_tup, bi_len_lst, bi_int, bn_add, bn_sub, c_eq, c_ne, c_le, c_lt, c_ge, c_gt, List.length_nil, if_pos (show 0 ≤ LIM by decide), newD]
        rfl
      have hlen := (Lv_len hr hk (i := j + 1) (by omega)).2
      have hlv : (Lv rows j).flatMap (ext1 rows) = Lv rows (j + 1) := rfl
      obtain ⟨b6, hB⟩ : ∃ b6, evS (cf T n) rsB [some (dT rows), some (.int m), some (.lst ((Fl rows j).map dT)), some a3, some (.int j), some (.ref (s.out.length + 1) pre.length), a6, a7] (fr s (pre ++ [.lst []])) = .next [some (dT rows), some (.int m), some (.lst ((Fl rows j).map dT)), some a3, some (.int j), some (.ref (s.out.length + 1) pre.length), b6, a7] (fr s (pre ++ [.lst ((Lv rows (j + 1)).map dT)])) := by
        rcases hlast with ⟨rfl, rfl⟩ | ⟨j', rfl, rfl, hp⟩
        · obtain ⟨b6, h⟩ := ext_loop (c := cf T n) hk (a1 := some (.int m)) (a2 := some (.lst ((Fl rows 0).map dT))) (a3 := some (.lst [.tup []])) (a4 := some (.int (0 : Nat))) (a7 := a7) (s := s) (pre := pre) (g := none) (fun _ => rfl) (xs := Lv rows 0) (acc := []) (a6 := a6) (Lv_short (by omega)) (by rw [hlv]; simp only [List.length_nil]; omega)
          refine ⟨b6, ?_⟩
          have hw : walkD (fr s (pre ++ [.lst []])) (.lst [.tup []]) = some ⟨(Lv rows 0).map dT, none⟩ := rfl
          unfold rsB
          rw [evS_fo]
          simp only [evI, evE, getV, List.getElem?_cons_zero, List.getElem?_cons_succ, Option.bind_some, id_eq, R.opt_some, R.bind_ok, hw, R.st_ok]
          rw [hlv, List.nil_append] at h
          exact h
        · obtain ⟨b6, h⟩ := ext_loop (c := cf T n) hk (a1 := some (.int m)) (a2 := some (.lst ((Fl rows (j' + 1)).map dT))) (a3 := some (.ref (s.out.length + 1) j')) (a4 := some (.int ((j' + 1 : Nat) : Int))) (a7 := a7) (s := s) (pre := pre) (g := some (s.out.length + 1, j', (Lv rows (j' + 1)).map dT)) (fun acc => by
            simp only [keptG, get_pre hp]
            simp) (xs := Lv rows (j' + 1)) (acc := []) (a6 := a6) (Lv_short (by omega)) (by rw [hlv]; simp only [List.length_nil]; omega)
          refine ⟨b6, ?_⟩
          have hw : walkD (fr s (pre ++ [.lst []])) (.ref (s.out.length + 1) j') = some ⟨(Lv rows (j' + 1)).map dT, some (s.out.length + 1, j', (Lv rows (j' + 1)).map dT)⟩ := by
            simp only [walkD, get_pre hp]
          unfold rsB
          rw [evS_fo]
          simp only [evI, evE, getV, List.getElem?_cons_zero, List.getElem?_cons_succ, Option.bind_some, id_eq, R.opt_some, R.bind_ok, hw, R.st_ok]
          rw [hlv, List.nil_append] at h
          exact h
      have hfl := Fl_le hr hk (m := j) (by omega)
      have hC : evS (cf T n) rsC [some (dT rows), some (.int m), some (.lst ((Fl rows j).map dT)), some a3, some (.int j), some (.ref (s.out.length + 1) pre.length), b6, a7] (fr s (pre ++ [.lst ((Lv rows (j + 1)).map dT)])) = .next [some (dT rows), some (.int m), some (.lst ((Fl rows (j + 1)).map dT)), some (.ref (s.out.length + 1) pre.length), some (.int j), some (.ref (s.out.length + 1) pre.length), b6, a7] (fr s (pre ++ [.lst ((Lv rows (j + 1)).map dT)])) := by
        have ha := add_ref (xs := (Fl rows j).map dT) (get_app (s := s) (pre := pre) (acc := (Lv rows (j + 1)).map dT)) (by rw [List.length_map, List.length_map]; omega)
        rw [← List.map_append, ← Fl_succ] at ha
        unfold rsC
        simp only [evSs, evS_ite, evS_set, evS_ret, evS_ex, evS_raise, evS_brk, evS_cont, evS_pass, evT_cmp, evT_chain, evT_call, evT_bi, evT_isi, evT_loc, evT_nt, evT_and, evT_or, evE, evEs, getV, List.getElem?_cons_zero, List.getElem?_cons_succ, Option.bind_some, id_eq, R.opt_some, R.bind_ok, R.bind_exc, R.st_ok, R.st_exc, RS.bind_next, RS.bind_ret, RS.bind_exc, RS.bind_cont, RS.bind_brk, List.set_cons_succ, List.set_cons_zero, Option.map_some, t_bl, Bool.not_true, Bool.not_false, Bool.false_eq_true, if_true, if_false, bi_len_tup, bi_len_lst, bi_int, bn_add, bn_sub, c_eq, c_ne, c_le, c_lt, c_ge, c_gt, evS_par, ha, putI, RS.opt_some]
      refine ⟨_, _, ⟨pre ++ [.lst ((Lv rows (j + 1)).map dT)], .ref (s.out.length + 1) pre.length, some (.int j), some (.ref (s.out.length + 1) pre.length), b6, a7, by rw [List.length_append, hpre]; rfl, rfl, rfl, .inr ⟨pre.length, by rw [hpre], rfl, by rw [List.getElem?_append_right (Nat.le_refl _), Nat.sub_self]; rfl⟩⟩, .inl ?_⟩
      rw [nums_get']
      simp only [List.set_cons_succ, List.set_cons_zero]
      rw [evSs_next hA, evSs_next hB, evSs_next hC]
      simp only [evSs])
  rw [nums_len', Nat.zero_add] at hf hpre hlast
  have hI : evI (cf T n) (.rng1 (.loc 1)) [some (dT rows), some (.int m), some (.lst [.tup []]), some (.lst [.tup []]), none, none, none, none] (fr s []) = .ok ⟨numsD 0 m, none⟩ (fr s []) := by
    have z := evI_rng1 (c := cf T n) (e := .loc 1) (env := [some (dT rows), some (.int m), some (.lst [.tup []]), some (.lst [.tup []]), none, none, none, none]) (s := fr s []) (s1 := fr s []) (j := (m : Int)) (by simp only [evSs, evS_ite, evS_set, evS_ret, evS_ex, evS_raise, evS_brk, evS_cont, evS_pass, evT_cmp, evT_chain, evT_call, evT_bi, evT_isi, evT_loc, evT_nt, evT_and, evT_or, evE, evEs, getV, List.getElem?_cons_zero, List.getElem?_cons_succ, Option.bind_some, id_eq, R.opt_some, R.bind_ok, R.bind_exc, R.st_ok, R.st_exc, RS.bind_next, RS.bind_ret, RS.bind_exc, RS.bind_cont, RS.bind_brk, List.set_cons_succ, List.set_cons_zero, Option.map_some, t_bl, Bool.not_true, Bool.not_false, Bool.false_eq_true, if_true, if_false, bi_len_tup, bi_len_lst, bi_int, bn_add, bn_sub, c_eq, c_ne, c_le, c_lt, c_ge, c_gt]) (small_of (by omega) (by omega))
    exact z
  have h2 : evS (cf T n) rs2 [some (dT rows), some (.int m), some (.lst [.tup []]), some (.lst [.tup []]), none, none, none, none] (fr s []) = .next [some (dT rows), some (.int m), some (.lst ((Fl rows m).map dT)), some a3, a4, a5, a6, a7] (fr s pre) := by
    unfold rs2
    rw [evS_fo, hI, R.st_ok]
    exact hf
  have h3 : evS (cf T n) rs3 [some (dT rows), some (.int m), some (.lst ((Fl rows m).map dT)), some a3, a4, a5, a6, a7] (fr s pre) = .ret (.lst ((Fl rows m).map dT)) (fr s pre) := by
    unfold rs3
    simp only [evSs, evS_ite, evS_set, evS_ret, evS_ex, evS_raise, evS_brk, evS_cont, evS_pass, evT_cmp, evT_chain, evT_call, evT_bi, evT_isi, evT_loc, evT_nt, evT_and, evT_or, evE, evEs, getV, List.getElem?_cons_zero, List.getElem?_cons_succ, Option.bind_some, id_eq, R.opt_some, R.bind_ok, R.bind_exc, R.st_ok, R.st_exc, RS.bind_next, RS.bind_ret, RS.bind_exc, RS.bind_cont, RS.bind_brk, List.set_cons_succ, List.set_cons_zero, Option.map_some, t_bl, Bool.not_true, Bool.not_false, Bool.false_eq_true, if_true, if_false, bi_len_tup, bi_len_lst, bi_int, bn_add, bn_sub, c_eq, c_ne, c_le, c_lt, c_ge, c_gt]
  rw [hb, evSs_next h1, evSs_next h2, evSs_ret h3]
  refine leaveC ?_
  simp only [D.shal]
  exact dTs_shal _ _
end Ev

set_option Elab.async false
set_option linter.all false
set_option maxRecDepth 100000
/-! K27d: the other defs of k27. -/
namespace Ev
open PySem
theorem add_lst {st : S} {xs ys : List D} (hl : xs.length + ys.length ≤ LIM) : binD st .add (.lst xs) (.lst ys) = some (.lst (xs ++ ys)) := by
  show (if xs.length + ys.length ≤ LIM then some (D.lst (xs ++ ys)) else none) = _
  rw [if_pos hl]
/-! ### the law's own listing -/
def msC : St := .set 3 (.bi .sorted [.loc 5])
def msD : St := .set 2 (.bin .add (.loc 2) (.loc 3))
def ms2 : St := .fo (.one 4) (.rng1 (.loc 1)) [rsA, rsB, msC, msD]
def dfMS : Def := ⟨2, 8, false, [rs1, ms2, rs3]⟩
theorem ms_ok {T : Text} (h72 : T.defs 72 = some dfMS) {rows : List Rw} (hr : AscR rows) (hk : rows.length ≤ 4) {m : Nat} (hm : m ≤ 4) {n : Nat} {s : S} : run T (n + 1) 72 [dT rows, .int m] s = .ok (.lst ((Fl rows m).map dT)) s := by
  have lim : LIM = 1000000 := rfl
  rw [run_def h72 rfl]
  have e0 : startE dfMS.ns [dT rows, .int m] = [some (dT rows), some (.int m), none, none, none, none, none, none] := rfl
  rw [e0]
  have hb : dfMS.body = [rs1, ms2, rs3] := rfl
  have h1 : evS (cf T n) rs1 [some (dT rows), some (.int m), none, none, none, none, none, none] (fr s []) = .next [some (dT rows), some (.int m), some (.lst [.tup []]), some (.lst [.tup []]), none, none, none, none] (fr s []) := by
    unfold rs1
    simp only [evSs, evS_ite, evS_set, evS_ret, evS_ex, evS_raise, evS_brk, evS_cont, evS_pass, evT_cmp, evT_chain, evT_call, evT_bi, evT_isi, evT_loc, evT_nt, evT_and, evT_or, evE, evEs, getV, List.getElem?_cons_zero, List.getElem?_cons_succ, Option.bind_some, id_eq, R.opt_some, R.bind_ok, R.bind_exc, R.st_ok, R.st_exc, RS.bind_next, RS.bind_ret, RS.bind_exc, RS.bind_cont, RS.bind_brk, List.set_cons_succ, List.set_cons_zero, Option.map_some, t_bl, Bool.not_true, Bool.not_false, Bool.false_eq_true, if_true, if_false, bi_len_tup, bi_len_lst, bi_int, bn_add, bn_sub, c_eq, c_ne, c_le, c_lt, c_ge, c_gt, evS_par, List.length_cons, List.length_nil, Nat.zero_add, if_pos (show 0 ≤ LIM by decide), if_pos (show 1 ≤ LIM by decide), putI, RS.opt_some]
  obtain ⟨env', s', ⟨pre, a4, a5, a6, a7, hpre, rfl, rfl⟩, hf⟩ := for_stN (c := cf T n) (i := 4) (bd := [rsA, rsB, msC, msD])
    (fun j env st => ∃ (pre : List Cel) (a4 a5 a6 a7 : Option D), pre.length = j ∧ st = fr s pre ∧ env = [some (dT rows), some (.int m), some (.lst ((Fl rows j).map dT)), some (.lst ((Lv rows j).map dT)), a4, a5, a6, a7])
    (xs := numsD 0 m) (k := 0) (env := [some (dT rows), some (.int m), some (.lst [.tup []]), some (.lst [.tup []]), none, none, none, none]) (s := fr s [])
    ⟨[], none, none, none, none, rfl, rfl, rfl⟩ (fun j hj env st ⟨pre, a4, a5, a6, a7, hpre, hst, henv⟩ => by
      rw [nums_len'] at hj
      rw [Nat.zero_add] at *
      subst hst
      subst henv
      have hA : evS (cf T n) rsA [some (dT rows), some (.int m), some (.lst ((Fl rows j).map dT)), some (.lst ((Lv rows j).map dT)), some (.int j), a5, a6, a7] (fr s pre) = .next [some (dT rows), some (.int m), some (.lst ((Fl rows j).map dT)), some (.lst ((Lv rows j).map dT)), some (.int j), some (.ref (s.out.length + 1) pre.length), a6, a7] (fr s (pre ++ [.lst []])) := by
        unfold rsA
        simp only [evSs, evS_ite, evS_set, evS_ret, evS_ex, evS_raise, evS_brk, evS_cont, evS_pass, evT_cmp, evT_chain, evT_call, evT_bi, evT_isi, evT_loc, evT_nt, evT_and, evT_or, evE, evEs, getV, List.getElem?_cons_zero, List.getElem?_cons_succ, Option.bind_some, id_eq, R.opt_some, R.bind_ok, R.bind_exc, R.st_ok, R.st_exc, RS.bind_next, RS.bind_ret, RS.bind_exc, RS.bind_cont, RS.bind_brk, List.set_cons_succ, List.set_cons_zero, Option.map_some, t_bl, Bool.not_true, Bool.not_false, Bool.false_eq_true, if_true, if_false, bi_len_tup, bi_len_lst, bi_int, bn_add, bn_sub, c_eq, c_ne, c_le, c_lt, c_ge, c_gt, List.length_nil, if_pos (show 0 ≤ LIM by decide), newD]
        rfl
      have hlen := (Lv_len hr hk (i := j + 1) (by omega)).2
      have hlv : (Lv rows j).flatMap (ext1 rows) = Lv rows (j + 1) := rfl
      obtain ⟨b6, hB⟩ : ∃ b6, evS (cf T n) rsB [some (dT rows), some (.int m), some (.lst ((Fl rows j).map dT)), some (.lst ((Lv rows j).map dT)), some (.int j), some (.ref (s.out.length + 1) pre.length), a6, a7] (fr s (pre ++ [.lst []])) = .next [some (dT rows), some (.int m), some (.lst ((Fl rows j).map dT)), some (.lst ((Lv rows j).map dT)), some (.int j), some (.ref (s.out.length + 1) pre.length), b6, a7] (fr s (pre ++ [.lst ((Lv rows (j + 1)).map dT)])) := by
        obtain ⟨b6, h⟩ := ext_loop (c := cf T n) hk (a1 := some (.int m)) (a2 := some (.lst ((Fl rows j).map dT))) (a3 := some (.lst ((Lv rows j).map dT))) (a4 := some (.int j)) (a7 := a7) (s := s) (pre := pre) (g := none) (fun _ => rfl) (xs := Lv rows j) (acc := []) (a6 := a6) (Lv_short (by omega)) (by rw [hlv]; simp only [List.length_nil]; omega)
        refine ⟨b6, ?_⟩
        have hw : walkD (fr s (pre ++ [.lst []])) (.lst ((Lv rows j).map dT)) = some ⟨(Lv rows j).map dT, none⟩ := rfl
        unfold rsB
        rw [evS_fo]
        simp only [evI, evE, getV, List.getElem?_cons_zero, List.getElem?_cons_succ, Option.bind_some, id_eq, R.opt_some, R.bind_ok, hw, R.st_ok]
        rw [hlv, List.nil_append] at h
        exact h
      have hfl := Fl_le hr hk (m := j) (by omega)
      have hs : biD (fr s (pre ++ [.lst ((Lv rows (j + 1)).map dT)])) .sorted [.ref (s.out.length + 1) pre.length] = some (.lst ((Lv rows (j + 1)).map dT)) := by
        simp only [biD, S.view, get_app]
        rw [if_pos (dTs_plain _), sort_T (fun x hx => by
          obtain ⟨t, ht, rfl⟩ := List.mem_map.mp hx
          refine ⟨t, rfl, .inr fun e => ?_⟩
          have := (mem_Lv.mp ht).1
          rw [e] at this
          cases this), sort_Lv hr]
        rfl
      have hC : evS (cf T n) msC [some (dT rows), some (.int m), some (.lst ((Fl rows j).map dT)), some (.lst ((Lv rows j).map dT)), some (.int j), some (.ref (s.out.length + 1) pre.length), b6, a7] (fr s (pre ++ [.lst ((Lv rows (j + 1)).map dT)])) = .next [some (dT rows), some (.int m), some (.lst ((Fl rows j).map dT)), some (.lst ((Lv rows (j + 1)).map dT)), some (.int j), some (.ref (s.out.length + 1) pre.length), b6, a7] (fr s (pre ++ [.lst ((Lv rows (j + 1)).map dT)])) := by
        unfold msC
        simp only [evSs, evS_ite, evS_set, evS_ret, evS_ex, evS_raise, evS_brk, evS_cont, evS_pass, evT_cmp, evT_chain, evT_call, evT_bi, evT_isi, evT_loc, evT_nt, evT_and, evT_or, evE, evEs, getV, List.getElem?_cons_zero, List.getElem?_cons_succ, Option.bind_some, id_eq, R.opt_some, R.bind_ok, R.bind_exc, R.st_ok, R.st_exc, RS.bind_next, RS.bind_ret, RS.bind_exc, RS.bind_cont, RS.bind_brk, List.set_cons_succ, List.set_cons_zero, Option.map_some, t_bl, Bool.not_true, Bool.not_false, Bool.false_eq_true, if_true, if_false, bi_len_tup, bi_len_lst, bi_int, bn_add, bn_sub, c_eq, c_ne, c_le, c_lt, c_ge, c_gt, hs]
      have hD : evS (cf T n) msD [some (dT rows), some (.int m), some (.lst ((Fl rows j).map dT)), some (.lst ((Lv rows (j + 1)).map dT)), some (.int j), some (.ref (s.out.length + 1) pre.length), b6, a7] (fr s (pre ++ [.lst ((Lv rows (j + 1)).map dT)])) = .next [some (dT rows), some (.int m), some (.lst ((Fl rows (j + 1)).map dT)), some (.lst ((Lv rows (j + 1)).map dT)), some (.int j), some (.ref (s.out.length + 1) pre.length), b6, a7] (fr s (pre ++ [.lst ((Lv rows (j + 1)).map dT)])) := by
        have ha := add_lst (st := fr s (pre ++ [.lst ((Lv rows (j + 1)).map dT)])) (xs := (Fl rows j).map dT) (ys := (Lv rows (j + 1)).map dT) (by rw [List.length_map, List.length_map]; omega)
        rw [← List.map_append, ← Fl_succ] at ha
        unfold msD
        simp only [evSs, evS_ite, evS_set, evS_ret, evS_ex, evS_raise, evS_brk, evS_cont, evS_pass, evT_cmp, evT_chain, evT_call, evT_bi, evT_isi, evT_loc, evT_nt, evT_and, evT_or, evE, evEs, getV, List.getElem?_cons_zero, List.getElem?_cons_succ, Option.bind_some, id_eq, R.opt_some, R.bind_ok, R.bind_exc, R.st_ok, R.st_exc, RS.bind_next, RS.bind_ret, RS.bind_exc, RS.bind_cont, RS.bind_brk, List.set_cons_succ, List.set_cons_zero, Option.map_some, t_bl, Bool.not_true, Bool.not_false, Bool.false_eq_true, if_true, if_false, bi_len_tup, bi_len_lst, bi_int, bn_add, bn_sub, c_eq, c_ne, c_le, c_lt, c_ge, c_gt, ha]
      refine ⟨_, _, ⟨pre ++ [.lst ((Lv rows (j + 1)).map dT)], some (.int j), some (.ref (s.out.length + 1) pre.length), b6, a7, by rw [List.length_append, hpre]; rfl, rfl, rfl⟩, .inl ?_⟩
      rw [nums_get']
      simp only [List.set_cons_succ, List.set_cons_zero]
      rw [evSs_next hA, evSs_next hB, evSs_next hC, evSs_next hD]
      simp only [evSs])
  rw [nums_len', Nat.zero_add] at hf hpre
  have hI : evI (cf T n) (.rng1 (.loc 1)) [some (dT rows), some (.int m), some (.lst [.tup []]), some (.lst [.tup []]), none, none, none, none] (fr s []) = .ok ⟨numsD 0 m, none⟩ (fr s []) := by
    have z := evI_rng1 (c := cf T n) (e := .loc 1) (env := [some (dT rows), some (.int m), some (.lst [.tup []]), some (.lst [.tup []]), none, none, none, none]) (s := fr s []) (s1 := fr s []) (j := (m : Int)) (by simp only [evSs, evS_ite, evS_set, evS_ret, evS_ex, evS_raise, evS_brk, evS_cont, evS_pass, evT_cmp, evT_chain, evT_call, evT_bi, evT_isi, evT_loc, evT_nt, evT_and, evT_or, evE, evEs, getV, List.getElem?_cons_zero, List.getElem?_cons_succ, Option.bind_some, id_eq, R.opt_some, R.bind_ok, R.bind_exc, R.st_ok, R.st_exc, RS.bind_next, RS.bind_ret, RS.bind_exc, RS.bind_cont, RS.bind_brk, List.set_cons_succ, List.set_cons_zero, Option.map_some, t_bl, Bool.not_true, Bool.not_false, Bool.false_eq_true, if_true, if_false, bi_len_tup, bi_len_lst, bi_int, bn_add, bn_sub, c_eq, c_ne, c_le, c_lt, c_ge, c_gt]) (small_of (by omega) (by omega))
    exact z
  have h2 : evS (cf T n) ms2 [some (dT rows), some (.int m), some (.lst [.tup []]), some (.lst [.tup []]), none, none, none, none] (fr s []) = .next [some (dT rows), some (.int m), some (.lst ((Fl rows m).map dT)), some (.lst ((Lv rows m).map dT)), a4, a5, a6, a7] (fr s pre) := by
    unfold ms2
    rw [evS_fo, hI, R.st_ok]
    exact hf
  have h3 : evS (cf T n) rs3 [some (dT rows), some (.int m), some (.lst ((Fl rows m).map dT)), some (.lst ((Lv rows m).map dT)), a4, a5, a6, a7] (fr s pre) = .ret (.lst ((Fl rows m).map dT)) (fr s pre) := by
    unfold rs3
    simp only [evSs, evS_ite, evS_set, evS_ret, evS_ex, evS_raise, evS_brk, evS_cont, evS_pass, evT_cmp, evT_chain, evT_call, evT_bi, evT_isi, evT_loc, evT_nt, evT_and, evT_or, evE, evEs, getV, List.getElem?_cons_zero, List.getElem?_cons_succ, Option.bind_some, id_eq, R.opt_some, R.bind_ok, R.bind_exc, R.st_ok, R.st_exc, RS.bind_next, RS.bind_ret, RS.bind_exc, RS.bind_cont, RS.bind_brk, List.set_cons_succ, List.set_cons_zero, Option.map_some, t_bl, Bool.not_true, Bool.not_false, Bool.false_eq_true, if_true, if_false, bi_len_tup, bi_len_lst, bi_int, bn_add, bn_sub, c_eq, c_ne, c_le, c_lt, c_ge, c_gt]
  rw [hb, evSs_next h1, evSs_next h2, evSs_ret h3]
  refine leaveC ?_
  simp only [D.shal]
  exact dTs_shal _ _
/-! ### how many there are -/
def mnB : St := .set 2 (.bin .fdiv (.bin .mul (.loc 2) (.bin .add (.loc 0) (.loc 3))) (.bin .add (.loc 3) (.cst (.int 1))))
def mn2 : St := .fo (.one 3) (.rng1 (.loc 1)) [mnB]
def dfMany : Def := ⟨2, 4, false, [.set 2 (.cst (.int 1)), mn2, .ret (some (.loc 2))]⟩
theorem many_ok {T : Text} (h73 : T.defs 73 = some dfMany) {k i : Nat} (hk : k ≤ 4) (hi : i ≤ 4) {n : Nat} {s : S} : run T (n + 1) 73 [.int k, .int i] s = .ok (.int (manyF k i)) s := by
  rw [run_def h73 rfl]
  have e0 : startE dfMany.ns [.int k, .int i] = [some (.int k), some (.int i), none, none] := rfl
  rw [e0]
  obtain ⟨env', ⟨o, rfl⟩, hf⟩ := for_turns (c := cf T n) (s := fr s []) (i := 3) (bd := [mnB]) (fun j env => ∃ o, env = [some (.int k), some (.int i), some (.int (manyF k j)), o]) (xs := numsD 0 i) (k := 0) (env := [some (.int k), some (.int i), some (.int 1), none]) ⟨none, rfl⟩ (fun j hj env ⟨o, he⟩ => by
    subst he
    rw [nums_len'] at hj
    rw [Nat.zero_add, nums_get']
    have hb := (J_len k hk j (by omega)).2
    refine ⟨_, ⟨some (.int j), rfl⟩, .inl ?_⟩
    have m1 : mulOk (manyF k j : Int) ((k : Int) + j) := mul_left (by omega)
    have d1 : divOk ((j : Int) + 1) := div_small (by omega) (by omega)
    have e : ((manyF k j : Int) * ((k : Int) + j)).fdiv ((j : Int) + 1) = ((manyF k (j + 1) : Nat) : Int) := by
      rw [Int.fdiv_eq_ediv_of_nonneg _ (by omega)]
      rfl
    unfold mnB
    simp only [List.set_cons_succ, List.set_cons_zero]
    simp only [evSs, evS_ite, evS_set, evS_ret, evS_ex, evS_raise, evS_brk, evS_cont, evS_pass, evT_cmp, evT_chain, evT_call, evT_bi, evT_isi, evT_loc, evT_nt, evT_and, evT_or, evE, evEs, getV, List.getElem?_cons_zero, List.getElem?_cons_succ, Option.bind_some, id_eq, R.opt_some, R.bind_ok, R.bind_exc, R.st_ok, R.st_exc, RS.bind_next, RS.bind_ret, RS.bind_exc, RS.bind_cont, RS.bind_brk, List.set_cons_succ, List.set_cons_zero, Option.map_some, t_bl, Bool.not_true, Bool.not_false, Bool.false_eq_true, if_true, if_false, bi_len_tup, bi_len_lst, bi_int, bn_add, bn_sub, c_eq, c_ne, c_le, c_lt, c_ge, c_gt, b_mul m1, b_div d1, e])
  rw [nums_len', Nat.zero_add] at hf
  have hI : evI (cf T n) (.rng1 (.loc 1)) [some (.int k), some (.int i), some (.int 1), none] (fr s []) = .ok ⟨numsD 0 i, none⟩ (fr s []) := by
    have z := evI_rng1 (c := cf T n) (e := .loc 1) (env := [some (.int k), some (.int i), some (.int 1), none]) (s := fr s []) (s1 := fr s []) (j := (i : Int)) (by simp only [evSs, evS_ite, evS_set, evS_ret, evS_ex, evS_raise, evS_brk, evS_cont, evS_pass, evT_cmp, evT_chain, evT_call, evT_bi, evT_isi, evT_loc, evT_nt, evT_and, evT_or, evE, evEs, getV, List.getElem?_cons_zero, List.getElem?_cons_succ, Option.bind_some, id_eq, R.opt_some, R.bind_ok, R.bind_exc, R.st_ok, R.st_exc, RS.bind_next, RS.bind_ret, RS.bind_exc, RS.bind_cont, RS.bind_brk, List.set_cons_succ, List.set_cons_zero, Option.map_some, t_bl, Bool.not_true, Bool.not_false, Bool.false_eq_true, if_true, if_false, bi_len_tup, bi_len_lst, bi_int, bn_add, bn_sub, c_eq, c_ne, c_le, c_lt, c_ge, c_gt]) (small_of (by omega) (by omega))
    exact z
  have h2 : evS (cf T n) mn2 [some (.int k), some (.int i), some (.int 1), none] (fr s []) = .next [some (.int k), some (.int i), some (.int (manyF k i)), o] (fr s []) := by
    unfold mn2
    rw [evS_fo, hI, R.st_ok]
    exact hf
  simp only [evSs, evS_ite, evS_set, evS_ret, evS_ex, evS_raise, evS_brk, evS_cont, evS_pass, evT_cmp, evT_chain, evT_call, evT_bi, evT_isi, evT_loc, evT_nt, evT_and, evT_or, evE, evEs, getV, List.getElem?_cons_zero, List.getElem?_cons_succ, Option.bind_some, id_eq, R.opt_some, R.bind_ok, R.bind_exc, R.st_ok, R.st_exc, RS.bind_next, RS.bind_ret, RS.bind_exc, RS.bind_cont, RS.bind_brk, List.set_cons_succ, List.set_cons_zero, Option.map_some, t_bl, Bool.not_true, Bool.not_false, Bool.false_eq_true, if_true, if_false, bi_len_tup, bi_len_lst, bi_int, bn_add, bn_sub, c_eq, c_ne, c_le, c_lt, c_ge, c_gt, dfMany, h2]
  exact leave0
/-! ### small_tables -/
def ar1 : St := .ite (.or (.nt (.isi (.loc 1) [.tuple])) (.nt (.chain .le .le (.cst (.int 1)) (.bi .len [.loc 1]) (.gc 62)))) [.ret (some (.cst (.bl false)))] []
def ar2 : St := .ite (.nt (.bi .all [.comp (.call 5 [.loc 0, .loc 4]) (.one 4) (.ex (.loc 1)) none])) [.ret (some (.cst (.bl false)))] []
def ar3 : St := .ret (some (.bi .all [.comp (.cmp .lt (.loc 2) (.loc 3)) (.two 2 3) (.zip (.loc 1) (.sl (.loc 1) (some (.cst (.int 1))) none)) none]))
def dfAreRows : Def := ⟨2, 5, false, [ar1, ar2, ar3]⟩
def cr1 : St := .ite (.nt (.call 63 [.loc 0, .loc 1])) [.raise 64] []
def cr2 : St := .ite (.nt (.call 2 [.loc 2, .cst (.int 0), .gc 65])) [.raise 66] []
def dfChkRows : Def := ⟨3, 3, false, [cr1, cr2]⟩
def dfSmall : Def := ⟨3, 3, false, [.ex (.call 7 [.loc 0]), .ex (.call 67 [.loc 0, .loc 1, .loc 2]), .ret (some (.bi .tuple [.call 68 [.loc 1, .loc 2]]))]⟩
structure Ts (T : Text) : Prop where
  b : Tb T
  d63 : T.defs 63 = some dfAreRows
  d67 : T.defs 67 = some dfChkRows
  d68 : T.defs 68 = some dfRST
  d71 : T.defs 71 = some dfSmall
  g62 : T.gc 62 = some (.int 4)
  g65 : T.gc 65 = some (.int 4)
theorem zip_asc : ∀ {l : List Rw}, AscR l → ∀ x ∈ zipD (l.map dR) ((l.map dR).drop 1), ∃ a b, x = .tup [dR a, dR b] ∧ ll a b = true
  | [], _, x, h => by simp [zipD] at h
  | [a], _, x, h => by simp [zipD] at h
  | a :: b :: l, hl, x, h => by
    simp only [List.map_cons, List.drop_succ_cons, List.drop_zero, zipD] at h
    obtain ⟨h1, h2⟩ := List.pairwise_cons.mp hl
    rcases List.mem_cons.mp h with rfl | h
    · exact ⟨a, b, rfl, h1 b List.mem_cons_self⟩
    · exact zip_asc h2 x (by simpa using h)
theorem zip_len7 : ∀ xs ys : List D, (zipD xs ys).length ≤ xs.length
  | [], _ => by simp [zipD]
  | _ :: _, [] => by simp [zipD]
  | x :: xs, y :: ys => by
    simp only [zipD, List.length_cons]
    have := zip_len7 xs ys
    omega
section
variable {T : Text} (B : Ts T) {w : Nat} {n : Nat} {s : S}
include B
theorem areRows_ok {rows : List Rw} (hr : AscR rows) (h1 : 1 ≤ rows.length) (hk : rows.length ≤ 4) (ho : ∀ r ∈ rows, okR w r) (hw : okW w) : run T (n + 4) 63 [.int w, dT rows] s = .ok (.bl true) s := by
  have lim : LIM = 1000000 := rfl
  rw [run_def B.d63 rfl]
  have e0 : startE dfAreRows.ns [.int w, dT rows] = [some (.int w), some (dT rows), none, none, none] := rfl
  rw [e0]
  have hlen : biD (fr s []) .len [dT rows] = some (.int rows.length) := by
    unfold dT
    rw [bi_len_tup, List.length_map]
  have hty : ([Ty.tuple].any (tyD (fr s []) (dT rows))) = true := rfl
  have s1 : evS (cf T (n + 3)) ar1 [some (.int w), some (dT rows), none, none, none] (fr s []) = .next [some (.int w), some (dT rows), none, none, none] (fr s []) := by
    unfold ar1
    simp only [evSs, evS_ite, evS_set, evS_ret, evS_ex, evS_raise, evS_brk, evS_cont, evS_pass, evT_cmp, evT_chain, evT_call, evT_bi, evT_isi, evT_loc, evT_nt, evT_and, evT_or, evE, evEs, getV, List.getElem?_cons_zero, List.getElem?_cons_succ, Option.bind_some, id_eq, R.opt_some, R.bind_ok, R.bind_exc, R.st_ok, R.st_exc, RS.bind_next, RS.bind_ret, RS.bind_exc, RS.bind_cont, RS.bind_brk, List.set_cons_succ, List.set_cons_zero, Option.map_some, t_bl, Bool.not_true, Bool.not_false, Bool.false_eq_true, if_true, if_false, bi_len_tup, bi_len_lst, bi_int, bn_add, bn_sub, c_eq, c_ne, c_le, c_lt, c_ge, c_gt, hty, hlen, decide_eq_true (show (1 : Int) ≤ rows.length by omega), B.g62, decide_eq_true (show ((rows.length : Nat) : Int) ≤ 4 by omega)]
  have k2 : evE (cf T (n + 3)) (.comp (.call 5 [.loc 0, .loc 4]) (.one 4) (.ex (.loc 1)) none) [some (.int w), some (dT rows), none, none, none] (fr s []) = .ok (.lst (rows.map fun _ => .bl true)) (fr s []) := by
    have hI : evI (cf T (n + 3)) (.ex (.loc 1)) [some (.int w), some (dT rows), none, none, none] (fr s []) = .ok ⟨rows.map dR, none⟩ (fr s []) := by
      simp only [evI, evE, getV, List.getElem?_cons_zero, List.getElem?_cons_succ, Option.bind_some, id_eq, R.opt_some, R.bind_ok]
      rfl
    rw [evE_comp1, hI, R.bind_ok]
    dsimp only
    rw [comp_fm (f := dR) (g := fun _ => some (.bl true))]
    · rw [R.bind_ok]
      congr 2
      exact congrFun List.filterMap_eq_map' rows
    · intro r hr
      simp only [List.set_cons_succ, List.set_cons_zero]
      simp only [evSs, evS_ite, evS_set, evS_ret, evS_ex, evS_raise, evS_brk, evS_cont, evS_pass, evT_cmp, evT_chain, evT_call, evT_bi, evT_isi, evT_loc, evT_nt, evT_and, evT_or, evE, evEs, getV, List.getElem?_cons_zero, List.getElem?_cons_succ, Option.bind_some, id_eq, R.opt_some, R.bind_ok, R.bind_exc, R.st_ok, R.st_exc, RS.bind_next, RS.bind_ret, RS.bind_exc, RS.bind_cont, RS.bind_brk, List.set_cons_succ, List.set_cons_zero, Option.map_some, t_bl, Bool.not_true, Bool.not_false, Bool.false_eq_true, if_true, if_false, bi_len_tup, bi_len_lst, bi_int, bn_add, bn_sub, c_eq, c_ne, c_le, c_lt, c_ge, c_gt, r_row B.b (ho r hr) hw, noExc]
    · omega
  have s2 : evS (cf T (n + 3)) ar2 [some (.int w), some (dT rows), none, none, none] (fr s []) = .next [some (.int w), some (dT rows), none, none, none] (fr s []) := by
    unfold ar2
    rw [evS_ite, evT_nt, evT_bi, bi1 k2, bi_all, all_true]
    rfl
  have k3 : evE (cf T (n + 3)) (.comp (.cmp .lt (.loc 2) (.loc 3)) (.two 2 3) (.zip (.loc 1) (.sl (.loc 1) (some (.cst (.int 1))) none)) none) [some (.int w), some (dT rows), none, none, none] (fr s []) = .ok (.lst ((zipD (rows.map dR) ((rows.map dR).drop 1)).map fun _ => .bl true)) (fr s []) := by
    have hI : evI (cf T (n + 3)) (.zip (.loc 1) (.sl (.loc 1) (some (.cst (.int 1))) none)) [some (.int w), some (dT rows), none, none, none] (fr s []) = .ok ⟨zipD (rows.map dR) ((rows.map dR).drop 1), none⟩ (fr s []) := by
      have hc : slD (fr s []) (dT rows) (some 1) none = some (.tup ((rows.map dR).drop 1)) := by
        show slD (fr s []) (.tup (rows.map dR)) (some 1) none = _
        rw [sl_tup, cut_from _ (by decide)]
        rfl
      simp only [evI, evE, evO, getV, List.getElem?_cons_zero, List.getElem?_cons_succ, Option.bind_some, id_eq, R.opt_some, R.bind_ok, intP, hc]
      rfl
    rw [evE_compT, hI, R.bind_ok]
    dsimp only
    rw [comp_map (g := fun _ => .bl true)]
    · rfl
    · intro x hx
      obtain ⟨a, b, rfl, h⟩ := zip_asc hr x hx
      simp only [putT, List.set_cons_succ, List.set_cons_zero]
      simp only [evSs, evS_ite, evS_set, evS_ret, evS_ex, evS_raise, evS_brk, evS_cont, evS_pass, evT_cmp, evT_chain, evT_call, evT_bi, evT_isi, evT_loc, evT_nt, evT_and, evT_or, evE, evEs, getV, List.getElem?_cons_zero, List.getElem?_cons_succ, Option.bind_some, id_eq, R.opt_some, R.bind_ok, R.bind_exc, R.st_ok, R.st_exc, RS.bind_next, RS.bind_ret, RS.bind_exc, RS.bind_cont, RS.bind_brk, List.set_cons_succ, List.set_cons_zero, Option.map_some, t_bl, Bool.not_true, Bool.not_false, Bool.false_eq_true, if_true, if_false, bi_len_tup, bi_len_lst, bi_int, bn_add, bn_sub, c_eq, c_ne, c_le, c_lt, c_ge, c_gt, lt_Rd, h, noExc]
    · have := zip_len7 (rows.map dR) ((rows.map dR).drop 1)
      rw [List.length_map] at this
      omega
  have s3 : evS (cf T (n + 3)) ar3 [some (.int w), some (dT rows), none, none, none] (fr s []) = .ret (.bl true) (fr s []) := by
    unfold ar3
    rw [evS_ret, bi1 k3, bi_all, all_true]
    rfl
  have hb : dfAreRows.body = [ar1, ar2, ar3] := rfl
  rw [hb, evSs_next s1, evSs_next s2, evSs_ret s3]
  exact leave0
theorem small_ok {rows : List Rw} (hr : AscR rows) (h1 : 1 ≤ rows.length) (hk : rows.length ≤ 4) (ho : ∀ r ∈ rows, okR w r) (hw : okW w) {m : Nat} (hm : m ≤ 4) : run T (n + 6) 71 [.int w, dT rows, .int m] s = .ok (.tup ((Fl rows m).map dT)) s := by
  have a1 : ∀ st, run T (n + 5) 7 [.int w] st = .ok .non st := fun st => r_cw B.b hw
  have a2 : ∀ st, run T (n + 5) 67 [.int w, dT rows, .int m] st = .ok .non st := fun st => by
    rw [run_def B.d67 rfl]
    have e0 : startE dfChkRows.ns [.int w, dT rows, .int m] = [some (.int w), some (dT rows), some (.int m)] := rfl
    rw [e0]
    have b1 : ∀ st, run T (n + 4) 63 [.int w, dT rows] st = .ok (.bl true) st := fun st => areRows_ok B hr h1 hk ho hw
    have b2 : ∀ st, run T (n + 4) 2 [.int (m : Int), .int 0, .int 4] st = .ok (.bl true) st := fun st => by
      rw [r_within B.b.d0 B.b.d2, decide_eq_true (show (0 : Int) ≤ m by omega), decide_eq_true (show (m : Int) ≤ 4 by omega)]
      rfl
    simp only [evSs, evS_ite, evS_set, evS_ret, evS_ex, evS_raise, evS_brk, evS_cont, evS_pass, evT_cmp, evT_chain, evT_call, evT_bi, evT_isi, evT_loc, evT_nt, evT_and, evT_or, evE, evEs, getV, List.getElem?_cons_zero, List.getElem?_cons_succ, Option.bind_some, id_eq, R.opt_some, R.bind_ok, R.bind_exc, R.st_ok, R.st_exc, RS.bind_next, RS.bind_ret, RS.bind_exc, RS.bind_cont, RS.bind_brk, List.set_cons_succ, List.set_cons_zero, Option.map_some, t_bl, Bool.not_true, Bool.not_false, Bool.false_eq_true, if_true, if_false, bi_len_tup, bi_len_lst, bi_int, bn_add, bn_sub, c_eq, c_ne, c_le, c_lt, c_ge, c_gt, dfChkRows, cr1, cr2, b1, b2, B.g65]
    exact leaveN
  have a3 : ∀ st, run T (n + 5) 68 [dT rows, .int m] st = .ok (.lst ((Fl rows m).map dT)) st := fun st => rst_ok B.d68 hr hk hm
  rw [run_def B.d71 rfl]
  have e0 : startE dfSmall.ns [.int w, dT rows, .int m] = [some (.int w), some (dT rows), some (.int m)] := rfl
  rw [e0]
  simp only [evSs, evS_ite, evS_set, evS_ret, evS_ex, evS_raise, evS_brk, evS_cont, evS_pass, evT_cmp, evT_chain, evT_call, evT_bi, evT_isi, evT_loc, evT_nt, evT_and, evT_or, evE, evEs, getV, List.getElem?_cons_zero, List.getElem?_cons_succ, Option.bind_some, id_eq, R.opt_some, R.bind_ok, R.bind_exc, R.st_ok, R.st_exc, RS.bind_next, RS.bind_ret, RS.bind_exc, RS.bind_cont, RS.bind_brk, List.set_cons_succ, List.set_cons_zero, Option.map_some, t_bl, Bool.not_true, Bool.not_false, Bool.false_eq_true, if_true, if_false, bi_len_tup, bi_len_lst, bi_int, bn_add, bn_sub, c_eq, c_ne, c_le, c_lt, c_ge, c_gt, dfSmall, a1, a2, a3, bi_tup_lst]
  exact leave0
end
end Ev

set_option Elab.async false
set_option linter.all false
set_option maxRecDepth 100000
/-! K27e: the law k27. -/
namespace Ev
open PySem
def lr1 : St := .par [1, 2] [.bin .add (.cst (.int 1)) (.call 13 [.loc 0, .cst (.int 3)]), .lst []]
def rowE : E := .bi .tuple [.comp (.call 70 [.loc 0, .lst [.cst (.int 0), .cst (.int 1), .neg (.cst (.int 1)), .neg (.cst (.int 1000)), .cst (.int 1000), .call 13 [.loc 0, .cst (.int 50)]]]) (.one 10) (.rng1 (.loc 1)) none]
def lr2a : St := .set 8 rowE
def lr2b : St := .set 2 (.ite (.cmp .notIn (.loc 8) (.loc 2)) (.bin .add (.loc 2) (.lst [.loc 8])) (.loc 2))
def lr2 : St := .fo (.one 3) (.rng1 (.bin .add (.cst (.int 1)) (.call 13 [.loc 0, .cst (.int 4)]))) [lr2a, lr2b]
def lr3 : St := .par [2, 4] [.bi .tuple [.bi .sorted [.loc 2]], .call 13 [.loc 0, .cst (.int 5)]]
def lr4 : St := .par [5, 6] [.call 71 [.loc 1, .loc 2, .loc 4], .bi .tuple [.call 72 [.loc 2, .loc 4]]]
def lr5 : St := .ite (.or (.nt (.call 69 [.loc 5, .loc 6])) (.cmp .ne (.bi .len [.loc 6]) (.bi .sum [.comp (.call 73 [.bi .len [.loc 2], .loc 11]) (.one 11) (.rng1 (.bin .add (.loc 4) (.cst (.int 1)))) none]))) [.ret (some (.cst (.bl false)))] []
def lr6a : St := .ite (.cmp .isNot (.call 19 [.loc 1, .loc 7]) (.cst (.bl true))) [.ret (some (.cst (.bl false)))] []
def lr6b : St := .set 9 (.call 14 [.loc 1, .loc 7])
def lr6c : St := .ite (.nt (.bi .all [.comp (.and (.cmp .isIn (.loc 12) (.loc 5)) (.cmp .is (.call 18 [.loc 1, .loc 12, .loc 7]) (.cst (.bl true)))) (.one 12) (.ex (.loc 9)) none])) [.ret (some (.cst (.bl false)))] []
def lr6 : St := .fo (.one 7) (.ex (.bin .add (.sl (.loc 5) none (some (.cst (.int 3)))) (.sl (.loc 5) (some (.neg (.cst (.int 6)))) none))) [lr6a, lr6b, lr6c]
def lr7 : St := .ret (some (.cst (.bl true)))
def dfLIR : Def := ⟨1, 13, false, [lr1, lr2, lr3, lr4, lr5, lr6, lr7]⟩
def lw1 : St := .set 1 (.call 74 [.loc 0])
def lw2 : St := .ite (.nt (.bi .all [.comp (.call 75 [.loc 1]) (.one 2) (.rng1 (.cst (.int 5))) none])) [.ret (some (.cst (.bl false)))] []
def lw3 : St := .ret (some (.cmp .eq (.call 71 [.cst (.int 1), .tup [.tup [.cst (.int 2)], .tup [.cst (.int 5)]], .cst (.int 2)]) (.tup [.tup [], .tup [.tup [.cst (.int 2)]], .tup [.tup [.cst (.int 5)]], .tup [.tup [.cst (.int 2)], .tup [.cst (.int 2)]], .tup [.tup [.cst (.int 2)], .tup [.cst (.int 5)]], .tup [.tup [.cst (.int 5)], .tup [.cst (.int 5)]]])))
def dfLw27 : Def := ⟨1, 3, false, [lw1, lw2, lw3]⟩
structure T27 (T : Text) : Prop where
  s : Ts T
  d13 : T.defs 13 = some dfHDraw
  d74 : T.defs 74 = some dfHand
  d70 : T.defs 70 = some dfAny
  d69 : T.defs 69 = some dfIs
  d72 : T.defs 72 = some dfMS
  d73 : T.defs 73 = some dfMany
theorem ints_of {P : Int → Prop} : ∀ {ys : List D}, (∀ y ∈ ys, ∃ i, y = .int i ∧ P i) → ∃ r : Rw, ys = r.map D.int ∧ ∀ i ∈ r, P i
  | [], _ => ⟨[], rfl, fun i h => absurd h (by simp)⟩
  | y :: ys, h => by
    obtain ⟨i, rfl, hi⟩ := h y List.mem_cons_self
    obtain ⟨r, rfl, hr⟩ := ints_of (P := P) (ys := ys) fun z hz => h z (List.mem_cons_of_mem _ hz)
    exact ⟨i :: r, rfl, fun j hj => by
      rcases List.mem_cons.mp hj with rfl | hj
      · exact hi
      · exact hr j hj⟩
theorem map_of {α : Type} {g : α → D} : ∀ {ys : List D}, (∀ y ∈ ys, ∃ a, y = g a) → ∃ l : List α, ys = l.map g
  | [], _ => ⟨[], rfl⟩
  | y :: ys, h => by
    obtain ⟨a, rfl⟩ := h y List.mem_cons_self
    obtain ⟨l, rfl⟩ := map_of (g := g) (ys := ys) fun z hz => h z (List.mem_cons_of_mem _ hz)
    exact ⟨a :: l, rfl⟩
/-- unlike rows, sorted -/
theorem sort_rows {rows : List Rw} (nd : rows.Nodup) : ∃ rows' : List Rw, isortE (rows.map dR) = rows'.map dR ∧ AscR rows' ∧ rows'.length = rows.length ∧ ∀ r, r ∈ rows' ↔ r ∈ rows := by
  have hi : Its (rows.map dR) := fun x hx => by
    obtain ⟨r, _, rfl⟩ := List.mem_map.mp hx
    exact dR_itree r
  obtain ⟨rows', e⟩ := map_of (g := dR) (ys := isortE (rows.map dR)) fun y hy => by
    obtain ⟨r, _, rfl⟩ := List.mem_map.mp ((isort_perm _).mem_iff.mp hy)
    exact ⟨r, rfl⟩
  have ndm : (rows.map dR).Nodup := (List.pairwise_map).mpr (nd.imp fun h e => h (dR_inj e))
  have ha : Asc (isortE (rows.map dR)) := asc_of (its_sort hi) (isort_srt _) ((isort_perm _).nodup_iff.mpr ndm)
  refine ⟨rows', e, ?_, ?_, fun r => ?_⟩
  · rw [e] at ha
    have ha : (rows'.map dR).Pairwise _ := ha
    rw [List.pairwise_map] at ha
    exact ha.imp fun h => by rw [lxe_R] at h; exact h
  · have z := (isort_perm (rows.map dR)).length_eq
    rw [e, List.length_map, List.length_map] at z
    exact z
  · have z := (isort_perm (rows.map dR)).mem_iff (a := dR r)
    rw [e] at z
    constructor
    · intro h
      obtain ⟨q, hq, eq⟩ := List.mem_map.mp (z.mp (List.mem_map.mpr ⟨r, h, rfl⟩))
      rw [← dR_inj eq]; exact hq
    · intro h
      obtain ⟨q, hq, eq⟩ := List.mem_map.mp (z.mpr (List.mem_map.mpr ⟨r, h, rfl⟩))
      rw [← dR_inj eq]; exact hq
theorem sort_R {w : Nat} {rows : List Rw} (hw : 1 ≤ w) (h : ∀ r ∈ rows, r.length = w) : sortD (rows.map dR) = some (isortE (rows.map dR)) := by
  have hi : ∀ x ∈ rows.map dR, x.itree = true := fun x hx => by
    obtain ⟨t, _, rfl⟩ := List.mem_map.mp hx
    exact dR_itree t
  have hc : ∀ x ∈ rows.map dR, ∀ y ∈ rows.map dR, (x.lt y).isSome = true := fun x h y k => by
    obtain ⟨t, _, rfl⟩ := List.mem_map.mp h
    obtain ⟨u, _, rfl⟩ := List.mem_map.mp k
    exact dR_lt t u
  unfold sortD
  rw [if_pos, isortD_eq hi hc]
  refine ⟨itrees_all hi, List.all_eq_true.mpr fun x h => List.all_eq_true.mpr fun y k => hc x h y k, .inr (.inl ?_)⟩
  refine List.all_eq_true.mpr fun x hx => ?_
  obtain ⟨r, hr, rfl⟩ := List.mem_map.mp hx
  have := h r hr
  cases r with
  | nil => simp at this; omega
  | cons a r => rfl
theorem cut_mem {xs : List D} {lo hi : Option Int} {x : D} (h : x ∈ cutD xs lo hi) : x ∈ xs := by
  unfold cutD at h
  exact List.mem_of_mem_drop (List.mem_of_mem_take h)
theorem cut_len (xs : List D) (lo hi : Option Int) : (cutD xs lo hi).length ≤ xs.length := by
  unfold cutD
  rw [List.length_take, List.length_drop]
  omega
theorem log_small {i : Int} (h : -1000 ≤ i ∧ i ≤ 1000) : i.natAbs.log2 < 1920 := by
  have h1 : i.natAbs < 2 ^ 1920 := Nat.lt_of_lt_of_le (show i.natAbs < 2 ^ 10 by omega) (Nat.pow_le_pow_right (by decide) (by decide))
  by_cases e : i.natAbs = 0
  · rw [e]; decide
  · exact (Nat.log2_lt e).mpr h1
/-- a list of tables of such rows -/
theorem ev3_tables {w : Nat} {l : List (List Rw)} (hl : l.length ≤ 1000) (h : ∀ t ∈ l, okT w t) (hw : okW w) : Ev3 3 (.tup (l.map dT)) := by
  have lim : LIM = 1000000 := rfl
  obtain ⟨w1, w2⟩ := hw
  refine ⟨_, rfl, by rw [List.length_map]; omega, fun y hy => ?_⟩
  obtain ⟨t, ht, rfl⟩ := List.mem_map.mp hy
  obtain ⟨t1, t2⟩ := h t ht
  refine ⟨_, rfl, by rw [List.length_map]; omega, fun y hy => ?_⟩
  obtain ⟨r, hr, rfl⟩ := List.mem_map.mp hy
  obtain ⟨r1, r2⟩ := t2 r hr
  refine ⟨_, rfl, by rw [List.length_map]; omega, fun y hy => ?_⟩
  obtain ⟨i, hi, rfl⟩ := List.mem_map.mp hy
  exact ⟨i, rfl, log_small (r2 i hi)⟩
section
variable {T : Text} (B : T27 T) {n : Nat} {d k : Nat}
include B
theorem row_ok {s : S} (hh : HandAt s d k) {w : Nat} (hw : okW w) (env : Env) (h0 : getV env 0 = some (.ref d k)) (h1 : getV env 1 = some (.int w)) (hset : ∀ x, getV (env.set 10 x) 0 = some (.ref d k)) :
    ∃ (r : Rw) (s' : S), okR w r ∧ Mv d k s s' ∧ evE (cf T (n + 6)) rowE env s = .ok (dR r) s' := by
  have lim : LIM = 1000000 := rfl
  obtain ⟨w1, w2⟩ := hw
  have hI : evI (cf T (n + 6)) (.rng1 (.loc 1)) env s = .ok ⟨numsD 0 w, none⟩ s := by
    have z := evI_rng1 (c := cf T (n + 6)) (e := .loc 1) (env := env) (s := s) (s1 := s) (j := (w : Int)) (by simp only [evE, h1, R.opt_some]) (small_of (by omega) (by omega))
    exact z
  obtain ⟨ys, s', l1, p1, m1, hc⟩ := comp_mv (d := d) (k := k) (P := fun y => ∃ i : Int, y = .int i ∧ -1000 ≤ i ∧ i ≤ 1000) (step := fun x s => noExc ((evE (cf T (n + 6)) (.call 70 [.loc 0, .lst [.cst (.int 0), .cst (.int 1), .neg (.cst (.int 1)), .neg (.cst (.int 1000)), .cst (.int 1000), .call 13 [.loc 0, .cst (.int 50)]]]) (env.set 10 (some x)) s).bind fun y s => .ok (some y) s)) (xs := numsD 0 w) (s := s) hh (fun x _ s hh => by
    obtain ⟨v, s1, ⟨v0, v1⟩, m1, hv⟩ := hand_draw B.d13 hh (many := 50) (by decide) (by decide) (n + 5)
    obtain ⟨y, s2, hy, m2, h2⟩ := any_ok B.d13 B.d70 m1.at_ (xs := [.int 0, .int 1, .int (-1), .int (-1000), .int 1000, .int v]) (by simp) (by simp; omega) (n + 4)
    have hyi : ∃ i : Int, y = .int i ∧ -1000 ≤ i ∧ i ≤ 1000 := by
      simp only [List.mem_cons, List.not_mem_nil, or_false] at hy
      rcases hy with rfl | rfl | rfl | rfl | rfl | rfl
      · exact ⟨_, rfl, by decide, by decide⟩
      · exact ⟨_, rfl, by decide, by decide⟩
      · exact ⟨_, rfl, by decide, by decide⟩
      · exact ⟨_, rfl, by decide, by decide⟩
      · exact ⟨_, rfl, by decide, by decide⟩
      · exact ⟨_, rfl, by omega, by omega⟩
    refine ⟨y, s2, hyi, m1.trans m2, ?_⟩
    have h3 := h2 (by obtain ⟨i, rfl, _⟩ := hyi; rfl)
    have hv' : run T (n + 6) 13 [.ref d k, .int 50] s = .ok (.int v) s1 := hv
    have h3' : run T (n + 6) 70 [.ref d k, .lst [.int 0, .int 1, .int (-1), .int (-1000), .int 1000, .int v]] s1 = .ok y s2 := h3
    simp only [evE, evEs, hset, R.opt_some, R.bind_ok, hv', List.length_cons, List.length_nil, Nat.zero_add, Nat.reduceAdd, if_pos (show 6 ≤ LIM by decide), h3', noExc]) (by rw [nums_len']; omega)
  rw [nums_len'] at l1
  obtain ⟨r, rfl, hr⟩ := ints_of p1
  rw [List.length_map] at l1
  refine ⟨r, s', ⟨l1, hr⟩, m1, ?_⟩
  have key : evE (cf T (n + 6)) (.comp (.call 70 [.loc 0, .lst [.cst (.int 0), .cst (.int 1), .neg (.cst (.int 1)), .neg (.cst (.int 1000)), .cst (.int 1000), .call 13 [.loc 0, .cst (.int 50)]]]) (.one 10) (.rng1 (.loc 1)) none) env s = .ok (.lst (r.map .int)) s' := by
    rw [evE_comp1, hI, R.bind_ok]
    dsimp only
    rw [hc]
    rfl
  unfold rowE
  rw [bi1 key, bi_tup_lst]
  rfl
end
end Ev

set_option Elab.async false
set_option linter.all false
set_option maxRecDepth 100000
/-! K27f: the law k27. -/
namespace Ev
open PySem
theorem in_tup (s : S) (x : List Rw) (l : List (List Rw)) : inD s (dT x) (.tup (l.map dT)) = some (decide (x ∈ l)) := by
  unfold inD
  simp only [S.view]
  rw [dT_plain, plains_map fun y _ => dT_plain y, Bool.and_self, if_pos rfl, any_in]
theorem in_rows (s : S) (x : Rw) (l : List Rw) : inD s (dR x) (.lst (l.map dR)) = some (decide (x ∈ l)) := by
  unfold inD
  simp only [S.view]
  rw [dR_plain, plains_R, Bool.and_self, if_pos rfl, any_R]
theorem sum_cast {α : Type} (f : α → Nat) : ∀ l : List α, (l.map fun i => ((f i : Nat) : Int)).sum = (((l.map f).sum : Nat) : Int)
  | [] => rfl
  | a :: l => by
    simp only [List.map_cons, List.sum_cons, sum_cast f l]
    omega
theorem Fl_many {rows : List Rw} (hr : AscR rows) (hk : rows.length ≤ 4) {m : Nat} (hm : m ≤ 4) : (Fl rows m).length = ((List.range (m + 1)).map (manyF rows.length)).sum := by
  rw [Fl_len]
  congr 1
  refine List.map_congr_left fun i hi => ?_
  exact (Lv_len hr hk (by have := List.mem_range.mp hi; omega)).1
/-- rows that were drawn -/
structure Rws (w : Nat) (rows : List Rw) : Prop where
  asc : AscR rows
  one : 1 ≤ rows.length
  four : rows.length ≤ 4
  ok : ∀ r ∈ rows, okR w r
theorem Rws.tab {w m : Nat} {rows : List Rw} (h : Rws w rows) (hm : m ≤ 4) {t : List Rw} (ht : t ∈ Fl rows m) : okT w t := by
  obtain ⟨h1, h2, _⟩ := mem_Fl.mp ht
  exact ⟨by omega, fun r hr => h.ok r (h2 r hr)⟩
section
variable {T : Text} (B : T27 T) {n : Nat} {d k : Nat}
include B
theorem lr1_ok {s : S} (hh : HandAt s d k) : ∃ (w : Nat) (s' : S), (1 ≤ w ∧ w ≤ 3) ∧ Mv d k s s' ∧ evS (cf T (n + 6)) lr1 [some (.ref d k), none, none, none, none, none, none, none, none, none, none, none, none] s = .next [some (.ref d k), some (.int w), some (.lst []), none, none, none, none, none, none, none, none, none, none] s' := by
  obtain ⟨v, s1, ⟨v0, v1⟩, m1, hv⟩ := hand_draw B.d13 hh (many := 3) (by decide) (by decide) (n + 5)
  have hv' : run T (n + 6) 13 [.ref d k, .int 3] s = .ok (.int v) s1 := hv
  refine ⟨(1 + v).toNat, s1, by omega, m1, ?_⟩
  have e : (((1 + v).toNat : Nat) : Int) = 1 + v := by omega
  rw [e]
  unfold lr1
  simp only [evSs, evS_ite, evS_set, evS_ret, evS_ex, evS_raise, evS_brk, evS_cont, evS_pass, evT_cmp, evT_chain, evT_call, evT_bi, evT_isi, evT_loc, evT_nt, evT_and, evT_or, evE, evEs, getV, List.getElem?_cons_zero, List.getElem?_cons_succ, Option.bind_some, id_eq, R.opt_some, R.bind_ok, R.bind_exc, R.st_ok, R.st_exc, RS.bind_next, RS.bind_ret, RS.bind_exc, RS.bind_cont, RS.bind_brk, List.set_cons_succ, List.set_cons_zero, Option.map_some, t_bl, Bool.not_true, Bool.not_false, Bool.false_eq_true, if_true, if_false, bi_len_tup, bi_len_lst, bi_int, bn_add, bn_sub, c_eq, c_ne, c_le, c_lt, c_ge, c_gt, evS_par, hv', List.length_nil, if_pos (show 0 ≤ LIM by decide), putI, RS.opt_some]
theorem lr2_ok {s : S} (hh : HandAt s d k) {w : Nat} (hw : okW w) : ∃ (rows : List Rw) (b3 b8 : Option D) (s' : S), (rows.Nodup ∧ (∀ r ∈ rows, okR w r) ∧ 1 ≤ rows.length ∧ rows.length ≤ 4) ∧ Mv d k s s' ∧ evS (cf T (n + 6)) lr2 [some (.ref d k), some (.int w), some (.lst []), none, none, none, none, none, none, none, none, none, none] s = .next [some (.ref d k), some (.int w), some (.lst (rows.map dR)), b3, none, none, none, none, b8, none, none, none, none] s' := by
  have lim : LIM = 1000000 := rfl
  obtain ⟨v, s1, ⟨v0, v1⟩, m1, hv⟩ := hand_draw B.d13 hh (many := 4) (by decide) (by decide) (n + 5)
  have hv' : run T (n + 6) 13 [.ref d k, .int 4] s = .ok (.int v) s1 := hv
  obtain ⟨m, hm⟩ : ∃ m : Nat, (1 + v).toNat = m := ⟨_, rfl⟩
  obtain ⟨env', s', ⟨rows, b3, b8, rfl, nd, ok, l1, l2, m2⟩, hf⟩ := for_stN (c := cf T (n + 6)) (i := 3) (bd := [lr2a, lr2b])
    (fun j env st => ∃ (rows : List Rw) (b3 b8 : Option D), env = [some (.ref d k), some (.int w), some (.lst (rows.map dR)), b3, none, none, none, none, b8, none, none, none, none] ∧ rows.Nodup ∧ (∀ r ∈ rows, okR w r) ∧ rows.length ≤ j ∧ (1 ≤ j → 1 ≤ rows.length) ∧ Mv d k s st)
    (xs := numsD 0 m) (k := 0) (env := [some (.ref d k), some (.int w), some (.lst []), none, none, none, none, none, none, none, none, none, none]) (s := s1)
    ⟨[], none, none, rfl, List.nodup_nil, fun r h => absurd h (by simp), Nat.le_refl _, fun h => absurd h (by decide), m1⟩ (fun j hj env st ⟨rows, b3, b8, henv, nd, ok, l1, l2, m2⟩ => by
      subst henv
      rw [nums_len'] at hj
      rw [Nat.zero_add] at *
      rw [nums_get']
      obtain ⟨r, s2, hr, m3, hrow⟩ := row_ok B (n := n) m2.at_ hw [some (.ref d k), some (.int w), some (.lst (rows.map dR)), some (.int j), none, none, none, none, b8, none, none, none, none] rfl rfl (fun x => rfl)
      have hA : evS (cf T (n + 6)) lr2a [some (.ref d k), some (.int w), some (.lst (rows.map dR)), some (.int j), none, none, none, none, b8, none, none, none, none] st = .next [some (.ref d k), some (.int w), some (.lst (rows.map dR)), some (.int j), none, none, none, none, some (dR r), none, none, none, none] s2 := by
        unfold lr2a
        rw [evS_set, hrow]
        rfl
      by_cases q : r ∈ rows
      · have hB : evS (cf T (n + 6)) lr2b [some (.ref d k), some (.int w), some (.lst (rows.map dR)), some (.int j), none, none, none, none, some (dR r), none, none, none, none] s2 = .next [some (.ref d k), some (.int w), some (.lst (rows.map dR)), some (.int j), none, none, none, none, some (dR r), none, none, none, none] s2 := by
          unfold lr2b
          simp only [evSs, evS_ite, evS_set, evS_ret, evS_ex, evS_raise, evS_brk, evS_cont, evS_pass, evT_cmp, evT_chain, evT_call, evT_bi, evT_isi, evT_loc, evT_nt, evT_and, evT_or, evE, evEs, getV, List.getElem?_cons_zero, List.getElem?_cons_succ, Option.bind_some, id_eq, R.opt_some, R.bind_ok, R.bind_exc, R.st_ok, R.st_exc, RS.bind_next, RS.bind_ret, RS.bind_exc, RS.bind_cont, RS.bind_brk, List.set_cons_succ, List.set_cons_zero, Option.map_some, t_bl, Bool.not_true, Bool.not_false, Bool.false_eq_true, if_true, if_false, bi_len_tup, bi_len_lst, bi_int, bn_add, bn_sub, c_eq, c_ne, c_le, c_lt, c_ge, c_gt, cmpD, in_rows, decide_eq_true q]
        refine ⟨_, s2, ⟨rows, some (.int j), some (dR r), rfl, nd, ok, by omega, fun _ => List.length_pos_of_mem q, m2.trans m3⟩, .inl ?_⟩
        simp only [List.set_cons_succ, List.set_cons_zero]
        rw [evSs_next hA, evSs_next hB]
        simp only [evSs]
      · have ha := add_lst (st := s2) (xs := rows.map dR) (ys := [dR r]) (by rw [List.length_map]; show rows.length + 1 ≤ LIM; omega)
        have hap : rows.map dR ++ [dR r] = (rows ++ [r]).map dR := by rw [List.map_append]; rfl
        rw [hap] at ha
        have hB : evS (cf T (n + 6)) lr2b [some (.ref d k), some (.int w), some (.lst (rows.map dR)), some (.int j), none, none, none, none, some (dR r), none, none, none, none] s2 = .next [some (.ref d k), some (.int w), some (.lst ((rows ++ [r]).map dR)), some (.int j), none, none, none, none, some (dR r), none, none, none, none] s2 := by
          unfold lr2b
          simp only [evSs, evS_ite, evS_set, evS_ret, evS_ex, evS_raise, evS_brk, evS_cont, evS_pass, evT_cmp, evT_chain, evT_call, evT_bi, evT_isi, evT_loc, evT_nt, evT_and, evT_or, evE, evEs, getV, List.getElem?_cons_zero, List.getElem?_cons_succ, Option.bind_some, id_eq, R.opt_some, R.bind_ok, R.bind_exc, R.st_ok, R.st_exc, RS.bind_next, RS.bind_ret, RS.bind_exc, RS.bind_cont, RS.bind_brk, List.set_cons_succ, List.set_cons_zero, Option.map_some, t_bl, Bool.not_true, Bool.not_false, Bool.false_eq_true, if_true, if_false, bi_len_tup, bi_len_lst, bi_int, bn_add, bn_sub, c_eq, c_ne, c_le, c_lt, c_ge, c_gt, cmpD, in_rows, decide_eq_false q, List.length_cons, List.length_nil, Nat.zero_add, if_pos (show 1 ≤ LIM by decide), ha]
        refine ⟨_, s2, ⟨rows ++ [r], some (.int j), some (dR r), rfl, ?_, ?_, ?_, fun _ => ?_, m2.trans m3⟩, .inl ?_⟩
        · rw [List.nodup_append]
          refine ⟨nd, by simp, fun a h1 b h2 => ?_⟩
          rw [List.mem_singleton.mp h2]
          exact fun e => q (by rw [← e]; exact h1)
        · intro x hx
          rcases List.mem_append.mp hx with h | h
          · exact ok x h
          · rw [List.mem_singleton.mp h]; exact hr
        · rw [List.length_append]
          show rows.length + 1 ≤ j + 1
          omega
        · rw [List.length_append]
          show 1 ≤ rows.length + 1
          omega
        · simp only [List.set_cons_succ, List.set_cons_zero]
          rw [evSs_next hA, evSs_next hB]
          simp only [evSs])
  rw [nums_len', Nat.zero_add] at l1 l2
  refine ⟨rows, b3, b8, s', ⟨nd, ok, l2 (by omega), by omega⟩, m2, ?_⟩
  have hI : evI (cf T (n + 6)) (.rng1 (.bin .add (.cst (.int 1)) (.call 13 [.loc 0, .cst (.int 4)]))) [some (.ref d k), some (.int w), some (.lst []), none, none, none, none, none, none, none, none, none, none] s = .ok ⟨numsD 0 m, none⟩ s1 := by
    have z := evI_rng1 (c := cf T (n + 6)) (e := .bin .add (.cst (.int 1)) (.call 13 [.loc 0, .cst (.int 4)])) (env := [some (.ref d k), some (.int w), some (.lst []), none, none, none, none, none, none, none, none, none, none]) (s := s) (s1 := s1) (j := 1 + v) (by simp only [evSs, evS_ite, evS_set, evS_ret, evS_ex, evS_raise, evS_brk, evS_cont, evS_pass, evT_cmp, evT_chain, evT_call, evT_bi, evT_isi, evT_loc, evT_nt, evT_and, evT_or, evE, evEs, getV, List.getElem?_cons_zero, List.getElem?_cons_succ, Option.bind_some, id_eq, R.opt_some, R.bind_ok, R.bind_exc, R.st_ok, R.st_exc, RS.bind_next, RS.bind_ret, RS.bind_exc, RS.bind_cont, RS.bind_brk, List.set_cons_succ, List.set_cons_zero, Option.map_some, t_bl, Bool.not_true, Bool.not_false, Bool.false_eq_true, if_true, if_false, bi_len_tup, bi_len_lst, bi_int, bn_add, bn_sub, c_eq, c_ne, c_le, c_lt, c_ge, c_gt, hv']) (small_of (by omega) (by omega))
    rw [hm] at z
    exact z
  unfold lr2
  rw [evS_fo, hI, R.st_ok]
  exact hf
theorem lr3_ok {s : S} (hh : HandAt s d k) {w : Nat} (hw : okW w) {rows : List Rw} (nd : rows.Nodup) (ok : ∀ r ∈ rows, okR w r) (l1 : 1 ≤ rows.length) (l2 : rows.length ≤ 4) (b3 b8 : Option D) : ∃ (rows' : List Rw) (m : Nat) (s' : S), Rws w rows' ∧ m ≤ 4 ∧ Mv d k s s' ∧ evS (cf T (n + 6)) lr3 [some (.ref d k), some (.int w), some (.lst (rows.map dR)), b3, none, none, none, none, b8, none, none, none, none] s = .next [some (.ref d k), some (.int w), some (dT rows'), b3, some (.int m), none, none, none, b8, none, none, none, none] s' := by
  obtain ⟨rows', e, asc, len, mem⟩ := sort_rows nd
  obtain ⟨v, s1, ⟨v0, v1⟩, m1, hv⟩ := hand_draw B.d13 hh (many := 5) (by decide) (by decide) (n + 5)
  have hv' : run T (n + 6) 13 [.ref d k, .int 5] s = .ok (.int v) s1 := hv
  obtain ⟨m, hm⟩ : ∃ m : Nat, v = (m : Int) := ⟨v.toNat, by omega⟩
  refine ⟨rows', m, s1, ⟨asc, by omega, by omega, fun r hr => ok r ((mem r).mp hr)⟩, by omega, m1, ?_⟩
  have hs : biD s .sorted [.lst (rows.map dR)] = some (.lst (rows'.map dR)) := by
    rw [bi_sorted, if_pos (plains_R rows), sort_R hw.1 (fun r hr => (ok r hr).1), e]
    rfl
  have ht : biD s .tuple [.lst (rows'.map dR)] = some (dT rows') := bi_tup_lst
  unfold lr3
  simp only [evSs, evS_ite, evS_set, evS_ret, evS_ex, evS_raise, evS_brk, evS_cont, evS_pass, evT_cmp, evT_chain, evT_call, evT_bi, evT_isi, evT_loc, evT_nt, evT_and, evT_or, evE, evEs, getV, List.getElem?_cons_zero, List.getElem?_cons_succ, Option.bind_some, id_eq, R.opt_some, R.bind_ok, R.bind_exc, R.st_ok, R.st_exc, RS.bind_next, RS.bind_ret, RS.bind_exc, RS.bind_cont, RS.bind_brk, List.set_cons_succ, List.set_cons_zero, Option.map_some, t_bl, Bool.not_true, Bool.not_false, Bool.false_eq_true, if_true, if_false, bi_len_tup, bi_len_lst, bi_int, bn_add, bn_sub, c_eq, c_ne, c_le, c_lt, c_ge, c_gt, evS_par, hs, ht, hv', hm, putI, RS.opt_some]
theorem lr4_ok {s : S} {w : Nat} (hw : okW w) {rows : List Rw} (hr : Rws w rows) {m : Nat} (hm : m ≤ 4) (a0 b3 b8 : Option D) : evS (cf T (n + 6)) lr4 [a0, some (.int w), some (dT rows), b3, some (.int m), none, none, none, b8, none, none, none, none] s = .next [a0, some (.int w), some (dT rows), b3, some (.int m), some (.tup ((Fl rows m).map dT)), some (.tup ((Fl rows m).map dT)), none, b8, none, none, none, none] s := by
  have h1 : ∀ st, run T (n + 6) 71 [.int w, dT rows, .int m] st = .ok (.tup ((Fl rows m).map dT)) st := fun st => small_ok B.s hr.asc hr.one hr.four hr.ok hw hm
  have h2 : ∀ st, run T (n + 6) 72 [dT rows, .int m] st = .ok (.lst ((Fl rows m).map dT)) st := fun st => ms_ok B.d72 hr.asc hr.four hm
  unfold lr4
  simp only [evSs, evS_ite, evS_set, evS_ret, evS_ex, evS_raise, evS_brk, evS_cont, evS_pass, evT_cmp, evT_chain, evT_call, evT_bi, evT_isi, evT_loc, evT_nt, evT_and, evT_or, evE, evEs, getV, List.getElem?_cons_zero, List.getElem?_cons_succ, Option.bind_some, id_eq, R.opt_some, R.bind_ok, R.bind_exc, R.st_ok, R.st_exc, RS.bind_next, RS.bind_ret, RS.bind_exc, RS.bind_cont, RS.bind_brk, List.set_cons_succ, List.set_cons_zero, Option.map_some, t_bl, Bool.not_true, Bool.not_false, Bool.false_eq_true, if_true, if_false, bi_len_tup, bi_len_lst, bi_int, bn_add, bn_sub, c_eq, c_ne, c_le, c_lt, c_ge, c_gt, evS_par, h1, h2, bi_tup_lst, putI, RS.opt_some]
theorem lr5_ok {s : S} {w : Nat} (hw : okW w) {rows : List Rw} (hr : Rws w rows) {m : Nat} (hm : m ≤ 4) (a0 b3 b8 : Option D) : evS (cf T (n + 6)) lr5 [a0, some (.int w), some (dT rows), b3, some (.int m), some (.tup ((Fl rows m).map dT)), some (.tup ((Fl rows m).map dT)), none, b8, none, none, none, none] s = .next [a0, some (.int w), some (dT rows), b3, some (.int m), some (.tup ((Fl rows m).map dT)), some (.tup ((Fl rows m).map dT)), none, b8, none, none, none, none] s := by
  have lim : LIM = 1000000 := rfl
  have hfl := Fl_le hr.asc hr.four hm
  have h1 : ∀ st, run T (n + 6) 69 [.tup ((Fl rows m).map dT), .tup ((Fl rows m).map dT)] st = .ok (.bl true) st := fun st => is_ok B.d69 3 _ (ev3_tables (by omega) (fun t ht => hr.tab hm ht) hw) (n + 2) st
  have key : evE (cf T (n + 6)) (.comp (.call 73 [.bi .len [.loc 2], .loc 11]) (.one 11) (.rng1 (.bin .add (.loc 4) (.cst (.int 1)))) none) [a0, some (.int w), some (dT rows), b3, some (.int m), some (.tup ((Fl rows m).map dT)), some (.tup ((Fl rows m).map dT)), none, b8, none, none, none, none] s = .ok (.lst (((List.range (m + 1)).map fun i => ((manyF rows.length i : Nat) : Int)).map .int)) s := by
    have hI : evI (cf T (n + 6)) (.rng1 (.bin .add (.loc 4) (.cst (.int 1)))) [a0, some (.int w), some (dT rows), b3, some (.int m), some (.tup ((Fl rows m).map dT)), some (.tup ((Fl rows m).map dT)), none, b8, none, none, none, none] s = .ok ⟨numsD 0 (m + 1), none⟩ s := by
      have z := evI_rng1 (c := cf T (n + 6)) (e := .bin .add (.loc 4) (.cst (.int 1))) (env := [a0, some (.int w), some (dT rows), b3, some (.int m), some (.tup ((Fl rows m).map dT)), some (.tup ((Fl rows m).map dT)), none, b8, none, none, none, none]) (s := s) (s1 := s) (j := (m : Int) + 1) (by simp only [evSs, evS_ite, evS_set, evS_ret, evS_ex, evS_raise, evS_brk, evS_cont, evS_pass, evT_cmp, evT_chain, evT_call, evT_bi, evT_isi, evT_loc, evT_nt, evT_and, evT_or, evE, evEs, getV, List.getElem?_cons_zero, List.getElem?_cons_succ, Option.bind_some, id_eq, R.opt_some, R.bind_ok, R.bind_exc, R.st_ok, R.st_exc, RS.bind_next, RS.bind_ret, RS.bind_exc, RS.bind_cont, RS.bind_brk, List.set_cons_succ, List.set_cons_zero, Option.map_some, t_bl, Bool.not_true, Bool.not_false, Bool.false_eq_true, if_true, if_false, bi_len_tup, bi_len_lst, bi_int, bn_add, bn_sub, c_eq, c_ne, c_le, c_lt, c_ge, c_gt]) (small_of (by omega) (by omega))
      exact z
    have hlen : ∀ st, biD st .len [dT rows] = some (.int rows.length) := fun st => by
      unfold dT
      rw [bi_len_tup, List.length_map]
    rw [evE_comp1, hI, R.bind_ok, numsD_map]
    dsimp only
    rw [comp_fm (f := fun i : Nat => D.int (i : Nat)) (g := fun i => some (.int ((manyF rows.length i : Nat) : Int)))]
    · rw [R.bind_ok, List.map_map]
      congr 2
      exact congrFun List.filterMap_eq_map' _
    · intro i hi
      have hi := List.mem_range.mp hi
      have h3 : ∀ st, run T (n + 6) 73 [.int (rows.length : Nat), .int (i : Nat)] st = .ok (.int (manyF rows.length i)) st := fun st => many_ok B.d73 hr.four (by omega)
      simp only [List.set_cons_succ, List.set_cons_zero]
      simp only [evSs, evS_ite, evS_set, evS_ret, evS_ex, evS_raise, evS_brk, evS_cont, evS_pass, evT_cmp, evT_chain, evT_call, evT_bi, evT_isi, evT_loc, evT_nt, evT_and, evT_or, evE, evEs, getV, List.getElem?_cons_zero, List.getElem?_cons_succ, Option.bind_some, id_eq, R.opt_some, R.bind_ok, R.bind_exc, R.st_ok, R.st_exc, RS.bind_next, RS.bind_ret, RS.bind_exc, RS.bind_cont, RS.bind_brk, List.set_cons_succ, List.set_cons_zero, Option.map_some, t_bl, Bool.not_true, Bool.not_false, Bool.false_eq_true, if_true, if_false, bi_len_tup, bi_len_lst, bi_int, bn_add, bn_sub, c_eq, c_ne, c_le, c_lt, c_ge, c_gt, hlen, h3, noExc]
    · rw [List.length_range]
      omega
  have ks : evE (cf T (n + 6)) (.bi .sum [.comp (.call 73 [.bi .len [.loc 2], .loc 11]) (.one 11) (.rng1 (.bin .add (.loc 4) (.cst (.int 1)))) none]) [a0, some (.int w), some (dT rows), b3, some (.int m), some (.tup ((Fl rows m).map dT)), some (.tup ((Fl rows m).map dT)), none, b8, none, none, none, none] s = .ok (.int ((Fl rows m).length : Nat)) s := by
    rw [bi1 key]
    have e : biD s .sum [.lst (((List.range (m + 1)).map fun i => ((manyF rows.length i : Nat) : Int)).map .int)] = some (.int ((Fl rows m).length : Nat)) := by
      show (intsD (((List.range (m + 1)).map fun i => ((manyF rows.length i : Nat) : Int)).map .int)).map (fun ns => D.int ns.sum) = _
      rw [intsD_map, Fl_many hr.asc hr.four hm, ← sum_cast]
      rfl
    rw [e]
    rfl
  have kl : evE (cf T (n + 6)) (.bi .len [.loc 6]) [a0, some (.int w), some (dT rows), b3, some (.int m), some (.tup ((Fl rows m).map dT)), some (.tup ((Fl rows m).map dT)), none, b8, none, none, none, none] s = .ok (.int ((Fl rows m).length : Nat)) s := by
    simp only [evSs, evS_ite, evS_set, evS_ret, evS_ex, evS_raise, evS_brk, evS_cont, evS_pass, evT_cmp, evT_chain, evT_call, evT_bi, evT_isi, evT_loc, evT_nt, evT_and, evT_or, evE, evEs, getV, List.getElem?_cons_zero, List.getElem?_cons_succ, Option.bind_some, id_eq, R.opt_some, R.bind_ok, R.bind_exc, R.st_ok, R.st_exc, RS.bind_next, RS.bind_ret, RS.bind_exc, RS.bind_cont, RS.bind_brk, List.set_cons_succ, List.set_cons_zero, Option.map_some, t_bl, Bool.not_true, Bool.not_false, Bool.false_eq_true, if_true, if_false, bi_len_tup, bi_len_lst, bi_int, bn_add, bn_sub, c_eq, c_ne, c_le, c_lt, c_ge, c_gt, List.length_map]
  have kn : evE (cf T (n + 6)) (.cmp .ne (.bi .len [.loc 6]) (.bi .sum [.comp (.call 73 [.bi .len [.loc 2], .loc 11]) (.one 11) (.rng1 (.bin .add (.loc 4) (.cst (.int 1)))) none])) [a0, some (.int w), some (dT rows), b3, some (.int m), some (.tup ((Fl rows m).map dT)), some (.tup ((Fl rows m).map dT)), none, b8, none, none, none, none] s = .ok (.bl false) s := by
    have u : ∀ (a b : E) (env : Env) (st : S), evE (cf T (n + 6)) (.cmp .ne a b) env st = (evE (cf T (n + 6)) a env st).bind fun x s => (evE (cf T (n + 6)) b env s).bind fun y s => R.opt ((cmpD s .ne x y).map .bl) s := fun a b env st => by simp only [evE]
    have e2 : (((Fl rows m).length : Nat) : Int) == (((Fl rows m).length : Nat) : Int) := beq_self_eq_true _
    rw [u, kl, R.bind_ok, ks, R.bind_ok, c_ne, e2]
    rfl
  have kt : evT (cf T (n + 6)) (.cmp .ne (.bi .len [.loc 6]) (.bi .sum [.comp (.call 73 [.bi .len [.loc 2], .loc 11]) (.one 11) (.rng1 (.bin .add (.loc 4) (.cst (.int 1)))) none])) [a0, some (.int w), some (dT rows), b3, some (.int m), some (.tup ((Fl rows m).map dT)), some (.tup ((Fl rows m).map dT)), none, b8, none, none, none, none] s = .ok false s := by
    rw [evT_cmp, kn]
    rfl
  have kc : evT (cf T (n + 6)) (.nt (.call 69 [.loc 5, .loc 6])) [a0, some (.int w), some (dT rows), b3, some (.int m), some (.tup ((Fl rows m).map dT)), some (.tup ((Fl rows m).map dT)), none, b8, none, none, none, none] s = .ok false s := by
    simp only [evSs, evS_ite, evS_set, evS_ret, evS_ex, evS_raise, evS_brk, evS_cont, evS_pass, evT_cmp, evT_chain, evT_call, evT_bi, evT_isi, evT_loc, evT_nt, evT_and, evT_or, evE, evEs, getV, List.getElem?_cons_zero, List.getElem?_cons_succ, Option.bind_some, id_eq, R.opt_some, R.bind_ok, R.bind_exc, R.st_ok, R.st_exc, RS.bind_next, RS.bind_ret, RS.bind_exc, RS.bind_cont, RS.bind_brk, List.set_cons_succ, List.set_cons_zero, Option.map_some, t_bl, Bool.not_true, Bool.not_false, Bool.false_eq_true, if_true, if_false, bi_len_tup, bi_len_lst, bi_int, bn_add, bn_sub, c_eq, c_ne, c_le, c_lt, c_ge, c_gt, h1]
  unfold lr5
  rw [evS_ite, evT_or, kc, R.bind_ok, if_neg (by decide), kt, R.st_ok, if_neg (by decide)]
  simp only [evSs]
theorem lr6_ok {s : S} {w : Nat} (hw : okW w) {rows : List Rw} (hr : Rws w rows) {m : Nat} (hm : m ≤ 4) (a0 b3 b8 : Option D) : ∃ b7 b9, evS (cf T (n + 6)) lr6 [a0, some (.int w), some (dT rows), b3, some (.int m), some (.tup ((Fl rows m).map dT)), some (.tup ((Fl rows m).map dT)), none, b8, none, none, none, none] s = .next [a0, some (.int w), some (dT rows), b3, some (.int m), some (.tup ((Fl rows m).map dT)), some (.tup ((Fl rows m).map dT)), b7, b8, b9, none, none, none] s := by
  have lim : LIM = 1000000 := rfl
  have hfl := Fl_le hr.asc hr.four hm
  have fm := List.length_map (f := dT) (as := Fl rows m)
  obtain ⟨xs, hxs⟩ : ∃ xs, xs = cutD ((Fl rows m).map dT) none (some 3) ++ cutD ((Fl rows m).map dT) (some (-6)) none := ⟨_, rfl⟩
  have hmem : ∀ x ∈ xs, ∃ t ∈ Fl rows m, x = dT t := fun x hx => by
    rw [hxs] at hx
    have : x ∈ (Fl rows m).map dT := by
      rcases List.mem_append.mp hx with h | h
      · exact cut_mem h
      · exact cut_mem h
    obtain ⟨t, ht, e⟩ := List.mem_map.mp this
    exact ⟨t, ht, e.symm⟩
  obtain ⟨env', ⟨b7, b9, rfl⟩, hf⟩ := for_turns (c := cf T (n + 6)) (s := s) (i := 7) (bd := [lr6a, lr6b, lr6c])
    (fun _ env => ∃ b7 b9, env = [a0, some (.int w), some (dT rows), b3, some (.int m), some (.tup ((Fl rows m).map dT)), some (.tup ((Fl rows m).map dT)), b7, b8, b9, none, none, none]) (xs := xs) (k := 0) (env := [a0, some (.int w), some (dT rows), b3, some (.int m), some (.tup ((Fl rows m).map dT)), some (.tup ((Fl rows m).map dT)), none, b8, none, none, none, none]) ⟨none, none, rfl⟩ (fun j hj env ⟨b7, b9, he⟩ => by
      subst he
      obtain ⟨t, ht, e⟩ := hmem xs[j] (List.getElem_mem hj)
      rw [e]
      have tk := hr.tab hm ht
      have c1 : ∀ st, run T (n + 6) 19 [.int w, dT t] st = .ok (.bl true) st := fun st => r_isT B.s.b tk hw
      have c2 : ∀ st, run T (n + 6) 14 [.int w, dT t] st = .ok (.tup (NL t)) st := fun st => r_nl B.s.b tk hw
      have hA : evS (cf T (n + 6)) lr6a [a0, some (.int w), some (dT rows), b3, some (.int m), some (.tup ((Fl rows m).map dT)), some (.tup ((Fl rows m).map dT)), some (dT t), b8, b9, none, none, none] s = .next [a0, some (.int w), some (dT rows), b3, some (.int m), some (.tup ((Fl rows m).map dT)), some (.tup ((Fl rows m).map dT)), some (dT t), b8, b9, none, none, none] s := by
        unfold lr6a
        simp only [evSs, evS_ite, evS_set, evS_ret, evS_ex, evS_raise, evS_brk, evS_cont, evS_pass, evT_cmp, evT_chain, evT_call, evT_bi, evT_isi, evT_loc, evT_nt, evT_and, evT_or, evE, evEs, getV, List.getElem?_cons_zero, List.getElem?_cons_succ, Option.bind_some, id_eq, R.opt_some, R.bind_ok, R.bind_exc, R.st_ok, R.st_exc, RS.bind_next, RS.bind_ret, RS.bind_exc, RS.bind_cont, RS.bind_brk, List.set_cons_succ, List.set_cons_zero, Option.map_some, t_bl, Bool.not_true, Bool.not_false, Bool.false_eq_true, if_true, if_false, bi_len_tup, bi_len_lst, bi_int, bn_add, bn_sub, c_eq, c_ne, c_le, c_lt, c_ge, c_gt, c1, isn_bl, bne_self_eq_false]
      have hB : evS (cf T (n + 6)) lr6b [a0, some (.int w), some (dT rows), b3, some (.int m), some (.tup ((Fl rows m).map dT)), some (.tup ((Fl rows m).map dT)), some (dT t), b8, b9, none, none, none] s = .next [a0, some (.int w), some (dT rows), b3, some (.int m), some (.tup ((Fl rows m).map dT)), some (.tup ((Fl rows m).map dT)), some (dT t), b8, some (.tup (NL t)), none, none, none] s := by
        unfold lr6b
        simp only [evSs, evS_ite, evS_set, evS_ret, evS_ex, evS_raise, evS_brk, evS_cont, evS_pass, evT_cmp, evT_chain, evT_call, evT_bi, evT_isi, evT_loc, evT_nt, evT_and, evT_or, evE, evEs, getV, List.getElem?_cons_zero, List.getElem?_cons_succ, Option.bind_some, id_eq, R.opt_some, R.bind_ok, R.bind_exc, R.st_ok, R.st_exc, RS.bind_next, RS.bind_ret, RS.bind_exc, RS.bind_cont, RS.bind_brk, List.set_cons_succ, List.set_cons_zero, Option.map_some, t_bl, Bool.not_true, Bool.not_false, Bool.false_eq_true, if_true, if_false, bi_len_tup, bi_len_lst, bi_int, bn_add, bn_sub, c_eq, c_ne, c_le, c_lt, c_ge, c_gt, c2]
      have nl : (NL t).length ≤ LIM := by
        have z := dd_len (isortE ((less t).map dT)) []
        have z2 : (NL t).length ≤ 0 + (isortE ((less t).map dT)).length := z
        rw [(isort_perm _).length_eq] at z2
        unfold less at z2
        rw [List.length_map, List.length_map, List.length_range] at z2
        have := tk.1
        omega
      have key : evE (cf T (n + 6)) (.comp (.and (.cmp .isIn (.loc 12) (.loc 5)) (.cmp .is (.call 18 [.loc 1, .loc 12, .loc 7]) (.cst (.bl true)))) (.one 12) (.ex (.loc 9)) none) [a0, some (.int w), some (dT rows), b3, some (.int m), some (.tup ((Fl rows m).map dT)), some (.tup ((Fl rows m).map dT)), some (dT t), b8, some (.tup (NL t)), none, none, none] s = .ok (.lst ((NL t).map fun _ => .bl true)) s := by
        have hI : evI (cf T (n + 6)) (.ex (.loc 9)) [a0, some (.int w), some (dT rows), b3, some (.int m), some (.tup ((Fl rows m).map dT)), some (.tup ((Fl rows m).map dT)), some (dT t), b8, some (.tup (NL t)), none, none, none] s = .ok ⟨NL t, none⟩ s := by
          simp only [evI, evE, getV, List.getElem?_cons_zero, List.getElem?_cons_succ, Option.bind_some, id_eq, R.opt_some, R.bind_ok]
          rfl
        rw [evE_comp1, hI, R.bind_ok]
        dsimp only
        rw [comp_map (g := fun _ => .bl true)]
        · rfl
        · intro x hx
          obtain ⟨i, hi, rfl⟩ := NL_mem.mp hx
          have q1 : decide (er t i ∈ Fl rows m) = true := decide_eq_true (er_Fl ht i)
          have q2 : decide (er t i ∈ less t) = true := decide_eq_true (mem_less.mpr ⟨i, hi, rfl⟩)
          have c3 : ∀ st, run T (n + 6) 18 [.int w, dT (er t i), dT t] st = .ok (.bl true) st := fun st => by
            rw [r_nb B.s.b (okT_er tk hi) tk hw, q2, Bool.or_true]
          simp only [List.set_cons_succ, List.set_cons_zero]
          simp only [evSs, evS_ite, evS_set, evS_ret, evS_ex, evS_raise, evS_brk, evS_cont, evS_pass, evT_cmp, evT_chain, evT_call, evT_bi, evT_isi, evT_loc, evT_nt, evT_and, evT_or, evE, evEs, getV, List.getElem?_cons_zero, List.getElem?_cons_succ, Option.bind_some, id_eq, R.opt_some, R.bind_ok, R.bind_exc, R.st_ok, R.st_exc, RS.bind_next, RS.bind_ret, RS.bind_exc, RS.bind_cont, RS.bind_brk, List.set_cons_succ, List.set_cons_zero, Option.map_some, t_bl, Bool.not_true, Bool.not_false, Bool.false_eq_true, if_true, if_false, bi_len_tup, bi_len_lst, bi_int, bn_add, bn_sub, c_eq, c_ne, c_le, c_lt, c_ge, c_gt, cmpD, in_tup, q1, c3, is_bl, beq_self_eq_true, noExc]
        · exact nl
      have hC : evS (cf T (n + 6)) lr6c [a0, some (.int w), some (dT rows), b3, some (.int m), some (.tup ((Fl rows m).map dT)), some (.tup ((Fl rows m).map dT)), some (dT t), b8, some (.tup (NL t)), none, none, none] s = .next [a0, some (.int w), some (dT rows), b3, some (.int m), some (.tup ((Fl rows m).map dT)), some (.tup ((Fl rows m).map dT)), some (dT t), b8, some (.tup (NL t)), none, none, none] s := by
        unfold lr6c
        rw [evS_ite, evT_nt, evT_bi, bi1 key, bi_all, all_true]
        rfl
      refine ⟨_, ⟨some (dT t), some (.tup (NL t)), rfl⟩, .inl ?_⟩
      simp only [List.set_cons_succ, List.set_cons_zero]
      rw [evSs_next hA, evSs_next hB, evSs_next hC]
      simp only [evSs])
  refine ⟨b7, b9, ?_⟩
  have hI : evI (cf T (n + 6)) (.ex (.bin .add (.sl (.loc 5) none (some (.cst (.int 3)))) (.sl (.loc 5) (some (.neg (.cst (.int 6)))) none))) [a0, some (.int w), some (dT rows), b3, some (.int m), some (.tup ((Fl rows m).map dT)), some (.tup ((Fl rows m).map dT)), none, b8, none, none, none, none] s = .ok ⟨xs, none⟩ s := by
    have l1 := cut_len ((Fl rows m).map dT) none (some 3)
    have l2 := cut_len ((Fl rows m).map dT) (some (-6)) none
    have hadd : binD s .add (.tup (cutD ((Fl rows m).map dT) none (some 3))) (.tup (cutD ((Fl rows m).map dT) (some (-6)) none)) = some (.tup xs) := by
      rw [bn_tup, if_pos (by omega), hxs]
    simp only [evI, evE, evO, getV, List.getElem?_cons_zero, List.getElem?_cons_succ, Option.bind_some, id_eq, R.opt_some, R.bind_ok, intP, sl_tup, hadd, walkD]
  unfold lr6
  rw [evS_fo, hI, R.st_ok]
  exact hf
theorem right_ok (h75 : T.defs 75 = some dfLIR) {s : S} (hh : HandAt s d k) : ∃ s', Mv d k s s' ∧ run T (n + 7) 75 [.ref d k] s = .ok (.bl true) s' := by
  obtain ⟨w, s1, ⟨w1, w2⟩, m1, h1⟩ := lr1_ok B (n := n) (hh.push [])
  have hw : okW w := ⟨w1, by omega⟩
  obtain ⟨rows0, b3, b8, s2, ⟨nd, ok, l1, l2⟩, m2, h2⟩ := lr2_ok B (n := n) m1.at_ hw
  obtain ⟨rows, m, s3, hr, hm, m3, h3⟩ := lr3_ok B (n := n) m2.at_ hw nd ok l1 l2 b3 b8
  obtain ⟨b7, b9, h6⟩ := lr6_ok B (n := n) (s := s3) hw hr hm (some (.ref d k)) b3 b8
  obtain ⟨s', rfl, mv⟩ := Mv.pop hh ((m1.trans m2).trans m3)
  refine ⟨s', mv, ?_⟩
  rw [run_def h75 rfl]
  have e0 : startE dfLIR.ns [.ref d k] = [some (.ref d k), none, none, none, none, none, none, none, none, none, none, none, none] := rfl
  have hb : dfLIR.body = [lr1, lr2, lr3, lr4, lr5, lr6, lr7] := rfl
  have h7 : ∀ env st, evS (cf T (n + 6)) lr7 env st = .ret (.bl true) st := fun env st => by
    unfold lr7
    simp only [evSs, evS_ite, evS_set, evS_ret, evS_ex, evS_raise, evS_brk, evS_cont, evS_pass, evT_cmp, evT_chain, evT_call, evT_bi, evT_isi, evT_loc, evT_nt, evT_and, evT_or, evE, evEs, getV, List.getElem?_cons_zero, List.getElem?_cons_succ, Option.bind_some, id_eq, R.opt_some, R.bind_ok, R.bind_exc, R.st_ok, R.st_exc, RS.bind_next, RS.bind_ret, RS.bind_exc, RS.bind_cont, RS.bind_brk, List.set_cons_succ, List.set_cons_zero, Option.map_some, t_bl, Bool.not_true, Bool.not_false, Bool.false_eq_true, if_true, if_false, bi_len_tup, bi_len_lst, bi_int, bn_add, bn_sub, c_eq, c_ne, c_le, c_lt, c_ge, c_gt]
  rw [e0, hb, evSs_next h1, evSs_next h2, evSs_next h3, evSs_next (lr4_ok B hw hr hm _ _ _), evSs_next (lr5_ok B hw hr hm _ _ _), evSs_next h6, evSs_ret (h7 _ _)]
  exact mv.leave
theorem law_k27 (h75 : T.defs 75 = some dfLIR) (h23 : T.defs 23 = some dfLw27) (ns : List Int) (hn : ns.length ≤ 63) {s : S} : run T (n + 8) 23 [.fz ns] s = .ok (.bl true) s := by
  obtain ⟨s1, hl, ⟨x, rfl⟩, ha, hh⟩ := hand_made B.d74 (s := fr s []) ns hn (n + 6)
  have hh' : run T (n + 7) 74 [.fz ns] (fr s []) = .ok (.ref (s.out.length + 1) 0) (fr s [x]) := hh
  have ha' : HandAt (fr s [x]) (s.out.length + 1) 0 := ha
  have h1 : evS (cf T (n + 7)) lw1 [some (.fz ns), none, none] (fr s []) = .next [some (.fz ns), some (.ref (s.out.length + 1) 0), none] (fr s [x]) := by
    unfold lw1
    simp only [evSs, evS_ite, evS_set, evS_ret, evS_ex, evS_raise, evS_brk, evS_cont, evS_pass, evT_cmp, evT_chain, evT_call, evT_bi, evT_isi, evT_loc, evT_nt, evT_and, evT_or, evE, evEs, getV, List.getElem?_cons_zero, List.getElem?_cons_succ, Option.bind_some, id_eq, R.opt_some, R.bind_ok, R.bind_exc, R.st_ok, R.st_exc, RS.bind_next, RS.bind_ret, RS.bind_exc, RS.bind_cont, RS.bind_brk, List.set_cons_succ, List.set_cons_zero, Option.map_some, t_bl, Bool.not_true, Bool.not_false, Bool.false_eq_true, if_true, if_false, bi_len_tup, bi_len_lst, bi_int, bn_add, bn_sub, c_eq, c_ne, c_le, c_lt, c_ge, c_gt, hh']
  obtain ⟨ys, s2, l2, p2, m2, hc⟩ := comp_mv (d := s.out.length + 1) (k := 0) (P := fun y => y = .bl true) (step := fun x s' => noExc ((evE (cf T (n + 7)) (.call 75 [.loc 1]) [some (.fz ns), some (.ref (s.out.length + 1) 0), some x] s').bind fun y s => .ok (some y) s)) (xs := numsD 0 5) (s := fr s [x]) ha' (fun y _ st hst => by
    obtain ⟨s', mv, hr⟩ := right_ok B (n := n) h75 hst
    refine ⟨_, s', rfl, mv, ?_⟩
    simp only [evSs, evS_ite, evS_set, evS_ret, evS_ex, evS_raise, evS_brk, evS_cont, evS_pass, evT_cmp, evT_chain, evT_call, evT_bi, evT_isi, evT_loc, evT_nt, evT_and, evT_or, evE, evEs, getV, List.getElem?_cons_zero, List.getElem?_cons_succ, Option.bind_some, id_eq, R.opt_some, R.bind_ok, R.bind_exc, R.st_ok, R.st_exc, RS.bind_next, RS.bind_ret, RS.bind_exc, RS.bind_cont, RS.bind_brk, List.set_cons_succ, List.set_cons_zero, Option.map_some, t_bl, Bool.not_true, Bool.not_false, Bool.false_eq_true, if_true, if_false, bi_len_tup, bi_len_lst, bi_int, bn_add, bn_sub, c_eq, c_ne, c_le, c_lt, c_ge, c_gt, hr, noExc]) (by rw [nums_len']; decide)
  have hys : ys = ys.map fun _ => D.bl true := by
    clear l2 hc
    induction ys with
    | nil => rfl
    | cons y ys ih =>
      rw [List.map_cons, ← ih fun z hz => p2 z (List.mem_cons_of_mem _ hz), p2 y List.mem_cons_self]
  obtain ⟨c, rfl⟩ := m2.ex
  have hset : (fr s [x]).set (s.out.length + 1) 0 c = fr s [c] := by rw [set_fr]; rfl
  rw [hset] at hc
  have hI : evI (cf T (n + 7)) (.rng1 (.cst (.int 5))) [some (.fz ns), some (.ref (s.out.length + 1) 0), none] (fr s [x]) = .ok ⟨numsD 0 5, none⟩ (fr s [x]) := by
    have z := evI_rng1 (c := cf T (n + 7)) (e := .cst (.int 5)) (env := [some (.fz ns), some (.ref (s.out.length + 1) 0), none]) (s := fr s [x]) (s1 := fr s [x]) (j := 5) (by simp only [evSs, evS_ite, evS_set, evS_ret, evS_ex, evS_raise, evS_brk, evS_cont, evS_pass, evT_cmp, evT_chain, evT_call, evT_bi, evT_isi, evT_loc, evT_nt, evT_and, evT_or, evE, evEs, getV, List.getElem?_cons_zero, List.getElem?_cons_succ, Option.bind_some, id_eq, R.opt_some, R.bind_ok, R.bind_exc, R.st_ok, R.st_exc, RS.bind_next, RS.bind_ret, RS.bind_exc, RS.bind_cont, RS.bind_brk, List.set_cons_succ, List.set_cons_zero, Option.map_some, t_bl, Bool.not_true, Bool.not_false, Bool.false_eq_true, if_true, if_false, bi_len_tup, bi_len_lst, bi_int, bn_add, bn_sub, c_eq, c_ne, c_le, c_lt, c_ge, c_gt]) (small_of (by decide) (by decide))
    exact z
  have key : evE (cf T (n + 7)) (.comp (.call 75 [.loc 1]) (.one 2) (.rng1 (.cst (.int 5))) none) [some (.fz ns), some (.ref (s.out.length + 1) 0), none] (fr s [x]) = .ok (.lst ys) (fr s [c]) := by
    rw [evE_comp1, hI, R.bind_ok]
    simp only [List.set_cons_succ, List.set_cons_zero]
    rw [hc]
    rfl
  have h2 : evS (cf T (n + 7)) lw2 [some (.fz ns), some (.ref (s.out.length + 1) 0), none] (fr s [x]) = .next [some (.fz ns), some (.ref (s.out.length + 1) 0), none] (fr s [c]) := by
    unfold lw2
    rw [evS_ite, evT_nt, evT_bi, bi1 key, bi_all, hys, all_true]
    rfl
  have asc : AscR [[2], [5]] := by decide
  have hs : ∀ st, run T (n + 7) 71 [.int 1, .tup [.tup [.int 2], .tup [.int 5]], .int 2] st = .ok (.tup ((Fl [[2], [5]] 2).map dT)) st := fun st => small_ok B.s (w := 1) (rows := [[2], [5]]) asc (by decide) (by decide) (fun r hr => by
    simp only [List.mem_cons, List.not_mem_nil, or_false] at hr
    rcases hr with rfl | rfl
    · exact ⟨rfl, by decide⟩
    · exact ⟨rfl, by decide⟩) ⟨by decide, by decide⟩ (m := 2) (by decide)
  have efl : (D.tup ((Fl [[2], [5]] 2).map dT)) = .tup [.tup [], .tup [.tup [.int 2]], .tup [.tup [.int 5]], .tup [.tup [.int 2], .tup [.int 2]], .tup [.tup [.int 2], .tup [.int 5]], .tup [.tup [.int 5], .tup [.int 5]]] := by
    have : Fl [[2], [5]] 2 = [[], [[2]], [[5]], [[2], [2]], [[2], [5]], [[5], [5]]] := by decide
    rw [this]
    rfl
  have e2 := eq_same (s := fr s [c]) (x := .tup [.tup [], .tup [.tup [.int 2]], .tup [.tup [.int 5]], .tup [.tup [.int 2], .tup [.int 2]], .tup [.tup [.int 2], .tup [.int 5]], .tup [.tup [.int 5], .tup [.int 5]]]) (by decide +kernel)
  have L : ∀ m, m ≤ 16 → m ≤ LIM := fun m h => Nat.le_trans h (by decide)
  have h3 : evS (cf T (n + 7)) lw3 [some (.fz ns), some (.ref (s.out.length + 1) 0), none] (fr s [c]) = .ret (.bl true) (fr s [c]) := by
    unfold lw3
    simp only [evSs, evS_ite, evS_set, evS_ret, evS_ex, evS_raise, evS_brk, evS_cont, evS_pass, evT_cmp, evT_chain, evT_call, evT_bi, evT_isi, evT_loc, evT_nt, evT_and, evT_or, evE, evEs, getV, List.getElem?_cons_zero, List.getElem?_cons_succ, Option.bind_some, id_eq, R.opt_some, R.bind_ok, R.bind_exc, R.st_ok, R.st_exc, RS.bind_next, RS.bind_ret, RS.bind_exc, RS.bind_cont, RS.bind_brk, List.set_cons_succ, List.set_cons_zero, Option.map_some, t_bl, Bool.not_true, Bool.not_false, Bool.false_eq_true, if_true, if_false, bi_len_tup, bi_len_lst, bi_int, bn_add, bn_sub, c_eq, c_ne, c_le, c_lt, c_ge, c_gt, List.length_cons, List.length_nil, Nat.zero_add, Nat.reduceAdd, if_pos (L 0 (by decide)), if_pos (L 1 (by decide)), if_pos (L 2 (by decide)), if_pos (L 6 (by decide)), hs, efl, e2]
  rw [run_def h23 rfl]
  have e0 : startE dfLw27.ns [.fz ns] = [some (.fz ns), none, none] := rfl
  have hb : dfLw27.body = [lw1, lw2, lw3] := rfl
  rw [e0, hb, evSs_next h1, evSs_next h2, evSs_ret h3]
  exact leaveC rfl
end
end Ev

set_option Elab.async false
set_option linter.all false
set_option maxRecDepth 100000
set_option maxHeartbeats 0
namespace K27
open PySem PySem.Spec L2 PyProof.Rows Ev

def top (i : Nat) : Stmt := PySem.Challenge.pw_oddsheld_k27_whole_small_tables_by_own_l.main.body.getD i (.Pass ⟨0, 0, 0, 0⟩)
def N_is_integer : List Str := ["thing"]
def B_is_integer : List Ev.St := [.ret (some (.and (.isi (.loc 0) [.int]) (.nt (.isi (.loc 0) [.bool]))))]
def I_is_integer : DefI := ⟨"is_integer", defArgs (top 7), defBody (top 7), defScope (top 7), N_is_integer, ["thing"], [], false, B_is_integer⟩
def N_is_within : List Str := ["thing", "low", "high"]
def B_is_within : List Ev.St := [.ret (some (.and (.call 0 [.loc 0]) (.chain .le .le (.loc 1) (.loc 0) (.loc 2))))]
def I_is_within : DefI := ⟨"is_within", defArgs (top 8), defBody (top 8), defScope (top 8), N_is_within, ["thing", "low", "high"], [], false, B_is_within⟩
def N_check_wide : List Str := ["w"]
def B_check_wide : List Ev.St := [.ite (.nt (.call 2 [.loc 0, .cst (.int 1), .gc 1])) [.raise 3] []]
def I_check_wide : DefI := ⟨"check_wide", defArgs (top 13), defBody (top 13), defScope (top 13), N_check_wide, ["w"], [], false, B_check_wide⟩
def N_raw_is_row : List Str := ["w", "thing", "part"]
def B_raw_is_row : List Ev.St := [.ite (.or (.nt (.isi (.loc 1) [.tuple])) (.cmp .ne (.bi .len [.loc 1]) (.loc 0))) [.ret (some (.cst (.bl false)))] [], .ret (some (.bi .all [.comp (.call 2 [.loc 2, .neg (.gc 4), .gc 4]) (.one 2) (.ex (.loc 1)) none]))]
def I_raw_is_row : DefI := ⟨"raw_is_row", defArgs (top 14), defBody (top 14), defScope (top 14), N_raw_is_row, ["w", "thing"], [], false, B_raw_is_row⟩
def N_raw_is_table : List Str := ["w", "thing", "row"]
def B_raw_is_table : List Ev.St := [.ret (some (.and (.isi (.loc 1) [.tuple]) (.and (.cmp .le (.bi .len [.loc 1]) (.gc 6)) (.bi .all [.comp (.call 5 [.loc 0, .loc 2]) (.one 2) (.ex (.loc 1)) none]))))]
def I_raw_is_table : DefI := ⟨"raw_is_table", defArgs (top 15), defBody (top 15), defScope (top 15), N_raw_is_table, ["w", "thing"], [], false, B_raw_is_table⟩
def N_is_table : List Str := ["w", "thing"]
def B_is_table : List Ev.St := [.ex (.call 7 [.loc 0]), .ret (some (.call 8 [.loc 0, .loc 1]))]
def I_is_table : DefI := ⟨"is_table", defArgs (top 16), defBody (top 16), defScope (top 16), N_is_table, ["w", "thing"], [], false, B_is_table⟩
def N_check_tables : List Str := ["w", "one", "other"]
def B_check_tables : List Ev.St := [.ex (.call 7 [.loc 0]), .ite (.or (.nt (.call 8 [.loc 0, .loc 1])) (.nt (.call 8 [.loc 0, .loc 2]))) [.raise 9] []]
def I_check_tables : DefI := ⟨"check_tables", defArgs (top 17), defBody (top 17), defScope (top 17), N_check_tables, ["w", "one", "other"], [], false, B_check_tables⟩
def N_raw_less_one : List Str := ["table", "at"]
def B_raw_less_one : List Ev.St := [.ret (some (.comp (.bin .add (.sl (.loc 0) none (some (.loc 1))) (.sl (.loc 0) (some (.bin .add (.loc 1) (.cst (.int 1)))) none)) (.one 1) (.rng1 (.bi .len [.loc 0])) none))]
def I_raw_less_one : DefI := ⟨"raw_less_one", defArgs (top 18), defBody (top 18), defScope (top 18), N_raw_less_one, ["table"], [], false, B_raw_less_one⟩
def N_are_neighbours : List Str := ["w", "one", "other"]
def B_are_neighbours : List Ev.St := [.ex (.call 10 [.loc 0, .loc 1, .loc 2]), .ret (some (.or (.cmp .isIn (.loc 2) (.call 11 [.loc 1])) (.cmp .isIn (.loc 1) (.call 11 [.loc 2]))))]
def I_are_neighbours : DefI := ⟨"are_neighbours", defArgs (top 19), defBody (top 19), defScope (top 19), N_are_neighbours, ["w", "one", "other"], [], false, B_are_neighbours⟩
def N_neighbours_less : List Str := ["w", "table", "found", "one"]
def B_neighbours_less : List Ev.St := [.ex (.call 10 [.loc 0, .loc 1, .loc 1]), .set 2 (.cell (.lst [])), .fo (.one 3) (.ex (.bi .sorted [.call 11 [.loc 1]])) [.ite (.cmp .notIn (.loc 3) (.loc 2)) [.ex (.me .append (.loc 2) [.loc 3])] []], .ret (some (.bi .tuple [.loc 2]))]
def I_neighbours_less : DefI := ⟨"neighbours_less", defArgs (top 20), defBody (top 20), defScope (top 20), N_neighbours_less, ["w", "table"], ["found"], false, B_neighbours_less⟩
def N_are_rows : List Str := ["w", "thing", "one", "other", "row"]
def B_are_rows : List Ev.St := [.ite (.or (.nt (.isi (.loc 1) [.tuple])) (.nt (.chain .le .le (.cst (.int 1)) (.bi .len [.loc 1]) (.gc 62)))) [.ret (some (.cst (.bl false)))] [], .ite (.nt (.bi .all [.comp (.call 5 [.loc 0, .loc 4]) (.one 4) (.ex (.loc 1)) none])) [.ret (some (.cst (.bl false)))] [], .ret (some (.bi .all [.comp (.cmp .lt (.loc 2) (.loc 3)) (.two 2 3) (.zip (.loc 1) (.sl (.loc 1) (some (.cst (.int 1))) none)) none]))]
def I_are_rows : DefI := ⟨"are_rows", defArgs (top 24), defBody (top 24), defScope (top 24), N_are_rows, ["w", "thing"], [], false, B_are_rows⟩
def N_check_rows : List Str := ["w", "rows", "most"]
def B_check_rows : List Ev.St := [.ite (.nt (.call 63 [.loc 0, .loc 1])) [.raise 64] [], .ite (.nt (.call 2 [.loc 2, .cst (.int 0), .gc 65])) [.raise 66] []]
def I_check_rows : DefI := ⟨"check_rows", defArgs (top 25), defBody (top 25), defScope (top 25), N_check_rows, ["w", "rows", "most"], [], false, B_check_rows⟩
def N_raw_small_tables : List Str := ["rows", "most", "found", "last", "turn", "longer", "table", "row"]
def B_raw_small_tables : List Ev.St := [.par [2, 3] [.lst [.tup []], .lst [.tup []]], .fo (.one 4) (.rng1 (.loc 1)) [.set 5 (.cell (.lst [])), .fo (.one 6) (.ex (.loc 3)) [.ex (.me .extend (.loc 5) [.comp (.bin .add (.loc 6) (.tup [.loc 7])) (.one 7) (.ex (.loc 0)) (some (.or (.cmp .eq (.bi .len [.loc 6]) (.cst (.int 0))) (.cmp .le (.idx (.loc 6) (.neg (.cst (.int 1)))) (.loc 7))))])], .par [2, 3] [.bin .add (.loc 2) (.loc 5), .loc 5]], .ret (some (.loc 2))]
def I_raw_small_tables : DefI := ⟨"raw_small_tables", defArgs (top 26), defBody (top 26), defScope (top 26), N_raw_small_tables, ["rows", "most"], ["longer"], false, B_raw_small_tables⟩
def N_small_tables : List Str := ["w", "rows", "most"]
def B_small_tables : List Ev.St := [.ex (.call 7 [.loc 0]), .ex (.call 67 [.loc 0, .loc 1, .loc 2]), .ret (some (.bi .tuple [.call 68 [.loc 1, .loc 2]]))]
def I_small_tables : DefI := ⟨"small_tables", defArgs (top 27), defBody (top 27), defScope (top 27), N_small_tables, ["w", "rows", "most"], [], false, B_small_tables⟩
def N__law_hand : List Str := ["script", "cells_here", "cell"]
def B__law_hand : List Ev.St := [.set 1 (.comp (.bi .abs [.bi .int [.loc 2]]) (.one 2) (.ex (.sl (.loc 0) none (some (.cst (.int 63))))) none), .ret (some (.cell (.lst [.loc 1, .cst (.int 0), .cst (.int 0), .bin .add (.cst (.int 523)) (.bin .mul (.cst (.int 457)) (.bi .len [.loc 1])), .cst (.int 0)])))]
def I__law_hand : DefI := ⟨"_law_hand", defArgs (top 29), defBody (top 29), defScope (top 29), N__law_hand, ["script"], ["return"], true, B__law_hand⟩
def N__law_draw : List Str := ["hand", "many", "number", "cell", "digit"]
def B__law_draw : List Ev.St := [.ite (.and (.cmp .eq (.idx (.loc 0) (.cst (.int 2))) (.cst (.int 0))) (.cmp .lt (.idx (.loc 0) (.cst (.int 1))) (.bi .len [.idx (.loc 0) (.cst (.int 0))]))) [.set 3 (.idx (.idx (.loc 0) (.cst (.int 0))) (.idx (.loc 0) (.cst (.int 1)))), .sto (.loc 0) (.cst (.int 1)) (.bin .add (.idx (.loc 0) (.cst (.int 1))) (.cst (.int 1))), .sto (.loc 0) (.cst (.int 3)) (.bin .mod (.bi .int [.bin .add (.bin .add (.bin .mul (.idx (.loc 0) (.cst (.int 3))) (.cst (.int 69621))) (.loc 3)) (.cst (.int 491))]) (.cst (.int 2147483629))), .ite (.cmp .ge (.loc 3) (.bin .pow (.cst (.int 10)) (.cst (.int 18)))) [.sto (.loc 0) (.cst (.int 2)) (.loc 3)] []] [], .ite (.cmp .gt (.idx (.loc 0) (.cst (.int 2))) (.cst (.int 0))) [.set 4 (.bin .mod (.bi .int [.idx (.loc 0) (.cst (.int 2))]) (.loc 1)), .sto (.loc 0) (.cst (.int 2)) (.bin .fdiv (.idx (.loc 0) (.cst (.int 2))) (.loc 1)), .ret (some (.loc 4))] [], .sto (.loc 0) (.cst (.int 4)) (.bin .add (.idx (.loc 0) (.cst (.int 4))) (.cst (.int 1))), .set 2 (.bin .mod (.bi .int [.bin .mul (.bi .int [.bin .add (.idx (.loc 0) (.cst (.int 3))) (.bin .mul (.cst (.int 7919)) (.idx (.loc 0) (.cst (.int 4))))]) (.cst (.int 48271))]) (.cst (.int 2147483647))), .set 2 (.bin .mod (.bi .int [.bin .mul (.loc 2) (.bin .add (.bin .fdiv (.loc 2) (.cst (.int 1009))) (.cst (.int 69621)))]) (.cst (.int 2147483647))), .set 2 (.bin .mod (.bi .int [.bin .mul (.loc 2) (.bin .add (.bin .fdiv (.loc 2) (.cst (.int 2003))) (.cst (.int 40692)))]) (.cst (.int 2147483399))), .ret (some (.bin .mod (.bi .int [.bin .fdiv (.loc 2) (.cst (.int 16))]) (.loc 1)))]
def I__law_draw : DefI := ⟨"_law_draw", defArgs (top 30), defBody (top 30), defScope (top 30), N__law_draw, ["hand", "many"], ["hand"], false, B__law_draw⟩
def N__law_any : List Str := ["hand", "things"]
def B__law_any : List Ev.St := [.ret (some (.idx (.loc 1) (.call 13 [.loc 0, .bi .len [.loc 1]])))]
def I__law_any : DefI := ⟨"_law_any", defArgs (top 31), defBody (top 31), defScope (top 31), N__law_any, ["hand", "things"], [], false, B__law_any⟩
def N__law_is : List Str := ["came", "due", "one", "other"]
def B__law_is : List Ev.St := [.ite (.isi (.loc 1) [.tuple, .list]) [.ite (.or (.cmp .ne (.isi (.loc 0) [.tuple]) (.isi (.loc 1) [.tuple])) (.nt (.isi (.loc 0) [.tuple, .list]))) [.ret (some (.cst (.bl false)))] [], .ret (some (.and (.cmp .eq (.bi .len [.loc 0]) (.bi .len [.loc 1])) (.bi .all [.comp (.call 69 [.loc 2, .loc 3]) (.two 2 3) (.zip (.loc 0) (.loc 1)) none])))] [], .ite (.or (.cmp .is (.loc 1) (.cst .non)) (.isi (.loc 1) [.bool])) [.ret (some (.ite (.cmp .is (.loc 1) (.cst .non)) (.cmp .is (.loc 0) (.cst .non)) (.and (.isi (.loc 0) [.bool]) (.cmp .eq (.bi .repr [.loc 0]) (.bi .repr [.loc 1])))))] [], .ite (.isi (.loc 1) [.str]) [.ret (some (.and (.isi (.loc 0) [.str]) (.cmp .eq (.bi .repr [.loc 0]) (.bi .repr [.loc 1]))))] [], .ret (some (.and (.isi (.loc 0) [.int]) (.and (.nt (.isi (.loc 0) [.bool])) (.cmp .eq (.bi .repr [.loc 0]) (.bi .repr [.loc 1])))))]
def I__law_is : DefI := ⟨"_law_is", defArgs (top 32), defBody (top 32), defScope (top 32), N__law_is, ["came", "due"], [], false, B__law_is⟩
def N__law_multisets : List Str := ["rows", "most", "found", "last", "size", "longer", "row", "one"]
def B__law_multisets : List Ev.St := [.par [2, 3] [.lst [.tup []], .lst [.tup []]], .fo (.one 4) (.rng1 (.loc 1)) [.set 5 (.cell (.lst [])), .fo (.one 6) (.ex (.loc 3)) [.ex (.me .extend (.loc 5) [.comp (.bin .add (.loc 6) (.tup [.loc 7])) (.one 7) (.ex (.loc 0)) (some (.or (.cmp .eq (.bi .len [.loc 6]) (.cst (.int 0))) (.cmp .le (.idx (.loc 6) (.neg (.cst (.int 1)))) (.loc 7))))])], .set 3 (.bi .sorted [.loc 5]), .set 2 (.bin .add (.loc 2) (.loc 3))], .ret (some (.loc 2))]
def I__law_multisets : DefI := ⟨"_law_multisets", defArgs (top 33), defBody (top 33), defScope (top 33), N__law_multisets, ["rows", "most"], ["longer"], false, B__law_multisets⟩
def N__law_many : List Str := ["kinds", "size", "found", "at"]
def B__law_many : List Ev.St := [.set 2 (.cst (.int 1)), .fo (.one 3) (.rng1 (.loc 1)) [.set 2 (.bin .fdiv (.bin .mul (.loc 2) (.bin .add (.loc 0) (.loc 3))) (.bin .add (.loc 3) (.cst (.int 1))))], .ret (some (.loc 2))]
def I__law_many : DefI := ⟨"_law_many", defArgs (top 34), defBody (top 34), defScope (top 34), N__law_many, ["kinds", "size"], [], false, B__law_many⟩
def N__law_is_right : List Str := ["hand", "wide", "rows", "lap", "most", "came", "due", "table", "row", "fewer", "at", "size", "one"]
def B__law_is_right : List Ev.St := [.par [1, 2] [.bin .add (.cst (.int 1)) (.call 13 [.loc 0, .cst (.int 3)]), .lst []], .fo (.one 3) (.rng1 (.bin .add (.cst (.int 1)) (.call 13 [.loc 0, .cst (.int 4)]))) [.set 8 (.bi .tuple [.comp (.call 70 [.loc 0, .lst [.cst (.int 0), .cst (.int 1), .neg (.cst (.int 1)), .neg (.cst (.int 1000)), .cst (.int 1000), .call 13 [.loc 0, .cst (.int 50)]]]) (.one 10) (.rng1 (.loc 1)) none]), .set 2 (.ite (.cmp .notIn (.loc 8) (.loc 2)) (.bin .add (.loc 2) (.lst [.loc 8])) (.loc 2))], .par [2, 4] [.bi .tuple [.bi .sorted [.loc 2]], .call 13 [.loc 0, .cst (.int 5)]], .par [5, 6] [.call 71 [.loc 1, .loc 2, .loc 4], .bi .tuple [.call 72 [.loc 2, .loc 4]]], .ite (.or (.nt (.call 69 [.loc 5, .loc 6])) (.cmp .ne (.bi .len [.loc 6]) (.bi .sum [.comp (.call 73 [.bi .len [.loc 2], .loc 11]) (.one 11) (.rng1 (.bin .add (.loc 4) (.cst (.int 1)))) none]))) [.ret (some (.cst (.bl false)))] [], .fo (.one 7) (.ex (.bin .add (.sl (.loc 5) none (some (.cst (.int 3)))) (.sl (.loc 5) (some (.neg (.cst (.int 6)))) none))) [.ite (.cmp .isNot (.call 19 [.loc 1, .loc 7]) (.cst (.bl true))) [.ret (some (.cst (.bl false)))] [], .set 9 (.call 14 [.loc 1, .loc 7]), .ite (.nt (.bi .all [.comp (.and (.cmp .isIn (.loc 12) (.loc 5)) (.cmp .is (.call 18 [.loc 1, .loc 12, .loc 7]) (.cst (.bl true)))) (.one 12) (.ex (.loc 9)) none])) [.ret (some (.cst (.bl false)))] []], .ret (some (.cst (.bl true)))]
def I__law_is_right : DefI := ⟨"_law_is_right", defArgs (top 35), defBody (top 35), defScope (top 35), N__law_is_right, ["hand"], [], false, B__law_is_right⟩
def N_law : List Str := ["script", "hand", "lap_no"]
def B_law : List Ev.St := [.set 1 (.call 74 [.loc 0]), .ite (.nt (.bi .all [.comp (.call 75 [.loc 1]) (.one 2) (.rng1 (.cst (.int 5))) none])) [.ret (some (.cst (.bl false)))] [], .ret (some (.cmp .eq (.call 71 [.cst (.int 1), .tup [.tup [.cst (.int 2)], .tup [.cst (.int 5)]], .cst (.int 2)]) (.tup [.tup [], .tup [.tup [.cst (.int 2)]], .tup [.tup [.cst (.int 5)]], .tup [.tup [.cst (.int 2)], .tup [.cst (.int 2)]], .tup [.tup [.cst (.int 2)], .tup [.cst (.int 5)]], .tup [.tup [.cst (.int 5)], .tup [.cst (.int 5)]]])))]
def I_law : DefI := ⟨"law", defArgs (top 36), defBody (top 36), defScope (top 36), N_law, ["script"], [], false, B_law⟩
def subC (a b : Str) : Bool := [(("OddsError" : Str), ("OddsError" : Str)), (("NoNumber" : Str), ("OddsError" : Str)), (("NoNumber" : Str), ("NoNumber" : Str)), (("NoWide" : Str), ("OddsError" : Str)), (("NoWide" : Str), ("NoWide" : Str)), (("NoTable" : Str), ("OddsError" : Str)), (("NoTable" : Str), ("NoTable" : Str)), (("NoRows" : Str), ("OddsError" : Str)), (("NoRows" : Str), ("NoRows" : Str))].any fun p => decide (p.1 = a ∧ p.2 = b)
def book : Book := ⟨[(0, I_is_integer), (2, I_is_within), (7, I_check_wide), (5, I_raw_is_row), (8, I_raw_is_table), (19, I_is_table), (10, I_check_tables), (11, I_raw_less_one), (18, I_are_neighbours), (14, I_neighbours_less), (63, I_are_rows), (67, I_check_rows), (68, I_raw_small_tables), (71, I_small_tables), (74, I__law_hand), (13, I__law_draw), (70, I__law_any), (69, I__law_is), (72, I__law_multisets), (73, I__law_many), (75, I__law_is_right), (23, I_law)], [(1, ("MOST_WIDE", 6)), (6, ("MOST_ROWS", 12)), (4, ("GREATEST", 1000)), (62, ("MOST_KINDS", 4)), (65, ("MOST_SMALL", 4))], [(24, "OddsError"), (66, "NoNumber"), (3, "NoWide"), (9, "NoTable"), (64, "NoRows")], subC, ["abs", "all", "bool", "int", "isinstance", "len", "list", "range", "repr", "sorted", "str", "sum", "tuple", "zip"], []⟩
theorem G_is_integer : I_is_integer.Good book.nm := ⟨by kernel_rfl, ⟨rfl, rfl, rfl, by decide +kernel, rfl, by decide +kernel, by decide +kernel⟩, fun _ _ _ _ _ _ us hl => match us, hl with | [_], _ => rfl⟩
theorem G_is_within : I_is_within.Good book.nm := ⟨by kernel_rfl, ⟨rfl, rfl, rfl, by decide +kernel, rfl, by decide +kernel, by decide +kernel⟩, fun _ _ _ _ _ _ us hl => match us, hl with | [_, _, _], _ => rfl⟩
theorem G_check_wide : I_check_wide.Good book.nm := ⟨by kernel_rfl, ⟨rfl, rfl, rfl, by decide +kernel, rfl, by decide +kernel, by decide +kernel⟩, fun _ _ _ _ _ _ us hl => match us, hl with | [_], _ => rfl⟩
theorem G_raw_is_row : I_raw_is_row.Good book.nm := ⟨by kernel_rfl, ⟨rfl, rfl, rfl, by decide +kernel, rfl, by decide +kernel, by decide +kernel⟩, fun _ _ _ _ _ _ us hl => match us, hl with | [_, _], _ => rfl⟩
theorem G_raw_is_table : I_raw_is_table.Good book.nm := ⟨by kernel_rfl, ⟨rfl, rfl, rfl, by decide +kernel, rfl, by decide +kernel, by decide +kernel⟩, fun _ _ _ _ _ _ us hl => match us, hl with | [_, _], _ => rfl⟩
theorem G_is_table : I_is_table.Good book.nm := ⟨by kernel_rfl, ⟨rfl, rfl, rfl, by decide +kernel, rfl, by decide +kernel, by decide +kernel⟩, fun _ _ _ _ _ _ us hl => match us, hl with | [_, _], _ => rfl⟩
theorem G_check_tables : I_check_tables.Good book.nm := ⟨by kernel_rfl, ⟨rfl, rfl, rfl, by decide +kernel, rfl, by decide +kernel, by decide +kernel⟩, fun _ _ _ _ _ _ us hl => match us, hl with | [_, _, _], _ => rfl⟩
theorem G_raw_less_one : I_raw_less_one.Good book.nm := ⟨by kernel_rfl, ⟨rfl, rfl, rfl, by decide +kernel, rfl, by decide +kernel, by decide +kernel⟩, fun _ _ _ _ _ _ us hl => match us, hl with | [_], _ => rfl⟩
theorem G_are_neighbours : I_are_neighbours.Good book.nm := ⟨by kernel_rfl, ⟨rfl, rfl, rfl, by decide +kernel, rfl, by decide +kernel, by decide +kernel⟩, fun _ _ _ _ _ _ us hl => match us, hl with | [_, _, _], _ => rfl⟩
theorem G_neighbours_less : I_neighbours_less.Good book.nm := ⟨by kernel_rfl, ⟨rfl, rfl, rfl, by decide +kernel, rfl, by decide +kernel, by decide +kernel⟩, fun _ _ _ _ _ _ us hl => match us, hl with | [_, _], _ => rfl⟩
theorem G_are_rows : I_are_rows.Good book.nm := ⟨by kernel_rfl, ⟨rfl, rfl, rfl, by decide +kernel, rfl, by decide +kernel, by decide +kernel⟩, fun _ _ _ _ _ _ us hl => match us, hl with | [_, _], _ => rfl⟩
theorem G_check_rows : I_check_rows.Good book.nm := ⟨by kernel_rfl, ⟨rfl, rfl, rfl, by decide +kernel, rfl, by decide +kernel, by decide +kernel⟩, fun _ _ _ _ _ _ us hl => match us, hl with | [_, _, _], _ => rfl⟩
theorem G_raw_small_tables : I_raw_small_tables.Good book.nm := ⟨by kernel_rfl, ⟨rfl, rfl, rfl, by decide +kernel, rfl, by decide +kernel, by decide +kernel⟩, fun _ _ _ _ _ _ us hl => match us, hl with | [_, _], _ => rfl⟩
theorem G_small_tables : I_small_tables.Good book.nm := ⟨by kernel_rfl, ⟨rfl, rfl, rfl, by decide +kernel, rfl, by decide +kernel, by decide +kernel⟩, fun _ _ _ _ _ _ us hl => match us, hl with | [_, _, _], _ => rfl⟩
theorem G__law_hand : I__law_hand.Good book.nm := ⟨by kernel_rfl, ⟨rfl, rfl, rfl, by decide +kernel, rfl, by decide +kernel, by decide +kernel⟩, fun _ _ _ _ _ _ us hl => match us, hl with | [_], _ => rfl⟩
theorem G__law_draw : I__law_draw.Good book.nm := ⟨by kernel_rfl, ⟨rfl, rfl, rfl, by decide +kernel, rfl, by decide +kernel, by decide +kernel⟩, fun _ _ _ _ _ _ us hl => match us, hl with | [_, _], _ => rfl⟩
theorem G__law_any : I__law_any.Good book.nm := ⟨by kernel_rfl, ⟨rfl, rfl, rfl, by decide +kernel, rfl, by decide +kernel, by decide +kernel⟩, fun _ _ _ _ _ _ us hl => match us, hl with | [_, _], _ => rfl⟩
theorem G__law_is : I__law_is.Good book.nm := ⟨by kernel_rfl, ⟨rfl, rfl, rfl, by decide +kernel, rfl, by decide +kernel, by decide +kernel⟩, fun _ _ _ _ _ _ us hl => match us, hl with | [_, _], _ => rfl⟩
theorem G__law_multisets : I__law_multisets.Good book.nm := ⟨by kernel_rfl, ⟨rfl, rfl, rfl, by decide +kernel, rfl, by decide +kernel, by decide +kernel⟩, fun _ _ _ _ _ _ us hl => match us, hl with | [_, _], _ => rfl⟩
theorem G__law_many : I__law_many.Good book.nm := ⟨by kernel_rfl, ⟨rfl, rfl, rfl, by decide +kernel, rfl, by decide +kernel, by decide +kernel⟩, fun _ _ _ _ _ _ us hl => match us, hl with | [_, _], _ => rfl⟩
theorem G__law_is_right : I__law_is_right.Good book.nm := ⟨by kernel_rfl, ⟨rfl, rfl, rfl, by decide +kernel, rfl, by decide +kernel, by decide +kernel⟩, fun _ _ _ _ _ _ us hl => match us, hl with | [_], _ => rfl⟩
theorem G_law : I_law.Good book.nm := ⟨by kernel_rfl, ⟨rfl, rfl, rfl, by decide +kernel, rfl, by decide +kernel, by decide +kernel⟩, fun _ _ _ _ _ _ us hl => match us, hl with | [_], _ => rfl⟩
theorem good : ∀ p ∈ book.defs, p.2.Good book.nm := by
  have e : book.defs = [(0, I_is_integer), (2, I_is_within), (7, I_check_wide), (5, I_raw_is_row), (8, I_raw_is_table), (19, I_is_table), (10, I_check_tables), (11, I_raw_less_one), (18, I_are_neighbours), (14, I_neighbours_less), (63, I_are_rows), (67, I_check_rows), (68, I_raw_small_tables), (71, I_small_tables), (74, I__law_hand), (13, I__law_draw), (70, I__law_any), (69, I__law_is), (72, I__law_multisets), (73, I__law_many), (75, I__law_is_right), (23, I_law)] := rfl
  rw [e]
  intro p hp
  simp only [List.mem_cons, List.not_mem_nil, or_false] at hp
  rcases hp with rfl | rfl | rfl | rfl | rfl | rfl | rfl | rfl | rfl | rfl | rfl | rfl | rfl | rfl | rfl | rfl | rfl | rfl | rfl | rfl | rfl | rfl
  · exact G_is_integer
  · exact G_is_within
  · exact G_check_wide
  · exact G_raw_is_row
  · exact G_raw_is_table
  · exact G_is_table
  · exact G_check_tables
  · exact G_raw_less_one
  · exact G_are_neighbours
  · exact G_neighbours_less
  · exact G_are_rows
  · exact G_check_rows
  · exact G_raw_small_tables
  · exact G_small_tables
  · exact G__law_hand
  · exact G__law_draw
  · exact G__law_any
  · exact G__law_is
  · exact G__law_multisets
  · exact G__law_many
  · exact G__law_is_right
  · exact G_law

def loose0 : List PySem.Str := ["OddsError", "NoNumber", "NoWide", "NoTable", "NoRows", "MOST_WIDE", "MOST_ROWS", "GREATEST", "MOST_KINDS", "MOST_SMALL", "is_integer", "is_within", "check_wide", "raw_is_row", "raw_is_table", "is_table", "check_tables", "raw_less_one", "are_neighbours", "neighbours_less", "are_rows", "check_rows", "raw_small_tables", "small_tables", "_law_hand", "_law_draw", "_law_any", "_law_is", "_law_multisets", "_law_many"]
def loose1 : List PySem.Str := ["_law_is_right"]
abbrev R : PySem.W.OpenRow := PySem.W.OpenLaw.row PySem.Challenge.rw_oddsheld_k27_whole_small_tables_by_own_l
abbrev hk : PySem.W.Hook := He.hookX 4 book.fa book.fn [] [] book.ex
def ob (s : PySem.W.SharedT) : He.AlX := He.obsX 4 book.fa book.fn [] [] book.ex (HandSHeadRun.getT s)
theorem ob_eq (s : PySem.W.SharedT) : ob s = hk.obs s.abs := He.obsX_eq (HandSHeadRun.getT_eq s)
theorem runs (w : World) : HandSHeadRun.RunEq R (PySem.W.view R.prog [36]) hk ob 4000 (loose0 ++ loose1) w := by
  intro os
  kernel_rfl
theorem nd : book.Nd := ⟨by decide +kernel, by decide +kernel, by decide +kernel⟩
open PySem PySem.W PySem.Calls PyProof.Rows
theorem closing (hrun : ∀ ns : List Int, ns.length ≤ 63 → Ev.run book.T 200 23 [.fz ns] Ev.s0 = .ok (.bl true) Ev.s0) : PySem.Challenge.rw_oddsheld_k27_whole_small_tables_by_own_l.Holds := by
  w_on; o_law
  refine HandSHeadRun.head_any (r := OpenLaw.row PySem.Challenge.rw_oddsheld_k27_whole_small_tables_by_own_l) (q := view (OpenLaw.row PySem.Challenge.rw_oddsheld_k27_whole_small_tables_by_own_l).prog [36]) (H := hk) (ob := ob) (M := 4000) (loose := loose0 ++ loose1) (d := HandSHeadRun.topDef (OpenLaw.row PySem.Challenge.rw_oddsheld_k27_whole_small_tables_by_own_l).prog 36) (kwd := []) ob_eq
    (by kernel_rfl) (fun s => by kernel_rfl) runs (by kernel_rfl) (by kernel_rfl) (by kernel_rfl) (by rfl) (by first | assumption | decide +kernel) (by decide +kernel) ⟨rfl, rfl, rfl, rfl, rfl, by decide +kernel⟩ ?hw ?hc
  case hw => w_witness2
  case hc =>
    refine Ev.walk_w (l := PySem.Challenge.rw_oddsheld_k27_whole_small_tables_by_own_l) (m := 63) (k := 200) (x := "script") (CX := fun w => L2.CX (PySem.Challenge.rw_oddsheld_k27_whole_small_tables_by_own_l).prog w) rfl (by decide) (by kernel_rfl) ⟨rfl, by decide, by decide⟩ ?F (fun _ _ _ _ _ z => Ev.cx_none _ _ _ _ z)
    intro w mg fa h Y G hmg0
    obtain ⟨K, KX, c⟩ := Y
    have hmg : mg ("law" : PySem.Str) = some (.ref fa) := by
      have e : (HandSHeadRun.topDef (OpenLaw.row PySem.Challenge.rw_oddsheld_k27_whole_small_tables_by_own_l).prog 36).name = ("law" : PySem.Str) := by kernel_rfl
      rw [← e]
      exact hmg0
    obtain ⟨fd, hb, hF⟩ := Ev.Book.law (B := book) (P := (PySem.Challenge.rw_oddsheld_k27_whole_small_tables_by_own_l).prog) (w := w) (d := I_law) (k := 23) (n := 200) KX G c.t.d c.more nd good rfl hmg rfl
    exact ⟨K, fd, _, KX, hb, fun H a ns hl _ hS => Ev.law_sp 23 200 hrun H a ns hl hS, hF⟩
end K27

set_option Elab.async false
set_option linter.all false
set_option maxRecDepth 100000
namespace K27
open PySem Ev
theorem tb : Ev.Tb book.T := ⟨rfl, rfl, rfl, rfl, rfl, rfl, rfl, rfl, rfl, rfl, rfl, rfl, rfl⟩
theorem ts : Ev.Ts book.T := ⟨tb, rfl, rfl, rfl, rfl, rfl, rfl⟩
theorem t27 : Ev.T27 book.T := ⟨ts, rfl, rfl, rfl, rfl, rfl, rfl⟩
theorem d75 : book.T.defs 75 = some Ev.dfLIR := rfl
theorem d23 : book.T.defs 23 = some Ev.dfLw27 := rfl
theorem all : PySem.Challenge.rw_oddsheld_k27_whole_small_tables_by_own_l.Holds := closing fun ns hn => Ev.law_k27 t27 (n := 192) (s := Ev.s0) d75 d23 ns hn
end K27

theorem PySem.Challenge.cw_oddsheld_k27_whole_small_tables_by_own_l_holds : PySem.Challenge.rw_oddsheld_k27_whole_small_tables_by_own_l.Holds := by
  exact K27.all
